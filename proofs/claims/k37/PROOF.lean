import PyProof.Rows.All
import Wide.All
import OpenK.AllK
import Wide.FinOn
import KE.KStateDown
import Lean
import HandS.ForMost
import HandS.More
import HandS.Star
import HandS.Style
import HandS.IsInst
import HandS.Zip
import HandS.Walk
import HandS.Conv
import HandS.SortInts
import HandS.Flow
import HandS.Defaults
import HandS.Head0
import HandS.Head1
import HandS.Head2
import HandS.HeadEnd
import HandS.HeadHook1
import HandS.HeadHook2
import HandS.HeadHook3
import HandS.Deep
import HandS.TupAny
import HandS.EndBits
import HandS.OwnEq
import HandS.Records
import HandS.Small
import HandS.DictComp
import HandS.Exc
import HandS.Strs
import HandS.Sort
import PyProof.ListRange
import HandS.Iter
import HandS.HeadHook4
import PySem.Challenge.RW_goodsbypapers_k37_across_drafts_and_cove
set_option Elab.async false
set_option linter.all false
set_option maxRecDepth 100000
set_option maxHeartbeats 4000000
/-! DL: a layer of plain data over HandS. A def's meaning is a function of plain data (D); each construct has one rule. -/
namespace DL
open PySem PySem.Spec PyProof.Rows L2
/-- the program's classes: a name, the fields in the order in which __init__ stores them -/
class CTab where
  ct : Nat → Str × List Str
def cN [CTab] (c : Nat) : Str := (CTab.ct c).1
def cF [CTab] (c : Nat) : List Str := (CTab.ct c).2
/-- plain data -/
inductive D where
  | non
  | bl (b : Bool)
  | int (i : Int)
  | str (x : Str)
  | lst (l : List D)
  | tup (l : List D)
  | dct (ks : List Key) (l : List D)
  | ob (c : Nat) (l : List D)
  /-- a list that is read alone: the script, a list of the module -/
  | rol (l : List D)
/-- what may be changed, in one def's own hands -/
inductive Ct where
  | lst (l : List D)
  | dct (ks : List Key) (l : List D)
  | ob (c : Nat) (l : List D)
def Ct.toD : Ct → D
  | .lst l => .lst l
  | .dct ks l => .dct ks l
  | .ob c l => .ob c l
/-- a slot: data; a thing of this def's own; a thing handed in to be changed -/
inductive W where
  | val (d : D)
  | own (c : Ct)
  | inn (c : Ct)
abbrev Env := List (Option W)
/-- how a run ends: it is not told; a value and the slots; an exception -/
inductive Res (α : Type) where
  | fail
  | ok (a : α) (r : Env)
  | exc (c : Nat) (l : List D) (r : Env)
/-- the flow of statements -/
inductive Fl where
  | nx
  | bk
  | ct
  | rt (d : D)
abbrev M (α : Type) := Env → Res α
def bindR {α β : Type} (r : Res α) (k : α → Env → Res β) : Res β :=
  match r with
  | .fail => .fail
  | .ok a e => k a e
  | .exc c l e => .exc c l e
@[simp] theorem bindR_ok {α β : Type} (a : α) (e : Env) (k : α → Env → Res β) : bindR (.ok a e) k = k a e := rfl
@[simp] theorem bindR_fail {α β : Type} (k : α → Env → Res β) : bindR .fail k = .fail := rfl
@[simp] theorem bindR_exc {α β : Type} (c : Nat) (l : List D) (e : Env) (k : α → Env → Res β) : bindR (.exc c l e) k = .exc c l e := rfl
def liftO {α : Type} (o : Option α) (e : Env) : Res α :=
  match o with
  | some a => .ok a e
  | none => .fail
@[simp] theorem liftO_some {α : Type} (a : α) (e : Env) : liftO (some a) e = .ok a e := rfl
@[simp] theorem liftO_none {α : Type} (e : Env) : liftO (none : Option α) e = .fail := rfl
/-! ### what stands in the heap -/
/-- a list of the written part -/
def KLst (K : PySem.W.Frag) (a : Addr) (xs : List V) : Prop :=
  ∃ (o : Obj) (its : Array Value) (n : Nat), K.lookup a = some o ∧ o.cls = .type "list" ∧ o.dict = none ∧ o.data = .seq its n ∧ its.size ≤ sizeLine ∧ Vals xs its.toList
def KTup (K : PySem.W.Frag) (a : Addr) (xs : List V) : Prop :=
  ∃ (o : Obj) (its : Array Value) (n : Nat), K.lookup a = some o ∧ o.cls = .type "tuple" ∧ o.data = .seq its n ∧ its.size ≤ sizeLine ∧ Vals xs its.toList
def RolAt (K : PySem.W.Frag) (H : Hp) (Z : Addr → Prop) (a : Addr) (xs : List V) : Prop := (¬ Z a ∧ Rd H a (.lst xs)) ∨ KLst K a xs
def TupAt (K : PySem.W.Frag) (H : Hp) (Z : Addr → Prop) (a : Addr) (xs : List V) : Prop := (¬ Z a ∧ Rd H a (.tup xs)) ∨ KTup K a xs
theorem RolAt.sq {K : PySem.W.Frag} {H : Hp} {Z : Addr → Prop} {a : Addr} {xs : List V} (h : RolAt K H Z a xs) : SqL K H a xs := h.elim (fun z => .inl z.2) .inr
theorem TupAt.sq {K : PySem.W.Frag} {H : Hp} {Z : Addr → Prop} {a : Addr} {xs : List V} (h : TupAt K H Z a xs) : SqT K H a xs := h.elim (fun z => .inl z.2) .inr
def LstAt (H : Hp) (Z : Addr → Prop) (a : Addr) (xs : List V) : Prop := ¬ Z a ∧ Rd H a (.lst xs)
theorem LstAt.sq {K : PySem.W.Frag} {H : Hp} {Z : Addr → Prop} {a : Addr} {xs : List V} (h : LstAt H Z a xs) : SqL K H a xs := .inl h.2
section
variable [CTab]
mutual
def Rep (K : PySem.W.Frag) (H : Hp) (Z : Addr → Prop) : D → V → Prop
  | .non, v => v = .non
  | .bl b, v => v = .bl b
  | .int i, v => v = .int i
  | .str x, v => v = .str x
  | .lst l, v => ∃ p vs, v = .ref p ∧ LstAt H Z p vs ∧ Reps K H Z l vs
  | .rol l, v => ∃ p vs, v = .ref p ∧ RolAt K H Z p vs ∧ Reps K H Z l vs
  | .tup l, v => ∃ p vs, v = .ref p ∧ TupAt K H Z p vs ∧ Reps K H Z l vs
  | .dct ks l, v => ∃ p vs, v = .ref p ∧ ¬ Z p ∧ Rd H p (.dK (ks.zip vs)) ∧ ks.length = vs.length ∧ Reps K H Z l vs
  | .ob c l, v => ∃ p dx vs, v = .ref p ∧ ¬ Z p ∧ H p = some (.ins (He.ga K (cN c)) dx ((cF c).zip vs)) ∧ vs.length ≤ (cF c).length ∧ Reps K H Z l vs
def Reps (K : PySem.W.Frag) (H : Hp) (Z : Addr → Prop) : List D → List V → Prop
  | [], vs => vs = []
  | d :: l, vs => ∃ v r, vs = v :: r ∧ Rep K H Z d v ∧ Reps K H Z l r
end
def CtHO (K : PySem.W.Frag) (H : Hp) (Z : Addr → Prop) : Ct → HO → Prop
  | .lst l, o => ∃ vs, o = .lst vs ∧ Reps K H Z l vs
  | .dct ks l, o => ∃ vs, o = .dK (ks.zip vs) ∧ ks.length = vs.length ∧ Reps K H Z l vs
  | .ob c l, o => ∃ dx vs, o = .ins (He.ga K (cN c)) dx ((cF c).zip vs) ∧ vs.length ≤ (cF c).length ∧ Reps K H Z l vs
def RepC (K : PySem.W.Frag) (H : Hp) (Z : Addr → Prop) (t : Ct) (p : Addr) : Prop := ∃ o, H p = some o ∧ CtHO K H Z t o
end
/-- but for what is at Z all is as it was -/
def Ext (Z : Addr → Prop) (H H' : Hp) : Prop := ∀ a o, ¬ Z a → H a = some o → H' a = some o
theorem Ext.refl {Z : Addr → Prop} {H : Hp} : Ext Z H H := fun _ _ _ h => h
theorem Ext.trans {Z : Addr → Prop} {H H1 H2 : Hp} (a : Ext Z H H1) (b : Ext Z H1 H2) : Ext Z H H2 := fun x o n h => b x o n (a x o n h)
theorem Ext.same {Z : Addr → Prop} {H H' : Hp} (s : Same H H') : Ext Z H H' := fun a o _ h => s a o h
theorem Rd.ext {Z : Addr → Prop} {H H' : Hp} {a : Addr} {u : HO} (e : Ext Z H H') (n : ¬ Z a) (h : Rd H a u) : Rd H' a u := h.elim (fun z => .inl (e _ _ n z)) fun ⟨o, z⟩ => .inr ⟨o, e _ _ n z⟩
section
variable [CTab] {K : PySem.W.Frag} {H H' : Hp} {Z Z' : Addr → Prop}
theorem LstAt.ext {a : Addr} {xs : List V} (e : Ext Z H H') (h : LstAt H Z a xs) : LstAt H' Z a xs := ⟨h.1, Rd.ext e h.1 h.2⟩
theorem RolAt.ext {a : Addr} {xs : List V} (e : Ext Z H H') (h : RolAt K H Z a xs) : RolAt K H' Z a xs := h.elim (fun z => .inl ⟨z.1, Rd.ext e z.1 z.2⟩) .inr
theorem TupAt.ext {a : Addr} {xs : List V} (e : Ext Z H H') (h : TupAt K H Z a xs) : TupAt K H' Z a xs := h.elim (fun z => .inl ⟨z.1, Rd.ext e z.1 z.2⟩) .inr
mutual
theorem Rep.ext (e : Ext Z H H') : ∀ (d : D) (v : V), Rep K H Z d v → Rep K H' Z d v
  | .non, _, h => h
  | .bl _, _, h => h
  | .int _, _, h => h
  | .str _, _, h => h
  | .lst l, v, h => by
    simp only [Rep] at h ⊢
    obtain ⟨p, vs, e1, h1, h2⟩ := h
    exact ⟨p, vs, e1, h1.ext e, Reps.ext e l vs h2⟩
  | .rol l, v, h => by
    simp only [Rep] at h ⊢
    obtain ⟨p, vs, e1, h1, h2⟩ := h
    exact ⟨p, vs, e1, h1.ext e, Reps.ext e l vs h2⟩
  | .tup l, v, h => by
    simp only [Rep] at h ⊢
    obtain ⟨p, vs, e1, h1, h2⟩ := h
    exact ⟨p, vs, e1, h1.ext e, Reps.ext e l vs h2⟩
  | .dct ks l, v, h => by
    simp only [Rep] at h ⊢
    obtain ⟨p, vs, e1, n, h1, hl, h2⟩ := h
    exact ⟨p, vs, e1, n, Rd.ext e n h1, hl, Reps.ext e l vs h2⟩
  | .ob c l, v, h => by
    simp only [Rep] at h ⊢
    obtain ⟨p, dx, vs, e1, n, h1, hl, h2⟩ := h
    exact ⟨p, dx, vs, e1, n, e _ _ n h1, hl, Reps.ext e l vs h2⟩
theorem Reps.ext (e : Ext Z H H') : ∀ (l : List D) (vs : List V), Reps K H Z l vs → Reps K H' Z l vs
  | [], _, h => h
  | d :: l, vs, h => by
    simp only [Reps] at h ⊢
    obtain ⟨v, r, e1, h1, h2⟩ := h
    exact ⟨v, r, e1, Rep.ext e d v h1, Reps.ext e l r h2⟩
end
/- other addresses that may be changed, none of them met by the data -/
mutual
theorem Rep.zed (hz : ∀ a o, ¬ Z a → H a = some o → ¬ Z' a) : ∀ (d : D) (v : V), Rep K H Z d v → Rep K H Z' d v
  | .non, _, h => h
  | .bl _, _, h => h
  | .int _, _, h => h
  | .str _, _, h => h
  | .lst l, v, h => by
    simp only [Rep] at h ⊢
    obtain ⟨p, vs, e1, h1, h2⟩ := h
    exact ⟨p, vs, e1, ⟨h1.2.elim (fun q => hz _ _ h1.1 q) (fun ⟨o, q⟩ => hz _ _ h1.1 q), h1.2⟩, Reps.zed hz l vs h2⟩
  | .rol l, v, h => by
    simp only [Rep] at h ⊢
    obtain ⟨p, vs, e1, h1, h2⟩ := h
    exact ⟨p, vs, e1, h1.elim (fun z => .inl ⟨z.2.elim (fun q => hz _ _ z.1 q) (fun ⟨o, q⟩ => hz _ _ z.1 q), z.2⟩) .inr, Reps.zed hz l vs h2⟩
  | .tup l, v, h => by
    simp only [Rep] at h ⊢
    obtain ⟨p, vs, e1, h1, h2⟩ := h
    exact ⟨p, vs, e1, h1.elim (fun z => .inl ⟨z.2.elim (fun q => hz _ _ z.1 q) (fun ⟨o, q⟩ => hz _ _ z.1 q), z.2⟩) .inr, Reps.zed hz l vs h2⟩
  | .dct ks l, v, h => by
    simp only [Rep] at h ⊢
    obtain ⟨p, vs, e1, n, h1, hl, h2⟩ := h
    exact ⟨p, vs, e1, h1.elim (fun q => hz _ _ n q) (fun ⟨o, q⟩ => hz _ _ n q), h1, hl, Reps.zed hz l vs h2⟩
  | .ob c l, v, h => by
    simp only [Rep] at h ⊢
    obtain ⟨p, dx, vs, e1, n, h1, hl, h2⟩ := h
    exact ⟨p, dx, vs, e1, hz _ _ n h1, h1, hl, Reps.zed hz l vs h2⟩
theorem Reps.zed (hz : ∀ a o, ¬ Z a → H a = some o → ¬ Z' a) : ∀ (l : List D) (vs : List V), Reps K H Z l vs → Reps K H Z' l vs
  | [], _, h => h
  | d :: l, vs, h => by
    simp only [Reps] at h ⊢
    obtain ⟨v, r, e1, h1, h2⟩ := h
    exact ⟨v, r, e1, Rep.zed hz d v h1, Reps.zed hz l r h2⟩
end
theorem Reps.len : ∀ {l : List D} {vs : List V}, Reps K H Z l vs → l.length = vs.length
  | [], vs, h => by
    simp only [Reps] at h
    subst h
    rfl
  | d :: l, vs, h => by
    simp only [Reps] at h
    obtain ⟨v, r, e1, h1, h2⟩ := h
    subst e1
    simp only [List.length_cons]
    exact congrArg (· + 1) (Reps.len h2)
theorem Reps.app : ∀ {l l2 : List D} {vs vs2 : List V}, Reps K H Z l vs → Reps K H Z l2 vs2 → Reps K H Z (l ++ l2) (vs ++ vs2)
  | [], l2, vs, vs2, h, h2 => by
    simp only [Reps] at h
    subst h
    exact h2
  | d :: l, l2, vs, vs2, h, h2 => by
    simp only [Reps] at h
    obtain ⟨v, r, e1, h1, h3⟩ := h
    subst e1
    exact ⟨v, r ++ vs2, rfl, h1, Reps.app h3 h2⟩
theorem Reps.get : ∀ {l : List D} {vs : List V} {i : Nat} {d : D}, Reps K H Z l vs → l[i]? = some d → ∃ v, vs[i]? = some v ∧ Rep K H Z d v
  | [], _, _, _, _, e => by simp at e
  | d :: l, vs, 0, x, h, e => by
    simp only [Reps] at h
    obtain ⟨v, r, e1, h1, h3⟩ := h
    subst e1
    simp at e
    subst e
    exact ⟨v, rfl, h1⟩
  | d :: l, vs, i + 1, x, h, e => by
    simp only [Reps] at h
    obtain ⟨v, r, e1, h1, h3⟩ := h
    subst e1
    obtain ⟨u, q, h4⟩ := Reps.get (i := i) (d := x) h3 (by simpa using e)
    exact ⟨u, by simpa using q, h4⟩
theorem Reps.getV : ∀ {l : List D} {vs : List V} {i : Nat} {v : V}, Reps K H Z l vs → vs[i]? = some v → ∃ d, l[i]? = some d ∧ Rep K H Z d v := fun {l vs i v} h e => by
  have hl := h.len
  have hi : i < vs.length := (List.getElem?_eq_some_iff.mp e).1
  obtain ⟨u, q, r⟩ := h.get (i := i) (d := l[i]'(by omega)) (by simp)
  rw [e] at q
  cases q
  exact ⟨_, by simp, r⟩
theorem Reps.one {d : D} {v : V} (h : Rep K H Z d v) : Reps K H Z [d] [v] := ⟨v, [], rfl, h, rfl⟩
theorem Reps.cons {d : D} {v : V} {l : List D} {vs : List V} (h : Rep K H Z d v) (r : Reps K H Z l vs) : Reps K H Z (d :: l) (v :: vs) := ⟨v, vs, rfl, h, r⟩
theorem Reps.nil : Reps K H Z [] [] := rfl
theorem Reps.inv {d : D} {l : List D} {vs : List V} (h : Reps K H Z (d :: l) vs) : ∃ v r, vs = v :: r ∧ Rep K H Z d v ∧ Reps K H Z l r := h
theorem Reps.take : ∀ {l : List D} {vs : List V} (n : Nat), Reps K H Z l vs → Reps K H Z (l.take n) (vs.take n)
  | _, _, 0, _ => by simp only [List.take_zero]; exact rfl
  | [], vs, n + 1, h => by
    simp only [Reps] at h
    subst h
    exact rfl
  | d :: l, vs, n + 1, h => by
    obtain ⟨v, r, e1, h1, h3⟩ := h.inv
    subst e1
    exact Reps.cons h1 (Reps.take n h3)
theorem Reps.drop : ∀ {l : List D} {vs : List V} (n : Nat), Reps K H Z l vs → Reps K H Z (l.drop n) (vs.drop n)
  | _, _, 0, h => h
  | [], vs, n + 1, h => by
    simp only [Reps] at h
    subst h
    exact rfl
  | d :: l, vs, n + 1, h => by
    obtain ⟨v, r, e1, h1, h3⟩ := h.inv
    subst e1
    exact Reps.drop n h3
theorem Reps.rev : ∀ {l : List D} {vs : List V}, Reps K H Z l vs → Reps K H Z l.reverse vs.reverse
  | [], vs, h => by
    simp only [Reps] at h
    subst h
    exact rfl
  | d :: l, vs, h => by
    obtain ⟨v, r, e1, h1, h3⟩ := h.inv
    subst e1
    rw [List.reverse_cons, List.reverse_cons]
    exact (Reps.rev h3).app (Reps.one h1)
theorem Reps.set {d : D} {v : V} (hd : Rep K H Z d v) : ∀ {l : List D} {vs : List V} (i : Nat), Reps K H Z l vs → Reps K H Z (l.set i d) (vs.set i v)
  | [], vs, i, h => by
    simp only [Reps] at h
    subst h
    exact rfl
  | x :: l, vs, 0, h => by
    obtain ⟨u, r, e1, h1, h3⟩ := h.inv
    subst e1
    exact Reps.cons hd h3
  | x :: l, vs, i + 1, h => by
    obtain ⟨u, r, e1, h1, h3⟩ := h.inv
    subst e1
    exact Reps.cons h1 (Reps.set hd i h3)
theorem CtHO.ext {t : Ct} {o : HO} (e : Ext Z H H') (h : CtHO K H Z t o) : CtHO K H' Z t o := by
  cases t with
  | lst l =>
    obtain ⟨vs, h1, h2⟩ := h
    exact ⟨vs, h1, Reps.ext e _ _ h2⟩
  | dct ks l =>
    obtain ⟨vs, h1, hl, h2⟩ := h
    exact ⟨vs, h1, hl, Reps.ext e _ _ h2⟩
  | ob x l =>
    obtain ⟨dx, vs, h1, hl, h2⟩ := h
    exact ⟨dx, vs, h1, hl, Reps.ext e _ _ h2⟩
theorem CtHO.zed {t : Ct} {o : HO} (hz : ∀ a o, ¬ Z a → H a = some o → ¬ Z' a) (h : CtHO K H Z t o) : CtHO K H Z' t o := by
  cases t with
  | lst l =>
    obtain ⟨vs, h1, h2⟩ := h
    exact ⟨vs, h1, Reps.zed hz _ _ h2⟩
  | dct ks l =>
    obtain ⟨vs, h1, hl, h2⟩ := h
    exact ⟨vs, h1, hl, Reps.zed hz _ _ h2⟩
  | ob x l =>
    obtain ⟨dx, vs, h1, hl, h2⟩ := h
    exact ⟨dx, vs, h1, hl, Reps.zed hz _ _ h2⟩
theorem RepC.ext {t : Ct} {p : Addr} (e : Ext Z H H') (hp : H' p = H p) (h : RepC K H Z t p) : RepC K H' Z t p := by
  obtain ⟨o, h1, h2⟩ := h
  exact ⟨o, by rw [hp]; exact h1, h2.ext e⟩
theorem RepC.zed {t : Ct} {p : Addr} (hz : ∀ a o, ¬ Z a → H a = some o → ¬ Z' a) (h : RepC K H Z t p) : RepC K H Z' t p := by
  obtain ⟨o, h1, h2⟩ := h
  exact ⟨o, h1, h2.zed hz⟩
theorem CtHO.toD {t : Ct} {o : HO} {p : Addr} (hz : ¬ Z p) (hp : H p = some o) (h : CtHO K H Z t o) : Rep K H Z t.toD (.ref p) := by
  cases t with
  | lst l =>
    obtain ⟨vs, rfl, h2⟩ := h
    show Rep K H Z (.lst l) (.ref p)
    simp only [Rep]
    exact ⟨p, vs, rfl, ⟨hz, .inl hp⟩, h2⟩
  | dct ks l =>
    obtain ⟨vs, rfl, hl, h2⟩ := h
    show Rep K H Z (.dct ks l) (.ref p)
    simp only [Rep]
    exact ⟨p, vs, rfl, hz, .inl hp, hl, h2⟩
  | ob x l =>
    obtain ⟨dx, vs, rfl, hl, h2⟩ := h
    show Rep K H Z (.ob x l) (.ref p)
    simp only [Rep]
    exact ⟨p, dx, vs, rfl, hz, hp, hl, h2⟩
theorem RepC.some {t : Ct} {p : Addr} (h : RepC K H Z t p) : ∃ o, H p = some o := ⟨_, h.choose_spec.1⟩
end
abbrev St := L2.St
end DL
set_option Elab.async false
set_option linter.all false
set_option maxRecDepth 100000
set_option maxHeartbeats 4000000
namespace DL
open PySem PySem.Spec PyProof.Rows L2
section
variable [CTab]
/-- what stays through a def's body: the cells handed in, the heap at the entry, what callers may change, data that must stand -/
structure Cz where
  P : Nat → Option Addr
  H0 : Hp
  Z0 : Addr → Prop
  ex : List (D × V)
  hid : List (Addr × Ct)
def isOwn (ρ : Env) (i : Nat) : Prop := ∃ t, ρ[i]? = some (some (.own t)) ∨ ρ[i]? = some (some (.inn t))
structure Rel (K : PySem.W.Frag) (c : Cz) (Z : Addr → Prop) (ρ : Env) (σ : St) (H : Hp) : Prop where
  frame : ∀ a o, (∀ i, c.P i ≠ some a) → c.H0 a = some o → H a = some o
  keep : ∀ a, H a = none → c.H0 a = none
  base : ∀ a, c.Z0 a → Z a ∧ c.H0 a ≠ none
  len : ρ.length = σ.length
  dom : ∀ a, Z a → H a ≠ none
  val : ∀ (i : Nat) (d : D), ρ[i]? = some (some (.val d)) → ∃ v, σ[i]? = some (some v) ∧ Rep K H Z d v
  own : ∀ (i : Nat) (t : Ct), ρ[i]? = some (some (.own t)) → ∃ p, σ[i]? = some (some (.ref p)) ∧ Z p ∧ c.H0 p = none ∧ RepC K H Z t p
  inn : ∀ (i : Nat) (t : Ct), ρ[i]? = some (some (.inn t)) → ∃ p, σ[i]? = some (some (.ref p)) ∧ Z p ∧ c.P i = some p ∧ RepC K H Z t p
  inj : ∀ (i j : Nat) (p : Addr), isOwn ρ i → isOwn ρ j → σ[i]? = some (some (.ref p)) → σ[j]? = some (some (.ref p)) → i = j
  xs : ∀ q ∈ c.ex, Rep K H Z q.1 q.2
  hd : ∀ q ∈ c.hid, Z q.1 ∧ RepC K H Z q.2 q.1 ∧ ∀ j, isOwn ρ j → σ[j]? ≠ some (some (.ref q.1))
end
section
variable [CTab] {K : PySem.W.Frag} {c : Cz} {Z : Addr → Prop} {ρ : Env} {σ : St} {H H' : Hp}
theorem same_upd {p : Addr} {o : HO} (h : H p = none) : Same H (upd H p o) := fun a u e => by
  rw [upd_ne (ne_of_none e h)]
  exact e
theorem Rel.zfree (r : Rel K c Z ρ σ H) {p : Addr} (h : H p = none) : ¬ Z p := fun z => r.dom p z h
theorem Rel.same (r : Rel K c Z ρ σ H) (s : Same H H') : Rel K c Z ρ σ H' where
  frame := fun a o n e => s a o (r.frame a o n e)
  keep := fun a e => r.keep a (s.free e)
  base := r.base
  len := r.len
  dom := fun a z e => r.dom a z (s.free e)
  val := fun i d e => by
    obtain ⟨v, h1, h2⟩ := r.val i d e
    exact ⟨v, h1, h2.ext (Ext.same s)⟩
  own := fun i t e => by
    obtain ⟨p, h1, h2, h3, h4⟩ := r.own i t e
    obtain ⟨o, ho⟩ := h4.some
    exact ⟨p, h1, h2, h3, h4.ext (Ext.same s) (by rw [s _ _ ho, ho])⟩
  inn := fun i t e => by
    obtain ⟨p, h1, h2, h3, h4⟩ := r.inn i t e
    obtain ⟨o, ho⟩ := h4.some
    exact ⟨p, h1, h2, h3, h4.ext (Ext.same s) (by rw [s _ _ ho, ho])⟩
  inj := r.inj
  xs := fun q hq => (r.xs q hq).ext (Ext.same s)
  hd := fun q hq => by
    obtain ⟨h1, h2, h3⟩ := r.hd q hq
    obtain ⟨o, ho⟩ := h2.some
    exact ⟨h1, h2.ext (Ext.same s) (by rw [s _ _ ho, ho]), h3⟩
/-- a slot takes data -/
theorem Rel.set (r : Rel K c Z ρ σ H) {i : Nat} {d : D} {v : V} (hd : Rep K H Z d v) : Rel K c Z (ρ.set i (some (.val d))) (σ.set i (some v)) H := by
  have other : ∀ {j : Nat} {w : W}, (ρ.set i (some (.val d)))[j]? = some (some w) → (∀ e, w ≠ .val e) → ρ[j]? = some (some w) ∧ j ≠ i := fun {j w} e hw => by
    by_cases h : i = j
    · subst h
      have hi : i < ρ.length := by
        have := (List.getElem?_eq_some_iff.mp e).1
        simpa using this
      rw [List.getElem?_set_self hi] at e
      exact absurd (Option.some.inj (Option.some.inj e)).symm (hw d)
    · rw [List.getElem?_set_ne h] at e
      exact ⟨e, fun z => h z.symm⟩
  have own' : ∀ j, isOwn (ρ.set i (some (.val d))) j → isOwn ρ j ∧ j ≠ i := fun j ⟨t, h⟩ => by
    rcases h with h | h
    · obtain ⟨h1, h2⟩ := other h (by intro e z; cases z)
      exact ⟨⟨t, .inl h1⟩, h2⟩
    · obtain ⟨h1, h2⟩ := other h (by intro e z; cases z)
      exact ⟨⟨t, .inr h1⟩, h2⟩
  refine ⟨r.frame, r.keep, r.base, by simp [r.len], r.dom, fun j e h => ?_, fun j t h => ?_, fun j t h => ?_, fun j k p hj hk h1 h2 => ?_, r.xs, fun q hq => ?_⟩
  · by_cases hj : i = j
    · subst hj
      have hi : i < ρ.length := by
        have := (List.getElem?_eq_some_iff.mp h).1
        simpa using this
      rw [List.getElem?_set_self hi] at h
      have e1 : d = e := by injection (Option.some.inj (Option.some.inj h))
      subst e1
      exact ⟨v, by rw [List.getElem?_set_self (by rw [← r.len]; exact hi)], hd⟩
    · rw [List.getElem?_set_ne hj] at h
      obtain ⟨u, h1, h2⟩ := r.val j e h
      exact ⟨u, by rw [List.getElem?_set_ne hj]; exact h1, h2⟩
  · obtain ⟨h1, hj⟩ := other h (by intro e z; cases z)
    obtain ⟨p, q1, q2⟩ := r.own j t h1
    exact ⟨p, by rw [List.getElem?_set_ne (Ne.symm hj)]; exact q1, q2⟩
  · obtain ⟨h1, hj⟩ := other h (by intro e z; cases z)
    obtain ⟨p, q1, q2⟩ := r.inn j t h1
    exact ⟨p, by rw [List.getElem?_set_ne (Ne.symm hj)]; exact q1, q2⟩
  · obtain ⟨a1, b1⟩ := own' j hj
    obtain ⟨a2, b2⟩ := own' k hk
    rw [List.getElem?_set_ne (Ne.symm b1)] at h1
    rw [List.getElem?_set_ne (Ne.symm b2)] at h2
    exact r.inj j k p a1 a2 h1 h2
  · obtain ⟨h1, h2, h3⟩ := r.hd q hq
    refine ⟨h1, h2, fun j hj e => ?_⟩
    obtain ⟨a1, b1⟩ := own' j hj
    rw [List.getElem?_set_ne (Ne.symm b1)] at e
    exact h3 j a1 e
/-- a slot is forgotten -/
theorem Rel.drop (r : Rel K c Z ρ σ H) (i : Nat) : Rel K c Z (ρ.set i none) σ H := by
  have other : ∀ {j : Nat} {w : W}, (ρ.set i none)[j]? = some (some w) → ρ[j]? = some (some w) := fun {j w} e => by
    by_cases h : i = j
    · subst h
      have hi : i < ρ.length := by
        have := (List.getElem?_eq_some_iff.mp e).1
        simpa using this
      rw [List.getElem?_set_self hi] at e
      cases e
    · rw [List.getElem?_set_ne h] at e
      exact e
  have own' : ∀ j, isOwn (ρ.set i none) j → isOwn ρ j := fun j ⟨t, h⟩ => ⟨t, h.elim (fun z => .inl (other z)) fun z => .inr (other z)⟩
  exact ⟨r.frame, r.keep, r.base, by simp [r.len], r.dom, fun j e h => r.val j e (other h), fun j t h => r.own j t (other h), fun j t h => r.inn j t (other h), fun j k p hj hk => r.inj j k p (own' j hj) (own' k hk), r.xs, fun q hq => ⟨(r.hd q hq).1, (r.hd q hq).2.1, fun j hj => (r.hd q hq).2.2 j (own' j hj)⟩⟩
/-- a thing of one's own is data from here on -/
theorem Rel.frz (r : Rel K c Z ρ σ H) {i : Nat} {t : Ct} (hi : ρ[i]? = some (some (.own t))) : ∃ Z', Rel K c Z' (ρ.set i (some (.val t.toD))) σ H := by
  obtain ⟨p, h1, h2, h3, o, h4, h5⟩ := r.own i _ hi
  have hil : i < ρ.length := (List.getElem?_eq_some_iff.mp hi).1
  have zs : ∀ a o, ¬ Z a → H a = some o → ¬ (Z a ∧ a ≠ p) := fun a o n _ z => n z.1
  have other : ∀ {j : Nat} {w : W}, (ρ.set i (some (.val t.toD)))[j]? = some (some w) → (∀ e, w ≠ .val e) → ρ[j]? = some (some w) ∧ j ≠ i := fun {j w} e hw => by
    by_cases h : i = j
    · subst h
      rw [List.getElem?_set_self hil] at e
      exact absurd (Option.some.inj (Option.some.inj e)).symm (hw _)
    · rw [List.getElem?_set_ne h] at e
      exact ⟨e, fun z => h z.symm⟩
  have own' : ∀ j, isOwn (ρ.set i (some (.val t.toD))) j → isOwn ρ j ∧ j ≠ i := fun j ⟨t, h⟩ => by
    rcases h with h | h
    · obtain ⟨h1, h2⟩ := other h (by intro e z; cases z)
      exact ⟨⟨t, .inl h1⟩, h2⟩
    · obtain ⟨h1, h2⟩ := other h (by intro e z; cases z)
      exact ⟨⟨t, .inr h1⟩, h2⟩
  refine ⟨fun a => Z a ∧ a ≠ p, ⟨r.frame, r.keep, fun a z => ⟨⟨(r.base a z).1, fun e => (r.base a z).2 (by rw [e]; exact h3)⟩, (r.base a z).2⟩, by simp [r.len], fun a z => r.dom a z.1, fun j e h => ?_, fun j t h => ?_, fun j t h => ?_, fun j k q hj hk a1 a2 => ?_, fun q hq => (r.xs q hq).zed zs, fun q hq => ?_⟩⟩
  · by_cases hj : i = j
    · subst hj
      rw [List.getElem?_set_self hil] at h
      have e1 : t.toD = e := by injection (Option.some.inj (Option.some.inj h))
      subst e1
      exact ⟨.ref p, h1, CtHO.toD (fun z => z.2 rfl) h4 (h5.zed zs)⟩
    · rw [List.getElem?_set_ne hj] at h
      obtain ⟨u, q1, q2⟩ := r.val j e h
      exact ⟨u, q1, q2.zed zs⟩
  · obtain ⟨g1, hj⟩ := other h (by intro e z; cases z)
    obtain ⟨q, q1, q2, q3, q4⟩ := r.own j t g1
    refine ⟨q, q1, ⟨q2, fun e => hj (r.inj j i p ⟨t, .inl g1⟩ ⟨_, .inl hi⟩ (by rw [q1, e]) h1)⟩, q3, q4.zed zs⟩
  · obtain ⟨g1, hj⟩ := other h (by intro e z; cases z)
    obtain ⟨q, q1, q2, q3, q4⟩ := r.inn j t g1
    refine ⟨q, q1, ⟨q2, fun e => hj (r.inj j i p ⟨t, .inr g1⟩ ⟨_, .inl hi⟩ (by rw [q1, e]) h1)⟩, q3, q4.zed zs⟩
  · obtain ⟨b1, _⟩ := own' j hj
    obtain ⟨b2, _⟩ := own' k hk
    exact r.inj j k q b1 b2 a1 a2
  · obtain ⟨g1, g2, g3⟩ := r.hd q hq
    exact ⟨⟨g1, fun e => g3 i ⟨_, .inl hi⟩ (by rw [e]; exact h1)⟩, g2.zed zs, fun j hj => g3 j (own' j hj).1⟩
/-- a new thing stands at p, that no slot holds yet -/
structure NewAt (K : PySem.W.Frag) (c : Cz) (Z : Addr → Prop) (ρ : Env) (σ : St) (H : Hp) (t : Ct) (p : Addr) : Prop where
  rel : Rel K c Z ρ σ H
  z : Z p
  new : c.H0 p = none
  at_ : RepC K H Z t p
  no : ∀ j, isOwn ρ j → σ[j]? ≠ some (some (.ref p))
  nh : ∀ q ∈ c.hid, q.1 ≠ p
theorem Rel.addZ (r : Rel K c Z ρ σ H) {p : Addr} {o : HO} (hp : H p = none) : Rel K c (fun a => Z a ∨ a = p) ρ σ (upd H p o) := by
  have s : Same H (upd H p o) := same_upd hp
  have zs : ∀ a u, ¬ Z a → H a = some u → ¬ (Z a ∨ a = p) := fun a u n e z => z.elim n fun q => by
    rw [q, hp] at e
    cases e
  have up : ∀ {d v}, Rep K H Z d v → Rep K (upd H p o) (fun a => Z a ∨ a = p) d v := fun h => (h.zed zs).ext (Ext.same s)
  have upC : ∀ {t q}, RepC K H Z t q → RepC K (upd H p o) (fun a => Z a ∨ a = p) t q := fun {t q} h => by
    obtain ⟨ob, e⟩ := h.some
    exact (h.zed zs).ext (Ext.same s) (by rw [s _ _ e, e])
  refine ⟨(r.same s).frame, (r.same s).keep, fun a z => ⟨.inl (r.base a z).1, (r.base a z).2⟩, r.len, fun a z => z.elim ((r.same s).dom a) fun q e => ?_, fun j e h => ?_, fun j u h => ?_, fun j u h => ?_, r.inj, fun q hq => up (r.xs q hq), fun q hq => ⟨.inl (r.hd q hq).1, upC (r.hd q hq).2.1, (r.hd q hq).2.2⟩⟩
  · rw [q, upd_same] at e
    cases e
  · obtain ⟨v, q1, q2⟩ := r.val j e h
    exact ⟨v, q1, up q2⟩
  · obtain ⟨q, q1, q2, q3, q4⟩ := r.own j u h
    exact ⟨q, q1, .inl q2, q3, upC q4⟩
  · obtain ⟨q, q1, q2, q3, q4⟩ := r.inn j u h
    exact ⟨q, q1, .inl q2, q3, upC q4⟩
theorem Rel.newAt (r : Rel K c Z ρ σ H) {p : Addr} {o : HO} {t : Ct} (hp : H p = none) (ht : CtHO K H Z t o) : NewAt K c (fun a => Z a ∨ a = p) ρ σ (upd H p o) t p := by
  have s : Same H (upd H p o) := same_upd hp
  have zs : ∀ a u, ¬ Z a → H a = some u → ¬ (Z a ∨ a = p) := fun a u n e z => z.elim n fun q => by
    rw [q, hp] at e
    cases e
  refine ⟨r.addZ hp, .inr rfl, r.keep p hp, ⟨o, upd_same, (ht.zed zs).ext (Ext.same s)⟩, fun j ⟨u, h⟩ e => ?_, fun q hq e => ?_⟩
  rotate_left
  · obtain ⟨_, h2, _⟩ := r.hd q hq
    obtain ⟨ob, ho⟩ := h2.some
    rw [e, hp] at ho
    cases ho
  rcases h with h | h
  · obtain ⟨q, h1, h2, _⟩ := r.own j u h
    rw [e] at h1
    cases h1
    exact r.dom _ h2 hp
  · obtain ⟨q, h1, h2, _⟩ := r.inn j u h
    rw [e] at h1
    cases h1
    exact r.dom _ h2 hp
/-- a slot takes a new thing of one's own -/
theorem NewAt.set {t : Ct} {p : Addr} (n : NewAt K c Z ρ σ H t p) (i : Nat) : Rel K c Z (ρ.set i (some (.own t))) (σ.set i (some (.ref p))) H := by
  have r := n.rel
  have slot : ∀ {j : Nat} {w : W}, (ρ.set i (some (.own t)))[j]? = some (some w) → (j = i ∧ i < ρ.length ∧ w = .own t) ∨ (j ≠ i ∧ ρ[j]? = some (some w)) := fun {j w} e => by
    by_cases h : i = j
    · subst h
      have hi : i < ρ.length := by
        have := (List.getElem?_eq_some_iff.mp e).1
        simpa using this
      rw [List.getElem?_set_self hi] at e
      exact .inl ⟨rfl, hi, (Option.some.inj (Option.some.inj e)).symm⟩
    · rw [List.getElem?_set_ne h] at e
      exact .inr ⟨fun z => h z.symm, e⟩
  refine ⟨r.frame, r.keep, r.base, by simp [r.len], r.dom, fun j e h => ?_, fun j u h => ?_, fun j u h => ?_, fun j k q hj hk a1 a2 => ?_, r.xs, fun q hq => ?_⟩
  · rcases slot h with ⟨_, _, e1⟩ | ⟨hj, h1⟩
    · cases e1
    · obtain ⟨v, q1, q2⟩ := r.val j e h1
      exact ⟨v, by rw [List.getElem?_set_ne (Ne.symm hj)]; exact q1, q2⟩
  · rcases slot h with ⟨hj, hi, e1⟩ | ⟨hj, h1⟩
    · subst hj
      cases e1
      exact ⟨p, by rw [List.getElem?_set_self (by rw [← r.len]; exact hi)], n.z, n.new, n.at_⟩
    · obtain ⟨q, q1, q2, q3, q4⟩ := r.own j u h1
      exact ⟨q, by rw [List.getElem?_set_ne (Ne.symm hj)]; exact q1, q2, q3, q4⟩
  · rcases slot h with ⟨_, _, e1⟩ | ⟨hj, h1⟩
    · cases e1
    · obtain ⟨q, q1, q2, q3, q4⟩ := r.inn j u h1
      exact ⟨q, by rw [List.getElem?_set_ne (Ne.symm hj)]; exact q1, q2, q3, q4⟩
  · have pick : ∀ m, isOwn (ρ.set i (some (.own t))) m → (σ.set i (some (.ref p)))[m]? = some (some (.ref q)) → (m = i ∧ q = p) ∨ (m ≠ i ∧ isOwn ρ m ∧ σ[m]? = some (some (.ref q))) := fun m ⟨u, h⟩ a => by
      have hh : (m = i ∧ i < ρ.length) ∨ (m ≠ i ∧ isOwn ρ m) := by
        rcases h with h | h
        · rcases slot h with ⟨hm, hi, _⟩ | ⟨hm, h1⟩
          · exact .inl ⟨hm, hi⟩
          · exact .inr ⟨hm, u, .inl h1⟩
        · rcases slot h with ⟨hm, hi, _⟩ | ⟨hm, h1⟩
          · exact .inl ⟨hm, hi⟩
          · exact .inr ⟨hm, u, .inr h1⟩
      rcases hh with ⟨hm, hi⟩ | ⟨hm, h1⟩
      · subst hm
        rw [List.getElem?_set_self (by rw [← r.len]; exact hi)] at a
        cases a
        exact .inl ⟨rfl, rfl⟩
      · rw [List.getElem?_set_ne (Ne.symm hm)] at a
        exact .inr ⟨hm, h1, a⟩
    rcases pick j hj a1 with ⟨e1, e2⟩ | ⟨e1, o1, s1⟩
    · rcases pick k hk a2 with ⟨e3, _⟩ | ⟨_, o2, s2⟩
      · rw [e1, e3]
      · subst e2
        exact absurd s2 (n.no k o2)
    · rcases pick k hk a2 with ⟨_, e4⟩ | ⟨_, o2, s2⟩
      · subst e4
        exact absurd s1 (n.no j o1)
      · exact r.inj j k q o1 o2 s1 s2
  · obtain ⟨g1, g2, g3⟩ := r.hd q hq
    refine ⟨g1, g2, fun j ⟨u, h⟩ e => ?_⟩
    have hh : j = i ∧ i < ρ.length ∨ j ≠ i ∧ isOwn ρ j := by
      rcases h with h | h
      · rcases slot h with ⟨hm, hi, _⟩ | ⟨hm, h1⟩
        · exact .inl ⟨hm, hi⟩
        · exact .inr ⟨hm, u, .inl h1⟩
      · rcases slot h with ⟨hm, hi, _⟩ | ⟨hm, h1⟩
        · exact .inl ⟨hm, hi⟩
        · exact .inr ⟨hm, u, .inr h1⟩
    rcases hh with ⟨hm, hi⟩ | ⟨hm, h1⟩
    · subst hm
      rw [List.getElem?_set_self (by rw [← r.len]; exact hi)] at e
      cases e
      exact n.nh q hq rfl
    · rw [List.getElem?_set_ne (Ne.symm hm)] at e
      exact g3 j h1 e
/-- what a slot holds of one's own, or handed in -/
inductive Hold : W → Ct → Prop where
  | own (t : Ct) : Hold (.own t) t
  | inn (t : Ct) : Hold (.inn t) t
def W.put : W → Ct → W
  | .own _, t => .own t
  | .inn _, t => .inn t
  | w, _ => w
theorem Rel.hold (r : Rel K c Z ρ σ H) {i : Nat} {w : W} {t : Ct} (hi : ρ[i]? = some (some w)) (h : Hold w t) : ∃ p, σ[i]? = some (some (.ref p)) ∧ Z p ∧ RepC K H Z t p := by
  cases h with
  | own =>
    obtain ⟨p, h1, h2, _, h3⟩ := r.own i _ hi
    exact ⟨p, h1, h2, h3⟩
  | inn =>
    obtain ⟨p, h1, h2, _, h3⟩ := r.inn i _ hi
    exact ⟨p, h1, h2, h3⟩
theorem Hold.isOwn {i : Nat} {w : W} {t : Ct} (h : Hold w t) (hi : ρ[i]? = some (some w)) : isOwn ρ i := by
  cases h with
  | own => exact ⟨t, .inl hi⟩
  | inn => exact ⟨t, .inr hi⟩
/-- one thing of one's own has changed, nothing else; new objects may have come -/
theorem Rel.put (r : Rel K c Z ρ σ H) {i : Nat} {w : W} {t t' : Ct} {p : Addr} (hi : ρ[i]? = some (some w)) (h : Hold w t) (hs : σ[i]? = some (some (.ref p)))
    (hk : ∀ a o, a ≠ p → H a = some o → H' a = some o) (hn : RepC K H' Z t' p) : Rel K c Z (ρ.set i (some (w.put t'))) σ H' := by
  have hil : i < ρ.length := (List.getElem?_eq_some_iff.mp hi).1
  have hz : Z p := by
    obtain ⟨q, h1, h2, _⟩ := r.hold hi h
    rw [hs] at h1
    cases h1
    exact h2
  have e0 : Ext Z H H' := fun a o n e => hk a o (fun q => n (by rw [q]; exact hz)) e
  have alive : ∀ a, H' a = none → H a = none := fun a e => by
    cases q : H a with
    | none => rfl
    | some o =>
      by_cases ha : a = p
      · obtain ⟨o', ho⟩ := hn.some
        rw [ha, ho] at e
        cases e
      · rw [hk a o ha q] at e
        cases e
  have hw : w.put t' = .own t' ∧ w = .own t ∨ w.put t' = .inn t' ∧ w = .inn t := by
    cases h with
    | own => exact .inl ⟨rfl, rfl⟩
    | inn => exact .inr ⟨rfl, rfl⟩
  have slot : ∀ {j : Nat} {x : W}, (ρ.set i (some (w.put t')))[j]? = some (some x) → (j = i ∧ x = w.put t') ∨ (j ≠ i ∧ ρ[j]? = some (some x)) := fun {j x} e => by
    by_cases hj : i = j
    · subst hj
      rw [List.getElem?_set_self hil] at e
      exact .inl ⟨rfl, (Option.some.inj (Option.some.inj e)).symm⟩
    · rw [List.getElem?_set_ne hj] at e
      exact .inr ⟨fun z => hj z.symm, e⟩
  have own' : ∀ j, DL.isOwn (ρ.set i (some (w.put t'))) j → DL.isOwn ρ j := fun j ⟨u, hu⟩ => by
    rcases hu with hu | hu
    · rcases slot hu with ⟨e, _⟩ | ⟨_, e⟩
      · rw [e]
        exact h.isOwn hi
      · exact ⟨u, .inl e⟩
    · rcases slot hu with ⟨e, _⟩ | ⟨_, e⟩
      · rw [e]
        exact h.isOwn hi
      · exact ⟨u, .inr e⟩
  have keepC : ∀ {j q u}, DL.isOwn ρ j → j ≠ i → σ[j]? = some (some (.ref q)) → RepC K H Z u q → RepC K H' Z u q := fun {j q u} oj hj hq hu => by
    have hne : q ≠ p := fun e => hj (r.inj j i p oj (h.isOwn hi) (by rw [hq, e]) hs)
    obtain ⟨o, ho⟩ := hu.some
    exact hu.ext e0 (by rw [hk q o hne ho, ho])
  refine ⟨fun a o n e => ?_, fun a e => r.keep a (alive a e), r.base, by simp [r.len], fun a z e => r.dom a z (alive a e), fun j d hd => ?_, fun j u hu => ?_, fun j u hu => ?_, fun j k q hj hkk a1 a2 => r.inj j k q (own' j hj) (own' k hkk) a1 a2, fun q hq => (r.xs q hq).ext e0, fun q hq => ?_⟩
  rotate_right
  · obtain ⟨g1, g2, g3⟩ := r.hd q hq
    have hne : q.1 ≠ p := fun e => g3 i (h.isOwn hi) (by rw [e]; exact hs)
    obtain ⟨o, ho⟩ := g2.some
    exact ⟨g1, g2.ext e0 (by rw [hk _ o hne ho, ho]), fun j hj => g3 j (own' j hj)⟩
  · refine hk a o (fun q => ?_) (r.frame a o n e)
    subst q
    rcases hw with ⟨_, e2⟩ | ⟨_, e2⟩
    · subst e2
      obtain ⟨q, h1, _, h3, _⟩ := r.own i _ hi
      rw [hs] at h1
      cases h1
      rw [h3] at e
      cases e
    · subst e2
      obtain ⟨q, h1, _, h3, _⟩ := r.inn i _ hi
      rw [hs] at h1
      cases h1
      exact n i h3
  · rcases slot hd with ⟨_, e⟩ | ⟨_, e⟩
    · rcases hw with ⟨e2, _⟩ | ⟨e2, _⟩ <;> (rw [e2] at e; cases e)
    · obtain ⟨v, q1, q2⟩ := r.val j d e
      exact ⟨v, q1, q2.ext e0⟩
  · rcases slot hu with ⟨ej, e⟩ | ⟨hj, e⟩
    · rcases hw with ⟨e2, e3⟩ | ⟨e2, _⟩
      · rw [e2] at e
        cases e
        subst e3 ej
        obtain ⟨q, h1, h2, h3, _⟩ := r.own j _ hi
        rw [hs] at h1
        cases h1
        exact ⟨_, hs, h2, h3, hn⟩
      · rw [e2] at e
        cases e
    · obtain ⟨q, q1, q2, q3, q4⟩ := r.own j u e
      exact ⟨q, q1, q2, q3, keepC ⟨u, .inl e⟩ hj q1 q4⟩
  · rcases slot hu with ⟨ej, e⟩ | ⟨hj, e⟩
    · rcases hw with ⟨e2, _⟩ | ⟨e2, e3⟩
      · rw [e2] at e
        cases e
      · rw [e2] at e
        cases e
        subst e3 ej
        obtain ⟨q, h1, h2, h3, _⟩ := r.inn j _ hi
        rw [hs] at h1
        cases h1
        exact ⟨_, hs, h2, h3, hn⟩
    · obtain ⟨q, q1, q2, q3, q4⟩ := r.inn j u e
      exact ⟨q, q1, q2, q3, keepC ⟨u, .inr e⟩ hj q1 q4⟩
end
end DL
set_option Elab.async false
set_option linter.all false
set_option maxRecDepth 100000
set_option maxHeartbeats 4000000
namespace DL
open PySem PySem.Spec PyProof.Rows L2
variable [CTab]
/-! ### readings told by data -/
abbrev RG (α β : Type) := PySem.W.Frag → St → Hp → (Addr → Prop) → α → β → Prop
def rD : RG D V := fun K _ H Z d v => Rep K H Z d v
def rB : RG Bool Bool := fun _ _ _ _ a b => a = b
def rA : RG (List D) (List V) := fun K _ H Z l vs => Reps K H Z l vs
def tR {α β : Type} (K : PySem.W.Frag) (E : XK) (R : RG α β) (c : Cz) (Z : Addr → Prop) (σ : St) (H : Hp) (Q : β → Hp → Prop) : Res α → Prop
  | .fail => False
  | .ok a ρ => ∀ b H', Rel K c Z ρ σ H' → Ext Z H H' → R K σ H' Z a b → Q b H'
  | .exc x l ρ => ∀ ed vs H', Rel K c Z ρ σ H' → Ext Z H H' → H' ed = some (.xd ((cF x).zip vs)) → vs.length ≤ (cF x).length → Reps K H' Z l vs → E (.ref (He.ga K (cN x))) (some ed) H'
def tG {α β : Type} (K : PySem.W.Frag) (E : XK) (R : RG α β) (m : M α) : St → Hp → (β → Hp → Prop) → Prop :=
  fun σ H Q => ∃ c Z ρ, Rel K c Z ρ σ H ∧ tR K E R c Z σ H Q (m ρ)
abbrev tD (K : PySem.W.Frag) (E : XK) (m : M D) : TE := tG K E rD m
abbrev tT (K : PySem.W.Frag) (E : XK) (m : M Bool) : TT := tG K E rB m
abbrev tAr (K : PySem.W.Frag) (E : XK) (m : M (List D)) : TA := tG K E rA m
theorem _root_.L2.PE.imp {X : Cx} {e : Expr} {t t' : TE} (h : PE X e t) (i : ∀ σ H Q, t' σ H Q → t σ H Q) : PE X e t' := ⟨fun pins s σ H Q I q => h.run pins s σ H Q I (i σ H Q q)⟩
theorem _root_.L2.PT.imp {X : Cx} {e : Expr} {t t' : TT} (h : PT X e t) (i : ∀ σ H Q, t' σ H Q → t σ H Q) : PT X e t' := ⟨fun pins s σ H Q I q => h.run pins s σ H Q I (i σ H Q q)⟩
theorem _root_.L2.PA.imp {X : Cx} {e : List Expr} {t t' : TA} (h : PA X e t) (i : ∀ σ H Q, t' σ H Q → t σ H Q) : PA X e t' := ⟨fun pos pins s σ H Q I q => h.run pos pins s σ H Q I (i σ H Q q)⟩
theorem _root_.L2.PS.imp {X : Cx} {e : Stmt} {t t' : TS} (h : PS X e t) (i : ∀ D σ H, t' D σ H → t D σ H) : PS X e t' := ⟨fun pins s σ H D I q => h.run pins s σ H D I (i D σ H q)⟩
theorem _root_.L2.PSs.imp {X : Cx} {e : List Stmt} {t t' : TS} (h : PSs X e t) (i : ∀ D σ H, t' D σ H → t D σ H) : PSs X e t' := ⟨fun pins s σ H D I q => h.run pins s σ H D I (i D σ H q)⟩
section
variable {α β γ δ : Type} {K : PySem.W.Frag} {E : XK} {Ra : RG α β} {Rc : RG γ δ} {c : Cz} {Z : Addr → Prop} {ρ : Env} {σ : St} {H H1 : Hp} {Q : δ → Hp → Prop} {Q' : β → Hp → Prop}
theorem tR.ext {r : Res γ} (h : tR K E Rc c Z σ H Q r) (e : Ext Z H H1) : tR K E Rc c Z σ H1 Q r := by
  cases r with
  | fail => exact h
  | ok a ρ => exact fun b H' h1 h2 h3 => h b H' h1 (e.trans h2) h3
  | exc x l ρ => exact fun ed vs H' h1 h2 h3 h4 h5 => h ed vs H' h1 (e.trans h2) h3 h4 h5
theorem tR.bind {r : Res α} {k : α → Env → Res γ} (h : tR K E Rc c Z σ H Q (bindR r k)) (f : ∀ a ρ1 b H1, Rel K c Z ρ1 σ H1 → Ext Z H H1 → Ra K σ H1 Z a b → tR K E Rc c Z σ H1 Q (k a ρ1) → Q' b H1) : tR K E Ra c Z σ H Q' r := by
  cases r with
  | fail => exact h
  | ok a ρ => exact fun b H' h1 h2 h3 => f a ρ b H' h1 h2 h3 (tR.ext h h2)
  | exc x l ρ => exact h
/-- the first part of a reading -/
theorem tG.bind {m : M α} {k : α → Env → Res γ} (h : tG K E Rc (fun ρ => bindR (m ρ) k) σ H Q) (f : ∀ c Z a ρ1 b H1, Rel K c Z ρ1 σ H1 → Ra K σ H1 Z a b → tR K E Rc c Z σ H1 Q (k a ρ1) → Q' b H1) : tG K E Ra m σ H Q' := by
  obtain ⟨c, Z, ρ, r, q⟩ := h
  exact ⟨c, Z, ρ, r, q.bind fun a ρ1 b H1 h1 _ h3 h4 => f c Z a ρ1 b H1 h1 h3 h4⟩
theorem tR.done {a : γ} {b : δ} (r : Rel K c Z ρ σ H) (h : tR K E Rc c Z σ H Q (.ok a ρ)) (q : Rc K σ H Z a b) : Q b H := h b H r Ext.refl q
/-- .. behind new objects -/
theorem tR.new {a : γ} {b : δ} (r : Rel K c Z ρ σ H) (h : tR K E Rc c Z σ H Q (.ok a ρ)) (s : Same H H1) (q : Rc K σ H1 Z a b) : Q b H1 := h b H1 (r.same s) (Ext.same s) q
end
/-! ### names, constants -/
def mVar (i : Nat) : M D := fun ρ => match ρ[i]? with
  | some (some (.val d)) => .ok d ρ
  | _ => .fail
def mC (d : D) : M D := fun ρ => .ok d ρ
section
variable {X : Cx} {E : XK} {pos : Pos}
theorem d_var (i : Nat) {x : Str} (hN : X.N[i]? = some x := by rfl) (hv : Vis X.env.scope x := by first | exact Or.inl rfl | exact Or.inr (Or.inl rfl) | exact Or.inr (Or.inr rfl)) (hd : (x == ("__debug__" : Str)) = false := by decide)
    (hcd : (x == ("__classdict__" : Str)) = false := by decide) : PE X (.Name x pos) (tD X.K E (mVar i)) := by
  refine (pe_var hN hv hd hcd).imp fun σ H Q h => ?_
  obtain ⟨c, Z, ρ, r, q⟩ := h
  unfold mVar at q
  split at q
  · rename_i d hd
    obtain ⟨v, h1, h2⟩ := r.val i d hd
    exact ⟨v, h1, q.done r h2⟩
  · exact q.elim
theorem d_const {e : Expr} {d : D} {v : V} (h : PE X e (tC v)) (hr : ∀ H Z, Rep X.K H Z d v) : PE X e (tD X.K E (mC d)) :=
  h.imp fun σ H Q ⟨c, Z, ρ, r, q⟩ => tR.done r q (hr H Z)
theorem d_int {i : Int} {j} : PE X (.Constant (.int i) j pos) (tD X.K E (mC (.int i))) := d_const pe_int fun _ _ => rfl
theorem d_str {x : Str} {j} : PE X (.Constant (.str x) j pos) (tD X.K E (mC (.str x))) := d_const pe_str fun _ _ => rfl
theorem d_bl {b : Bool} {j} : PE X (.Constant (.bool b) j pos) (tD X.K E (mC (.bl b))) := d_const pe_bl fun _ _ => rfl
theorem d_non {j} : PE X (.Constant .none j pos) (tD X.K E (mC .non)) := d_const pe_non fun _ _ => rfl
/-- a name of the module that stands for data -/
theorem d_glob {x : Str} {v : V} {u : Value} {d : D} (hg : Gl X x) (hm : X.mg x = some u) (r : RelV v u) (hr : ∀ H Z, Rep X.K H Z d v) (hd : (x == ("__debug__" : Str)) = false := by decide) : PE X (.Name x pos) (tD X.K E (mC d)) :=
  d_const (pe_glob hg hm r hd) hr
end
/-! ### two-place operations -/
def m1 (f : D → Option D) (ma : M D) : M D := fun ρ => bindR (ma ρ) fun a ρ => liftO (f a) ρ
def m2 (f : D → D → Option D) (ma mb : M D) : M D := fun ρ => bindR (ma ρ) fun a ρ => bindR (mb ρ) fun b ρ => liftO (f a b) ρ
/-- an operation on values does what f does on data -/
def OpD (K : PySem.W.Frag) (r : R2) (f : D → D → Option D) : Prop := ∀ (H : Hp) (Z : Addr → Prop) (a b d : D) (x y : V) (Q : VK), (∀ p, Z p → H p ≠ none) → Rep K H Z a x → Rep K H Z b y → f a b = some d →
  (∀ v H', Same H H' → Rep K H' Z d v → Q v H') → r x y H Q
def UnD (K : PySem.W.Frag) (r : V → Hp → VK → Prop) (f : D → Option D) : Prop := ∀ (H : Hp) (Z : Addr → Prop) (a d : D) (x : V) (Q : VK), (∀ p, Z p → H p ≠ none) → Rep K H Z a x → f a = some d →
  (∀ v H', Same H H' → Rep K H' Z d v → Q v H') → r x H Q
section
variable {X : Cx} {E : XK} {pos : Pos} {a b e : Expr} {ma mb : M D} {f : D → D → Option D} {K : PySem.W.Frag}
theorem tR.lift {o : Option D} {c : Cz} {Z : Addr → Prop} {ρ : Env} {σ : St} {H : Hp} {Q : VK} (h : tR K E rD c Z σ H Q (liftO o ρ)) (r : Rel K c Z ρ σ H) : ∃ d, o = some d ∧ ∀ v H', Same H H' → Rep K H' Z d v → Q v H' := by
  cases o with
  | none => exact h.elim
  | some d => exact ⟨d, rfl, fun v H' s q => h v H' (r.same s) (Ext.same s) q⟩
theorem op_gen {r : R2} (hf : OpD K r f) {σ : St} {H : Hp} {Q : VK} (h : tD K E (m2 f ma mb) σ H Q) : tOp r (tD K E ma) (tD K E mb) σ H Q := by
  obtain ⟨c, Z, ρ, r0, q⟩ := h
  refine ⟨c, Z, ρ, r0, q.bind fun x ρ1 u H1 r1 e1 hx q1 => ⟨c, Z, ρ1, r1, q1.bind fun y ρ2 v H2 r2 e2 hy q2 => ?_⟩⟩
  obtain ⟨d, hd, k⟩ := q2.lift r2
  exact hf H2 Z x y d u v Q r2.dom (hx.ext e2) hy hd k
theorem d_op {op : Operator} {r : R2} (ho : OpR X (binaryOp op) r) (hf : OpD X.K r f) (ha : PE X a (tD X.K E ma)) (hb : PE X b (tD X.K E mb)) : PE X (.BinOp a op b pos) (tD X.K E (m2 f ma mb)) :=
  (pe_op ho ha hb).imp fun _ _ _ h => op_gen hf h
theorem d_cmp {op : CmpOp} {r : R2} (ho : OpR X (compareOp op) r) (hf : OpD X.K r f) (ha : PE X a (tD X.K E ma)) (hb : PE X b (tD X.K E mb)) (hm : behindInMarks op b = false) : PE X (.Compare a [op] [b] pos) (tD X.K E (m2 f ma mb)) :=
  (pe_cmpR ho ha hb hm).imp fun _ _ _ h => op_gen hf h
theorem d_ix {r : R2} (hr : IxR X r) (hf : OpD X.K r f) (ha : PE X a (tD X.K E ma)) (hb : PE X b (tD X.K E mb)) (hs : PlainIx b := by exact fun _ _ => rfl) : PE X (.Subscript a b pos) (tD X.K E (m2 f ma mb)) :=
  (pe_ix hr ha hb hs).imp fun _ _ _ h => op_gen hf h
theorem un_gen {g : D → Option D} {r : V → Hp → VK → Prop} (hf : UnD K r g) {σ : St} {H : Hp} {Q : VK} (h : tD K E (m1 g ma) σ H Q) : tUn r (tD K E ma) σ H Q := by
  obtain ⟨c, Z, ρ, r0, q⟩ := h
  refine ⟨c, Z, ρ, r0, q.bind fun x ρ1 u H1 r1 e1 hx q1 => ?_⟩
  obtain ⟨d, hd, k⟩ := q1.lift r1
  exact hf H1 Z x d u Q r1.dom hx hd k
theorem d_un {op : UnaryOp} {g : D → Option D} {r : V → Hp → VK → Prop} (ho : UnR X (unaryOp op) r) (hf : UnD X.K r g) (ha : PE X a (tD X.K E ma)) : PE X (.UnaryOp op a pos) (tD X.K E (m1 g ma)) :=
  (pe_un ho ha).imp fun _ _ _ h => un_gen hf h
end
theorem OpD.orL {K : PySem.W.Frag} {r r' : R2} {f g : D → D → Option D} (h : OpD K r f) (h' : OpD K r' g) : OpD K (fun x y H Q => r x y H Q ∨ r' x y H Q) (fun a b => match f a b with | some d => some d | none => g a b) := by
  intro H Z a b d x y Q hz hx hy hd k
  dsimp only at hd
  split at hd
  · rename_i e he
    cases hd
    exact .inl (h H Z a b _ x y Q hz hx hy he k)
  · exact .inr (h' H Z a b d x y Q hz hx hy hd k)
end DL
set_option Elab.async false
set_option linter.all false
set_option maxRecDepth 100000
set_option maxHeartbeats 4000000
namespace DL
open PySem PySem.Spec PyProof.Rows L2
variable [CTab]
/-! ### data as the model compares it -/
mutual
def toPy : D → Option PyData
  | .non => some .none
  | .bl b => some (.bool b)
  | .int i => some (.int i)
  | .str x => some (.str x)
  | .lst l => (toPys l).map .list
  | .rol l => (toPys l).map .list
  | .tup l => (toPys l).map .tuple
  | .dct _ _ => none
  | .ob _ _ => none
def toPys : List D → Option (List PyData)
  | [] => some []
  | d :: l => (toPy d).bind fun p => (toPys l).map fun q => p :: q
end
/-- a scalar -/
def D.sc : D → Option V
  | .non => some .non
  | .bl b => some (.bl b)
  | .int i => some (.int i)
  | .str x => some (.str x)
  | _ => none
def scs : List D → Option (List V)
  | [] => some []
  | d :: l => d.sc.bind fun v => (scs l).map fun r => v :: r
section
variable {K : PySem.W.Frag} {H : Hp} {Z : Addr → Prop}
theorem D.sc_rep {d : D} {v x : V} (h : d.sc = some v) (r : Rep K H Z d x) : x = v := by
  cases d <;> simp only [D.sc, Option.some.injEq, reduceCtorEq] at h <;> (subst h; exact r)
theorem scs_rep : ∀ {l : List D} {vs xs : List V}, scs l = some vs → Reps K H Z l xs → xs = vs
  | [], vs, xs, h, r => by
    simp only [scs, Option.some.injEq] at h
    subst h
    exact r
  | d :: l, vs, xs, h, r => by
    simp only [scs] at h
    obtain ⟨v, r', e, h1, h2⟩ := r.inv
    cases hd : d.sc with
    | none => rw [hd] at h; cases h
    | some u =>
      rw [hd] at h
      cases hl : scs l with
      | none => rw [hl] at h; cases h
      | some us =>
        rw [hl] at h
        have e2 : u :: us = vs := Option.some.inj h
        subst e2
        rw [e, D.sc_rep hd h1, scs_rep hl h2]
theorem sc_flat {d : D} {v : V} (h : d.sc = some v) : flatV v = true := by
  cases d <;> simp only [D.sc, Option.some.injEq, reduceCtorEq] at h <;> (subst h; rfl)
theorem scs_flat : ∀ {l : List D} {vs : List V}, scs l = some vs → vs.all flatV = true
  | [], vs, h => by
    simp only [scs, Option.some.injEq] at h
    subst h
    rfl
  | d :: l, vs, h => by
    simp only [scs] at h
    cases hd : d.sc with
    | none => rw [hd] at h; cases h
    | some u =>
      rw [hd] at h
      cases hl : scs l with
      | none => rw [hl] at h; cases h
      | some us =>
        rw [hl] at h
        have e2 : u :: us = vs := Option.some.inj h
        subst e2
        simp [sc_flat hd, scs_flat hl]
mutual
theorem toPy_dp : ∀ {d : D} {p : PyData} {v : V}, toPy d = some p → Rep K H Z d v → Dp K H v p
  | .non, p, v, h, r => by
    simp only [toPy, Option.some.injEq] at h
    subst h
    cases (show v = .non from r)
    exact .non
  | .bl b, p, v, h, r => by
    simp only [toPy, Option.some.injEq] at h
    subst h
    cases (show v = .bl b from r)
    exact .bl b
  | .int i, p, v, h, r => by
    simp only [toPy, Option.some.injEq] at h
    subst h
    cases (show v = .int i from r)
    exact .int i
  | .str x, p, v, h, r => by
    simp only [toPy, Option.some.injEq] at h
    subst h
    cases (show v = .str x from r)
    exact .str x
  | .lst l, p, v, h, r => by
    simp only [toPy] at h
    simp only [Rep] at r
    obtain ⟨a, vs, e, h1, h2⟩ := r
    cases hl : toPys l with
    | none => rw [hl] at h; cases h
    | some q =>
      rw [hl] at h
      have e2 : PyData.list q = p := Option.some.inj h
      subst e2 e
      exact .lst h1.sq (toPys_dp hl h2)
  | .rol l, p, v, h, r => by
    simp only [toPy] at h
    simp only [Rep] at r
    obtain ⟨a, vs, e, h1, h2⟩ := r
    cases hl : toPys l with
    | none => rw [hl] at h; cases h
    | some q =>
      rw [hl] at h
      have e2 : PyData.list q = p := Option.some.inj h
      subst e2 e
      exact .lst h1.sq (toPys_dp hl h2)
  | .tup l, p, v, h, r => by
    simp only [toPy] at h
    simp only [Rep] at r
    obtain ⟨a, vs, e, h1, h2⟩ := r
    cases hl : toPys l with
    | none => rw [hl] at h; cases h
    | some q =>
      rw [hl] at h
      have e2 : PyData.tuple q = p := Option.some.inj h
      subst e2 e
      exact .tup h1.sq (toPys_dp hl h2)
  | .dct _ _, p, v, h, r => by cases h
  | .ob _ _, p, v, h, r => by cases h
theorem toPys_dp : ∀ {l : List D} {ps : List PyData} {vs : List V}, toPys l = some ps → Reps K H Z l vs → DpAll K H vs ps
  | [], ps, vs, h, r => by
    simp only [toPys, Option.some.injEq] at h
    subst h
    cases (show vs = [] from r)
    exact .nil
  | d :: l, ps, vs, h, r => by
    simp only [toPys] at h
    obtain ⟨v, r', e, h1, h2⟩ := r.inv
    cases hd : toPy d with
    | none => rw [hd] at h; cases h
    | some p =>
      rw [hd] at h
      cases hl : toPys l with
      | none => rw [hl] at h; cases h
      | some q =>
        rw [hl] at h
        have e2 : p :: q = ps := Option.some.inj h
        subst e2 e
        exact .cons (toPy_dp hd h1) (toPys_dp hl h2)
end
end
/-- a comparison by values does what f does on data -/
def CmpD (X : Cx) (op : CmpOp) (f : D → D → Option D) : Prop := ∃ r, OpR X (compareOp op) r ∧ OpD X.K r f
/-! ### ==, != -/
def eqDeep (a b : D) : Option Bool := match toPy a, toPy b with
  | some p, some q => if (SeqAt.shaped p && SeqAt.shaped q) = true then some (PyData.eqv p q) else none
  | _, _ => none
def eqB (a b : D) : Option Bool := match a.sc, b.sc with
  | some x, some y => if scal x y = true then some (decide (x = y)) else eqDeep a b
  | _, _ => eqDeep a b
def dEq (a b : D) : Option D := (eqB a b).map .bl
def dNe (a b : D) : Option D := (eqB a b).map fun k => .bl (!k)
section
variable {K : PySem.W.Frag}
theorem eqDeep_ok {H : Hp} {Z : Addr → Prop} {a b : D} {x y : V} {k : Bool} (h : eqDeep a b = some k) (ra : Rep K H Z a x) (rb : Rep K H Z b y) :
    ∃ d e, Dp K H x d ∧ Dp K H y e ∧ SeqAt.shaped d = true ∧ SeqAt.shaped e = true ∧ k = PyData.eqv d e := by
  unfold eqDeep at h
  split at h
  · rename_i p q hp hq
    split at h
    · rename_i hs
      cases h
      obtain ⟨h1, h2⟩ := Bool.and_eq_true_iff.mp hs
      exact ⟨p, q, toPy_dp hp ra, toPy_dp hq rb, h1, h2, rfl⟩
    · cases h
  · cases h
theorem eqB_ok {H : Hp} {Z : Addr → Prop} {a b : D} {x y : V} {k : Bool} (h : eqB a b = some k) (ra : Rep K H Z a x) (rb : Rep K H Z b y) :
    (scal x y = true ∧ k = decide (x = y)) ∨ ∃ d e, Dp K H x d ∧ Dp K H y e ∧ SeqAt.shaped d = true ∧ SeqAt.shaped e = true ∧ k = PyData.eqv d e := by
  unfold eqB at h
  split at h
  · rename_i u v hu hv
    split at h
    · rename_i hs
      cases h
      rw [D.sc_rep hu ra, D.sc_rep hv rb]
      exact .inl ⟨hs, rfl⟩
    · exact .inr (eqDeep_ok h ra rb)
  · exact .inr (eqDeep_ok h ra rb)
end
section
variable {X : Cx} {E : XK} {pos : Pos} {a b : Expr} {ma mb : M D} {K : PySem.W.Frag}
theorem eq_opD : OpD K (fun x y H Q => rEq x y H Q ∨ rEqD K x y H Q) dEq := by
  intro H Z a b d x y Q hz ra rb h k
  unfold dEq at h
  cases e : eqB a b with
  | none => rw [e] at h; cases h
  | some c =>
    rw [e] at h
    have e2 : D.bl c = d := Option.some.inj h
    subst e2
    rcases eqB_ok e ra rb with ⟨h1, h2⟩ | ⟨p, q, h1, h2, h3, h4, h5⟩
    · exact .inl ⟨h1, k _ H (Same.refl H) (by rw [← h2]; exact rfl)⟩
    · exact .inr ⟨p, q, h1, h2, h3, h4, k _ H (Same.refl H) (by rw [← h5]; exact rfl)⟩
theorem ne_opD : OpD K (fun x y H Q => rNe x y H Q ∨ rNeD K x y H Q) dNe := by
  intro H Z a b d x y Q hz ra rb h k
  unfold dNe at h
  cases e : eqB a b with
  | none => rw [e] at h; cases h
  | some c =>
    rw [e] at h
    have e2 : D.bl (!c) = d := Option.some.inj h
    subst e2
    rcases eqB_ok e ra rb with ⟨h1, h2⟩ | ⟨p, q, h1, h2, h3, h4, h5⟩
    · exact .inl ⟨h1, k _ H (Same.refl H) (by rw [← h2]; exact rfl)⟩
    · exact .inr ⟨p, q, h1, h2, h3, h4, k _ H (Same.refl H) (by rw [← h5]; exact rfl)⟩
theorem c_eq {k : Nat} (hr : Room k X.A) : CmpD X .Eq dEq := ⟨_, op_eq.or (op_eqD hr.units), eq_opD⟩
theorem c_ne {k : Nat} (hr : Room k X.A) : CmpD X .NotEq dNe := ⟨_, op_ne.or (op_neD hr.units), ne_opD⟩
end
/-! ### order -/
def dLt : D → D → Option D
  | .int i, .int j => some (.bl (decide (i < j)))
  | .str x, .str y => some (.bl (decide (x.cps.toList < y.cps.toList)))
  | _, _ => none
def dLe : D → D → Option D
  | .int i, .int j => some (.bl (decide (i ≤ j)))
  | .str x, .str y => some (.bl (!decide (y.cps.toList < x.cps.toList)))
  | _, _ => none
def dGt : D → D → Option D
  | .int i, .int j => some (.bl (decide (j < i)))
  | .str x, .str y => some (.bl (decide (y.cps.toList < x.cps.toList)))
  | _, _ => none
def dGe : D → D → Option D
  | .int i, .int j => some (.bl (decide (j ≤ i)))
  | .str x, .str y => some (.bl (!decide (x.cps.toList < y.cps.toList)))
  | _, _ => none
section
variable {X : Cx} {E : XK} {pos : Pos} {a b : Expr} {ma mb : M D} {K : PySem.W.Frag}
theorem ord_opD {f : D → D → Option D} {gi : Int → Int → Bool} {gs : Str → Str → Bool} (h1 : ∀ i j, f (.int i) (.int j) = some (.bl (gi i j))) (h2 : ∀ i j, f (.str i) (.str j) = some (.bl (gs i j)))
    (h3 : ∀ a b d, f a b = some d → (∃ i j, a = .int i ∧ b = .int j) ∨ ∃ i j, a = .str i ∧ b = .str j) :
    OpD K (fun x y H Q => rI0 (fun i j => .bl (gi i j)) x y H Q ∨ ∃ i j, x = .str i ∧ y = .str j ∧ Q (.bl (gs i j)) H) f := by
  intro H Z a b d x y Q hz ra rb h k
  rcases h3 a b d h with ⟨i, j, rfl, rfl⟩ | ⟨i, j, rfl, rfl⟩
  · cases (show x = .int i from ra)
    cases (show y = .int j from rb)
    rw [h1] at h
    cases h
    exact .inl ⟨i, j, rfl, rfl, k _ H (Same.refl H) rfl⟩
  · cases (show x = .str i from ra)
    cases (show y = .str j from rb)
    rw [h2] at h
    cases h
    exact .inr ⟨i, j, rfl, rfl, k _ H (Same.refl H) rfl⟩
theorem two_of {f : D → D → Option D} (h : ∀ a b, (∀ i j, ¬ (a = .int i ∧ b = .int j)) → (∀ i j, ¬ (a = .str i ∧ b = .str j)) → f a b = none) : ∀ a b d, f a b = some d → (∃ i j, a = .int i ∧ b = .int j) ∨ ∃ i j, a = .str i ∧ b = .str j := by
  intro a b d e
  by_cases h1 : ∃ i j, a = D.int i ∧ b = D.int j
  · exact .inl h1
  · by_cases h2 : ∃ i j, a = D.str i ∧ b = D.str j
    · exact .inr h2
    · rw [h a b (fun i j z => h1 ⟨i, j, z⟩) (fun i j z => h2 ⟨i, j, z⟩)] at e
      cases e
theorem c_lt : CmpD X .Lt dLt := ⟨_, op_lt.or op_lt_str, ord_opD (fun _ _ => rfl) (fun _ _ => rfl) (two_of fun a b h1 h2 => by unfold dLt; split <;> first | rfl | exact absurd ⟨rfl, rfl⟩ (h1 _ _) | exact absurd ⟨rfl, rfl⟩ (h2 _ _))⟩
theorem c_le : CmpD X .LtE dLe := ⟨_, op_le.or op_le_str, ord_opD (fun _ _ => rfl) (fun _ _ => rfl) (two_of fun a b h1 h2 => by unfold dLe; split <;> first | rfl | exact absurd ⟨rfl, rfl⟩ (h1 _ _) | exact absurd ⟨rfl, rfl⟩ (h2 _ _))⟩
theorem c_gt : CmpD X .Gt dGt := ⟨_, op_gt.or op_gt_str, ord_opD (fun _ _ => rfl) (fun _ _ => rfl) (two_of fun a b h1 h2 => by unfold dGt; split <;> first | rfl | exact absurd ⟨rfl, rfl⟩ (h1 _ _) | exact absurd ⟨rfl, rfl⟩ (h2 _ _))⟩
theorem c_ge : CmpD X .GtE dGe := ⟨_, op_ge.or op_ge_str, ord_opD (fun _ _ => rfl) (fun _ _ => rfl) (two_of fun a b h1 h2 => by unfold dGe; split <;> first | rfl | exact absurd ⟨rfl, rfl⟩ (h1 _ _) | exact absurd ⟨rfl, rfl⟩ (h2 _ _))⟩
end
/-! ### is None -/
def dIsN : D → D → Option D
  | .non, .non => some (.bl true)
  | .bl _, .non | .int _, .non | .str _, .non | .lst _, .non | .tup _, .non | .dct _ _, .non | .ob _ _, .non | .rol _, .non => some (.bl false)
  | _, _ => none
def dNotN (a b : D) : Option D := match dIsN a b with
  | some (.bl k) => some (.bl (!k))
  | _ => none
section
variable {X : Cx} {E : XK} {pos : Pos} {a b : Expr} {ma mb : M D} {K : PySem.W.Frag}
theorem isN_ok {H : Hp} {Z : Addr → Prop} {a b d : D} {x y : V} (h : dIsN a b = some d) (ra : Rep K H Z a x) (rb : Rep K H Z b y) : y = .non ∧ d = .bl (decide (x = .non)) := by
  have hb : b = .non := by
    unfold dIsN at h
    split at h <;> first | rfl | cases h
  subst hb
  cases (show y = .non from rb)
  refine ⟨rfl, ?_⟩
  cases a with
  | non => cases (show x = .non from ra); cases h; rfl
  | bl _ => cases (show x = .bl _ from ra); cases h; rfl
  | int _ => cases (show x = .int _ from ra); cases h; rfl
  | str _ => cases (show x = .str _ from ra); cases h; rfl
  | lst _ => simp only [Rep] at ra; obtain ⟨p, _, e, _⟩ := ra; subst e; cases h; rfl
  | rol _ => simp only [Rep] at ra; obtain ⟨p, _, e, _⟩ := ra; subst e; cases h; rfl
  | tup _ => simp only [Rep] at ra; obtain ⟨p, _, e, _⟩ := ra; subst e; cases h; rfl
  | dct _ _ => simp only [Rep] at ra; obtain ⟨p, _, e, _⟩ := ra; subst e; cases h; rfl
  | ob _ _ => simp only [Rep] at ra; obtain ⟨p, _, _, e, _⟩ := ra; subst e; cases h; rfl
theorem c_is : CmpD X .Is dIsN :=
  ⟨_, op_isN, fun H Z a b d x y Q hz ra rb h k => by
    obtain ⟨h1, h2⟩ := isN_ok h ra rb
    exact ⟨h1, k _ H (Same.refl H) (by rw [h2]; exact rfl)⟩⟩
theorem c_isnot : CmpD X .IsNot dNotN :=
  ⟨_, op_notN, fun H Z a b d x y Q hz ra rb h k => by
    unfold dNotN at h
    cases e : dIsN a b with
    | none => rw [e] at h; cases h
    | some c =>
      rw [e] at h
      obtain ⟨h1, h2⟩ := isN_ok e ra rb
      subst h2
      have e3 : D.bl (!decide (x = V.non)) = d := Option.some.inj h
      exact ⟨h1, k _ H (Same.refl H) (by rw [← e3]; exact rfl)⟩⟩
end
end DL
set_option Elab.async false
set_option linter.all false
set_option maxRecDepth 100000
set_option maxHeartbeats 4000000
namespace DL
open PySem PySem.Spec PyProof.Rows L2
variable [CTab]
section
variable {K : PySem.W.Frag} {H : Hp} {Z : Addr → Prop}
/-- new objects -/
theorem new_lst {p : Addr} {l : List D} {vs : List V} (hz : ∀ p, Z p → H p ≠ none) (hp : H p = none) (r : Reps K H Z l vs) : Rep K (upd H p (.lst vs)) Z (.lst l) (.ref p) := by
  simp only [Rep]
  exact ⟨p, vs, rfl, ⟨fun z => hz p z hp, .inl upd_same⟩, Reps.ext (Ext.same (same_upd hp)) _ _ r⟩
theorem new_tup {p : Addr} {l : List D} {vs : List V} (hz : ∀ p, Z p → H p ≠ none) (hp : H p = none) (r : Reps K H Z l vs) : Rep K (upd H p (.tup vs)) Z (.tup l) (.ref p) := by
  simp only [Rep]
  exact ⟨p, vs, rfl, .inl ⟨fun z => hz p z hp, .inl upd_same⟩, Reps.ext (Ext.same (same_upd hp)) _ _ r⟩
/-- the items of a list, a tuple -/
def D.seq : D → Option (List D)
  | .lst l => some l
  | .rol l => some l
  | .tup l => some l
  | _ => none
def D.lis : D → Option (List D)
  | .lst l => some l
  | .rol l => some l
  | _ => none
theorem D.seq_rep {d : D} {l : List D} {v : V} (h : d.seq = some l) (r : Rep K H Z d v) : ∃ p vs, v = .ref p ∧ (SqL K H p vs ∨ SqT K H p vs) ∧ Reps K H Z l vs := by
  cases d <;> simp only [D.seq, Option.some.injEq, reduceCtorEq] at h <;> subst h <;> simp only [Rep] at r
  · obtain ⟨p, vs, e, h1, h2⟩ := r
    exact ⟨p, vs, e, .inl h1.sq, h2⟩
  · obtain ⟨p, vs, e, h1, h2⟩ := r
    exact ⟨p, vs, e, .inr h1.sq, h2⟩
  · obtain ⟨p, vs, e, h1, h2⟩ := r
    exact ⟨p, vs, e, .inl h1.sq, h2⟩
theorem D.lis_rep {d : D} {l : List D} {v : V} (h : d.lis = some l) (r : Rep K H Z d v) : ∃ p vs, v = .ref p ∧ SqL K H p vs ∧ Reps K H Z l vs := by
  cases d <;> simp only [D.lis, Option.some.injEq, reduceCtorEq] at h <;> subst h <;> simp only [Rep] at r
  · obtain ⟨p, vs, e, h1, h2⟩ := r
    exact ⟨p, vs, e, h1.sq, h2⟩
  · obtain ⟨p, vs, e, h1, h2⟩ := r
    exact ⟨p, vs, e, h1.sq, h2⟩
end
/-! ### +, -, *, //, %, ** -/
def lim64 (i : Int) : Bool := decide (-(2 ^ 64) < i ∧ i < 2 ^ 64)
def dAdd : D → D → Option D
  | .int i, .int j => some (.int (i + j))
  | .str x, .str y => if x.length + y.length ≤ sizeLine then some (.str (x ++ y)) else none
  | .lst a, .lst b => if a.length + b.length ≤ sizeLine then some (.lst (a ++ b)) else none
  | .tup a, .tup b => if a.length + b.length ≤ sizeLine then some (.tup (a ++ b)) else none
  | _, _ => none
def dSub : D → D → Option D
  | .int i, .int j => some (.int (i - j))
  | _, _ => none
def dMul : D → D → Option D
  | .int i, .int j => if (lim64 i || lim64 j) = true then some (.int (i * j)) else none
  | _, _ => none
def dFdiv : D → D → Option D
  | .int i, .int j => if 0 < j ∧ j < 1073741824 then some (.int (i / j)) else none
  | _, _ => none
def dMod : D → D → Option D
  | .int i, .int j => if 0 < j then some (.int (i % j)) else none
  | _, _ => none
def dPow : D → D → Option D
  | .int i, .int j => if 0 ≤ j ∧ j ≤ 1000000 ∧ i.natAbs < 2 ^ 64 then some (.int (i ^ j.toNat)) else none
  | _, _ => none
def rCatL : R2 := fun x y H Q => ∃ l b xs zs, x = .ref l ∧ y = .ref b ∧ Rd H l (.lst xs) ∧ Rd H b (.lst zs) ∧ xs.length + zs.length ≤ sizeLine ∧ ∀ p, H p = none → Q (.ref p) (upd H p (.lst (xs ++ zs)))
section
variable {X : Cx} {E : XK} {pos : Pos} {a b : Expr} {ma mb : M D} {K : PySem.W.Frag}
theorem lst_at {pins : List (Addr × Obj)} {σ : St} {H : Hp} {s : Shared} {l : Addr} {xs : List V} (I : Inv X pins σ H s) (h : Rd H l (.lst xs)) :
    xs.length ≤ sizeLine ∧ ∃ (its : List Value) (n : Nat), Vals xs its ∧ xs.length = its.length ∧ s.heap.get? l = some { cls := .type "list", data := .seq its.toArray n } := by
  obtain ⟨z, its, n, r, e⟩ := h.ok I.hok
  exact ⟨z, its, n, r, r.length, e⟩
theorem op_catL : OpR X (binaryOp .Add) rCatL := by
  intro pins s σ H x y v u Q I rx ry h
  obtain ⟨l, b, xs, zs, rfl, rfl, h1, h2, hz, q⟩ := h
  cases rx
  cases ry
  obtain ⟨_, u1, n1, r1, l1, e1⟩ := lst_at I h1
  obtain ⟨_, u2, n2, r2, l2, e2⟩ := lst_at I h2
  refine PySem.P.add_list e1 e2 ?_ (by simp only [List.size_toArray]; omega)
  rw [List.append_toArray]
  exact ⟨.ref _, _, I.lnew (t' := s.toks) (r1.append r2) (by simp only [List.length_append]; omega), rfl, q _ I.fresh⟩
theorem add_opD : OpD K (fun x y H Q => rI0 (fun i j => .int (i + j)) x y H Q ∨ (∃ i j, x = .str i ∧ y = .str j ∧ i.length + j.length ≤ sizeLine ∧ Q (.str (i ++ j)) H) ∨ rCatL x y H Q ∨ rCatA K x y H Q) dAdd := by
  intro H Z a b d x y Q hz ra rb h k
  unfold dAdd at h
  split at h
  · cases (show x = _ from ra)
    cases (show y = _ from rb)
    cases h
    exact .inl ⟨_, _, rfl, rfl, k _ H (Same.refl H) rfl⟩
  · cases (show x = _ from ra)
    cases (show y = _ from rb)
    split at h
    · rename_i hl
      cases h
      exact .inr (.inl ⟨_, _, rfl, rfl, hl, k _ H (Same.refl H) rfl⟩)
    · cases h
  · simp only [Rep] at ra rb
    obtain ⟨p, vs, e, h1, h2⟩ := ra
    obtain ⟨q, us, e', h3, h4⟩ := rb
    subst e e'
    split at h
    · rename_i hl
      cases h
      exact .inr (.inr (.inl ⟨p, q, vs, us, rfl, rfl, h1.2, h3.2, by rw [← h2.len, ← h4.len]; exact hl, fun r hr => k _ _ (same_upd hr) (new_lst hz hr (h2.app h4))⟩))
    · cases h
  · rename_i l1 l2
    have ra' := ra
    have rb' := rb
    simp only [Rep] at ra rb
    obtain ⟨p, vs, e, h1, h2⟩ := ra
    obtain ⟨q, us, e', h3, h4⟩ := rb
    subst e e'
    split at h
    · rename_i hl
      cases h
      refine .inr (.inr (.inr ⟨p, q, vs, us, rfl, rfl, h1.sq, h3.sq, by rw [← h2.len, ← h4.len]; exact hl, fun z => ?_, fun _ z => ?_, fun _ _ r hr => k _ _ (same_upd hr) (new_tup hz hr (h2.app h4))⟩))
      · subst z
        have e1 : l1 = [] := List.eq_nil_of_length_eq_zero h2.len
        subst e1
        exact k _ H (Same.refl H) rb'
      · subst z
        have e1 : l2 = [] := List.eq_nil_of_length_eq_zero h4.len
        subst e1
        rw [List.append_nil] at k
        exact k _ H (Same.refl H) ra'
    · cases h
  · cases h
theorem d_add (ha : PE X a (tD X.K E ma)) (hb : PE X b (tD X.K E mb)) : PE X (.BinOp a .Add b pos) (tD X.K E (m2 dAdd ma mb)) := d_op (op_add.or (op_add_str.or (op_catL.or op_catA))) add_opD ha hb
theorem int_opD {C : Int → Int → Prop} {g : Int → Int → Int} {f : D → D → Option D} (h : ∀ a b d, f a b = some d → ∃ i j, a = .int i ∧ b = .int j ∧ C i j ∧ d = .int (g i j)) : OpD K (rI C fun i j => .int (g i j)) f := by
  intro H Z a b d x y Q hz ra rb e k
  obtain ⟨i, j, rfl, rfl, hc, rfl⟩ := h a b d e
  cases (show x = _ from ra)
  cases (show y = _ from rb)
  exact ⟨_, _, rfl, rfl, hc, k _ H (Same.refl H) rfl⟩
theorem d_sub (ha : PE X a (tD X.K E ma)) (hb : PE X b (tD X.K E mb)) : PE X (.BinOp a .Sub b pos) (tD X.K E (m2 dSub ma mb)) := by
  refine d_op (r := rI (fun _ _ => True) fun i j => .int (i - j)) (opI fun _ _ _ _ _ _ _ _ q => sub_int q) (int_opD fun a b d e => ?_) ha hb
  unfold dSub at e
  split at e
  · cases e
    exact ⟨_, _, rfl, rfl, trivial, rfl⟩
  · cases e
theorem d_mul (ha : PE X a (tD X.K E ma)) (hb : PE X b (tD X.K E mb)) : PE X (.BinOp a .Mult b pos) (tD X.K E (m2 dMul ma mb)) := by
  refine d_op op_mul (int_opD fun a b d e => ?_) ha hb
  unfold dMul at e
  split at e
  · split at e
    · rename_i h
      cases e
      refine ⟨_, _, rfl, rfl, ?_, rfl⟩
      rcases Bool.or_eq_true_iff.mp h with q | q
      · exact .inl (of_decide_eq_true q)
      · exact .inr (of_decide_eq_true q)
    · cases e
  · cases e
theorem d_fdiv (ha : PE X a (tD X.K E ma)) (hb : PE X b (tD X.K E mb)) : PE X (.BinOp a .FloorDiv b pos) (tD X.K E (m2 dFdiv ma mb)) := by
  refine d_op op_fdiv (int_opD fun a b d e => ?_) ha hb
  unfold dFdiv at e
  split at e
  · split at e
    · rename_i h
      cases e
      exact ⟨_, _, rfl, rfl, h, rfl⟩
    · cases e
  · cases e
theorem d_mod (ha : PE X a (tD X.K E ma)) (hb : PE X b (tD X.K E mb)) : PE X (.BinOp a .Mod b pos) (tD X.K E (m2 dMod ma mb)) := by
  refine d_op op_mod (int_opD fun a b d e => ?_) ha hb
  unfold dMod at e
  split at e
  · split at e
    · rename_i h
      cases e
      exact ⟨_, _, rfl, rfl, h, rfl⟩
    · cases e
  · cases e
theorem d_pow (ha : PE X a (tD X.K E ma)) (hb : PE X b (tD X.K E mb)) : PE X (.BinOp a .Pow b pos) (tD X.K E (m2 dPow ma mb)) := by
  refine d_op op_pow (int_opD fun a b d e => ?_) ha hb
  unfold dPow at e
  split at e
  · split at e
    · rename_i h
      cases e
      exact ⟨_, _, rfl, rfl, h, rfl⟩
    · cases e
  · cases e
def dNeg : D → Option D
  | .int i => some (.int (-i))
  | _ => none
theorem d_neg (ha : PE X a (tD X.K E ma)) : PE X (.UnaryOp .USub a pos) (tD X.K E (m1 dNeg ma)) := by
  refine d_un un_neg (fun H Z a d x Q hz ra e k => ?_) ha
  unfold dNeg at e
  split at e
  · cases e
    cases (show x = _ from ra)
    exact ⟨_, rfl, k _ H (Same.refl H) rfl⟩
  · cases e
end
/-! ### in, not in -/
def D.key : D → Option Key
  | .int i => some (.inl i)
  | .str x => some (.inr x)
  | _ => none
def hasK (ks : List Key) (k : Key) : Bool := ks.any fun j => decide (j = k)
def inB (x y : D) : Option Bool := match y with
  | .str z => (match x with
    | .str c => if c.cps.size = 1 then some (decide (c.cps.getD 0 0 ∈ z.cps.toList)) else none
    | _ => none)
  | .dct ks l => if ks.length = l.length then x.key.map fun k => hasK ks k else none
  | _ => match y.seq with
    | some l => (match x.sc, scs l with
      | some v, some vs => some (inV v vs)
      | _, _ => match y.lis, toPy x, toPys l with
        | some _, some p, some ps => if (SeqAt.shaped p && SeqAt.shaped (.list ps)) = true then some (ps.any fun z => PyData.eqv z p) else none
        | _, _, _ => none)
    | none => none
def dIn (x y : D) : Option D := (inB x y).map .bl
def dNotIn (x y : D) : Option D := (inB x y).map fun k => .bl (!k)
section
variable {X : Cx} {E : XK} {pos : Pos} {a b : Expr} {ma mb : M D} {K : PySem.W.Frag}
/-- the ways an answer is come to -/
def InW (K : PySem.W.Frag) (x y : V) (H : Hp) (k : Bool) : Prop :=
  (∃ (c : Nat) (z : Str), x = .str ⟨#[c]⟩ ∧ y = .str z ∧ k = decide (c ∈ z.cps.toList)) ∨
  (∃ p xs, y = .ref p ∧ (SqL K H p xs ∨ SqT K H p xs) ∧ flatV x = true ∧ xs.all flatV = true ∧ k = inV x xs) ∨
  (∃ d ds, Dp K H x d ∧ Dp K H y (.list ds) ∧ SeqAt.shaped d = true ∧ SeqAt.shaped (.list ds) = true ∧ k = ds.any fun z => PyData.eqv z d) ∨
  ∃ p o, y = .ref p ∧ DGet H p x o ∧ k = o.isSome
theorem op_inW (hu : X.A.units + 65 < cLine) : OpR X (compareOp .In) (fun x y H Q => ∃ k, InW X.K x y H k ∧ Q (.bl k) H) := by
  intro pins s σ H x y v u Q I rx ry h
  obtain ⟨k, h, q⟩ := h
  rcases h with ⟨c, z, rfl, rfl, rfl⟩ | ⟨p, xs, rfl, h1, h2, h3, rfl⟩ | ⟨d, ds, h1, h2, h3, h4, rfl⟩ | ⟨p, o, rfl, g, rfl⟩
  · exact op_in_sign pins s σ H _ _ v u Q I rx ry ⟨c, z, rfl, rfl, q⟩
  · exact op_in_seq pins s σ H _ _ v u Q I rx ry ⟨p, xs, rfl, h1, h2, h3, q⟩
  · exact op_inD hu pins s σ H _ _ v u Q I rx ry ⟨d, ds, h1, h2, h3, h4, q⟩
  · cases ry
    exact d_in (by omega) I g rx fun s' I' => ⟨.bl _, H, I', rfl, q⟩
theorem op_notInW (hu : X.A.units + 65 < cLine) : OpR X (compareOp .NotIn) (fun x y H Q => ∃ k, InW X.K x y H k ∧ Q (.bl (!k)) H) := by
  intro pins s σ H x y v u Q I rx ry h
  obtain ⟨k, h, q⟩ := h
  rcases h with ⟨c, z, rfl, rfl, rfl⟩ | ⟨p, xs, rfl, h1, h2, h3, rfl⟩ | ⟨d, ds, h1, h2, h3, h4, rfl⟩ | ⟨p, o, rfl, g, rfl⟩
  · exact op_notIn_sign pins s σ H _ _ v u Q I rx ry ⟨c, z, rfl, rfl, q⟩
  · exact op_notIn_seq pins s σ H _ _ v u Q I rx ry ⟨p, xs, rfl, h1, h2, h3, q⟩
  · exact op_notInD hu pins s σ H _ _ v u Q I rx ry ⟨d, ds, h1, h2, h3, h4, q⟩
  · cases ry
    exact d_notIn (by omega) I g rx fun s' I' => ⟨.bl _, H, I', rfl, q⟩
theorem D.key_rep {H : Hp} {Z : Addr → Prop} {d : D} {k : Key} {v : V} (h : d.key = some k) (r : Rep K H Z d v) : v = kV k := by
  cases d <;> simp only [D.key, Option.some.injEq, reduceCtorEq] at h <;> (subst h; exact r)
theorem valV_zip (k : Key) : ∀ (ks : List Key) (vs : List V), ks.length = vs.length → (valV (ks.zip vs) k).isSome = hasK ks k
  | [], [], _ => by simp [valV, hasK]
  | j :: ks, v :: vs, h => by
    have ih := valV_zip k ks vs (by simpa using h)
    by_cases e : j = k
    · rw [List.zip_cons_cons, valV_pos (by exact e)]
      simp [hasK, e]
    · rw [List.zip_cons_cons, valV_neg (by exact e), ih]
      simp [hasK, e]
theorem inB_ok {H : Hp} {Z : Addr → Prop} {a b : D} {x y : V} {k : Bool} (h : inB a b = some k) (ra : Rep K H Z a x) (rb : Rep K H Z b y) : InW K x y H k := by
  have seqs : ∀ {l : List D}, b.seq = some l → (match a.sc, scs l with
      | some v, some vs => some (inV v vs)
      | _, _ => match b.lis, toPy a, toPys l with
        | some _, some p, some ps => if (SeqAt.shaped p && SeqAt.shaped (.list ps)) = true then some (ps.any fun z => PyData.eqv z p) else none
        | _, _, _ => none) = some k → InW K x y H k := by
    intro l hs h
    split at h
    · rename_i v vs h1 h2
      cases h
      obtain ⟨p, us, rfl, h3, h4⟩ := D.seq_rep hs rb
      rw [D.sc_rep h1 ra]
      have e := scs_rep h2 h4
      subst e
      exact .inr (.inl ⟨p, us, rfl, h3, sc_flat h1, scs_flat h2, rfl⟩)
    · split at h
      · rename_i l' p ps h1 h2 h3
        split at h
        · rename_i hs'
          cases h
          obtain ⟨s1, s2⟩ := Bool.and_eq_true_iff.mp hs'
          have el : l' = l := by
            cases b <;> simp only [D.lis, D.seq, Option.some.injEq, reduceCtorEq] at h1 hs <;> exact h1.symm.trans hs
          subst el
          obtain ⟨q, us, rfl, h4, h5⟩ := D.lis_rep h1 rb
          exact .inr (.inr (.inl ⟨p, ps, toPy_dp h2 ra, .lst h4 (toPys_dp h3 h5), s1, s2, rfl⟩))
        · cases h
      · cases h
  unfold inB at h
  split at h
  · rename_i z
    cases (show y = _ from rb)
    split at h
    · rename_i c
      cases (show x = _ from ra)
      split at h
      · rename_i hc
        cases h
        refine .inl ⟨c.cps.getD 0 0, z, ?_, rfl, rfl⟩
        obtain ⟨cps⟩ := c
        simp only at hc
        congr 1
        congr 1
        apply Array.ext
        · simpa using hc
        · intro i h1 h2
          have e : i = 0 := by simp at h2; omega
          subst e
          simp [Array.getD, h1]
      · cases h
    · cases h
  · rename_i ks l
    split at h
    · rename_i hl
      simp only [Rep] at rb
      obtain ⟨p, vs, rfl, n, h1, hlen, h2⟩ := rb
      cases hk : a.key with
      | none => rw [hk] at h; cases h
      | some j =>
        rw [hk] at h
        have e : hasK ks j = k := Option.some.inj h
        refine .inr (.inr (.inr ⟨p, _, rfl, .inl ⟨_, j, h1, D.key_rep hk ra, rfl⟩, ?_⟩))
        rw [valV_zip j ks vs hlen, e]
    · cases h
  · split at h
    · rename_i l hs
      exact seqs hs h
    · cases h
theorem c_in {k : Nat} (hr : Room k X.A) : CmpD X .In dIn := by
  refine ⟨_, op_inW (by have := hr.un; omega), fun H Z a b d x y Q hz ra rb h k => ?_⟩
  unfold dIn at h
  cases e : inB a b with
  | none => rw [e] at h; cases h
  | some c =>
    rw [e] at h
    have e2 : D.bl c = d := Option.some.inj h
    subst e2
    exact ⟨c, inB_ok e ra rb, k _ H (Same.refl H) rfl⟩
theorem c_notin {k : Nat} (hr : Room k X.A) : CmpD X .NotIn dNotIn := by
  refine ⟨_, op_notInW (by have := hr.un; omega), fun H Z a b d x y Q hz ra rb h k => ?_⟩
  unfold dNotIn at h
  cases e : inB a b with
  | none => rw [e] at h; cases h
  | some c =>
    rw [e] at h
    have e2 : D.bl (!c) = d := Option.some.inj h
    subst e2
    exact ⟨c, inB_ok e ra rb, k _ H (Same.refl H) rfl⟩
end
/-! ### a[i] -/
def dIx (x y : D) : Option D := match y with
  | .int i => (match x with
    | .str z => if z.length ≤ sizeLine then (atI z.cps.toList i).map fun c => .str ⟨#[c]⟩ else none
    | _ => x.seq.bind fun l => atI l i)
  | _ => none
section
variable {X : Cx} {E : XK} {pos : Pos} {a b : Expr} {ma mb : M D} {K : PySem.W.Frag}
theorem Reps.atI {H : Hp} {Z : Addr → Prop} {l : List D} {vs : List V} {i : Int} {d : D} (r : Reps K H Z l vs) (h : L2.atI l i = some d) : ∃ v, L2.atI vs i = some v ∧ Rep K H Z d v := by
  unfold L2.atI at h ⊢
  rw [← r.len]
  cases e : ixN l.length i with
  | none => rw [e] at h; cases h
  | some j =>
    rw [e] at h
    exact r.get h
theorem ix_opD : OpD K (rIx K) dIx := by
  intro H Z a b d x y Q hz ra rb h k
  unfold dIx at h
  split at h
  · rename_i i
    cases (show y = _ from rb)
    split at h
    · rename_i z
      cases (show x = _ from ra)
      split at h
      · rename_i hl
        cases e : L2.atI z.cps.toList i with
        | none => rw [e] at h; cases h
        | some c =>
          rw [e] at h
          cases h
          exact .inr (.inr ⟨z, i, c, rfl, rfl, hl, e, k _ H (Same.refl H) rfl⟩)
      · cases h
    · cases e : a.seq with
      | none => rw [e] at h; cases h
      | some l =>
        rw [e] at h
        obtain ⟨p, vs, rfl, h1, h2⟩ := D.seq_rep e ra
        obtain ⟨v, h3, h4⟩ := h2.atI (show L2.atI l i = some d from h)
        rcases h1 with h1 | h1
        · exact .inl ⟨p, vs, i, v, rfl, rfl, h1, h3, k _ H (Same.refl H) h4⟩
        · exact .inr (.inl ⟨p, vs, i, v, rfl, rfl, h1, h3, k _ H (Same.refl H) h4⟩)
  · cases h
theorem d_item (ha : PE X a (tD X.K E ma)) (hb : PE X b (tD X.K E mb)) (hs : PlainIx b := by exact fun _ _ => rfl) : PE X (.Subscript a b pos) (tD X.K E (m2 dIx ma mb)) := d_ix ix_seq ix_opD ha hb hs
end
/-! ### slices -/
def cutD (l : List D) (lo hi : Option Int) : List D := (l.drop (HT.sIx l.length 0 lo)).take (HT.sIx l.length l.length hi - HT.sIx l.length 0 lo)
def mOpt (m : Option (M D)) : M (Option Int) := match m with
  | none => fun ρ => .ok none ρ
  | some m => fun ρ => bindR (m ρ) fun d ρ => match d with
    | .int i => .ok (some i) ρ
    | _ => .fail
def rO : RG (Option Int) (Option Int) := fun _ _ _ _ a b => a = b
def dCut (d : D) (lo hi : Option Int) : Option D := match d with
  | .lst l => some (.lst (cutD l lo hi))
  | .rol l => some (.lst (cutD l lo hi))
  | .tup l => some (.tup (cutD l lo hi))
  | _ => none
def mSl (ma : M D) (ml mh : Option (M D)) : M D := fun ρ => bindR (ma ρ) fun a ρ => bindR (mOpt ml ρ) fun lo ρ => bindR (mOpt mh ρ) fun hi ρ => liftO (dCut a lo hi) ρ
section
variable {X : Cx} {E : XK} {pos p2 : Pos} {e : Expr} {ma m : M D} {K : PySem.W.Frag}
theorem Reps.cut {H : Hp} {Z : Addr → Prop} {l : List D} {vs : List V} (lo hi : Option Int) (r : Reps K H Z l vs) : Reps K H Z (cutD l lo hi) (cutV vs lo hi) := by
  unfold cutD cutV
  rw [r.len]
  exact (r.drop _).take _
theorem do_none : PO X none (tG X.K E rO (mOpt none)) := by
  refine ⟨fun pins s σ H Q I h => po_none.run pins s σ H Q I ?_⟩
  obtain ⟨c, Z, ρ, r, q⟩ := h
  exact q.done r rfl
theorem do_some (h : PE X e (tD X.K E m)) : PO X (some e) (tG X.K E rO (mOpt (some m))) := by
  refine ⟨fun pins s σ H Q I q => (po_some h).run pins s σ H Q I ?_⟩
  obtain ⟨c, Z, ρ, r, q⟩ := q
  refine ⟨c, Z, ρ, r, q.bind fun d ρ1 v H1 r1 e1 h1 q1 => ?_⟩
  split at q1
  · rename_i i
    cases (show v = _ from h1)
    exact ⟨i, rfl, q1.done r1 rfl⟩
  · exact q1.elim
theorem d_slice {lo hi : Option Expr} {ml mh : Option (M D)} (he : PE X e (tD X.K E ma)) (hl : PO X lo (tG X.K E rO (mOpt ml))) (hh : PO X hi (tG X.K E rO (mOpt mh))) : PE X (.Subscript e (.Slice lo hi none p2) pos) (tD X.K E (mSl ma ml mh)) := by
  refine (pe_slice (sl_list.or sl_tupA) he hl hh).imp fun σ H Q h => ?_
  obtain ⟨c, Z, ρ, r, q⟩ := h
  refine ⟨c, Z, ρ, r, q.bind fun d ρ1 v H1 r1 e1 h1 q1 => ⟨c, Z, ρ1, r1, q1.bind fun lo ρ2 lo' H2 r2 e2 h2 q2 => ⟨c, Z, ρ2, r2, q2.bind fun hi ρ3 hi' H3 r3 e3 h3 q3 => ?_⟩⟩⟩
  cases (show lo = lo' from h2)
  cases (show hi = hi' from h3)
  obtain ⟨w, hw, k⟩ := q3.lift r3
  have rd : Rep X.K H3 Z d v := (h1.ext e2).ext e3
  unfold dCut at hw
  split at hw
  · cases hw
    simp only [Rep] at rd
    obtain ⟨p, vs, rfl, g1, g2⟩ := rd
    exact .inl ⟨p, vs, rfl, g1.sq, fun a ha => k _ _ (same_upd ha) (new_lst r3.dom ha (g2.cut _ _))⟩
  · cases hw
    simp only [Rep] at rd
    obtain ⟨p, vs, rfl, g1, g2⟩ := rd
    exact .inl ⟨p, vs, rfl, g1.sq, fun a ha => k _ _ (same_upd ha) (new_lst r3.dom ha (g2.cut _ _))⟩
  · rename_i l
    cases hw
    have rd' := rd
    simp only [Rep] at rd
    obtain ⟨p, vs, rfl, g1, g2⟩ := rd
    refine .inr ⟨p, vs, rfl, g1.sq, fun hw => ?_, fun _ a ha => k _ _ (same_upd ha) (new_tup r3.dom ha (g2.cut _ _))⟩
    have e4 : cutD l lo hi = l := by
      unfold cutD
      rw [← g2.len] at hw
      rw [hw.1, hw.2]
      simp
    rw [e4] at k
    exact k _ H3 (Same.refl H3) rd'
  · cases hw
def dRev : D → Option D
  | .lst l => some (.lst l.reverse)
  | .rol l => some (.lst l.reverse)
  | _ => none
theorem d_rev {k : Nat} {p1 p3 : Pos} (he : PE X e (tD X.K E ma)) : PE X (.Subscript e (.Slice none none (some (.UnaryOp .USub (.Constant (.int 1) k p1) p2)) p3) pos) (tD X.K E (m1 dRev ma)) := by
  refine (pe_revL he).imp fun σ H Q h => ?_
  obtain ⟨c, Z, ρ, r, q⟩ := h
  refine ⟨c, Z, ρ, r, q.bind fun d ρ1 v H1 r1 e1 h1 q1 => ?_⟩
  obtain ⟨w, hw, k⟩ := q1.lift r1
  have h1 : Rep X.K H1 Z d v := h1
  unfold dRev at hw
  split at hw
  · cases hw
    simp only [Rep] at h1
    obtain ⟨p, vs, rfl, g1, g2⟩ := h1
    exact ⟨p, vs, rfl, g1.sq, fun a ha => k _ _ (same_upd ha) (new_lst r1.dom ha g2.rev)⟩
  · cases hw
    simp only [Rep] at h1
    obtain ⟨p, vs, rfl, g1, g2⟩ := h1
    exact ⟨p, vs, rfl, g1.sq, fun a ha => k _ _ (same_upd ha) (new_lst r1.dom ha g2.rev)⟩
  · cases hw
end
end DL
set_option Elab.async false
set_option linter.all false
set_option maxRecDepth 100000
set_option maxHeartbeats 4000000
namespace DL
open PySem PySem.Spec PyProof.Rows L2
variable [CTab]
/-! ### tests -/
def mTest (m : M D) : M Bool := fun ρ => bindR (m ρ) fun d ρ => match d with
  | .bl b => .ok b ρ
  | _ => .fail
section
variable {X : Cx} {E : XK} {pos : Pos} {a b e : Expr} {ma mb mc : M D} {K : PySem.W.Frag}
theorem test_gen {σ : St} {H : Hp} {Q : Bool → Hp → Prop} {t : TE} (h : tT K E (mTest ma) σ H Q) (i : ∀ Q, tD K E ma σ H Q → t σ H Q) : tTest t σ H Q := by
  refine i _ ?_
  obtain ⟨c, Z, ρ, r, q⟩ := h
  refine ⟨c, Z, ρ, r, q.bind fun d ρ1 v H1 r1 e1 h1 q1 => ?_⟩
  split at q1
  · rename_i k
    exact ⟨k, h1, q1.done r1 rfl⟩
  · exact q1.elim
theorem d_cmp1 {op : CmpOp} {f : D → D → Option D} (ho : CmpD X op f) (ha : PE X a (tD X.K E ma)) (hb : PE X b (tD X.K E mb)) (hm : behindInMarks op b = false := by rfl) : PE X (.Compare a [op] [b] pos) (tD X.K E (m2 f ma mb)) := by
  obtain ⟨r, h1, h2⟩ := ho
  exact d_cmp h1 h2 ha hb hm
theorem dt_cmp1 {op : CmpOp} {f : D → D → Option D} (ho : CmpD X op f) (ha : PE X a (tD X.K E ma)) (hb : PE X b (tD X.K E mb)) (hm : behindInMarks op b = false := by rfl) : PT X (.Compare a [op] [b] pos) (tT X.K E (mTest (m2 f ma mb))) := by
  obtain ⟨r, h1, h2⟩ := ho
  exact (pt_cmpR h1 ha hb hm).imp fun σ H Q h => test_gen h fun Q h => op_gen h2 h
/-- a op1 b op2 c -/
def mChain (f g : D → D → Option D) (ma mb mc : M D) : M D := fun ρ => bindR (ma ρ) fun a ρ => bindR (mb ρ) fun b ρ => match f a b with
  | some (.bl true) => bindR (mc ρ) fun c ρ => liftO (g b c) ρ
  | some (.bl false) => .ok (.bl false) ρ
  | _ => .fail
theorem chain_gen {f g : D → D → Option D} {r r' : R2} (hf : OpD K r f) (hg : OpD K r' g) {σ : St} {H : Hp} {Q : VK} (h : tD K E (mChain f g ma mb mc) σ H Q) : tChain r r' (tD K E ma) (tD K E mb) (tD K E mc) σ H Q := by
  obtain ⟨c, Z, ρ, r0, q⟩ := h
  refine ⟨c, Z, ρ, r0, q.bind fun x ρ1 u H1 r1 e1 hx q1 => ⟨c, Z, ρ1, r1, q1.bind fun y ρ2 v H2 r2 e2 hy q2 => ?_⟩⟩
  split at q2
  · rename_i hd
    refine hf H2 Z x y _ u v _ r2.dom (hx.ext e2) hy hd fun w H3 s3 hw => ⟨true, hw, ?_⟩
    rw [if_pos rfl]
    refine ⟨c, Z, ρ2, r2.same s3, (tR.ext q2 (Ext.same s3)).bind fun z ρ4 z' H4 r4 e4 hz' q4 => ?_⟩
    obtain ⟨d, hd, k⟩ := q4.lift r4
    exact hg H4 Z y z d v z' Q r4.dom ((hy.ext (Ext.same s3)).ext e4) hz' hd k
  · rename_i hd
    refine hf H2 Z x y _ u v _ r2.dom (hx.ext e2) hy hd fun w H3 s3 hw => ⟨false, hw, ?_⟩
    rw [if_neg Bool.false_ne_true]
    exact q2.new r2 s3 rfl
  · exact q2.elim
theorem d_chain {c : Expr} {op op' : CmpOp} {f g : D → D → Option D} (ho : CmpD X op f) (ho' : CmpD X op' g) (ha : PE X a (tD X.K E ma)) (hb : PE X b (tD X.K E mb)) (hc : PE X c (tD X.K E mc))
    (hm : lastMarks [op, op'] [b, c] = false := by with_unfolding_all rfl) : PE X (.Compare a [op, op'] [b, c] pos) (tD X.K E (mChain f g ma mb mc)) := by
  obtain ⟨r, h1, h2⟩ := ho
  obtain ⟨r', h3, h4⟩ := ho'
  exact (pe_chain h1 h3 ha hb hc hm).imp fun σ H Q h => chain_gen h2 h4 h
theorem dt_chain {c : Expr} {op op' : CmpOp} {f g : D → D → Option D} (ho : CmpD X op f) (ho' : CmpD X op' g) (ha : PE X a (tD X.K E ma)) (hb : PE X b (tD X.K E mb)) (hc : PE X c (tD X.K E mc))
    (hm : lastMarks [op, op'] [b, c] = false := by with_unfolding_all rfl) : PT X (.Compare a [op, op'] [b, c] pos) (tT X.K E (mTest (mChain f g ma mb mc))) := by
  obtain ⟨r, h1, h2⟩ := ho
  obtain ⟨r', h3, h4⟩ := ho'
  exact (pt_chain h1 h3 ha hb hc hm).imp fun σ H Q h => test_gen h fun Q h => chain_gen h2 h4 h
/-! ### a value's truth -/
def dTru : D → Option Bool
  | .non => some false
  | .bl b => some b
  | .int i => some (i != 0)
  | .str y => if y.length ≤ sizeLine then some ((y.length : Int) != 0) else none
  | .lst l => some (!l.isEmpty)
  | .rol l => some (!l.isEmpty)
  | .tup l => some (!l.isEmpty)
  | _ => none
def mTru (m : M D) : M Bool := fun ρ => bindR (m ρ) fun d ρ => liftO (dTru d) ρ
theorem Reps.emp {H : Hp} {Z : Addr → Prop} {l : List D} {vs : List V} (r : Reps K H Z l vs) : (!l.isEmpty) = !vs.isEmpty := by
  have e := r.len
  cases l <;> cases vs <;> simp_all
theorem tru_ok' {H : Hp} {Z : Addr → Prop} {d : D} {v : V} {k : Bool} (h : dTru d = some k) (r : Rep K H Z d v) : TruV K v H k := by
  cases d with
  | non => cases (show v = _ from r); cases h; rfl
  | bl b => cases (show v = _ from r); cases h; rfl
  | int b => cases (show v = _ from r); cases h; rfl
  | str y =>
    cases (show v = _ from r)
    have h : (if y.length ≤ sizeLine then some ((y.length : Int) != 0) else none) = some k := h
    split at h
    · rename_i hl
      cases h
      exact ⟨hl, rfl⟩
    · cases h
  | lst l =>
    simp only [Rep] at r
    obtain ⟨p, vs, rfl, h1, h2⟩ := r
    cases h
    exact .inl ⟨vs, h1.sq, h2.emp⟩
  | rol l =>
    simp only [Rep] at r
    obtain ⟨p, vs, rfl, h1, h2⟩ := r
    cases h
    exact .inl ⟨vs, h1.sq, h2.emp⟩
  | tup l =>
    simp only [Rep] at r
    obtain ⟨p, vs, rfl, h1, h2⟩ := r
    cases h
    exact .inr (.inl ⟨vs, h1.sq, h2.emp⟩)
  | dct _ _ => cases h
  | ob _ _ => cases h
theorem tR.liftB {o : Option Bool} {c : Cz} {Z : Addr → Prop} {ρ : Env} {σ : St} {H : Hp} {Q : Bool → Hp → Prop} (h : tR K E rB c Z σ H Q (liftO o ρ)) (r : Rel K c Z ρ σ H) : ∃ k, o = some k ∧ Q k H := by
  cases o with
  | none => exact h.elim
  | some k => exact ⟨k, rfl, h.done r rfl⟩
/-- the truth of a name, a call, a field, an item -/
theorem dt_tru (ha : PE X e (tD X.K E ma)) (he : ∀ whole, isTrue e X.env whole = (do let v ← whole; standAt e.pos; holding [v] (truthy v)) := by intro _; rfl) : PT X e (tT X.K E (mTru ma)) := by
  refine (pt_truth ha he).imp fun σ H Q h => ?_
  obtain ⟨c, Z, ρ, r, q⟩ := h
  refine ⟨c, Z, ρ, r, q.bind fun d ρ1 v H1 r1 e1 h1 q1 => ?_⟩
  obtain ⟨k, hk, q2⟩ := q1.liftB r1
  exact ⟨k, tru_ok' hk h1, q2⟩
/-! ### and, or, not -/
variable {ta tb : M Bool} {rest : List Expr}
def mAndT (ta tb : M Bool) : M Bool := fun ρ => bindR (ta ρ) fun k ρ => if k = true then tb ρ else .ok false ρ
def mOrT (ta tb : M Bool) : M Bool := fun ρ => bindR (ta ρ) fun k ρ => if k = true then .ok true ρ else tb ρ
def mNotT (ta : M Bool) : M Bool := fun ρ => bindR (ta ρ) fun k ρ => .ok (!k) ρ
theorem _root_.L2.PW.imp {X : Cx} {e : Expr} {t t' : TT} (h : PW X e t) (i : ∀ σ H Q, t' σ H Q → t σ H Q) : PW X e t' := ⟨fun wh pins s σ H Q I q => h.run wh pins s σ H Q I (i σ H Q q)⟩
theorem dw_and1 (ha : PT X a (tT X.K E ta)) : PW X (.BoolOp .And [a] pos) (tT X.K E ta) := pw_and1 ha
theorem dw_or1 (ha : PT X a (tT X.K E ta)) : PW X (.BoolOp .Or [a] pos) (tT X.K E ta) := pw_or1 ha
theorem dw_and (ha : PT X a (tT X.K E ta)) (hb : PW X (.BoolOp .And (b :: rest) pos) (tT X.K E tb)) : PW X (.BoolOp .And (a :: b :: rest) pos) (tT X.K E (mAndT ta tb)) := by
  refine (pw_and ha hb).imp fun σ H Q h => ?_
  obtain ⟨c, Z, ρ, r, q⟩ := h
  refine ⟨c, Z, ρ, r, q.bind fun k ρ1 k' H1 r1 e1 h1 q1 => ?_⟩
  cases (show k = k' from h1)
  cases k with
  | true => exact iteT ⟨c, Z, ρ1, r1, q1⟩
  | false => exact iteF (q1.done r1 rfl)
theorem dw_or (ha : PT X a (tT X.K E ta)) (hb : PW X (.BoolOp .Or (b :: rest) pos) (tT X.K E tb)) : PW X (.BoolOp .Or (a :: b :: rest) pos) (tT X.K E (mOrT ta tb)) := by
  refine (pw_or ha hb).imp fun σ H Q h => ?_
  obtain ⟨c, Z, ρ, r, q⟩ := h
  refine ⟨c, Z, ρ, r, q.bind fun k ρ1 k' H1 r1 e1 h1 q1 => ?_⟩
  cases (show k = k' from h1)
  cases k with
  | true => exact iteT (q1.done r1 rfl)
  | false => exact iteF ⟨c, Z, ρ1, r1, q1⟩
theorem dt_not (ha : PT X a (tT X.K E ta)) : PT X (.UnaryOp .Not a pos) (tT X.K E (mNotT ta)) := by
  refine (pt_not ha).imp fun σ H Q h => ?_
  obtain ⟨c, Z, ρ, r, q⟩ := h
  refine ⟨c, Z, ρ, r, q.bind fun k ρ1 k' H1 r1 e1 h1 q1 => ?_⟩
  cases (show k = k' from h1)
  exact q1.done r1 rfl
/-- .. as values: all but the last True or False -/
def mAndV (ma mb : M D) : M D := fun ρ => bindR (ma ρ) fun d ρ => match d with
  | .bl true => mb ρ
  | .bl false => .ok (.bl false) ρ
  | _ => .fail
def mOrV (ma mb : M D) : M D := fun ρ => bindR (ma ρ) fun d ρ => match d with
  | .bl false => mb ρ
  | .bl true => .ok (.bl true) ρ
  | _ => .fail
theorem d_one {op} (h : PE X a (tD X.K E ma)) : PE X (.BoolOp op [a] pos) (tD X.K E ma) := pe_one h
theorem d_and (ha : PE X a (tD X.K E ma)) (hb : PE X (.BoolOp .And (b :: rest) pos) (tD X.K E mb)) : PE X (.BoolOp .And (a :: b :: rest) pos) (tD X.K E (mAndV ma mb)) := by
  refine (pe_and ha hb).imp fun σ H Q h => ?_
  obtain ⟨c, Z, ρ, r, q⟩ := h
  refine ⟨c, Z, ρ, r, q.bind fun d ρ1 v H1 r1 e1 h1 q1 => ?_⟩
  split at q1
  · exact ⟨true, h1, iteT ⟨c, Z, ρ1, r1, q1⟩⟩
  · exact ⟨false, h1, iteF (q1.done r1 rfl)⟩
  · exact q1.elim
theorem d_or (ha : PE X a (tD X.K E ma)) (hb : PE X (.BoolOp .Or (b :: rest) pos) (tD X.K E mb)) : PE X (.BoolOp .Or (a :: b :: rest) pos) (tD X.K E (mOrV ma mb)) := by
  refine (pe_or ha hb).imp fun σ H Q h => ?_
  obtain ⟨c, Z, ρ, r, q⟩ := h
  refine ⟨c, Z, ρ, r, q.bind fun d ρ1 v H1 r1 e1 h1 q1 => ?_⟩
  split at q1
  · exact ⟨false, h1, iteF ⟨c, Z, ρ1, r1, q1⟩⟩
  · exact ⟨true, h1, iteT (q1.done r1 rfl)⟩
  · exact q1.elim
def mNotV (ma : M D) : M D := fun ρ => bindR (ma ρ) fun d ρ => match dTru d with
  | some k => .ok (.bl (!k)) ρ
  | none => .fail
theorem d_not (ha : PE X a (tD X.K E ma)) : PE X (.UnaryOp .Not a pos) (tD X.K E (mNotV ma)) := by
  refine (pe_notT ha).imp fun σ H Q h => ?_
  obtain ⟨c, Z, ρ, r, q⟩ := h
  refine ⟨c, Z, ρ, r, q.bind fun d ρ1 v H1 r1 e1 h1 q1 => ?_⟩
  split at q1
  · rename_i k hk
    exact ⟨k, tru_ok' hk h1, q1.done r1 rfl⟩
  · exact q1.elim
def mIfE (t : M Bool) (ma mb : M D) : M D := fun ρ => bindR (t ρ) fun k ρ => if k = true then ma ρ else mb ρ
theorem d_ifexp {c : Expr} (hc : PT X c (tT X.K E ta)) (ha : PE X a (tD X.K E ma)) (hb : PE X b (tD X.K E mb)) : PE X (.IfExp c a b pos) (tD X.K E (mIfE ta ma mb)) := by
  refine (pe_ifExp hc ha hb).imp fun σ H Q h => ?_
  obtain ⟨c, Z, ρ, r, q⟩ := h
  refine ⟨c, Z, ρ, r, q.bind fun k ρ1 k' H1 r1 e1 h1 q1 => ?_⟩
  cases (show k = k' from h1)
  cases k with
  | true => exact iteT ⟨c, Z, ρ1, r1, q1⟩
  | false => exact iteF ⟨c, Z, ρ1, r1, q1⟩
end
/-! ### arguments, displays -/
def mNil : M (List D) := fun ρ => .ok [] ρ
def mCons (m : M D) (ms : M (List D)) : M (List D) := fun ρ => bindR (m ρ) fun d ρ => bindR (ms ρ) fun l ρ => .ok (d :: l) ρ
def mStar (m : M D) (ms : M (List D)) : M (List D) := fun ρ => bindR (m ρ) fun d ρ => match d.seq with
  | some l => bindR (ms ρ) fun r ρ => .ok (l ++ r) ρ
  | none => .fail
def mLst (ms : M (List D)) : M D := fun ρ => bindR (ms ρ) fun l ρ => if l.length ≤ sizeLine then .ok (.lst l) ρ else .fail
def mTup (ms : M (List D)) : M D := fun ρ => bindR (ms ρ) fun l ρ => if l.length ≤ sizeLine then .ok (.tup l) ρ else .fail
section
variable {X : Cx} {E : XK} {pos p : Pos} {e : Expr} {es : List Expr} {m : M D} {ms : M (List D)} {K : PySem.W.Frag}
theorem da_nil : PA X [] (tAr X.K E mNil) := pa_nil.imp fun σ H Q ⟨c, Z, ρ, r, q⟩ => q.done r rfl
theorem da_cons (ha : PE X e (tD X.K E m)) (hr : PA X es (tAr X.K E ms)) (hs : starEach (e :: es) X.env = (false, eval e X.env) :: starEach es X.env := by rfl) : PA X (e :: es) (tAr X.K E (mCons m ms)) := by
  refine (pa_cons ha hr hs).imp fun σ H Q h => ?_
  obtain ⟨c, Z, ρ, r, q⟩ := h
  exact ⟨c, Z, ρ, r, q.bind fun d ρ1 v H1 r1 e1 h1 q1 => ⟨c, Z, ρ1, r1, q1.bind fun l ρ2 vs H2 r2 e2 h2 q2 => q2.done r2 (Reps.cons (h1.ext e2) h2)⟩⟩
theorem da_star (ha : PE X e (tD X.K E m)) (hr : PA X es (tAr X.K E ms)) (hs : starEach (.Starred e p :: es) X.env = (true, eval e X.env) :: starEach es X.env := by rfl) : PA X (.Starred e p :: es) (tAr X.K E (mStar m ms)) := by
  refine (StX.pa_star ha hr hs).imp fun σ H Q h => ?_
  obtain ⟨c, Z, ρ, r, q⟩ := h
  refine ⟨c, Z, ρ, r, q.bind fun d ρ1 v H1 r1 e1 h1 q1 => ?_⟩
  split at q1
  · rename_i l hl
    obtain ⟨a, vs, rfl, h2, h3⟩ := D.seq_rep hl h1
    exact ⟨a, vs, rfl, h2.symm, ⟨c, Z, ρ1, r1, q1.bind fun l' ρ2 vs' H2 r2 e2 h4 q2 => q2.done r2 ((Reps.ext e2 _ _ h3).app h4)⟩⟩
  · exact q1.elim
theorem d_list (h : PA X es (tAr X.K E ms)) : PE X (.List es pos) (tD X.K E (mLst ms)) := by
  refine (pe_lst h).imp fun σ H Q h => ?_
  obtain ⟨c, Z, ρ, r, q⟩ := h
  refine ⟨c, Z, ρ, r, q.bind fun l ρ1 vs H1 r1 e1 h1 q1 => ?_⟩
  have h1 : Reps X.K H1 Z l vs := h1
  split at q1
  · rename_i hl
    exact ⟨by rw [← h1.len]; exact hl, fun p hp => q1.new r1 (same_upd hp) (new_lst r1.dom hp h1)⟩
  · exact q1.elim
theorem d_tuple {k : Nat} (h : PA X es (tAr X.K E ms)) : PE X (.Tuple es k pos) (tD X.K E (mTup ms)) := by
  refine (pe_tup h).imp fun σ H Q h => ?_
  obtain ⟨c, Z, ρ, r, q⟩ := h
  refine ⟨c, Z, ρ, r, q.bind fun l ρ1 vs H1 r1 e1 h1 q1 => ?_⟩
  have h1 : Reps X.K H1 Z l vs := h1
  split at q1
  · rename_i hl
    exact ⟨by rw [← h1.len]; exact hl, fun p hp => q1.new r1 (same_upd hp) (new_tup r1.dom hp h1)⟩
  · exact q1.elim
end
/-! ### calls of built-ins -/
def mCa (f : List D → Option D) (ms : M (List D)) : M D := fun ρ => bindR (ms ρ) fun l ρ => liftO (f l) ρ
def CaD (K : PySem.W.Frag) (r : List V → Hp → VK → Prop) (f : List D → Option D) : Prop := ∀ (H : Hp) (Z : Addr → Prop) (l : List D) (d : D) (xs : List V) (Q : VK), (∀ p, Z p → H p ≠ none) → Reps K H Z l xs → f l = some d →
  (∀ v H', Same H H' → Rep K H' Z d v → Q v H') → r xs H Q
section
variable {X : Cx} {E : XK} {pos p : Pos} {x : Str} {e : Expr} {es : List Expr} {ms : M (List D)} {K : PySem.W.Frag} {r : List V → Hp → VK → Prop} {f : List D → Option D}
theorem ca_gen (hf : CaD K r f) {σ : St} {H : Hp} {Q : VK} (h : tD K E (mCa f ms) σ H Q) : tCB r (tAr K E ms) σ H Q := by
  obtain ⟨c, Z, ρ, r0, q⟩ := h
  refine ⟨c, Z, ρ, r0, q.bind fun l ρ1 vs H1 r1 e1 h1 q1 => ?_⟩
  obtain ⟨d, hd, k⟩ := q1.lift r1
  exact hf H1 Z l d vs Q r1.dom h1 hd k
theorem d_callB {id : String} (hc : CallR X (.builtin id) r) (hf : CaD X.K r f) (hm : X.mg x = none) (hv : bootBuiltins x = some (.builtin id)) (ha : PA X (e :: es) (tAr X.K E ms)) (hg : Gl X x := by rfl) (hn : x ≠ "__name__" := by decide) (hdb : (x == ("__debug__" : Str)) = false := by decide)
    (he : starEach (e :: es) X.env = (false, eval e X.env) :: starEach es X.env := by rfl) (hpl : (backTo pos (starEach es X.env)).any (·.1) = false := by rfl) : PE X (.Call (.Name x p) (e :: es) [] pos) (tD X.K E (mCa f ms)) :=
  (pe_callB hc hg hm hv ha hn hdb he hpl).imp fun _ _ _ h => ca_gen hf h
theorem d_callTy {T : String} (hc : CallR X (.type T) r) (hf : CaD X.K r f) (hm : X.mg x = none) (hv : bootBuiltins x = some (.type T)) (ha : PA X (e :: es) (tAr X.K E ms)) (hg : Gl X x := by rfl) (hn : x ≠ "__name__" := by decide) (hdb : (x == ("__debug__" : Str)) = false := by decide)
    (he : starEach (e :: es) X.env = (false, eval e X.env) :: starEach es X.env := by rfl) (hpl : (backTo pos (starEach es X.env)).any (·.1) = false := by rfl) : PE X (.Call (.Name x p) (e :: es) [] pos) (tD X.K E (mCa f ms)) :=
  (pe_callTy hc hg hm hv ha hn hdb he hpl).imp fun _ _ _ h => ca_gen hf h
end
def fLen : List D → Option D
  | [.str y] => if y.length ≤ sizeLine then some (.int (y.length : Nat)) else none
  | [.lst l] => some (.int (l.length : Nat))
  | [.rol l] => some (.int (l.length : Nat))
  | [.tup l] => some (.int (l.length : Nat))
  | [.dct ks l] => if ks.length = l.length then some (.int (ks.length : Nat)) else none
  | _ => none
def fInt : List D → Option D
  | [.int i] => some (.int i)
  | [.bl b] => some (.int (if b then 1 else 0))
  | _ => none
def fBool : List D → Option D
  | [.int i] => some (.bl (i != 0))
  | [.bl b] => some (.bl b)
  | _ => none
def fStr : List D → Option D
  | [.int i] => if i.natAbs.log2 < 1920 then some (.str (toString i)) else none
  | _ => none
def fTup : List D → Option D
  | [.lst l] => some (.tup l)
  | [.rol l] => some (.tup l)
  | [.tup l] => some (.tup l)
  | _ => none
def fLst : List D → Option D
  | [.lst l] => some (.lst l)
  | [.rol l] => some (.lst l)
  | [.tup l] => some (.lst l)
  | _ => none
def dInts : List D → Option (List Int)
  | [] => some []
  | .int i :: r => (dInts r).map fun l => i :: l
  | _ => none
def dBls : List D → Option (List Bool)
  | [] => some []
  | .bl i :: r => (dBls r).map fun l => i :: l
  | _ => none
def dStrs : List D → Option (List Str)
  | [] => some []
  | .str i :: r => (dStrs r).map fun l => i :: l
  | _ => none
def maxI : List Int → Option Int
  | [] => none
  | n :: r => some (r.foldl max n)
def minI : List Int → Option Int
  | [] => none
  | n :: r => some (r.foldl min n)
def fSum : List D → Option D
  | [d] => d.lis.bind fun l => (dInts l).map fun ns => .int ns.sum
  | _ => none
def fMax : List D → Option D
  | [d] => d.lis.bind fun l => (dInts l).bind fun ns => (maxI ns).map .int
  | [.int i, .int j] => some (.int (if j > i then j else i))
  | _ => none
def fMin : List D → Option D
  | [d] => d.lis.bind fun l => (dInts l).bind fun ns => (minI ns).map .int
  | [.int i, .int j] => some (.int (if j < i then j else i))
  | _ => none
def fAny : List D → Option D
  | [d] => d.lis.bind fun l => (dBls l).map fun bs => .bl (bs.any id)
  | _ => none
def fAll : List D → Option D
  | [d] => d.lis.bind fun l => (dBls l).map fun bs => .bl (bs.all id)
  | _ => none
def fAbs : List D → Option D
  | [.int i] => some (.int (if i < 0 then -i else i))
  | _ => none
section
variable {X : Cx} {K : PySem.W.Frag} {H : Hp} {Z : Addr → Prop}
theorem Reps.inv1 {d : D} {xs : List V} (h : Reps K H Z [d] xs) : ∃ v, xs = [v] ∧ Rep K H Z d v := by
  obtain ⟨v, r, e, h1, h2⟩ := h.inv
  cases (show r = [] from h2)
  exact ⟨v, e, h1⟩
theorem Reps.inv2 {d e : D} {xs : List V} (h : Reps K H Z [d, e] xs) : ∃ v u, xs = [v, u] ∧ Rep K H Z d v ∧ Rep K H Z e u := by
  obtain ⟨v, r, q, h1, h2⟩ := h.inv
  obtain ⟨u, q2, h3⟩ := h2.inv1
  exact ⟨v, u, by rw [q, q2], h1, h3⟩
theorem dInts_rep : ∀ {l : List D} {ns : List Int} {vs : List V}, dInts l = some ns → Reps K H Z l vs → vs = ns.map V.int
  | [], ns, vs, h, r => by
    cases h
    exact r
  | d :: l, ns, vs, h, r => by
    obtain ⟨v, r', e, h1, h2⟩ := r.inv
    cases d <;> first | (cases h; done) | skip
    rename_i i
    simp only [dInts] at h
    cases hl : dInts l with
    | none => rw [hl] at h; cases h
    | some ms =>
      rw [hl] at h
      cases h
      cases (show v = _ from h1)
      rw [e, dInts_rep hl h2]
      rfl
theorem dBls_rep : ∀ {l : List D} {ns : List Bool} {vs : List V}, dBls l = some ns → Reps K H Z l vs → vs = ns.map V.bl
  | [], ns, vs, h, r => by
    cases h
    exact r
  | d :: l, ns, vs, h, r => by
    obtain ⟨v, r', e, h1, h2⟩ := r.inv
    cases d <;> first | (cases h; done) | skip
    rename_i i
    simp only [dBls] at h
    cases hl : dBls l with
    | none => rw [hl] at h; cases h
    | some ms =>
      rw [hl] at h
      cases h
      cases (show v = _ from h1)
      rw [e, dBls_rep hl h2]
      rfl
theorem dStrs_rep : ∀ {l : List D} {ns : List Str} {vs : List V}, dStrs l = some ns → Reps K H Z l vs → vs = ns.map V.str
  | [], ns, vs, h, r => by
    cases h
    exact r
  | d :: l, ns, vs, h, r => by
    obtain ⟨v, r', e, h1, h2⟩ := r.inv
    cases d <;> first | (cases h; done) | skip
    rename_i i
    simp only [dStrs] at h
    cases hl : dStrs l with
    | none => rw [hl] at h; cases h
    | some ms =>
      rw [hl] at h
      cases h
      cases (show v = _ from h1)
      rw [e, dStrs_rep hl h2]
      rfl
theorem ca_int : CaD K (fun xs H Q => (∃ i, xs = [.int i] ∧ Q (.int i) H) ∨ ∃ k, xs = [.bl k] ∧ Q (.int (if k then 1 else 0)) H) fInt := by
  intro H Z l d xs Q hz r h k
  unfold fInt at h
  split at h
  · cases h
    obtain ⟨v, rfl, h1⟩ := r.inv1
    cases (show v = _ from h1)
    exact .inl ⟨_, rfl, k _ H (Same.refl H) rfl⟩
  · cases h
    obtain ⟨v, rfl, h1⟩ := r.inv1
    cases (show v = _ from h1)
    exact .inr ⟨_, rfl, k _ H (Same.refl H) rfl⟩
  · cases h
theorem ca_bool : CaD K (fun xs H Q => (∃ i, xs = [.int i] ∧ Q (.bl (i != 0)) H) ∨ ∃ k, xs = [.bl k] ∧ Q (.bl k) H) fBool := by
  intro H Z l d xs Q hz r h k
  unfold fBool at h
  split at h
  · cases h
    obtain ⟨v, rfl, h1⟩ := r.inv1
    cases (show v = _ from h1)
    exact .inl ⟨_, rfl, k _ H (Same.refl H) rfl⟩
  · cases h
    obtain ⟨v, rfl, h1⟩ := r.inv1
    cases (show v = _ from h1)
    exact .inr ⟨_, rfl, k _ H (Same.refl H) rfl⟩
  · cases h
theorem ca_str : CaD K (fun xs H Q => ∃ i, xs = [.int i] ∧ i.natAbs.log2 < 1920 ∧ Q (.str (toString i)) H) fStr := by
  intro H Z l d xs Q hz r h k
  unfold fStr at h
  split at h
  · split at h
    · rename_i hl
      cases h
      obtain ⟨v, rfl, h1⟩ := r.inv1
      cases (show v = _ from h1)
      exact ⟨_, rfl, hl, k _ H (Same.refl H) rfl⟩
    · cases h
  · cases h
theorem ca_abs : CaD K (fun xs H Q => ∃ i, xs = [.int i] ∧ Q (.int (if i < 0 then -i else i)) H) fAbs := by
  intro H Z l d xs Q hz r h k
  unfold fAbs at h
  split at h
  · cases h
    obtain ⟨v, rfl, h1⟩ := r.inv1
    cases (show v = _ from h1)
    exact ⟨_, rfl, k _ H (Same.refl H) rfl⟩
  · cases h
/-- len, of a dict too -/
theorem call_lenA : CallR X (.builtin "len") (fun xs H Q => (∃ x n, xs = [x] ∧ LenV X.K x H n ∧ Q (.int n) H) ∨ ∃ p kvs, xs = [.ref p] ∧ Rd H p (.dK kvs) ∧ Q (.int (kvs.length : Nat)) H) := by
  intro pins s σ H xs us Q I r h
  rcases h with h | ⟨p, kvs, rfl, h1, q⟩
  · exact call_len pins s σ H xs us Q I r h
  · rw [Vals.ref1 r]
    exact d_len I h1 fun t s' I' => ⟨.int _, H, I', ⟨_, rfl⟩, q⟩
theorem ca_len : CaD K (fun xs H Q => (∃ x n, xs = [x] ∧ LenV K x H n ∧ Q (.int n) H) ∨ ∃ p kvs, xs = [.ref p] ∧ Rd H p (.dK kvs) ∧ Q (.int (kvs.length : Nat)) H) fLen := by
  intro H Z l d xs Q hz r h k
  unfold fLen at h
  split at h
  · split at h
    · rename_i hl
      cases h
      obtain ⟨v, rfl, h1⟩ := r.inv1
      cases (show v = _ from h1)
      exact .inl ⟨_, _, rfl, ⟨hl, rfl⟩, k _ H (Same.refl H) rfl⟩
    · cases h
  · cases h
    obtain ⟨v, rfl, h1⟩ := r.inv1
    simp only [Rep] at h1
    obtain ⟨p, vs, rfl, h2, h3⟩ := h1
    exact .inl ⟨_, _, rfl, .inl ⟨vs, h2.sq, h3.len⟩, k _ H (Same.refl H) rfl⟩
  · cases h
    obtain ⟨v, rfl, h1⟩ := r.inv1
    simp only [Rep] at h1
    obtain ⟨p, vs, rfl, h2, h3⟩ := h1
    exact .inl ⟨_, _, rfl, .inl ⟨vs, h2.sq, h3.len⟩, k _ H (Same.refl H) rfl⟩
  · cases h
    obtain ⟨v, rfl, h1⟩ := r.inv1
    simp only [Rep] at h1
    obtain ⟨p, vs, rfl, h2, h3⟩ := h1
    exact .inl ⟨_, _, rfl, .inr ⟨vs, h2.sq, h3.len⟩, k _ H (Same.refl H) rfl⟩
  · split at h
    · cases h
      obtain ⟨v, rfl, h1⟩ := r.inv1
      simp only [Rep] at h1
      obtain ⟨p, vs, rfl, n, h2, hl, h3⟩ := h1
      refine .inr ⟨p, _, rfl, h2, k _ H (Same.refl H) ?_⟩
      show V.int _ = V.int _
      rw [List.length_zip, ← hl, Nat.min_self]
    · cases h
  · cases h
theorem ca_tup : CaD K (fun xs H Q => ∃ p ys, xs = [.ref p] ∧ ((SqL K H p ys ∧ ∀ l, H l = none → Q (.ref l) (upd H l (.tup ys))) ∨ (SqT K H p ys ∧ Q (.ref p) H))) fTup := by
  intro H Z l d xs Q hz r h k
  unfold fTup at h
  split at h
  · cases h
    obtain ⟨v, rfl, h1⟩ := r.inv1
    simp only [Rep] at h1
    obtain ⟨p, vs, rfl, h2, h3⟩ := h1
    exact ⟨p, vs, rfl, .inl ⟨h2.sq, fun a ha => k _ _ (same_upd ha) (new_tup hz ha h3)⟩⟩
  · cases h
    obtain ⟨v, rfl, h1⟩ := r.inv1
    simp only [Rep] at h1
    obtain ⟨p, vs, rfl, h2, h3⟩ := h1
    exact ⟨p, vs, rfl, .inl ⟨h2.sq, fun a ha => k _ _ (same_upd ha) (new_tup hz ha h3)⟩⟩
  · cases h
    obtain ⟨v, rfl, h1⟩ := r.inv1
    have h1' := h1
    simp only [Rep] at h1
    obtain ⟨p, vs, rfl, h2, h3⟩ := h1
    exact ⟨p, vs, rfl, .inr ⟨h2.sq, k _ H (Same.refl H) h1'⟩⟩
  · cases h
theorem ca_lst : CaD K (fun xs H Q => ∃ p ys, xs = [.ref p] ∧ (SqL K H p ys ∨ SqT K H p ys) ∧ ∀ l, H l = none → Q (.ref l) (upd H l (.lst ys))) fLst := by
  intro H Z l d xs Q hz r h k
  have go : ∀ {e : D} {ds : List D}, l = [e] → e.seq = some ds → d = .lst ds → ∃ p ys, xs = [.ref p] ∧ (SqL K H p ys ∨ SqT K H p ys) ∧ ∀ l, H l = none → Q (.ref l) (upd H l (.lst ys)) := by
    intro e ds e1 e2 e3
    subst e1 e3
    obtain ⟨v, rfl, h1⟩ := r.inv1
    obtain ⟨p, vs, rfl, h2, h3⟩ := D.seq_rep e2 h1
    exact ⟨p, vs, rfl, h2, fun a ha => k _ _ (same_upd ha) (new_lst hz ha h3)⟩
  unfold fLst at h
  split at h
  · cases h
    exact go rfl rfl rfl
  · cases h
    exact go rfl rfl rfl
  · cases h
    exact go rfl rfl rfl
  · cases h
theorem ca_sum : CaD K (rSum K) fSum := by
  intro H Z l d xs Q hz r h k
  unfold fSum at h
  split at h
  · obtain ⟨v, rfl, h1⟩ := r.inv1
    rename_i e
    cases e1 : e.lis with
    | none => rw [e1] at h; cases h
    | some ds =>
      rw [e1] at h
      obtain ⟨p, vs, rfl, h2, h3⟩ := D.lis_rep e1 h1
      cases e2 : dInts ds with
      | none => simp only [Option.bind_some, e2] at h; cases h
      | some ns =>
        simp only [Option.bind_some, e2, Option.map_some] at h
        cases h
        have e3 := dInts_rep e2 h3
        subst e3
        exact ⟨p, ns, rfl, h2, k _ H (Same.refl H) rfl⟩
  · cases h
theorem ca_any : CaD K (rAny K) fAny := by
  intro H Z l d xs Q hz r h k
  unfold fAny at h
  split at h
  · obtain ⟨v, rfl, h1⟩ := r.inv1
    rename_i e
    cases e1 : e.lis with
    | none => rw [e1] at h; cases h
    | some ds =>
      rw [e1] at h
      obtain ⟨p, vs, rfl, h2, h3⟩ := D.lis_rep e1 h1
      cases e2 : dBls ds with
      | none => simp only [Option.bind_some, e2] at h; cases h
      | some ns =>
        simp only [Option.bind_some, e2, Option.map_some] at h
        cases h
        have e3 := dBls_rep e2 h3
        subst e3
        exact ⟨p, ns, rfl, h2, k _ H (Same.refl H) rfl⟩
  · cases h
theorem ca_all : CaD K (rAll K) fAll := by
  intro H Z l d xs Q hz r h k
  unfold fAll at h
  split at h
  · obtain ⟨v, rfl, h1⟩ := r.inv1
    rename_i e
    cases e1 : e.lis with
    | none => rw [e1] at h; cases h
    | some ds =>
      rw [e1] at h
      obtain ⟨p, vs, rfl, h2, h3⟩ := D.lis_rep e1 h1
      cases e2 : dBls ds with
      | none => simp only [Option.bind_some, e2] at h; cases h
      | some ns =>
        simp only [Option.bind_some, e2, Option.map_some] at h
        cases h
        have e3 := dBls_rep e2 h3
        subst e3
        exact ⟨p, ns, rfl, h2, k _ H (Same.refl H) rfl⟩
  · cases h
end
end DL
set_option Elab.async false
set_option linter.all false
set_option maxRecDepth 100000
set_option maxHeartbeats 4000000
namespace DL
open PySem PySem.Spec PyProof.Rows L2
variable [CTab]
/-! ### max, min -/
section
theorem maxI_spec : ∀ {r : List Int} {n : Int}, r.foldl max n ∈ n :: r ∧ ∀ y ∈ n :: r, y ≤ r.foldl max n
  | [], n => by simp
  | a :: r, n => by
    obtain ⟨h1, h2⟩ := maxI_spec (r := r) (n := max n a)
    rw [List.foldl_cons]
    refine ⟨?_, fun y hy => ?_⟩
    · rcases List.mem_cons.mp h1 with e | h
      · rw [e]
        by_cases hc : n ≤ a
        · rw [Int.max_eq_right hc]; simp
        · rw [Int.max_eq_left (by omega)]; simp
      · exact List.mem_cons_of_mem _ (List.mem_cons_of_mem _ h)
    · have h0 := h2 (max n a) List.mem_cons_self
      rcases List.mem_cons.mp hy with e | hy
      · subst e
        exact Int.le_trans (Int.le_max_left _ _) h0
      · rcases List.mem_cons.mp hy with e | hy
        · subst e
          exact Int.le_trans (Int.le_max_right _ _) h0
        · exact h2 y (List.mem_cons_of_mem _ hy)
theorem minI_spec : ∀ {r : List Int} {n : Int}, r.foldl min n ∈ n :: r ∧ ∀ y ∈ n :: r, r.foldl min n ≤ y
  | [], n => by simp
  | a :: r, n => by
    obtain ⟨h1, h2⟩ := minI_spec (r := r) (n := min n a)
    rw [List.foldl_cons]
    refine ⟨?_, fun y hy => ?_⟩
    · rcases List.mem_cons.mp h1 with e | h
      · rw [e]
        by_cases hc : n ≤ a
        · rw [Int.min_eq_left hc]; simp
        · rw [Int.min_eq_right (by omega)]; simp
      · exact List.mem_cons_of_mem _ (List.mem_cons_of_mem _ h)
    · have h0 := h2 (min n a) List.mem_cons_self
      rcases List.mem_cons.mp hy with e | hy
      · subst e
        exact Int.le_trans h0 (Int.min_le_left _ _)
      · rcases List.mem_cons.mp hy with e | hy
        · subst e
          exact Int.le_trans h0 (Int.min_le_right _ _)
        · exact h2 y (List.mem_cons_of_mem _ hy)
variable {X : Cx} {K : PySem.W.Frag} {H : Hp} {Z : Addr → Prop}
theorem ca_max : CaD K (fun xs H Q => rMax K xs H Q ∨ ∃ i j, xs = [.int i, .int j] ∧ Q (.int (if j > i then j else i)) H) fMax := by
  intro H Z l d xs Q hz r h k
  unfold fMax at h
  split at h
  · rename_i e
    obtain ⟨v, rfl, h1⟩ := r.inv1
    cases e1 : e.lis with
    | none => rw [e1] at h; cases h
    | some ds =>
      obtain ⟨p, vs, rfl, h2, h3⟩ := D.lis_rep e1 h1
      cases e2 : dInts ds with
      | none => simp only [e1, Option.bind_some, e2] at h; cases h
      | some ns =>
        have e3 := dInts_rep e2 h3
        subst e3
        simp only [e1, Option.bind_some, e2] at h
        cases ns with
        | nil => cases h
        | cons n r =>
          cases h
          obtain ⟨g1, g2⟩ := maxI_spec (r := r) (n := n)
          refine .inl ⟨p, n :: r, rfl, h2, by simp, fun m hm hall => k _ H (Same.refl H) ?_⟩
          show V.int m = V.int _
          rw [Int.le_antisymm (g2 m hm) (hall _ g1)]
  · cases h
    obtain ⟨v, u, rfl, h1, h2⟩ := r.inv2
    cases (show v = _ from h1)
    cases (show u = _ from h2)
    exact .inr ⟨_, _, rfl, k _ H (Same.refl H) rfl⟩
  · cases h
theorem ca_min : CaD K (fun xs H Q => rMin K xs H Q ∨ ∃ i j, xs = [.int i, .int j] ∧ Q (.int (if j < i then j else i)) H) fMin := by
  intro H Z l d xs Q hz r h k
  unfold fMin at h
  split at h
  · rename_i e
    obtain ⟨v, rfl, h1⟩ := r.inv1
    cases e1 : e.lis with
    | none => rw [e1] at h; cases h
    | some ds =>
      obtain ⟨p, vs, rfl, h2, h3⟩ := D.lis_rep e1 h1
      cases e2 : dInts ds with
      | none => simp only [e1, Option.bind_some, e2] at h; cases h
      | some ns =>
        have e3 := dInts_rep e2 h3
        subst e3
        simp only [e1, Option.bind_some, e2] at h
        cases ns with
        | nil => cases h
        | cons n r =>
          cases h
          obtain ⟨g1, g2⟩ := minI_spec (r := r) (n := n)
          refine .inl ⟨p, n :: r, rfl, h2, by simp, fun m hm hall => k _ H (Same.refl H) ?_⟩
          show V.int m = V.int _
          rw [Int.le_antisymm (hall _ g1) (g2 m hm)]
  · cases h
    obtain ⟨v, u, rfl, h1, h2⟩ := r.inv2
    cases (show v = _ from h1)
    cases (show u = _ from h2)
    exact .inr ⟨_, _, rfl, k _ H (Same.refl H) rfl⟩
  · cases h
theorem call_maxA (hc : X.calm = true) : CallR X (.builtin "max") (fun xs H Q => rMax X.K xs H Q ∨ ∃ i j, xs = [.int i, .int j] ∧ Q (.int (if j > i then j else i)) H) := (cr_max hc).or (call_max2 hc)
theorem call_minA (hc : X.calm = true) : CallR X (.builtin "min") (fun xs H Q => rMin X.K xs H Q ∨ ∃ i j, xs = [.int i, .int j] ∧ Q (.int (if j < i then j else i)) H) := (cr_min hc).or (call_min2 hc)
end
/-! ### sorted -/
def insB {α : Type} (le : α → α → Bool) (a : α) : List α → List α
  | [] => [a]
  | b :: r => if le a b = true then a :: b :: r else b :: insB le a r
def isort {α : Type} (le : α → α → Bool) : List α → List α
  | [] => []
  | a :: r => insB le a (isort le r)
section
variable {α : Type} {le : α → α → Bool}
theorem insB_perm (a : α) : ∀ l : List α, (insB le a l).Perm (a :: l)
  | [] => .refl _
  | b :: r => by
    unfold insB
    split
    · exact .refl _
    · exact ((insB_perm a r).cons b).trans (.swap a b r)
theorem isort_perm : ∀ l : List α, (isort le l).Perm l
  | [] => .refl _
  | a :: r => (insB_perm a _).trans ((isort_perm r).cons a)
theorem insB_pw (tr : ∀ a b c, le a b = true → le b c = true → le a c = true) (tot : ∀ a b, le a b = true ∨ le b a = true) (a : α) : ∀ l : List α, l.Pairwise (fun x y => le x y = true) → (insB le a l).Pairwise (fun x y => le x y = true)
  | [], _ => by simp [insB]
  | b :: r, h => by
    obtain ⟨h1, h2⟩ := List.pairwise_cons.mp h
    unfold insB
    split
    · rename_i hab
      refine List.pairwise_cons.mpr ⟨fun y hy => ?_, h⟩
      rcases List.mem_cons.mp hy with e | hy
      · rw [e]; exact hab
      · exact tr _ _ _ hab (h1 y hy)
    · rename_i hab
      refine List.pairwise_cons.mpr ⟨fun y hy => ?_, insB_pw tr tot a r h2⟩
      rcases List.mem_cons.mp ((insB_perm a r).mem_iff.mp hy) with e | hy
      · rw [e]; exact (tot a b).resolve_left hab
      · exact h1 y hy
theorem isort_pw (tr : ∀ a b c, le a b = true → le b c = true → le a c = true) (tot : ∀ a b, le a b = true ∨ le b a = true) : ∀ l : List α, (isort le l).Pairwise (fun x y => le x y = true)
  | [] => .nil
  | a :: r => insB_pw tr tot a _ (isort_pw tr tot r)
end
def leI (a b : Int) : Bool := decide (a ≤ b)
def leS (a b : Str) : Bool := !decide (b.cps.toList < a.cps.toList)
theorem leI_tr (a b c : Int) (h1 : leI a b = true) (h2 : leI b c = true) : leI a c = true := decide_eq_true (Int.le_trans (of_decide_eq_true h1) (of_decide_eq_true h2))
theorem leI_tot (a b : Int) : leI a b = true ∨ leI b a = true := (Int.le_total a b).imp decide_eq_true decide_eq_true
theorem leS_iff (a b : Str) : leS a b = true ↔ a.cps.toList ≤ b.cps.toList := by
  unfold leS
  rw [Bool.not_eq_true', decide_eq_false_iff_not]
  exact List.not_lt
theorem leS_tr (a b c : Str) (h1 : leS a b = true) (h2 : leS b c = true) : leS a c = true := (leS_iff a c).mpr (List.le_trans ((leS_iff a b).mp h1) ((leS_iff b c).mp h2))
theorem leS_tot (a b : Str) : leS a b = true ∨ leS b a = true := (List.le_total a.cps.toList b.cps.toList).imp (leS_iff a b).mpr (leS_iff b a).mpr
theorem str_ext {a b : Str} (h : a.cps.toList = b.cps.toList) : a = b := by
  obtain ⟨⟨x⟩⟩ := a
  obtain ⟨⟨y⟩⟩ := b
  exact congrArg (fun l => (⟨⟨l⟩⟩ : Str)) h
theorem leS_anti (a b : Str) (h1 : leS a b = true) (h2 : leS b a = true) : a = b := str_ext (List.le_antisymm ((leS_iff a b).mp h1) ((leS_iff b a).mp h2))
theorem risingS_pw : ∀ (r : List Str) (p : Str), PyProof.Rows.risingS p r = true → (p :: r).Pairwise fun x y => leS x y = true
  | [], p, _ => by simp
  | x :: r, p, h => by
    have h' : (!ltCps x.cps.toList p.cps.toList && PyProof.Rows.risingS x r) = true := h
    obtain ⟨h1, h2⟩ := Bool.and_eq_true_iff.mp h'
    have ih := risingS_pw r x h2
    have hp : leS p x = true := by
      unfold leS
      rw [← PyProof.Rows.ltCps_eq]
      exact h1
    refine List.pairwise_cons.mpr ⟨fun y hy => ?_, ih⟩
    rcases List.mem_cons.mp hy with e | hy
    · rw [e]; exact hp
    · exact leS_tr _ _ _ hp ((List.pairwise_cons.mp ih).1 y hy)
theorem sortedS_pw : ∀ {l : List Str}, PyProof.Rows.sortedS l = true → l.Pairwise fun x y => leS x y = true
  | [], _ => .nil
  | x :: r, h => risingS_pw r x h
def fSorted : List D → Option D
  | [d] => d.lis.bind fun l => match dInts l with
    | some ns => some (.lst ((isort leI ns).map .int))
    | none => match dStrs l with
      | some ss => if ss.length < 64 then some (.lst ((isort leS ss).map .str)) else none
      | none => none
  | _ => none
section
variable {X : Cx} {K : PySem.W.Frag} {H : Hp} {Z : Addr → Prop}
theorem reps_ints : ∀ ns : List Int, Reps K H Z (ns.map .int) (ns.map V.int)
  | [] => rfl
  | n :: r => Reps.cons rfl (reps_ints r)
theorem reps_strs : ∀ ns : List Str, Reps K H Z (ns.map .str) (ns.map V.str)
  | [] => rfl
  | n :: r => Reps.cons rfl (reps_strs r)
theorem reps_bls : ∀ ns : List Bool, Reps K H Z (ns.map .bl) (ns.map V.bl)
  | [] => rfl
  | n :: r => Reps.cons rfl (reps_bls r)
theorem ca_sorted : CaD K (fun xs H Q => rSortedI K xs H Q ∨ rSortedS K xs H Q) fSorted := by
  intro H Z l d xs Q hz r h k
  unfold fSorted at h
  split at h
  · rename_i e
    obtain ⟨v, rfl, h1⟩ := r.inv1
    cases e1 : e.lis with
    | none => rw [e1] at h; cases h
    | some ds =>
      obtain ⟨p, vs, rfl, h2, h3⟩ := D.lis_rep e1 h1
      rw [e1, Option.bind_some] at h
      cases e2 : dInts ds with
      | some ns =>
        rw [e2] at h
        cases h
        have e3 := dInts_rep e2 h3
        subst e3
        refine .inl ⟨p, ns, rfl, h2, fun ns' q hp hs hq => ?_⟩
        have e4 : ns' = isort leI ns := List.Perm.eq_of_pairwise (le := fun a b => leI a b = true) (fun a b _ _ q1 q2 => Int.le_antisymm (of_decide_eq_true q1) (of_decide_eq_true q2)) (hs.imp decide_eq_true) (isort_pw leI_tr leI_tot ns) (hp.trans (isort_perm ns).symm)
        subst e4
        exact k _ _ (same_upd hq) (new_lst hz hq (reps_ints _))
      | none =>
        rw [e2] at h
        cases e5 : dStrs ds with
        | none => simp only [e5] at h; cases h
        | some ss =>
          simp only [e5] at h
          split at h
          · rename_i h64
            cases h
            have e3 := dStrs_rep e5 h3
            subst e3
            refine .inr ⟨p, ss, rfl, h2, h64, fun ys q hp hs hq => ?_⟩
            have e4 : ys = isort leS ss := List.Perm.eq_of_pairwise (le := fun a b => leS a b = true) (fun a b _ _ q1 q2 => leS_anti a b q1 q2) (sortedS_pw hs) (isort_pw leS_tr leS_tot ss) (hp.trans (isort_perm ss).symm)
            subst e4
            exact k _ _ (same_upd hq) (new_lst hz hq (reps_strs _))
          · cases h
  · cases h
theorem call_sortedA : CallR X (.builtin "sorted") (fun xs H Q => rSortedI X.K xs H Q ∨ rSortedS X.K xs H Q) := cr_sortedI.or cr_sortedS
end
/-! ### isinstance -/
/-- the name of a built-in type -/
def D.tn : D → Option String
  | .non => some "NoneType"
  | .bl _ => some "bool"
  | .int _ => some "int"
  | .str _ => some "str"
  | .lst _ => some "list"
  | .rol _ => some "list"
  | .tup _ => some "tuple"
  | .dct _ _ => some "dict"
  | .ob _ _ => none
section
variable {X : Cx} {K : PySem.W.Frag} {H : Hp} {Z : Addr → Prop}
theorem D.tyx {d : D} {n : String} {v : V} (h : d.tn = some n) (r : Rep K H Z d v) : TyX K H v (.type n) := by
  cases d with
  | non => cases h; cases (show v = _ from r); exact .base .non
  | bl b => cases h; cases (show v = _ from r); exact .base (.bl b)
  | int b => cases h; cases (show v = _ from r); exact .base (.int b)
  | str b => cases h; cases (show v = _ from r); exact .base (.str b)
  | lst l =>
    cases h
    simp only [Rep] at r
    obtain ⟨p, vs, rfl, ⟨_, h1⟩, h2⟩ := r
    rcases h1 with h1 | ⟨o, h1⟩
    · exact .base (.lst h1)
    · exact .base (.frz h1)
  | rol l =>
    cases h
    simp only [Rep] at r
    obtain ⟨p, vs, rfl, h1, h2⟩ := r
    rcases h1 with ⟨_, h1 | ⟨o, h1⟩⟩ | ⟨o, its, n, h1, h3, _⟩
    · exact .base (.lst h1)
    · exact .base (.frz h1)
    · exact .kList h1 h3
  | tup l =>
    cases h
    simp only [Rep] at r
    obtain ⟨p, vs, rfl, h1, h2⟩ := r
    rcases h1 with ⟨_, h1 | ⟨o, h1⟩⟩ | ⟨o, its, n, h1, h3, _⟩
    · exact .base (.tup h1)
    · exact .fTuple h1
    · exact .kTuple h1 h3
  | dct ks l =>
    cases h
    simp only [Rep] at r
    obtain ⟨p, vs, rfl, _, h1, _, h2⟩ := r
    rcases h1 with h1 | ⟨o, h1⟩
    · exact .base (.dK h1)
    · exact .fDict h1
  | ob _ _ => cases h
end
end DL
set_option Elab.async false
set_option linter.all false
set_option maxRecDepth 100000
set_option maxHeartbeats 4000000
namespace DL
open PySem PySem.Spec PyProof.Rows L2
variable [CTab]
/-! ### types of data, isinstance -/
inductive Ty where
  | non | bool | int | str | list | tuple | dict
  deriving DecidableEq
def Ty.nm : Ty → String
  | .non => "NoneType" | .bool => "bool" | .int => "int" | .str => "str" | .list => "list" | .tuple => "tuple" | .dict => "dict"
def Ty.sub : Ty → Ty → Bool
  | .bool, .int => true
  | a, b => decide (a = b)
def D.ty : D → Option Ty
  | .non => some .non
  | .bl _ => some .bool
  | .int _ => some .int
  | .str _ => some .str
  | .lst _ => some .list
  | .rol _ => some .list
  | .tup _ => some .tuple
  | .dct _ _ => some .dict
  | .ob _ _ => none
theorem kit_all (t T : Ty) : kitB t.nm T.nm = some (t.sub T) := by
  cases t <;> cases T <;> decide +kernel
theorem D.tyx' {K : PySem.W.Frag} {H : Hp} {Z : Addr → Prop} {d : D} {t : Ty} {v : V} (h : d.ty = some t) (r : Rep K H Z d v) : TyX K H v (.type t.nm) := by
  have e : d.tn = some t.nm := by cases d <;> cases h <;> rfl
  exact D.tyx e r
/-- what an instance's class must be for isinstance -/
structure ClsI (K : PySem.W.Frag) (C : Addr) : Prop where
  cl : Cls K C
  ha : PySem.W.findIn K (.ref C) "__class__" = some (some (.builtin "object.__class__"))
  hn : PySem.W.specialIn K (.builtin "object.__class__") "__get__" = some (some (.builtin "getset_descriptor.__get__"))
  htk : PySem.W.takesIn K (.builtin "object.__class__") = some true
  hm : PySem.W.mroIn K C (.type "object") = some true
def clsIB (K : PySem.W.Frag) (x : Str) : Bool := (He.Fa.cls x).ok K && (He.eqO (PySem.W.findIn K (.ref (He.ga K x)) "__class__") (some (some (.builtin "object.__class__"))) && (He.eqO (PySem.W.specialIn K (.builtin "object.__class__") "__get__") (some (some (.builtin "getset_descriptor.__get__"))) &&
  (decide (PySem.W.takesIn K (.builtin "object.__class__") = some true) && decide (PySem.W.mroIn K (He.ga K x) (.type "object") = some true))))
theorem clsIB_ok {K : PySem.W.Frag} {x : Str} (h : clsIB K x = true) : ClsI K (He.ga K x) := by
  obtain ⟨h1, h⟩ := He.ba h
  obtain ⟨h2, h⟩ := He.ba h
  obtain ⟨h3, h⟩ := He.ba h
  obtain ⟨h4, h5⟩ := He.ba h
  exact ⟨He.cls_ok h1, He.eqO_ok h2, He.eqO_ok h3, of_decide_eq_true h4, of_decide_eq_true h5⟩
/-- the facts of the plain classes numbered below n -/
structure CFacts (K : PySem.W.Frag) (n : Nat) : Prop where
  cls : ∀ c, c < n → ClsI K (He.ga K (cN c))
  noat : ∀ c f, c < n → f ∈ cF c → NoAttr K (He.ga K (cN c)) f
  nd : ∀ c, c < n → (cF c).Nodup
  isi : ∀ c e, c < n → e < n → PySem.W.kitOne K (.ref (He.ga K (cN c))) (.ref (He.ga K (cN e))) = some (c == e)
  bui : ∀ (t : Ty) e, e < n → PySem.W.kitOne K (.type t.nm) (.ref (He.ga K (cN e))) = some false
def Ty.all : List Ty := [.non, .bool, .int, .str, .list, .tuple, .dict]
theorem Ty.mem (t : Ty) : t ∈ Ty.all := by cases t <;> simp [Ty.all]
def cfactsB (K : PySem.W.Frag) (n : Nat) : Bool := (List.range n).all fun c => clsIB K (cN c) && (((cF c).all fun f => (He.Fa.noat (cN c) f).ok K) && (decide (cF c).Nodup &&
  (((List.range n).all fun e => decide (PySem.W.kitOne K (.ref (He.ga K (cN c))) (.ref (He.ga K (cN e))) = some (c == e))) && Ty.all.all fun t => decide (PySem.W.kitOne K (.type t.nm) (.ref (He.ga K (cN c))) = some false))))
theorem cfacts_ok {K : PySem.W.Frag} {n : Nat} (h : cfactsB K n = true) : CFacts K n := by
  have at_ : ∀ c, c < n → _ := fun c hc => List.all_eq_true.mp h c (List.mem_range.mpr hc)
  refine ⟨fun c hc => clsIB_ok (He.ba (at_ c hc)).1, fun c f hc hf => ?_, fun c hc => ?_, fun c e hc he => ?_, fun t e he => ?_⟩
  · exact He.noat_ok (List.all_eq_true.mp (He.ba (He.ba (at_ c hc)).2).1 f hf)
  · exact of_decide_eq_true (He.ba (He.ba (He.ba (at_ c hc)).2).2).1
  · exact of_decide_eq_true (List.all_eq_true.mp (He.ba (He.ba (He.ba (He.ba (at_ c hc)).2).2).2).1 e (List.mem_range.mpr he))
  · exact of_decide_eq_true (List.all_eq_true.mp (He.ba (He.ba (He.ba (He.ba (at_ e he)).2).2).2).2 t (Ty.mem t))
def isTy (T : Ty) (d : D) : Option Bool := d.ty.map fun t => t.sub T
def isTys (Ts : List Ty) (d : D) : Option Bool := d.ty.map fun t => Ts.any fun T => t.sub T
def isCl (n e : Nat) : D → Option Bool
  | .ob c _ => if c < n then some (c == e) else none
  | d => d.ty.map fun _ => false
def mIs (f : D → Option Bool) (m : M D) : M D := m1 (fun d => (f d).map .bl) m
section
variable {X : Cx} {E : XK} {pos p p2 : Pos} {e : Expr} {m : M D}
theorem d_isTy (T : Ty) {y : Str} {tp : Pos} (he : PE X e (tD X.K E m)) (hm : X.mg "isinstance" = none) (hy : X.mg y = none) (hv : bootBuiltins y = some (.type T.nm)) (hg : Gl X "isinstance" := by rfl) (hgy : Gl X y := by rfl) (hn : y ≠ "__name__" := by decide) (hd : (y == ("__debug__" : Str)) = false := by decide)
    (hs : starEach [e, .Name y tp] X.env = (false, eval e X.env) :: starEach [.Name y tp] X.env := by rfl) (hs2 : starEach [.Name y tp] X.env = (false, eval (.Name y tp) X.env) :: starEach [] X.env := by rfl) (hpl : (backTo pos (starEach [.Name y tp] X.env)).any (·.1) = false := by rfl) :
    PE X (.Call (.Name "isinstance" p) [e, .Name y tp] [] pos) (tD X.K E (mIs (isTy T) m)) := by
  have hb : PE X (.Name y tp) (tC (.ty T.nm)) := pe_bltn hgy hy hv rfl hn hd
  refine (pe_callB call_isi hg hm (by decide +kernel) (pa_cons he (pa_cons hb pa_nil hs2) hs) (by decide) (by decide) hs hpl).imp fun σ H Q h => ?_
  obtain ⟨c, Z, ρ, r, q⟩ := h
  refine ⟨c, Z, ρ, r, q.bind fun d ρ1 v H1 r1 e1 h1 q1 => ?_⟩
  obtain ⟨w, hw, k⟩ := q1.lift r1
  cases ht : d.ty with
  | none => simp [isTy, ht] at hw
  | some t =>
    simp only [isTy, ht, Option.map_some, Option.some.injEq] at hw
    subst hw
    exact ⟨v, _, _, _, t.sub T, rfl, .ty T.nm, D.tyx' ht h1, kit_ty (kit_all t T), k _ H1 (Same.refl H1) rfl⟩
theorem d_isTys2 (T S : Ty) {y z : Str} {yp zp : Pos} {kt : Nat} {tp : Pos} (he : PE X e (tD X.K E m)) (hm : X.mg "isinstance" = none) (hy : X.mg y = none) (hz : X.mg z = none) (hv : bootBuiltins y = some (.type T.nm)) (hw : bootBuiltins z = some (.type S.nm)) (hg : Gl X "isinstance" := by rfl) (hgy : Gl X y := by rfl) (hgz : Gl X z := by rfl)
    (hn : y ≠ "__name__" := by decide) (hd : (y == ("__debug__" : Str)) = false := by decide) (hn2 : z ≠ "__name__" := by decide) (hd2 : (z == ("__debug__" : Str)) = false := by decide)
    (hs : starEach [e, .Tuple [.Name y yp, .Name z zp] kt tp] X.env = (false, eval e X.env) :: starEach [.Tuple [.Name y yp, .Name z zp] kt tp] X.env := by rfl)
    (hs2 : starEach [.Tuple [.Name y yp, .Name z zp] kt tp] X.env = (false, eval (.Tuple [.Name y yp, .Name z zp] kt tp) X.env) :: starEach [] X.env := by rfl) (hpl : (backTo pos (starEach [.Tuple [.Name y yp, .Name z zp] kt tp] X.env)).any (·.1) = false := by rfl)
    (hs3 : starEach [.Name y yp, .Name z zp] X.env = (false, eval (.Name y yp) X.env) :: starEach [.Name z zp] X.env := by rfl) (hs4 : starEach [.Name z zp] X.env = (false, eval (.Name z zp) X.env) :: starEach [] X.env := by rfl) :
    PE X (.Call (.Name "isinstance" p) [e, .Tuple [.Name y yp, .Name z zp] kt tp] [] pos) (tD X.K E (mIs (isTys [T, S]) m)) := by
  have hb : PE X (.Name y yp) (tC (.ty T.nm)) := pe_bltn hgy hy hv rfl hn hd
  have hc : PE X (.Name z zp) (tC (.ty S.nm)) := pe_bltn hgz hz hw rfl hn2 hd2
  have ht : PE X (.Tuple [.Name y yp, .Name z zp] kt tp) (tTup (tCons (tC (.ty T.nm)) (tCons (tC (.ty S.nm)) tNil))) := pe_tup (pa_cons hb (pa_cons hc pa_nil hs4) hs3)
  refine (pe_callB call_isiT hg hm (by decide +kernel) (pa_cons he (pa_cons ht pa_nil hs2) hs) (by decide) (by decide) hs hpl).imp fun σ H Q h => ?_
  obtain ⟨c, Z, ρ, r, q⟩ := h
  refine ⟨c, Z, ρ, r, q.bind fun d ρ1 v H1 r1 e1 h1 q1 => ?_⟩
  obtain ⟨w, hw, k⟩ := q1.lift r1
  cases ht : d.ty with
  | none => simp [isTys, ht] at hw
  | some t =>
    simp only [isTys, ht, Option.map_some, Option.some.injEq] at hw
    subst hw
    refine ⟨by show 2 ≤ sizeLine; decide, fun a ha => ?_⟩
    have s := same_upd (o := .tup [V.ty T.nm, V.ty S.nm]) ha
    have h2 : TyX X.K (upd H1 a (.tup [V.ty T.nm, V.ty S.nm])) v (.type t.nm) := D.tyx' ht (h1.ext (Ext.same s))
    refine ⟨v, a, [.ty T.nm, .ty S.nm], _, [.type T.nm, .type S.nm], [T, S].any fun T => t.sub T, rfl, upd_same, .cons (.ty _) (.cons (.ty _) .nil), h2, ?_, k _ _ s rfl⟩
    refine kitAny_cons (kit_ty (kit_all t T)) (fun _ => kitAny_cons (kit_ty (kit_all t S)) (fun _ => ?_) (fun h => ?_)) (fun h => ?_)
    · rename_i h1 h2
      rw [kitAny_nil]
      simp [h1, h2]
    · simp [h]
    · simp [h]
theorem d_isCl {n : Nat} (cf : CFacts X.K n) (ec : Nat) (hec : ec < n) {y : Str} {tp : Pos} (hy : y = cN ec) (he : PE X e (tD X.K E m)) (hm : X.mg "isinstance" = none) (hmy : X.mg y = some (.ref (He.ga X.K y))) (hg : Gl X "isinstance" := by rfl) (hgy : Gl X y := by rfl) (hd : (y == ("__debug__" : Str)) = false := by decide)
    (hs : starEach [e, .Name y tp] X.env = (false, eval e X.env) :: starEach [.Name y tp] X.env := by rfl) (hs2 : starEach [.Name y tp] X.env = (false, eval (.Name y tp) X.env) :: starEach [] X.env := by rfl) (hpl : (backTo pos (starEach [.Name y tp] X.env)).any (·.1) = false := by rfl) :
    PE X (.Call (.Name "isinstance" p) [e, .Name y tp] [] pos) (tD X.K E (mIs (isCl n ec) m)) := by
  subst hy
  have hb : PE X (.Name (cN ec) tp) (tC (.ref (He.ga X.K (cN ec)))) := pe_glob hgy hmy rfl hd
  refine (pe_callB call_isi hg hm (by decide +kernel) (pa_cons he (pa_cons hb pa_nil hs2) hs) (by decide) (by decide) hs hpl).imp fun σ H Q h => ?_
  obtain ⟨c, Z, ρ, r, q⟩ := h
  refine ⟨c, Z, ρ, r, q.bind fun d ρ1 v H1 r1 e1 h1 q1 => ?_⟩
  obtain ⟨w, hw, k⟩ := q1.lift r1
  have h1 : Rep X.K H1 Z d v := h1
  have plain : ∀ t, d.ty = some t → isCl n ec d = some false → tC (.ref (He.ga X.K (cN ec))) σ H1 fun x H2 => rIsi X.K [v, x] H2 Q := fun t ht hi => by
    have hw : (isCl n ec d).map D.bl = some w := hw
    rw [hi] at hw
    cases hw
    exact ⟨v, _, _, _, false, rfl, .own _, D.tyx' ht h1, cf.bui t ec hec, k _ H1 (Same.refl H1) rfl⟩
  cases d with
  | ob c l =>
    have hw : (if c < n then some (c == ec) else none).map D.bl = some w := hw
    split at hw
    · rename_i hc
      cases hw
      simp only [Rep] at h1
      obtain ⟨a, dx, vs, rfl, _, h2, _⟩ := h1
      have g := cf.cls c hc
      exact ⟨_, _, _, _, c == ec, rfl, .own _, .base (.ins h2 g.cl g.ha g.hn g.htk g.hm), cf.isi c ec hc hec, k _ H1 (Same.refl H1) rfl⟩
    · cases hw
  | non => exact plain _ rfl rfl
  | bl _ => exact plain _ rfl rfl
  | int _ => exact plain _ rfl rfl
  | str _ => exact plain _ rfl rfl
  | lst _ => exact plain _ rfl rfl
  | rol _ => exact plain _ rfl rfl
  | tup _ => exact plain _ rfl rfl
  | dct _ _ => exact plain _ rfl rfl
end
/-! ### fields -/
/-- o.f: fs tells for each class where f stands -/
def dFld (fs : List (Nat × Nat)) : D → Option D
  | .ob c l => (fs.lookup c).bind fun i => l[i]?
  | _ => none
theorem lookup_zip {f : Str} : ∀ {ns : List Str} {vs : List V} {i : Nat} {v : V}, ns.Nodup → ns[i]? = some f → vs[i]? = some v → (ns.zip vs).lookup f = some v
  | [], _, i, _, _, h, _ => by simp at h
  | n :: ns, [], i, _, _, _, h => by simp at h
  | n :: ns, u :: vs, 0, v, _, h1, h2 => by
    simp only [List.getElem?_cons_zero, Option.some.injEq] at h1 h2
    subst h1 h2
    rw [List.zip_cons_cons, List.lookup_cons_self]
  | n :: ns, u :: vs, i + 1, v, nd, h1, h2 => by
    obtain ⟨hn, hr⟩ := List.nodup_cons.mp nd
    simp only [List.getElem?_cons_succ] at h1 h2
    have hne : (f == n) = false := by
      refine beq_eq_false_iff_ne.mpr fun e => ?_
      subst e
      exact hn (List.mem_of_getElem? h1)
    rw [List.zip_cons_cons, List.lookup_cons, hne]
    exact lookup_zip hr h1 h2
theorem lookup_mem {fs : List (Nat × Nat)} {c i : Nat} : fs.lookup c = some i → (c, i) ∈ fs := by
  induction fs with
  | nil => intro h; cases h
  | cons p r ih =>
    obtain ⟨a, b⟩ := p
    rw [List.lookup_cons]
    cases e : c == a with
    | true =>
      intro h
      cases h
      rw [eq_of_beq e]
      exact List.mem_cons_self
    | false =>
      intro h
      exact List.mem_cons_of_mem _ (ih h)
section
variable {X : Cx} {E : XK} {pos : Pos} {e : Expr} {m : M D}
theorem d_fld {n : Nat} {f : Str} (cf : CFacts X.K n) (fs : List (Nat × Nat)) (he : PE X e (tD X.K E m)) (hf : (fs.all fun q => decide (q.1 < n) && decide ((cF q.1)[q.2]? = some f)) = true := by decide +kernel)
    (hb : attributeBase e f X.env (eval e X.env) = eval e X.env := by rfl) : PE X (.Attribute e f pos) (tD X.K E (m1 (dFld fs) m)) := by
  refine (pe_fld he hb).imp fun σ H Q h => ?_
  obtain ⟨c, Z, ρ, r, q⟩ := h
  refine ⟨c, Z, ρ, r, q.bind fun d ρ1 v H1 r1 e1 h1 q1 => ?_⟩
  obtain ⟨w, hw, k⟩ := q1.lift r1
  have h1 : Rep X.K H1 Z d v := h1
  unfold dFld at hw
  split at hw
  · rename_i c' l _
    cases hl : fs.lookup c' with
    | none => rw [hl] at hw; cases hw
    | some i =>
      rw [hl] at hw
      have hw : l[i]? = some w := hw
      obtain ⟨g1, g2⟩ := Bool.and_eq_true_iff.mp (List.all_eq_true.mp hf _ (lookup_mem hl))
      have g1 := of_decide_eq_true g1
      have g2 := of_decide_eq_true g2
      simp only [Rep] at h1
      obtain ⟨a, dx, vs, rfl, _, h2, _, h3⟩ := h1
      obtain ⟨u, hu, ru⟩ := h3.get hw
      exact ⟨a, _, dx, _, u, rfl, h2, (cf.cls c' g1).cl, cf.noat c' f g1 (List.mem_of_getElem? g2), lookup_zip (cf.nd c' g1) g2 hu, k _ H1 (Same.refl H1) ru⟩
  · cases hw
end
end DL
set_option Elab.async false
set_option linter.all false
set_option maxRecDepth 100000
set_option maxHeartbeats 4000000
namespace DL
open PySem PySem.Spec PyProof.Rows L2
variable [CTab]
/-! ### what a def is -/
/-- how a def's run ends: its value, what became of the things handed in to be changed -/
inductive FR where
  | fail
  | ok (d : D) (ts : List Ct)
  | exc (c : Nat) (l : List D)
abbrev FD := List W → FR
def RepWs (K : PySem.W.Frag) (H : Hp) (Z : Addr → Prop) : List W → List V → Prop
  | [], vs => vs = []
  | .val d :: ws, vs => ∃ v r, vs = v :: r ∧ Rep K H Z d v ∧ RepWs K H Z ws r
  | .inn t :: ws, vs => ∃ p r, vs = .ref p :: r ∧ Z p ∧ RepC K H Z t p ∧ RepWs K H Z ws r
  | .own _ :: _, _ => False
/-- where the things handed in to be changed stand -/
def inAd : List W → List V → List Addr
  | .inn _ :: ws, .ref p :: vs => p :: inAd ws vs
  | _ :: ws, _ :: vs => inAd ws vs
  | _, _ => []
def RepCs (K : PySem.W.Frag) (H : Hp) (Z : Addr → Prop) : List Ct → List Addr → Prop
  | [], ps => ps = []
  | t :: ts, ps => ∃ p r, ps = p :: r ∧ RepC K H Z t p ∧ RepCs K H Z ts r
/-- the promise of a def -/
def spF (K : PySem.W.Frag) (n : Nat) (f : FD) : Sp := fun vs H Q E => ∃ Z ws, ws.length = n ∧ (∀ p, Z p → H p ≠ none) ∧ RepWs K H Z ws vs ∧ (inAd ws vs).Nodup ∧
  match f ws with
  | .fail => False
  | .ok d ts => ∀ v H', (∀ a o, a ∉ inAd ws vs → H a = some o → H' a = some o) → RepCs K H' Z ts (inAd ws vs) → Rep K H' Z d v → Q v H'
  | .exc c l => ∀ ed us H', (∀ a o, a ∉ inAd ws vs → H a = some o → H' a = some o) → H' ed = some (.xd ((cF c).zip us)) → us.length ≤ (cF c).length → Reps K H' Z l us → E (.ref (He.ga K (cN c))) (some ed) H'
section
variable {K : PySem.W.Frag} {H : Hp} {Z : Addr → Prop}
theorem RepWs.len : ∀ {ws : List W} {vs : List V}, RepWs K H Z ws vs → ws.length = vs.length
  | [], vs, h => by
    cases (show vs = [] from h)
    rfl
  | .val d :: ws, vs, h => by
    obtain ⟨v, r, e, _, h2⟩ := h
    subst e
    exact congrArg (· + 1) (RepWs.len h2)
  | .inn t :: ws, vs, h => by
    obtain ⟨v, r, e, _, _, h2⟩ := h
    subst e
    exact congrArg (· + 1) (RepWs.len h2)
  | .own _ :: ws, vs, h => h.elim
theorem spF_len {n : Nat} {f : FD} : ∀ vs H Q E, spF K n f vs H Q E → vs.length = n := by
  rintro vs H Q E ⟨Z, ws, h, _, h2, _⟩
  rw [← h, h2.len]
end
/-! ### arguments of a def's call: data, or a slot whose thing may be changed -/
inductive Ar where
  | d (x : D)
  | s (i : Nat)
def rAr : RG (List Ar) (List V) := fun K σ H Z as vs => Paired (fun a v => match a with
  | .d x => Rep K H Z x v
  | .s i => σ[i]? = some (some v)) as vs
def mANil : M (List Ar) := fun ρ => .ok [] ρ
def mACons (m : M D) (ms : M (List Ar)) : M (List Ar) := fun ρ => bindR (m ρ) fun d ρ => bindR (ms ρ) fun l ρ => .ok (.d d :: l) ρ
def holds (ρ : Env) (i : Nat) : Option Ct := match ρ[i]? with
  | some (some (.own t)) => some t
  | some (some (.inn t)) => some t
  | _ => none
def mASlot (i : Nat) (ms : M (List Ar)) : M (List Ar) := fun ρ => match holds ρ i with
  | some _ => bindR (ms ρ) fun l ρ => .ok (.s i :: l) ρ
  | none => .fail
theorem holds_hold {ρ : Env} {i : Nat} {t : Ct} (h : holds ρ i = some t) : ∃ w, ρ[i]? = some (some w) ∧ Hold w t := by
  unfold holds at h
  split at h
  · rename_i u e
    cases h
    exact ⟨_, e, .own _⟩
  · rename_i u e
    cases h
    exact ⟨_, e, .inn _⟩
  · cases h
section
variable {X : Cx} {E : XK} {pos p : Pos} {e : Expr} {es : List Expr} {m : M D} {ms : M (List Ar)} {K : PySem.W.Frag}
abbrev tAs (K : PySem.W.Frag) (E : XK) (m : M (List Ar)) : TA := tG K E rAr m
theorem rAr_ext {σ : St} {H H' : Hp} {Z : Addr → Prop} {as : List Ar} {vs : List V} (e : Ext Z H H') (h : rAr K σ H Z as vs) : rAr K σ H' Z as vs := Paired.mapP h fun a v q => by
  cases a with
  | d x => exact (show Rep K H Z x v from q).ext e
  | s i => exact q
theorem as_nil : PA X [] (tAs X.K E mANil) := pa_nil.imp fun σ H Q ⟨c, Z, ρ, r, q⟩ => q.done r .nil
theorem as_cons (ha : PE X e (tD X.K E m)) (hr : PA X es (tAs X.K E ms)) (hs : starEach (e :: es) X.env = (false, eval e X.env) :: starEach es X.env := by rfl) : PA X (e :: es) (tAs X.K E (mACons m ms)) := by
  refine (pa_cons ha hr hs).imp fun σ H Q h => ?_
  obtain ⟨c, Z, ρ, r, q⟩ := h
  exact ⟨c, Z, ρ, r, q.bind fun d ρ1 v H1 r1 e1 h1 q1 => ⟨c, Z, ρ1, r1, q1.bind fun l ρ2 vs H2 r2 e2 h2 q2 => q2.done r2 (.cons (show Rep _ _ _ _ _ from Rep.ext e2 _ _ h1) h2)⟩⟩
theorem as_slot (i : Nat) {x : Str} {xp : Pos} (hr : PA X es (tAs X.K E ms)) (hN : X.N[i]? = some x := by rfl) (hv : Vis X.env.scope x := by first | exact Or.inl rfl | exact Or.inr (Or.inl rfl) | exact Or.inr (Or.inr rfl)) (hd : (x == ("__debug__" : Str)) = false := by decide)
    (hcd : (x == ("__classdict__" : Str)) = false := by decide) (hs : starEach (.Name x xp :: es) X.env = (false, eval (.Name x xp) X.env) :: starEach es X.env := by rfl) : PA X (.Name x xp :: es) (tAs X.K E (mASlot i ms)) := by
  refine (pa_cons (pe_var hN hv hd hcd) hr hs).imp fun σ H Q h => ?_
  obtain ⟨c, Z, ρ, r, q⟩ := h
  unfold mASlot at q
  split at q
  · rename_i t ht
    obtain ⟨w, hw, hh⟩ := holds_hold ht
    obtain ⟨p, h1, _, _⟩ := r.hold hw hh
    exact ⟨_, h1, ⟨c, Z, ρ, r, q.bind fun l ρ2 vs H2 r2 e2 h2 q2 => q2.done r2 (.cons h1 h2)⟩⟩
  · exact q.elim
end
/-- how many arguments there are -/
class ArLen (n : outParam Nat) (ms : M (List Ar)) : Prop where
  len : ∀ ρ as ρ', ms ρ = .ok as ρ' → as.length = n
instance : ArLen 0 mANil := ⟨fun ρ as ρ' h => by cases h; rfl⟩
theorem bind_ok {α β : Type} {r : Res α} {k : α → Env → Res β} {b : β} {ρ' : Env} (h : bindR r k = .ok b ρ') : ∃ a ρ1, r = .ok a ρ1 ∧ k a ρ1 = .ok b ρ' := by
  cases r with
  | fail => cases h
  | ok a ρ1 => exact ⟨a, ρ1, rfl, h⟩
  | exc x l ρ1 => cases h
instance {n : Nat} {m : M D} {ms : M (List Ar)} [i : ArLen n ms] : ArLen (n + 1) (mACons m ms) := ⟨fun ρ as ρ' h => by
  obtain ⟨a, ρ1, _, h⟩ := bind_ok h
  obtain ⟨l, ρ2, h2, h⟩ := bind_ok h
  cases h
  exact congrArg (· + 1) (i.len _ _ _ h2)⟩
instance {n j : Nat} {ms : M (List Ar)} [i : ArLen n ms] : ArLen (n + 1) (mASlot j ms) := ⟨fun ρ as ρ' h => by
  unfold mASlot at h
  split at h
  · obtain ⟨l, ρ2, h2, h⟩ := bind_ok h
    cases h
    exact congrArg (· + 1) (i.len _ _ _ h2)
  · cases h⟩
/-! ### the call -/
/-- the arguments as they are handed over, and the one slot whose thing may be changed -/
def toWs (ρ : Env) : List Ar → Option (List W × Option Nat)
  | [] => some ([], none)
  | .d x :: r => (toWs ρ r).map fun q => (.val x :: q.1, q.2)
  | .s i :: r => match holds ρ i, toWs ρ r with
    | some t, some (ws, none) => some (.inn t :: ws, some i)
    | _, _ => none
def putBack (ρ : Env) : Option Nat → List Ct → Option Env
  | none, [] => some ρ
  | some i, [t] => match ρ[i]? with
    | some (some w) => some (ρ.set i (some (w.put t)))
    | _ => none
  | _, _ => none
def callF (f : FD) (as : List Ar) (ρ : Env) : Res D := match toWs ρ as with
  | none => .fail
  | some (ws, o) => match f ws with
    | .fail => .fail
    | .ok d ts => (match putBack ρ o ts with
      | some ρ' => .ok d ρ'
      | none => .fail)
    | .exc c l => match o with
      | none => .exc c l ρ
      | some _ => .fail
def mCall (f : FD) (ms : M (List Ar)) : M D := fun ρ => bindR (ms ρ) fun as ρ => callF f as ρ
section
variable {K : PySem.W.Frag} {E : XK} {c : Cz} {Z : Addr → Prop} {ρ : Env} {σ : St} {H : Hp}
theorem toWs_none (r : Rel K c Z ρ σ H) : ∀ {as : List Ar} {vs : List V} {ws : List W}, toWs ρ as = some (ws, none) → rAr K σ H Z as vs → RepWs K H Z ws vs ∧ inAd ws vs = []
  | [], vs, ws, h, q => by
    cases q
    simp only [toWs, Option.some.injEq, Prod.mk.injEq] at h
    obtain ⟨h1, _⟩ := h
    subst h1
    exact ⟨rfl, rfl⟩
  | .d x :: r', vs, ws, h, q => by
    cases q with
    | cons q1 q2 =>
      simp only [toWs] at h
      cases e : toWs ρ r' with
      | none => rw [e] at h; cases h
      | some y =>
        obtain ⟨ws', o⟩ := y
        rw [e] at h
        simp only [Option.map_some, Option.some.injEq, Prod.mk.injEq] at h
        obtain ⟨h1, h2⟩ := h
        subst h1 h2
        obtain ⟨g1, g2⟩ := toWs_none r e q2
        refine ⟨⟨_, _, rfl, q1, g1⟩, ?_⟩
        show inAd (.val x :: ws') _ = []
        unfold inAd
        exact g2
  | .s i :: r', vs, ws, h, q => by
    simp only [toWs] at h
    split at h <;> cases h
theorem toWs_some (r : Rel K c Z ρ σ H) {i : Nat} : ∀ {as : List Ar} {vs : List V} {ws : List W}, toWs ρ as = some (ws, some i) → rAr K σ H Z as vs → ∃ p w t, ρ[i]? = some (some w) ∧ Hold w t ∧ σ[i]? = some (some (.ref p)) ∧ RepWs K H Z ws vs ∧ inAd ws vs = [p]
  | [], vs, ws, h, q => by
    simp [toWs] at h
  | .d x :: r', vs, ws, h, q => by
    cases q with
    | cons q1 q2 =>
      simp only [toWs] at h
      cases e : toWs ρ r' with
      | none => rw [e] at h; cases h
      | some y =>
        obtain ⟨ws', o⟩ := y
        rw [e] at h
        simp only [Option.map_some, Option.some.injEq, Prod.mk.injEq] at h
        obtain ⟨h1, h2⟩ := h
        subst h1 h2
        obtain ⟨p, w, t, a1, a2, a3, g1, g2⟩ := toWs_some r e q2
        refine ⟨p, w, t, a1, a2, a3, ⟨_, _, rfl, q1, g1⟩, ?_⟩
        show inAd (.val x :: ws') _ = [p]
        unfold inAd
        exact g2
  | .s j :: r', vs, ws, h, q => by
    cases q with
    | cons q1 q2 =>
      simp only [toWs] at h
      split at h
      · rename_i t ws' ht hr'
        cases h
        obtain ⟨w, hw, hh⟩ := holds_hold ht
        obtain ⟨p, h1, h2, h3⟩ := r.hold hw hh
        have e := h1.symm.trans q1
        cases e
        obtain ⟨g1, g2⟩ := toWs_none r hr' q2
        refine ⟨p, w, t, hw, hh, h1, ⟨p, _, rfl, h2, h3, g1⟩, ?_⟩
        show p :: inAd ws' _ = [p]
        rw [g2]
      · cases h
/-- a call's reading leads to the callee's promise -/
theorem call_gen {n : Nat} {f : FD} {as : List Ar} {vs : List V} {Q : VK} (r : Rel K c Z ρ σ H) (ha : rAr K σ H Z as vs) (hn : vs.length = n) (q : tR K E rD c Z σ H Q (callF f as ρ)) : spF K n f vs H Q E := by
  unfold callF at q
  cases e : toWs ρ as with
  | none => rw [e] at q; exact q.elim
  | some y =>
    obtain ⟨ws, o⟩ := y
    rw [e] at q
    cases o with
    | none =>
      obtain ⟨g1, g2⟩ := toWs_none r e ha
      refine ⟨Z, ws, by rw [g1.len]; exact hn, r.dom, g1, by rw [g2]; exact .nil, ?_⟩
      cases ef : f ws with
      | fail => simp only [ef] at q; exact q.elim
      | ok d ts =>
        simp only [ef] at q
        intro v H' hk ht hd
        rw [g2] at ht hk
        cases ts with
        | nil =>
          have s : Same H H' := fun a o h => hk a o (by simp) h
          exact q v H' (r.same s) (Ext.same s) hd
        | cons t ts =>
          obtain ⟨_, _, e2, _⟩ := ht
          cases e2
      | exc x l =>
        simp only [ef] at q
        intro ed us H' hk h1 h2 h3
        rw [g2] at hk
        have s : Same H H' := fun a o h => hk a o (by simp) h
        exact q ed us H' (r.same s) (Ext.same s) h1 h2 h3
    | some i =>
      obtain ⟨p, w, t, a1, a2, a3, g1, g2⟩ := toWs_some r e ha
      refine ⟨Z, ws, by rw [g1.len]; exact hn, r.dom, g1, by rw [g2]; simp, ?_⟩
      cases ef : f ws with
      | fail => simp only [ef] at q; exact q.elim
      | ok d ts =>
        simp only [ef] at q
        intro v H' hk ht hd
        rw [g2] at ht hk
        match ts, ht, q with
        | [], ht, q => cases ht
        | [t'], ht, q =>
          obtain ⟨p', r', e2, ht1, ht2⟩ := ht
          cases e2
          have hk' : ∀ a o, a ≠ p → H a = some o → H' a = some o := fun a o hne h => hk a o (by simpa using hne) h
          simp only [putBack, a1] at q
          have hz : Z p := by
            obtain ⟨q1, q2, z, _⟩ := r.hold a1 a2
            rw [a3] at q2
            cases q2
            exact z
          exact q v H' (r.put a1 a2 a3 hk' ht1) (fun a o nz h => hk' a o (fun e => nz (by rw [e]; exact hz)) h) hd
        | _ :: _ :: _, ht, q =>
          obtain ⟨_, _, e2, _, ht2⟩ := ht
          cases e2
          obtain ⟨_, _, e3, _⟩ := ht2
          cases e3
      | exc x l =>
        simp only [ef] at q
        exact q.elim
end
section
variable {X : Cx} {CX : CXT} {E : XK} {pos p : Pos} {e : Expr} {es : List Expr} {ms : M (List Ar)} {k n : Nat} {f : Addr} {fd : FuncData} {ps : List Str} {g : FD} {x : Str}
theorem rAr_len {K : PySem.W.Frag} {σ : St} {H : Hp} {Z : Addr → Prop} {as : List Ar} {vs : List V} (h : rAr K σ H Z as vs) : as.length = vs.length := Paired.length h
/-- what the callee is: its promise, its place, its binding -/
structure Callee (P : Program) (w : World) (K : PySem.W.Frag) (mg : Str → Option Value) (base : Heap) (CX : CXT) (k : Nat) (x : Str) (n : Nat) (g : FD) : Prop where
  ex : ∃ (f : Addr) (fd : FuncData) (ps : List Str), FnOk P w K mg base CX k f fd ps (spF K n g) ∧ mg x = some (.ref f) ∧ PySem.W.keepIn K (.ref f) = true ∧ Binds K fd ps [] ∧ ps.length = n
theorem d_call {j : Nat} (c : Callee X.prog X.w X.K X.mg X.base CX k x n g) (hr : Room j X.A) (hx : Passes CX X E) (ha : PA X (e :: es) (tAs X.K E ms)) (hj : k ≤ j := by decide) (hg : Gl X x := by rfl) (hdb : (x == ("__debug__" : Str)) = false := by decide)
    [hml : ArLen n ms] (he : starEach (e :: es) X.env = (false, eval e X.env) :: starEach es X.env := by rfl) (hpl : (backTo pos (starEach es X.env)).any (·.1) = false := by rfl) :
    PE X (.Call (.Name x p) (e :: es) [] pos) (tD X.K E (mCall g ms)) := by
  obtain ⟨f, fd, ps, F, hm, hk, hb, hps⟩ := c.ex
  refine (pe_call F (hr.mono hj) hg hm hk hb .nil hx ha hdb he hpl).imp fun σ H Q h => ?_
  obtain ⟨c, Z, ρ, r, q⟩ := h
  refine ⟨c, Z, ρ, r, ?_⟩
  have q' : tR X.K E rD c Z σ H Q (bindR (ms ρ) fun as ρ => callF g as ρ) := q
  cases em : ms ρ with
  | fail => rw [em] at q'; exact q'
  | exc x l ρ1 => rw [em] at q'; exact q'
  | ok as ρ1 =>
    rw [em] at q'
    intro vs H1 r1 e1 h1
    rw [List.append_nil]
    exact call_gen r1 h1 (by rw [← rAr_len h1]; exact hml.len _ _ _ em) (q'.ext e1)
end
end DL
set_option Elab.async false
set_option linter.all false
set_option maxRecDepth 100000
set_option maxHeartbeats 4000000
namespace DL
open PySem PySem.Spec PyProof.Rows L2
variable [CTab]
/-! ### dicts: look-ups -/
def lookD : List Key → List D → Key → Option D
  | j :: ks, d :: l, k => if j = k then some d else lookD ks l k
  | _, _, _ => none
section
variable {K : PySem.W.Frag} {H : Hp} {Z : Addr → Prop}
theorem lookD_rep {k : Key} : ∀ {ks : List Key} {l : List D} {vs : List V}, Reps K H Z l vs → match lookD ks l k with
    | some d => ∃ v, valV (ks.zip vs) k = some v ∧ Rep K H Z d v
    | none => valV (ks.zip vs) k = none
  | [], l, vs, r => by simp [lookD, valV]
  | j :: ks, [], vs, r => by
    cases (show vs = [] from r)
    simp [lookD, valV]
  | j :: ks, d :: l, vs, r => by
    obtain ⟨v, r', e, h1, h2⟩ := r.inv
    subst e
    have ih := lookD_rep (k := k) (ks := ks) h2
    unfold lookD
    rw [List.zip_cons_cons]
    by_cases e : j = k
    · rw [if_pos e, valV_pos e]
      exact ⟨v, rfl, h1⟩
    · rw [if_neg e, valV_neg e]
      exact ih
end
/-- PE of two readings -/
theorem pe_or {X : Cx} {e : Expr} {t u : TE} (h : PE X e t) (h' : PE X e u) : PE X e (fun σ H Q => t σ H Q ∨ u σ H Q) := ⟨fun pins s σ H Q I q => q.elim (h.run pins s σ H Q I) (h'.run pins s σ H Q I)⟩
/-! ### a[i], d[k] -/
def dItem (x y : D) : Option D := match x with
  | .dct ks l => y.key.bind fun k => lookD ks l k
  | _ => dIx x y
section
variable {X : Cx} {E : XK} {pos : Pos} {a b e f : Expr} {ma mb me mf : M D} {K : PySem.W.Frag}
theorem d_sub_ {k : Nat} (hr : Room k X.A) (ha : PE X a (tD X.K E ma)) (hb : PE X b (tD X.K E mb)) (hs : PlainIx b := by exact fun _ _ => rfl) (hd : NoSl b := by exact fun _ _ => rfl) : PE X (.Subscript a b pos) (tD X.K E (m2 dItem ma mb)) := by
  refine (pe_or (pe_dget (hu_of hr) ha hb hd) (pe_ix ix_seq ha hb hs)).imp fun σ H Q h => ?_
  obtain ⟨c, Z, ρ, r, q⟩ := h
  have q' : tR X.K E rD c Z σ H Q (bindR (ma ρ) fun x ρ => bindR (mb ρ) fun y ρ => liftO (dItem x y) ρ) := q
  have seq : (∀ x ρ1, ma ρ = .ok x ρ1 → ∀ y, dItem x y = dIx x y) → tOp (rIx X.K) (tD X.K E ma) (tD X.K E mb) σ H Q := fun hx => by
    refine op_gen ix_opD (ma := ma) (mb := mb) ⟨c, Z, ρ, r, ?_⟩
    show tR X.K E rD c Z σ H Q (bindR (ma ρ) fun x ρ => bindR (mb ρ) fun y ρ => liftO (dIx x y) ρ)
    cases em : ma ρ with
    | fail => rw [em] at q'; exact q'
    | exc _ _ _ => rw [em] at q'; exact q'
    | ok x ρ1 =>
      rw [em] at q'
      simp only [bindR_ok, hx x ρ1 em] at q'
      exact q'
  cases em : ma ρ with
  | fail => rw [em] at q'; exact q'.elim
  | exc _ _ _ => exact .inr (seq fun x ρ1 e => by rw [em] at e; cases e)
  | ok x ρ1 =>
    by_cases hx : ∃ ks l, x = .dct ks l
    · obtain ⟨ks, l, rfl⟩ := hx
      rw [em, bindR_ok] at q'
      refine .inl ⟨c, Z, ρ, r, ?_⟩
      rw [em]
      intro u H1 r1 e1 hx
      refine ⟨c, Z, ρ1, r1, (tR.ext q' e1).bind fun y ρ2 v H2 r2 e2 hy q2 => ?_⟩
      obtain ⟨d, hd, kk⟩ := q2.lift r2
      cases hk : y.key with
      | none => simp [dItem, hk] at hd
      | some k =>
        simp only [dItem, hk, Option.bind_some] at hd
        have hx2 : Rep X.K H2 Z (.dct ks l) u := Rep.ext e2 _ _ hx
        simp only [Rep] at hx2
        obtain ⟨p, vs, rfl, _, h1, _, h2⟩ := hx2
        have lk := lookD_rep (k := k) (ks := ks) h2
        rw [hd] at lk
        obtain ⟨w, hw, rw'⟩ := lk
        exact ⟨p, w, rfl, .inl ⟨_, k, h1, D.key_rep hk hy, hw.symm⟩, kk w H2 (Same.refl H2) rw'⟩
    · exact .inr (seq fun x2 ρ2 e y => by
        rw [em] at e
        cases e
        unfold dItem
        split
        · exact absurd ⟨_, _, rfl⟩ hx
        · rfl)
/-! ### d.get(k), d.get(k, x) -/
def dGet1 : D → D → Option D
  | .dct ks l, y => y.key.map fun k => (lookD ks l k).getD .non
  | _, _ => none
def dGet2 : D → D → D → Option D
  | .dct ks l, y, z => y.key.map fun k => (lookD ks l k).getD z
  | _, _, _ => none
def isDct : D → Bool
  | .dct _ _ => true
  | _ => false
def mGet1 (ma mb : M D) : M D := fun ρ => bindR (ma ρ) fun x ρ => if isDct x = true then bindR (mb ρ) fun y ρ => liftO (dGet1 x y) ρ else .fail
def mGet2 (ma mb mc : M D) : M D := fun ρ => bindR (ma ρ) fun x ρ => if isDct x = true then bindR (mb ρ) fun y ρ => bindR (mc ρ) fun z ρ => liftO (dGet2 x y z) ρ else .fail
theorem isD_of {H : Hp} {Z : Addr → Prop} {d : D} {v : V} (h : isDct d = true) (r : Rep K H Z d v) : ∃ a, v = .ref a ∧ IsD H a := by
  cases d <;> first | (cases h; done) | skip
  simp only [Rep] at r
  obtain ⟨p, vs, rfl, _, h1, _⟩ := r
  exact ⟨p, rfl, .inl ⟨_, h1⟩⟩
theorem look_at {H : Hp} {Z : Addr → Prop} {ks : List Key} {l : List D} {v y : V} {dy : D} {k : Key} (r : Rep K H Z (.dct ks l) v) (hk : dy.key = some k) (hy : Rep K H Z dy y) :
    ∃ a o, v = .ref a ∧ DGet H a y o ∧ match lookD ks l k with
      | some d => ∃ w, o = some w ∧ Rep K H Z d w
      | none => o = none := by
  simp only [Rep] at r
  obtain ⟨p, vs, rfl, _, h1, _, h2⟩ := r
  refine ⟨p, _, rfl, .inl ⟨_, k, h1, D.key_rep hk hy, rfl⟩, ?_⟩
  have lk := lookD_rep (k := k) (ks := ks) h2
  cases e : lookD ks l k with
  | none => rw [e] at lk; exact lk
  | some d =>
    rw [e] at lk
    exact lk
variable {apos cpos : Pos}
theorem d_get1 {k : Nat} (hr : Room k X.A) (ho : PE X a (tD X.K E ma)) (he : PE X e (tD X.K E me)) (m : M1 X a "get" apos e cpos := by exact ⟨by rfl, by rfl, by rfl, by rfl⟩) : PE X (.Call (.Attribute a "get" apos) [e] [] cpos) (tD X.K E (mGet1 ma me)) := by
  refine (pe_dget1 (hu_of hr) ho he m).imp fun σ H Q h => ?_
  obtain ⟨c, Z, ρ, r, q⟩ := h
  refine ⟨c, Z, ρ, r, q.bind fun x ρ1 u H1 r1 e1 hx q1 => ?_⟩
  split at q1
  · rename_i hd
    obtain ⟨p, rfl, hp⟩ := isD_of hd hx
    refine ⟨p, rfl, hp, c, Z, ρ1, r1, q1.bind fun y ρ2 v H2 r2 e2 hy q2 => ?_⟩
    obtain ⟨d, hd', kk⟩ := q2.lift r2
    cases x <;> first | (cases hd; done) | skip
    rename_i ks l
    cases hk : y.key with
    | none => simp [dGet1, hk] at hd'
    | some k =>
      simp only [dGet1, hk, Option.map_some, Option.some.injEq] at hd'
      obtain ⟨p', o, e3, g, lk⟩ := look_at (Rep.ext e2 _ _ hx) hk hy
      cases e3
      refine ⟨o, g, ?_⟩
      cases e4 : lookD ks l k with
      | none =>
        rw [e4] at lk hd'
        subst lk hd'
        exact kk _ H2 (Same.refl H2) rfl
      | some d' =>
        rw [e4] at lk hd'
        obtain ⟨w, rfl, hw⟩ := lk
        subst hd'
        exact kk _ H2 (Same.refl H2) hw
  · exact q1.elim
theorem d_get2 {k : Nat} (hr : Room k X.A) (ho : PE X a (tD X.K E ma)) (he : PE X e (tD X.K E me)) (hf : PE X f (tD X.K E mf)) (m : M2 X a "get" apos e f cpos := by exact ⟨by rfl, by rfl, by rfl, by rfl⟩) : PE X (.Call (.Attribute a "get" apos) [e, f] [] cpos) (tD X.K E (mGet2 ma me mf)) := by
  refine (pe_dget2 (hu_of hr) ho he hf m).imp fun σ H Q h => ?_
  obtain ⟨c, Z, ρ, r, q⟩ := h
  refine ⟨c, Z, ρ, r, q.bind fun x ρ1 u H1 r1 e1 hx q1 => ?_⟩
  split at q1
  · rename_i hd
    obtain ⟨p, rfl, hp⟩ := isD_of hd hx
    refine ⟨p, rfl, hp, c, Z, ρ1, r1, q1.bind fun y ρ2 v H2 r2 e2 hy q2 => ⟨c, Z, ρ2, r2, q2.bind fun z ρ3 w H3 r3 e3 hz q3 => ?_⟩⟩
    obtain ⟨d, hd', kk⟩ := q3.lift r3
    cases x <;> first | (cases hd; done) | skip
    rename_i ks l
    cases hk : y.key with
    | none => simp [dGet2, hk] at hd'
    | some k =>
      simp only [dGet2, hk, Option.map_some, Option.some.injEq] at hd'
      obtain ⟨p', o, e3', g, lk⟩ := look_at (Rep.ext e3 _ _ (Rep.ext e2 _ _ hx)) hk (Rep.ext e3 _ _ hy)
      cases e3'
      refine ⟨o, g, ?_⟩
      cases e4 : lookD ks l k with
      | none =>
        rw [e4] at lk hd'
        subst lk hd'
        exact kk _ H3 (Same.refl H3) hz
      | some d' =>
        rw [e4] at lk hd'
        obtain ⟨w', rfl, hw⟩ := lk
        subst hd'
        exact kk _ H3 (Same.refl H3) hw
  · exact q1.elim
end
/-! ### xs.index(y) -/
def idxV (y : V) : List V → Option Nat
  | [] => none
  | x :: r => if eqV x y = true then some 0 else (idxV y r).map (· + 1)
def idxP (y : PyData) : List PyData → Option Nat
  | [] => none
  | x :: r => if PyData.eqv x y = true then some 0 else (idxP y r).map (· + 1)
def mIndexOf (f : D → D → Option D) (ma mb : M D) : M D := fun ρ => bindR (ma ρ) fun x ρ => if x.lis.isSome = true then bindR (mb ρ) fun y ρ => liftO (f x y) ρ else .fail
def dIndex (x y : D) : Option D := x.lis.bind fun l => match y.sc, scs l with
  | some v, some vs => (idxV v vs).map fun j => .int (j : Nat)
  | _, _ => match toPy y, toPys l with
    | some p, some ps => if (SeqAt.shaped p && SeqAt.shaped (.list ps)) = true then (idxP p ps).map fun j => .int (j : Nat) else none
    | _, _ => none
abbrev mIndex (ma mb : M D) : M D := mIndexOf dIndex ma mb
theorem idxV_ok {y : V} : ∀ {xs : List V} {j : Nat}, idxV y xs = some j → ∃ z, xs[j]? = some z ∧ eqV z y = true ∧ ∀ (m : Nat) (z' : V), m < j → xs[m]? = some z' → eqV z' y = false
  | [], j, h => by cases h
  | x :: r, j, h => by
    unfold idxV at h
    split at h
    · rename_i e
      cases h
      exact ⟨x, rfl, e, fun m z' hm => absurd hm (Nat.not_lt_zero _)⟩
    · rename_i e
      cases hi : idxV y r with
      | none => rw [hi] at h; cases h
      | some i =>
        rw [hi, Option.map_some, Option.some.injEq] at h
        subst h
        obtain ⟨z, h1, h2, h3⟩ := idxV_ok hi
        refine ⟨z, by simpa using h1, h2, fun m z' hm hz => ?_⟩
        cases m with
        | zero =>
          simp only [List.getElem?_cons_zero, Option.some.injEq] at hz
          subst hz
          exact Bool.eq_false_iff.mpr e
        | succ m => exact h3 m z' (by omega) (by simpa using hz)
theorem idxP_ok {y : PyData} : ∀ {xs : List PyData} {j : Nat}, idxP y xs = some j → ∃ z, xs[j]? = some z ∧ PyData.eqv z y = true ∧ ∀ (m : Nat) (z' : PyData), m < j → xs[m]? = some z' → PyData.eqv z' y = false
  | [], j, h => by cases h
  | x :: r, j, h => by
    unfold idxP at h
    split at h
    · rename_i e
      cases h
      exact ⟨x, rfl, e, fun m z' hm => absurd hm (Nat.not_lt_zero _)⟩
    · rename_i e
      cases hi : idxP y r with
      | none => rw [hi] at h; cases h
      | some i =>
        rw [hi, Option.map_some, Option.some.injEq] at h
        subst h
        obtain ⟨z, h1, h2, h3⟩ := idxP_ok hi
        refine ⟨z, by simpa using h1, h2, fun m z' hm hz => ?_⟩
        cases m with
        | zero =>
          simp only [List.getElem?_cons_zero, Option.some.injEq] at hz
          subst hz
          exact Bool.eq_false_iff.mpr e
        | succ m => exact h3 m z' (by omega) (by simpa using hz)
section
variable {X : Cx} {E : XK} {pos apos cpos : Pos} {o e : Expr} {ma mb : M D} {K : PySem.W.Frag}
theorem Rep.tyL {H : Hp} {Z : Addr → Prop} {d : D} {l : List D} {v : V} (h : d.lis = some l) (r : Rep K H Z d v) : tyV K "list" v H := by
  cases d <;> simp only [D.lis, Option.some.injEq, reduceCtorEq] at h
  · simp only [Rep] at r
    obtain ⟨p, vs, rfl, h1, h2⟩ := r
    exact .inl ⟨rfl, vs, h1.sq⟩
  · simp only [Rep] at r
    obtain ⟨p, vs, rfl, h1, h2⟩ := r
    exact .inl ⟨rfl, vs, h1.sq⟩
theorem d_index {k : Nat} (hr : Room k X.A) (ho : PE X o (tD X.K E ma)) (he : PE X e (tD X.K E mb)) (hbase : attributeBase o "index" X.env (eval o X.env) = eval o X.env := by rfl)
    (hfew : ((backTo cpos (starEach [e] X.env)).all (fun x => !x.1) && (backToKw cpos (keywordEach [] X.env)).all (fun x => x.1.isSome) && decide ([e].length + ([] : List Keyword).length + (if ([] : List Keyword).isEmpty then 0 else 1) < 30)) = true := by rfl)
    (hline : (apos.endLine == cpos.line) = true := by rfl) (hs : starEach [e] X.env = (false, eval e X.env) :: starEach [] X.env := by rfl) : PE X (.Call (.Attribute o "index" apos) [e] [] cpos) (tD X.K E (mIndex ma mb)) := by
  refine (pe_bm PySem.F.plainAttrs_list PySem.F.slot_list_index PySem.F.type_list_index (mt_index.or (mt_indexD (by have := hr.un; omega))) ho (pa_cons he pa_nil hs) hbase hfew hline hs).imp fun σ H Q h => ?_
  obtain ⟨c, Z, ρ, r, q⟩ := h
  refine ⟨c, Z, ρ, r, q.bind fun x ρ1 u H1 r1 e1 hx q1 => ?_⟩
  split at q1
  · rename_i hl
    obtain ⟨l, hl⟩ := Option.isSome_iff_exists.mp hl
    refine ⟨Rep.tyL hl hx, c, Z, ρ1, r1, q1.bind fun y ρ2 v H2 r2 e2 hy q2 => ?_⟩
    obtain ⟨d, hd, kk⟩ := q2.lift r2
    have hx2 := Rep.ext e2 _ _ hx
    obtain ⟨p, vs, rfl, h1, h2⟩ := D.lis_rep hl hx2
    simp only [dIndex, hl, Option.bind_some] at hd
    split at hd
    · rename_i yv xs h3 h4
      cases hi : idxV yv xs with
      | none => rw [hi] at hd; cases hd
      | some j =>
        rw [hi] at hd
        cases hd
        have e5 := scs_rep h4 h2
        have e6 := D.sc_rep h3 hy
        subst e5 e6
        obtain ⟨z, g1, g2, g3⟩ := idxV_ok hi
        exact .inl ⟨p, _, _, j, z, rfl, rfl, h1, sc_flat h3, scs_flat h4, g1, g2, g3, kk _ H2 (Same.refl H2) rfl⟩
    · split at hd
      · rename_i yp ps h3 h4
        split at hd
        · rename_i hsh
          obtain ⟨s1, s2⟩ := Bool.and_eq_true_iff.mp hsh
          cases hi : idxP yp ps with
          | none => rw [hi] at hd; cases hd
          | some j =>
            rw [hi] at hd
            cases hd
            obtain ⟨z, g1, g2, g3⟩ := idxP_ok hi
            exact .inr ⟨p, _, yp, ps, j, z, rfl, rfl, .lst h1 (toPys_dp h4 h2), toPy_dp h3 hy, s2, s1, g1, g2, g3, kk _ H2 (Same.refl H2) rfl⟩
        · cases hd
      · cases hd
  · exact q1.elim
end
/-! ### C(..) -/
def mNew (c : Nat) (g : FD) (ms : M (List Ar)) : M D := fun ρ => bindR (ms ρ) fun as ρ => match toWs ρ as with
  | some (ws, none) => (match g (.inn (.ob c []) :: ws) with
    | .ok .non [.ob c' l] => if c' = c then .ok (.ob c l) ρ else .fail
    | .exc x l => .exc x l ρ
    | _ => .fail)
  | _ => .fail
/-- what is made: its class, its __init__ -/
structure Maker (P : Program) (w : World) (K : PySem.W.Frag) (mg : Str → Option Value) (base : Heap) (CX : CXT) (k : Nat) (x : Str) (n : Nat) (c : Nat) (g : FD) : Prop where
  nm : x = cN c
  gl : mg x = some (.ref (He.ga K x))
  ex : ∃ (f : Addr) (fd : FuncData) (ps : List Str), Mk K (He.ga K x) f ∧ FnOk P w K mg base CX k f fd ps (spF K (n + 1) g) ∧ Binds K fd ps [] ∧ ps.length = n + 1
section
variable {X : Cx} {CX : CXT} {E : XK} {pos p : Pos} {e : Expr} {es : List Expr} {ms : M (List Ar)} {k n c : Nat} {g : FD} {x : Str} {K : PySem.W.Frag}
theorem RepWs.ext {H H' : Hp} {Z : Addr → Prop} (e : Ext Z H H') : ∀ {ws : List W} {vs : List V}, (inAd ws vs = []) → RepWs K H Z ws vs → RepWs K H' Z ws vs
  | [], vs, _, h => h
  | .val d :: ws, vs, hi, h => by
    obtain ⟨v, r, e1, h1, h2⟩ := h
    subst e1
    have hi' : inAd ws r = [] := by
      have h0 : inAd (.val d :: ws) (v :: r) = inAd ws r := by simp [inAd]
      rw [h0] at hi
      exact hi
    exact ⟨v, r, rfl, h1.ext e, RepWs.ext e hi' h2⟩
  | .inn t :: ws, vs, hi, h => by
    obtain ⟨p, r, e1, _⟩ := h
    subst e1
    cases hi
  | .own _ :: ws, vs, _, h => h.elim
theorem RepWs.zed {H : Hp} {Z Z' : Addr → Prop} (hz : ∀ a o, ¬ Z a → H a = some o → ¬ Z' a) : ∀ {ws : List W} {vs : List V}, (inAd ws vs = []) → RepWs K H Z ws vs → RepWs K H Z' ws vs
  | [], vs, _, h => h
  | .val d :: ws, vs, hi, h => by
    obtain ⟨v, r, e1, h1, h2⟩ := h
    subst e1
    have hi' : inAd ws r = [] := by
      have h0 : inAd (.val d :: ws) (v :: r) = inAd ws r := by simp [inAd]
      rw [h0] at hi
      exact hi
    exact ⟨v, r, rfl, h1.zed hz, RepWs.zed hz hi' h2⟩
  | .inn t :: ws, vs, hi, h => by
    obtain ⟨p, r, e1, _⟩ := h
    subst e1
    cases hi
  | .own _ :: ws, vs, _, h => h.elim
theorem d_new {j : Nat} (mk : Maker X.prog X.w X.K X.mg X.base CX k x n c g) (hr : Room j X.A) (hx : Passes CX X E) (ha : PA X (e :: es) (tAs X.K E ms)) [hml : ArLen n ms] (hj : k + 1 ≤ j := by decide) (hg : Gl X x := by rfl) (hdb : (x == ("__debug__" : Str)) = false := by decide)
    (he : starEach (e :: es) X.env = (false, eval e X.env) :: starEach es X.env := by rfl) (hpl : (backTo pos (starEach es X.env)).any (·.1) = false := by rfl) :
    PE X (.Call (.Name x p) (e :: es) [] pos) (tD X.K E (mNew c g ms)) := by
  obtain ⟨f, fd, ps, M, F, hb, hps⟩ := mk.ex
  refine (pe_make M F (hr.mono hj) hg mk.gl hb .nil hx ha hdb he hpl).imp fun σ H Q h => ?_
  obtain ⟨cz, Z, ρ, r, q⟩ := h
  refine ⟨cz, Z, ρ, r, ?_⟩
  have q' : tR X.K E rD cz Z σ H Q (bindR (ms ρ) _) := q
  cases em : ms ρ with
  | fail => rw [em] at q'; exact q'
  | exc x l ρ1 => rw [em] at q'; exact q'
  | ok as ρ1 =>
    rw [em] at q'
    intro vs H1 r1 e1 h1 a dx ha hdx hne
    rw [List.append_nil]
    have q2 := q'.ext e1
    simp only [bindR_ok] at q2
    cases ew : toWs ρ1 as with
    | none => rw [ew] at q2; exact q2.elim
    | some y =>
      obtain ⟨ws, o⟩ := y
      rw [ew] at q2
      cases o with
      | some i => exact q2.elim
      | none =>
        obtain ⟨g1, g2⟩ := toWs_none r1 ew h1
        have s1 : Same H1 (upd H1 dx (.own a)) := same_upd hdx
        have ha2 : upd H1 dx (.own a) a = none := by rw [upd_ne (Ne.symm hne)]; exact ha
        have s2 : Same H1 (upd (upd H1 dx (.own a)) a (.ins (He.ga X.K x) dx [])) := s1.trans (same_upd ha2)
        have zs : ∀ b o, ¬ Z b → H1 b = some o → ¬ (Z b ∨ b = a) := fun b o n e z => z.elim n fun q => by
          rw [q, ha] at e
          cases e
        have hin : inAd (.inn (.ob c []) :: ws) (.ref a :: vs) = [a] := by
          show a :: inAd ws vs = [a]
          rw [g2]
        refine ⟨fun b => Z b ∨ b = a, .inn (.ob c []) :: ws, ?_, fun b z e => ?_, ⟨a, vs, rfl, .inr rfl, ⟨_, upd_same, dx, [], ?_, by simp, rfl⟩, (g1.zed zs g2).ext (Ext.same s2) g2⟩, by rw [hin]; simp, ?_⟩
        · show ws.length + 1 = n + 1
          rw [g1.len, ← rAr_len h1, hml.len _ _ _ em]
        · rcases z with z | z
          · exact r1.dom b z (s2.free e)
          · rw [z, upd_same] at e
            cases e
        · rw [mk.nm, List.zip_nil_right]
        · simp only at q2
          cases ef : g (.inn (.ob c []) :: ws) with
          | fail => rw [ef] at q2; exact q2.elim
          | exc x' l =>
            rw [ef] at q2
            intro ed us H' hk h1 h2 h3
            rw [hin] at hk
            have s3 : Same H1 H' := fun b o h => hk b o (by rw [List.mem_singleton]; exact ne_of_none h ha) (s2 b o h)
            exact q2 ed us H' (r1.same s3) (Ext.same s3) h1 h2 (Reps.zed (fun b o n e z => n (.inl z)) _ _ h3)
          | ok d ts =>
            rw [ef] at q2
            match d, ts, q2 with
            | .non, [.ob c' l], q2 =>
              simp only at q2
              split at q2
              · rename_i hc
                subst hc
                intro v H' hk ht hd
                rw [hin] at hk ht
                obtain ⟨p', r', e2, ⟨o, ho, dx', us, eo, hl, hr'⟩, _⟩ := ht
                cases e2
                subst eo
                have s3 : Same H1 H' := fun b o h => hk b o (by rw [List.mem_singleton]; exact ne_of_none h ha) (s2 b o h)
                refine ⟨hd, q2.new r1 s3 ?_⟩
                show Rep X.K H' Z (.ob c' l) (.ref a)
                simp only [Rep]
                exact ⟨a, dx', us, rfl, fun z => r1.dom a z ha, ho, hl, Reps.zed (fun b o n e z => n (.inl z)) _ _ hr'⟩
              · exact q2.elim
            | .non, [], q2 => exact q2.elim
            | .non, [.lst _], q2 => exact q2.elim
            | .non, [.dct _ _], q2 => exact q2.elim
            | .non, t1 :: _ :: _, q2 =>
              cases t1 <;> exact q2.elim
            | .bl _, _, q2 => exact q2.elim
            | .int _, _, q2 => exact q2.elim
            | .str _, _, q2 => exact q2.elim
            | .lst _, _, q2 => exact q2.elim
            | .rol _, _, q2 => exact q2.elim
            | .tup _, _, q2 => exact q2.elim
            | .dct _ _, _, q2 => exact q2.elim
            | .ob _ _, _, q2 => exact q2.elim
end
end DL
set_option Elab.async false
set_option linter.all false
set_option maxRecDepth 100000
set_option maxHeartbeats 4000000
namespace DL
open PySem PySem.Spec PyProof.Rows L2
variable [CTab]
/-! ### statements -/
def RelS (K : PySem.W.Frag) (c : Cz) (ρ : Env) (σ : St) (H : Hp) : Prop := ∃ Z, Rel K c Z ρ σ H
def tSR (K : PySem.W.Frag) (E : XK) (c : Cz) (Dn : Ends) : Res Fl → Prop
  | .fail => False
  | .ok .nx ρ => ∀ σ H, RelS K c ρ σ H → Dn.nx σ H
  | .ok .bk ρ => ∀ σ H, RelS K c ρ σ H → Dn.bk σ H
  | .ok .ct ρ => ∀ σ H, RelS K c ρ σ H → Dn.ct σ H
  | .ok (.rt d) ρ => ∀ σ v H, RelS K c ρ σ H → Rep K H c.Z0 d v → Dn.rt v H
  | .exc x l ρ => ∀ σ ed vs H, RelS K c ρ σ H → H ed = some (.xd ((cF x).zip vs)) → vs.length ≤ (cF x).length → Reps K H c.Z0 l vs → E (.ref (He.ga K (cN x))) (some ed) H
def tS (K : PySem.W.Frag) (E : XK) (m : M Fl) : TS := fun Dn σ H => ∃ c ρ, RelS K c ρ σ H ∧ tSR K E c Dn (m ρ)
section
variable {α β : Type} {K : PySem.W.Frag} {E : XK} {Ra : RG α β} {c : Cz} {Z : Addr → Prop} {ρ : Env} {σ : St} {H H1 : Hp} {Dn : Ends} {Q' : β → Hp → Prop}
theorem Rel.z0 (r : Rel K c Z ρ σ H) : ∀ a o, ¬ Z a → H a = some o → ¬ c.Z0 a := fun a o n _ z => n (r.base a z).1
theorem tSR.expr {r : Res α} {k : α → Env → Res Fl} (h : tSR K E c Dn (bindR r k)) (f : ∀ a ρ1 b H1, Rel K c Z ρ1 σ H1 → Ra K σ H1 Z a b → tSR K E c Dn (k a ρ1) → Q' b H1) : tR K E Ra c Z σ H Q' r := by
  cases r with
  | fail => exact h
  | ok a ρ => exact fun b H' h1 h2 h3 => f a ρ b H' h1 h3 h
  | exc x l ρ => exact fun ed vs H' h1 h2 h3 h4 h5 => h σ ed vs H' ⟨Z, h1⟩ h3 h4 (Reps.zed h1.z0 _ _ h5)
end
def mSeq (a b : M Fl) : M Fl := fun ρ => match a ρ with
  | .ok .nx ρ1 => b ρ1
  | r => r
def mSkip : M Fl := fun ρ => .ok .nx ρ
def mBreak : M Fl := fun ρ => .ok .bk ρ
def mCont : M Fl := fun ρ => .ok .ct ρ
def mSet (i : Nat) (m : M D) : M Fl := fun ρ => bindR (m ρ) fun d ρ => .ok .nx (ρ.set i (some (.val d)))
def mRet (m : M D) : M Fl := fun ρ => bindR (m ρ) fun d ρ => .ok (.rt d) ρ
def mRetN : M Fl := fun ρ => .ok (.rt .non) ρ
def mDo (m : M D) : M Fl := fun ρ => bindR (m ρ) fun _ ρ => .ok .nx ρ
def mIf (t : M Bool) (a b : M Fl) : M Fl := fun ρ => bindR (t ρ) fun k ρ => if k = true then a ρ else b ρ
def mNever : M Fl := fun _ => .fail
/-- a thing of one's own is data from here on -/
def mFrz (i : Nat) (m : M Fl) : M Fl := fun ρ => match ρ[i]? with
  | some (some (.own t)) => m (ρ.set i (some (.val t.toD)))
  | _ => .fail
/-- a slot is forgotten -/
def mDrop (i : Nat) (m : M Fl) : M Fl := fun ρ => m (ρ.set i none)
section
variable {X : Cx} {E : XK} {pos pos' : Pos} {st : Stmt} {rest : List Stmt} {e : Expr} {m : M D} {a b ms : M Fl} {t : M Bool}
theorem s_nil : PSs X [] (tS X.K E mSkip) := pss_nil.imp fun Dn σ H ⟨c, ρ, r, q⟩ => q σ H r
theorem s_cons (h1 : PS X st (tS X.K E a)) (h2 : PSs X rest (tS X.K E b)) : PSs X (st :: rest) (tS X.K E (mSeq a b)) := by
  refine (pss_cons h1 h2).imp fun Dn σ H h => ?_
  obtain ⟨c, ρ, r, q⟩ := h
  refine ⟨c, ρ, r, ?_⟩
  unfold mSeq at q
  cases ea : a ρ with
  | fail => rw [ea] at q; exact q
  | exc x l ρ1 => rw [ea] at q; exact q
  | ok f ρ1 =>
    rw [ea] at q
    cases f with
    | nx => exact fun σ1 H1 r1 => ⟨c, ρ1, r1, q⟩
    | bk => exact q
    | ct => exact q
    | rt d => exact q
theorem s_one (h1 : PS X st (tS X.K E a)) : PSs X [st] (tS X.K E a) := pss_one h1
theorem s_pass : PS X (.Pass pos) (tS X.K E mSkip) := ps_pass.imp fun Dn σ H ⟨c, ρ, r, q⟩ => q σ H r
theorem s_break : PS X (.Break pos) (tS X.K E mBreak) := ps_break.imp fun Dn σ H ⟨c, ρ, r, q⟩ => q σ H r
theorem s_cont : PS X (.Continue pos) (tS X.K E mCont) := ps_continue.imp fun Dn σ H ⟨c, ρ, r, q⟩ => q σ H r
theorem s_never : PS X st (tS X.K E mNever) := ps_never.imp fun Dn σ H ⟨c, ρ, r, q⟩ => q
theorem ss_never {sts : List Stmt} : PSs X sts (tS X.K E mNever) := pss_never.imp fun Dn σ H ⟨c, ρ, r, q⟩ => q
theorem s_set (i : Nat) {x : Str} (hN : X.N.Nodup) (he : PE X e (tD X.K E m)) (hi : X.N[i]? = some x := by rfl) (hx : Loc X.env.scope x := by first | exact Or.inl rfl | exact Or.inr rfl) (hs : swapsWith e (some (.Name x pos')) pos.line X.env = pure false := by rfl) (hf : X.fn x = true ∨ X.env.scope.names.lookup x = some .local := by first | exact .inl rfl | exact .inr rfl) :
    PS X (.Assign [.Name x pos'] e pos) (tS X.K E (mSet i m)) := by
  refine (ps_set hN hi hx he hs hf).imp fun Dn σ H h => ?_
  obtain ⟨c, ρ, ⟨Z, r⟩, q⟩ := h
  exact ⟨c, Z, ρ, r, tSR.expr (k := fun d ρ => .ok .nx (ρ.set i (some (.val d)))) q fun d ρ1 v H1 r1 h1 q1 => q1 _ _ ⟨Z, r1.set h1⟩⟩
theorem s_ret (he : PE X e (tD X.K E m)) : PS X (.Return (some e) pos) (tS X.K E (mRet m)) := by
  refine (ps_ret he).imp fun Dn σ H h => ?_
  obtain ⟨c, ρ, ⟨Z, r⟩, q⟩ := h
  exact ⟨c, Z, ρ, r, tSR.expr (k := fun d ρ => .ok (.rt d) ρ) q fun d ρ1 v H1 r1 h1 q1 => q1 σ v H1 ⟨Z, r1⟩ (Rep.zed r1.z0 _ _ h1)⟩
theorem s_retN : PS X (.Return none pos) (tS X.K E mRetN) := ps_retN.imp fun Dn σ H ⟨c, ρ, r, q⟩ => q σ .non H r rfl
theorem s_expr (he : PE X e (tD X.K E m)) (hs : swapsWith e none pos.line X.env = pure false := by rfl) : PS X (.Expr e pos) (tS X.K E (mDo m)) := by
  refine (ps_expr he hs).imp fun Dn σ H h => ?_
  obtain ⟨c, ρ, ⟨Z, r⟩, q⟩ := h
  exact ⟨c, Z, ρ, r, tSR.expr (k := fun d ρ => .ok .nx ρ) q fun d ρ1 v H1 r1 h1 q1 => q1 σ H1 ⟨Z, r1⟩⟩
theorem s_if {cnd : Expr} {p q : List Stmt} (hc : PT X cnd (tT X.K E t)) (ha : PSs X p (tS X.K E a)) (hb : PSs X q (tS X.K E b)) : PS X (.If cnd p q pos) (tS X.K E (mIf t a b)) := by
  refine (ps_if hc ha hb).imp fun Dn σ H h => ?_
  obtain ⟨c, ρ, ⟨Z, r⟩, q⟩ := h
  refine ⟨c, Z, ρ, r, tSR.expr (k := fun k ρ => if k = true then a ρ else b ρ) q fun k ρ1 k' H1 r1 h1 q1 => ?_⟩
  cases (show k = k' from h1)
  cases k with
  | true => exact iteT ⟨c, ρ1, ⟨Z, r1⟩, q1⟩
  | false => exact iteF ⟨c, ρ1, ⟨Z, r1⟩, q1⟩
theorem s_frz (i : Nat) (h : PS X st (tS X.K E a)) : PS X st (tS X.K E (mFrz i a)) := h.imp fun Dn σ H q => by
  obtain ⟨c, ρ, ⟨Z, r⟩, q⟩ := q
  unfold mFrz at q
  split at q
  · rename_i t ht
    obtain ⟨Z', r'⟩ := r.frz ht
    exact ⟨c, _, ⟨Z', r'⟩, q⟩
  · exact q.elim
theorem s_drop (i : Nat) (h : PS X st (tS X.K E a)) : PS X st (tS X.K E (mDrop i a)) := h.imp fun Dn σ H q => by
  obtain ⟨c, ρ, ⟨Z, r⟩, q⟩ := q
  exact ⟨c, _, ⟨Z, r.drop i⟩, q⟩
theorem ss_frz (i : Nat) (h : PSs X rest (tS X.K E a)) : PSs X rest (tS X.K E (mFrz i a)) := h.imp fun Dn σ H q => by
  obtain ⟨c, ρ, ⟨Z, r⟩, q⟩ := q
  unfold mFrz at q
  split at q
  · rename_i t ht
    obtain ⟨Z', r'⟩ := r.frz ht
    exact ⟨c, _, ⟨Z', r'⟩, q⟩
  · exact q.elim
theorem ss_drop (i : Nat) (h : PSs X rest (tS X.K E a)) : PSs X rest (tS X.K E (mDrop i a)) := h.imp fun Dn σ H q => by
  obtain ⟨c, ρ, ⟨Z, r⟩, q⟩ := q
  exact ⟨c, _, ⟨Z, r.drop i⟩, q⟩
end
/-! ### a new thing of one's own -/
def tO (K : PySem.W.Frag) (E : XK) (m : M Ct) : TE := fun σ H Q => ∃ c Z ρ, Rel K c Z ρ σ H ∧ match m ρ with
  | .fail => False
  | .ok t ρ' => ∀ p Z' H', NewAt K c Z' ρ' σ H' t p → (∀ d v, Rep K H Z d v → Rep K H' Z' d v) → Q (.ref p) H'
  | .exc x l ρ' => ∀ ed vs H', Rel K c Z ρ' σ H' → H' ed = some (.xd ((cF x).zip vs)) → vs.length ≤ (cF x).length → Reps K H' Z l vs → E (.ref (He.ga K (cN x))) (some ed) H'
theorem Rep.new {K : PySem.W.Frag} {Z : Addr → Prop} {H : Hp} {p : Addr} {o : HO} {d : D} {v : V} (h : Rep K H Z d v) (hp : H p = none) : Rep K (upd H p o) (fun a => Z a ∨ a = p) d v :=
  (h.zed fun a u n e z => z.elim n fun q => by rw [q, hp] at e; cases e).ext (Ext.same (same_upd hp))
def oLst (ms : M (List D)) : M Ct := fun ρ => bindR (ms ρ) fun l ρ => if l.length ≤ sizeLine then .ok (.lst l) ρ else .fail
def oDct : M Ct := fun ρ => .ok (.dct [] []) ρ
def mSetO (i : Nat) (m : M Ct) : M Fl := fun ρ => bindR (m ρ) fun t ρ => .ok .nx (ρ.set i (some (.own t)))
section
variable {X : Cx} {E : XK} {pos pos' : Pos} {e : Expr} {es : List Expr} {mo : M Ct} {ms : M (List D)}
theorem o_list (h : PA X es (tAr X.K E ms)) : PE X (.List es pos) (tO X.K E (oLst ms)) := by
  refine (pe_lst h).imp fun σ H Q h => ?_
  obtain ⟨c, Z, ρ, r, q⟩ := h
  unfold oLst at q
  refine ⟨c, Z, ρ, r, ?_⟩
  cases em : ms ρ with
  | fail => rw [em] at q; exact q
  | exc x l ρ1 => rw [em] at q; exact fun ed vs H' h1 h2 h3 h4 h5 => q ed vs H' h1 h3 h4 h5
  | ok l ρ1 =>
    rw [em] at q
    simp only [bindR_ok] at q
    intro vs H1 r1 e1 h1
    have h1 : Reps X.K H1 Z l vs := h1
    by_cases hl : l.length ≤ sizeLine
    · rw [if_pos hl] at q
      exact ⟨by rw [← h1.len]; exact hl, fun p hp => q p _ _ (r1.newAt hp ⟨vs, rfl, h1⟩) fun d v hd => Rep.new (hd.ext e1) hp⟩
    · rw [if_neg hl] at q
      exact q.elim
theorem o_dict : PE X (.Dict [] [] pos) (tO X.K E oDct) := by
  refine pe_dnewK.imp fun σ H Q h => ?_
  obtain ⟨c, Z, ρ, r, q⟩ := h
  exact fun p hp => q p _ _ (r.newAt hp ⟨[], rfl, rfl, rfl⟩) fun d v hd => Rep.new hd hp
theorem s_setO (i : Nat) {x : Str} (hN : X.N.Nodup) (he : PE X e (tO X.K E mo)) (hi : X.N[i]? = some x := by rfl) (hx : Loc X.env.scope x := by first | exact Or.inl rfl | exact Or.inr rfl) (hs : swapsWith e (some (.Name x pos')) pos.line X.env = pure false := by rfl) (hf : X.fn x = true ∨ X.env.scope.names.lookup x = some .local := by first | exact .inl rfl | exact .inr rfl) :
    PS X (.Assign [.Name x pos'] e pos) (tS X.K E (mSetO i mo)) := by
  refine (ps_set hN hi hx he hs hf).imp fun Dn σ H h => ?_
  obtain ⟨c, ρ, ⟨Z, r⟩, q⟩ := h
  unfold mSetO at q
  refine ⟨c, Z, ρ, r, ?_⟩
  cases em : mo ρ with
  | fail => rw [em] at q; exact q
  | exc x l ρ1 => rw [em] at q; exact fun ed vs H' h1 h3 h4 h5 => q σ ed vs H' ⟨Z, h1⟩ h3 h4 (Reps.zed h1.z0 _ _ h5)
  | ok t ρ1 =>
    rw [em] at q
    exact fun p Z' H' n _ => q _ _ ⟨Z', n.set i⟩
end
/-! ### changes of a thing of one's own -/
/-- the thing in slot i becomes another, given data -/
def mMut (i : Nat) (f : Ct → D → Option Ct) (m : M D) : M Fl := fun ρ => bindR (m ρ) fun d ρ => match ρ[i]? with
  | some (some w) => (match holds ρ i with
    | some t => (match f t d with
      | some t' => .ok .nx (ρ.set i (some (w.put t')))
      | none => .fail)
    | none => .fail)
  | _ => .fail
def cApp : Ct → D → Option Ct
  | .lst l, d => if l.length < sizeLine then some (.lst (l ++ [d])) else none
  | _, _ => none
def cExt : Ct → D → Option Ct
  | .lst l, .lst r => if l.length + r.length ≤ sizeLine then some (.lst (l ++ r)) else none
  | _, _ => none
def mApp (i : Nat) (m : M D) : M Fl := fun ρ => match holds ρ i with
  | some (.lst _) => mMut i cApp m ρ
  | _ => .fail
def mExt (i : Nat) (m : M D) : M Fl := fun ρ => match holds ρ i with
  | some (.lst _) => mMut i cExt m ρ
  | _ => .fail
def mAug (i : Nat) (f : D → D → Option D) (m : M D) : M Fl := fun ρ => match ρ[i]? with
  | some (some (.val a)) => bindR (m ρ) fun b ρ => (match f a b with
    | some d => .ok .nx (ρ.set i (some (.val d)))
    | none => .fail)
  | _ => .fail
section
variable {X : Cx} {E : XK} {pos pos' apos cpos : Pos} {e : Expr} {m : M D} {K : PySem.W.Frag}
theorem mut_gen {i : Nat} {f : Ct → D → Option Ct} {c : Cz} {Z : Addr → Prop} {ρ : Env} {σ : St} {H : Hp} {Dn : Ends} {d : D}
    (q : tSR K E c Dn (match ρ[i]? with
      | some (some w) => (match holds ρ i with
        | some t => (match f t d with
          | some t' => Res.ok Fl.nx (ρ.set i (some (w.put t')))
          | none => .fail)
        | none => .fail)
      | _ => .fail)) (r : Rel K c Z ρ σ H) :
    ∃ p t t', σ[i]? = some (some (.ref p)) ∧ RepC K H Z t p ∧ Z p ∧ f t d = some t' ∧ ∀ H', (∀ a o, a ≠ p → H a = some o → H' a = some o) → RepC K H' Z t' p → Dn.nx σ H' := by
  split at q
  · rename_i w hw
    split at q
    · rename_i t ht
      split at q
      · rename_i t' hf
        obtain ⟨w', hw', hh⟩ := holds_hold ht
        rw [hw] at hw'
        cases hw'
        obtain ⟨p, h1, h2, h3⟩ := r.hold hw hh
        exact ⟨p, t, t', h1, h3, h2, hf, fun H' hk hn => q _ _ ⟨Z, r.put hw hh h1 hk hn⟩⟩
      · exact q.elim
    · exact q.elim
  · exact q.elim
/-- x.append(e) -/
theorem s_append (i : Nat) {x : Str} {np : Pos} (he : PE X e (tD X.K E m)) (hN : X.N[i]? = some x := by rfl) (hv : Vis X.env.scope x := by first | exact Or.inl rfl | exact Or.inr (Or.inl rfl) | exact Or.inr (Or.inr rfl)) (hd : (x == ("__debug__" : Str)) = false := by decide) (hcd : (x == ("__classdict__" : Str)) = false := by decide)
    (hbase : attributeBase (.Name x np) "append" X.env (eval (.Name x np) X.env) = eval (.Name x np) X.env := by rfl)
    (hfew : ((backTo cpos (starEach [e] X.env)).all (fun x => !x.1) && (backToKw cpos (keywordEach [] X.env)).all (fun x => x.1.isSome) && decide ([e].length + ([] : List Keyword).length + (if ([] : List Keyword).isEmpty then 0 else 1) < 30)) = true := by rfl)
    (hline : (apos.endLine == cpos.line) = true := by rfl) (hs : starEach [e] X.env = (false, eval e X.env) :: starEach [] X.env := by rfl)
    (hsw : swapsWith (.Call (.Attribute (.Name x np) "append" apos) [e] [] cpos) none pos.line X.env = pure false := by rfl) :
    PS X (.Expr (.Call (.Attribute (.Name x np) "append" apos) [e] [] cpos) pos) (tS X.K E (mApp i m)) := by
  refine (ps_expr (pe_bm PySem.F.plainAttrs_list PySem.F.slot_list_append PySem.F.type_list_append mt_append (pe_var hN hv hd hcd) (pa_cons he pa_nil hs) hbase hfew hline hs) hsw).imp fun Dn σ H h => ?_
  obtain ⟨c, ρ, ⟨Z, r⟩, q⟩ := h
  unfold mApp at q
  split at q
  · rename_i l0 ht
    obtain ⟨w, hw, hh⟩ := holds_hold ht
    obtain ⟨p, h1, h2, o, h3, vs, rfl, h4⟩ := r.hold hw hh
    refine ⟨_, h1, .inl ⟨rfl, vs, SqL.of h3⟩, c, Z, ρ, r, tSR.expr q fun d ρ1 v H1 r1 hd q1 => ?_⟩
    obtain ⟨p', t, t', g1, g2, g3, g4, k⟩ := mut_gen q1 r1
    rw [h1] at g1
    cases g1
    obtain ⟨o, g5, g6⟩ := g2
    cases t with
    | dct _ _ => cases g4
    | ob _ _ => cases g4
    | lst l =>
      obtain ⟨us, rfl, g7⟩ := g6
      have g4 : (if l.length < sizeLine then some (Ct.lst (l ++ [d])) else none) = some t' := g4
      split at g4
      · rename_i hl
        cases g4
        refine ⟨p, us, v, rfl, rfl, g5, by rw [← g7.len]; exact hl, k _ (fun a o ne e => by rw [upd_ne ne]; exact e) ⟨_, upd_same, _, rfl, ?_⟩⟩
        have ex : Ext Z H1 (upd H1 p (.lst (us ++ [v]))) := fun a o nz e => by rw [upd_ne (fun z => nz (by rw [z]; exact g3))]; exact e
        exact (Reps.ext ex _ _ g7).app (Reps.one (Rep.ext ex _ _ hd))
      · cases g4
  · exact q.elim
/-- += of lists, the right one locked or not -/
def rExtL : R2 := fun x y H Q => ∃ l b xs zs, x = .ref l ∧ y = .ref b ∧ H l = some (.lst xs) ∧ Rd H b (.lst zs) ∧ xs.length + zs.length ≤ sizeLine ∧ Q (.ref l) (upd H l (.lst (xs ++ zs)))
theorem iop_extL : OpR X (inplaceOp .Add) rExtL := by
  intro pins s σ H x y v u Q I rx ry h
  obtain ⟨l, b, xs, zs, rfl, rfl, hH, hB, hz, q⟩ := h
  cases rx
  cases ry
  obtain ⟨_, its, n, r, hl, e⟩ := I.lstM hH
  obtain ⟨_, its2, n2, r2, hl2, e2⟩ := lst_at I hB
  have hsz : its.toArray.size + its2.toArray.size ≤ sizeLine := by simp only [List.size_toArray]; omega
  have hno : ¬ (!its.toArray.isEmpty && Builtin.List.listTooLong (its.toArray.size + its2.toArray.size)) = true := by rw [notLongL hsz, Bool.and_false]; exact Bool.false_ne_true
  refine iadd_road ⟨_, e, rfl⟩ ⟨_, e2, rfl⟩ (call_meets PySem.F.slot_list_iadd ⟨_, e, rfl⟩ PySem.F.entry_list_iadd (PySem.F.args_list_iadd_2 _ _)
    (AutoSeq1.list___iadd___list_list_0 l its.toArray n b its2.toArray n2 hno (by simp only [List.size_toArray]; omega) (by omega)) ⟨e, e2, ?_⟩)
  exact ⟨.ref l, _, I.lset (its' := its ++ its2) (t' := s.toks) hH e (by simp) (r.append r2) (by simp only [List.length_append]; omega), rfl, q⟩
theorem set_same {σ : St} {i : Nat} {v : V} (h : σ[i]? = some (some v)) : σ.set i (some v) = σ := by
  apply List.ext_getElem?
  intro j
  by_cases hj : i = j
  · subst hj
    rw [List.getElem?_set_self (List.getElem?_eq_some_iff.mp h).1, h]
  · rw [List.getElem?_set_ne hj]
/-- x += e, x a list of one's own -/
theorem s_extend (i : Nat) {x : Str} (hN : X.N.Nodup) (he : PE X e (tD X.K E m)) (hi : X.N[i]? = some x := by rfl) (hx : Loc X.env.scope x := by first | exact Or.inl rfl | exact Or.inr rfl) (hf : X.fn x = true ∨ X.env.scope.names.lookup x = some .local := by first | exact .inl rfl | exact .inr rfl) :
    PS X (.AugAssign (.Name x pos') .Add e pos) (tS X.K E (mExt i m)) := by
  refine (ps_aug hN hi hx he iop_extL hf).imp fun Dn σ H h => ?_
  obtain ⟨c, ρ, ⟨Z, r⟩, q⟩ := h
  unfold mExt at q
  split at q
  · rename_i l0 ht
    obtain ⟨w, hw, hh⟩ := holds_hold ht
    obtain ⟨p, h1, h2, _⟩ := r.hold hw hh
    refine ⟨_, h1, c, Z, ρ, r, tSR.expr q fun d ρ1 v H1 r1 hd q1 => ?_⟩
    obtain ⟨p', t, t', g1, g2, g3, g4, k⟩ := mut_gen q1 r1
    rw [h1] at g1
    cases g1
    obtain ⟨o, g5, g6⟩ := g2
    cases t with
    | dct _ _ => cases g4
    | ob _ _ => cases g4
    | lst l =>
      cases d <;> first | (cases g4; done) | skip
      rename_i rr
      obtain ⟨us, rfl, g7⟩ := g6
      have hd : Rep X.K H1 Z (.lst rr) v := hd
      simp only [Rep] at hd
      obtain ⟨b, zs, rfl, ⟨nz, hb⟩, hz⟩ := hd
      have g4 : (if l.length + rr.length ≤ sizeLine then some (Ct.lst (l ++ rr)) else none) = some t' := g4
      split at g4
      · rename_i hl
        cases g4
        refine ⟨p, b, us, zs, rfl, rfl, g5, hb, by rw [← g7.len, ← hz.len]; exact hl, ?_⟩
        show Dn.nx (σ.set i (some (V.ref p))) _
        rw [set_same h1]
        have ex : Ext Z H1 (upd H1 p (.lst (us ++ zs))) := fun a o nz e => by rw [upd_ne (fun z => nz (by rw [z]; exact g3))]; exact e
        exact k _ (fun a o ne e => by rw [upd_ne ne]; exact e) ⟨_, upd_same, _, rfl, (Reps.ext ex _ _ g7).app (Reps.ext ex _ _ hz)⟩
      · cases g4
  · exact q.elim
/-- x += e, x -= e of numbers -/
theorem s_augI (i : Nat) {x : Str} {op : Operator} {g : Int → Int → Int} {f : D → D → Option D} (ho : PIp X op (ipI g)) (hg : ∀ a b d, f a b = some d → ∃ j k, a = .int j ∧ b = .int k ∧ d = .int (g j k)) (hN : X.N.Nodup) (he : PE X e (tD X.K E m)) (hi : X.N[i]? = some x := by rfl) (hx : Loc X.env.scope x := by first | exact Or.inl rfl | exact Or.inr rfl) (hf : X.fn x = true ∨ X.env.scope.names.lookup x = some .local := by first | exact .inl rfl | exact .inr rfl) :
    PS X (.AugAssign (.Name x pos') op e pos) (tS X.K E (mAug i f m)) := by
  refine (ps_aug hN hi hx he ho hf).imp fun Dn σ H h => ?_
  obtain ⟨c, ρ, ⟨Z, r⟩, q⟩ := h
  unfold mAug at q
  split at q
  · rename_i dx hx'
    obtain ⟨v, h1, h2⟩ := r.val i dx hx'
    refine ⟨v, h1, c, Z, ρ, r, tSR.expr q fun b ρ1 y H1 r1 hb q3 => ?_⟩
    cases ef : f dx b with
    | none => rw [ef] at q3; exact q3.elim
    | some d =>
      rw [ef] at q3
      obtain ⟨j, k, rfl, rfl, rfl⟩ := hg _ _ _ ef
      cases (show v = _ from h2)
      cases (show y = _ from hb)
      exact ⟨j, k, rfl, rfl, q3 _ _ ⟨Z, r1.set (d := .int (g j k)) rfl⟩⟩
  · exact q.elim
end
end DL
set_option Elab.async false
set_option linter.all false
set_option maxRecDepth 100000
set_option maxHeartbeats 4000000
namespace DL
open PySem PySem.Spec PyProof.Rows L2
variable [CTab]
/-! ### targets -/
/-- the slots outside of these are as they were -/
def Out (is : List Nat) (σ σ' : St) : Prop := σ'.length = σ.length ∧ ∀ j, j ∉ is → σ'[j]? = σ[j]?
theorem Out.refl {is : List Nat} {σ : St} : Out is σ σ := ⟨rfl, fun _ _ => rfl⟩
theorem Out.trans {is : List Nat} {σ σ1 σ2 : St} (a : Out is σ σ1) (b : Out is σ1 σ2) : Out is σ σ2 := ⟨b.1.trans a.1, fun j h => (b.2 j h).trans (a.2 j h)⟩
theorem Out.mono {is js : List Nat} {σ σ' : St} (a : Out is σ σ') (h : ∀ j ∈ is, j ∈ js) : Out js σ σ' := ⟨a.1, fun j n => a.2 j fun z => n (h j z)⟩
abbrev MT := D → Env → Option Env
abbrev MTs := List D → Env → Option Env
def tTG (K : PySem.W.Frag) (is : List Nat) (g : MT) : TG := fun v σ H Q => ∃ c Z ρ d ρ', Rel K c Z ρ σ H ∧ Rep K H Z d v ∧ g d ρ = some ρ' ∧ ∀ σ' H', Rel K c Z ρ' σ' H' → Same H H' → Out is σ σ' → Q σ' H'
def tTGs (K : PySem.W.Frag) (is : List Nat) (g : MTs) : TGs := fun vs σ H Q => ∃ c Z ρ l ρ', Rel K c Z ρ σ H ∧ Reps K H Z l vs ∧ g l ρ = some ρ' ∧ ∀ σ' H', Rel K c Z ρ' σ' H' → Same H H' → Out is σ σ' → Q σ' H'
theorem _root_.L2.PG.imp {X : Cx} {e : Expr} {t t' : TG} (h : PG X e t) (i : ∀ v σ H Q, t' v σ H Q → t v σ H Q) : PG X e t' := ⟨fun pins s σ H v u Q I r q => h.run pins s σ H v u Q I r (i v σ H Q q)⟩
theorem _root_.L2.PGs.imp {X : Cx} {e : List Expr} {t t' : TGs} (h : PGs X e t) (i : ∀ v σ H Q, t' v σ H Q → t v σ H Q) : PGs X e t' := ⟨fun pins s σ H v u Q I r q => h.run pins s σ H v u Q I r (i v σ H Q q)⟩
def mTN (i : Nat) : MT := fun d ρ => some (ρ.set i (some (.val d)))
def mTNil : MTs := fun l ρ => match l with
  | [] => some ρ
  | _ => none
def mTCons (g : MT) (gs : MTs) : MTs := fun l ρ => match l with
  | d :: r => (g d ρ).bind (gs r)
  | _ => none
def mTT (gs : MTs) : MT := fun d ρ => match d with
  | .tup l => gs l ρ
  | _ => none
section
variable {X : Cx} {E : XK} {pos pos' : Pos} {e : Expr} {es : List Expr} {g : MT} {gs : MTs} {is js : List Nat} {m : M D}
theorem Out.set {i : Nat} {σ : St} {x : Option V} : Out [i] σ (σ.set i x) := ⟨by simp, fun j h => List.getElem?_set_ne (fun e => h (by rw [e]; simp))⟩
theorem g_name (i : Nat) {x : Str} (hN : X.N.Nodup) (hi : X.N[i]? = some x := by rfl) (hx : Loc X.env.scope x := by first | exact Or.inl rfl | exact Or.inr rfl) (hf : X.fn x = true ∨ X.env.scope.names.lookup x = some .local := by first | exact .inl rfl | exact .inr rfl) : PG X (.Name x pos) (tTG X.K [i] (mTN i)) := by
  refine (pg_name hN hi hx hf).imp fun v σ H Q h => ?_
  obtain ⟨c, Z, ρ, d, ρ', r, hd, hg, q⟩ := h
  cases hg
  exact q _ H (r.set hd) (Same.refl H) Out.set
theorem gs_nil : PGs X [] (tTGs X.K [] mTNil) := by
  refine pgs_nil.imp fun v σ H Q h => ?_
  obtain ⟨c, Z, ρ, l, ρ', r, hl, hg, q⟩ := h
  unfold mTNil at hg
  split at hg
  · cases hg
    exact ⟨hl, q σ H r (Same.refl H) Out.refl⟩
  · cases hg
theorem gs_cons (h1 : PG X e (tTG X.K is g)) (h2 : PGs X es (tTGs X.K js gs)) (hs : (assignEach (e :: es) X.env).map (·.2) = assign e X.env :: (assignEach es X.env).map (·.2) := by rfl) : PGs X (e :: es) (tTGs X.K (is ++ js) (mTCons g gs)) := by
  refine (pgs_cons h1 h2 hs).imp fun v σ H Q h => ?_
  obtain ⟨c, Z, ρ, l, ρ', r, hl, hg, q⟩ := h
  unfold mTCons at hg
  split at hg
  · rename_i d rest
    obtain ⟨u, us, rfl, hd, hr⟩ := hl.inv
    cases e1 : g d ρ with
    | none => rw [e1] at hg; cases hg
    | some ρ1 =>
      rw [e1] at hg
      refine ⟨u, us, rfl, c, Z, ρ, d, ρ1, r, hd, e1, fun σ1 H1 r1 s1 o1 => ⟨c, Z, ρ1, rest, ρ', r1, Reps.ext (Ext.same s1) _ _ hr, hg, fun σ2 H2 r2 s2 o2 => ?_⟩⟩
      exact q σ2 H2 r2 (s1.trans s2) ((o1.mono fun j hj => List.mem_append_left _ hj).trans (o2.mono fun j hj => List.mem_append_right _ hj))
  · cases hg
theorem gs_len : ∀ {l : List D} {ρ ρ' : Env} {gs : MTs} {n : Nat}, (∀ l ρ ρ', gs l ρ = some ρ' → l.length = n) → gs l ρ = some ρ' → l.length = n := fun h e => h _ _ _ e
class TgLen (n : outParam Nat) (gs : MTs) : Prop where
  len : ∀ l ρ ρ', gs l ρ = some ρ' → l.length = n
instance : TgLen 0 mTNil := ⟨fun l ρ ρ' h => by
  unfold mTNil at h
  split at h
  · rfl
  · cases h⟩
instance {n : Nat} {g : MT} {gs : MTs} [i : TgLen n gs] : TgLen (n + 1) (mTCons g gs) := ⟨fun l ρ ρ' h => by
  unfold mTCons at h
  split at h
  · rename_i d r
    cases e1 : g d ρ with
    | none => rw [e1] at h; cases h
    | some ρ1 =>
      rw [e1] at h
      exact congrArg (· + 1) (i.len _ _ _ h)
  · cases h⟩
theorem g_tup {k n : Nat} [tl : TgLen n gs] (hc : X.calm = true) (h : PGs X es (tTGs X.K is gs)) (hn : (assignEach es X.env).length = n := by rfl) (hst : (assignEach es X.env).findIdx? (·.1) = none := by rfl) : PG X (.Tuple es k pos) (tTG X.K is (mTT gs)) := by
  refine (pg_tup hc h hn hst).imp fun v σ H Q h => ?_
  obtain ⟨c, Z, ρ, d, ρ', r, hd, hg, q⟩ := h
  unfold mTT at hg
  split at hg
  · rename_i l
    simp only [Rep] at hd
    obtain ⟨a, vs, rfl, h1, h2⟩ := hd
    exact ⟨a, vs, rfl, h1.sq, by rw [← h2.len]; exact tl.len _ _ _ hg, c, Z, ρ, l, ρ', r, h2, hg, q⟩
  · cases hg
/-- target = e -/
def mAsg (g : MT) (m : M D) : M Fl := fun ρ => bindR (m ρ) fun d ρ => match g d ρ with
  | some ρ' => .ok .nx ρ'
  | none => .fail
theorem s_asg {tg : Expr} (he : PE X e (tD X.K E m)) (hg : PG X tg (tTG X.K is g)) (hs : swapsWithSole [tg] e pos.line X.env = pure false := by rfl) (hw : swappedStores [tg] e X.env = pure none := by rfl) (h1 : (assignEach [tg] X.env).map (·.2) = [assign tg X.env] := by rfl) : PS X (.Assign [tg] e pos) (tS X.K E (mAsg g m)) := by
  refine (ps_asg he hg hs hw h1).imp fun Dn σ H h => ?_
  obtain ⟨c, ρ, ⟨Z, r⟩, q⟩ := h
  refine ⟨c, Z, ρ, r, tSR.expr q fun d ρ1 v H1 r1 hd q1 => ?_⟩
  cases e1 : g d ρ1 with
  | none => rw [e1] at q1; exact q1.elim
  | some ρ' =>
    rw [e1] at q1
    exact ⟨c, Z, ρ1, d, ρ', r1, hd, e1, fun σ' H' r' s' _ => q1 σ' H' ⟨Z, r'⟩⟩
/-- a, b = x, y -/
def mPar (i j : Nat) (ms : M (List D)) : M Fl := fun ρ => bindR (ms ρ) fun l ρ => match l with
  | [a, b] => .ok .nx ((ρ.set i (some (.val a))).set j (some (.val b)))
  | _ => .fail
theorem s_par (i j : Nat) {x y : Str} {a b : Expr} {ms : M (List D)} {px py pt : Pos} {kt k2 pt2} (hc : X.calm = true) (hN : X.N.Nodup) (ha : PA X [a, b] (tAr X.K E ms)) (hi : X.N[i]? = some x := by rfl) (hj : X.N[j]? = some y := by rfl) (hij : i ≠ j := by decide)
    (hx : X.env.scope.names.lookup x = some .local := by rfl) (hy : X.env.scope.names.lookup y = some .local := by rfl)
    (hw : swappedStores [.Tuple [.Name x px, .Name y py] kt pt] (.Tuple [a, b] k2 pt2) X.env = pure (some [x, y]) := by rfl)
    (hs : swapsWithSole [.Tuple [.Name x px, .Name y py] kt pt] (.Tuple [a, b] k2 pt2) pos.line X.env = pure false := by rfl) :
    PS X (.Assign [.Tuple [.Name x px, .Name y py] kt pt] (.Tuple [a, b] k2 pt2) pos) (tS X.K E (mPar i j ms)) := by
  refine (ps_par hc hN hi hj hij hx hy ha hw hs).imp fun Dn σ H h => ?_
  obtain ⟨c, ρ, ⟨Z, r⟩, q⟩ := h
  refine ⟨c, Z, ρ, r, tSR.expr q fun l ρ1 vs H1 r1 hl q1 => ?_⟩
  have hl : Reps X.K H1 Z l vs := hl
  split at q1
  · obtain ⟨v, u, rfl, h1, h2⟩ := hl.inv2
    exact ⟨v, u, rfl, q1 _ _ ⟨Z, (r1.set h1).set h2⟩⟩
  · exact q1.elim
end
/-! ### what is walked -/
/-- a walk over these, as long as the data of ex stand -/
structure WkD (K : PySem.W.Frag) (J : It) (ds : List D) (ex : List (D × V)) : Prop where
  go : ∀ (H : Hp) (Z : Addr → Prop), (∀ p, Z p → H p ≠ none) → (∀ q ∈ ex, Rep K H Z q.1 q.2) → ∀ (i : Nat) (d : D), ds[i]? = some d → J.go i H ∧ ∀ x H', J.yld i H x H' → Same H H' ∧ Rep K H' Z d x
  stop : ∀ (H : Hp) (Z : Addr → Prop), (∀ q ∈ ex, Rep K H Z q.1 q.2) → J.stop ds.length H
def iR (K : PySem.W.Frag) (E : XK) (c : Cz) (Z : Addr → Prop) (σ : St) (H : Hp) (R : It → Hp → Prop) : Res (List D) → Prop
  | .fail => False
  | .ok ds ρ' => ∀ J ex H', Rel K c Z ρ' σ H' → Ext Z H H' → (∀ q ∈ ex, Rep K H' Z q.1 q.2) → WkD K J ds ex → R J H'
  | .exc x l ρ' => ∀ ed vs H', Rel K c Z ρ' σ H' → Ext Z H H' → H' ed = some (.xd ((cF x).zip vs)) → vs.length ≤ (cF x).length → Reps K H' Z l vs → E (.ref (He.ga K (cN x))) (some ed) H'
def iD (K : PySem.W.Frag) (E : XK) (m : M (List D)) : TI := fun σ H R => ∃ c Z ρ, Rel K c Z ρ σ H ∧ iR K E c Z σ H R (m ρ)
theorem _root_.L2.PI.imp {X : Cx} {tg e : Expr} {t t' : TI} (h : PI X tg e t) (i : ∀ σ H R, t' σ H R → t σ H R) : PI X tg e t' := ⟨fun pins s σ H R I q => h.run pins s σ H R I (i σ H R q)⟩
def mItL (m : M D) : M (List D) := fun ρ => bindR (m ρ) fun d ρ => liftO d.lis ρ
def mItT (m : M D) : M (List D) := fun ρ => bindR (m ρ) fun d ρ => match d with
  | .tup l => .ok l ρ
  | _ => .fail
def mItLT (m : M D) : M (List D) := fun ρ => bindR (m ρ) fun d ρ => liftO d.seq ρ
def rngD (lo : Int) (n : Nat) : List D := (List.range n).map fun i : Nat => .int (lo + (i : Int))
def lim62 (i : Int) : Bool := decide (-(2 ^ 62) ≤ i ∧ i < 2 ^ 62)
def mRng1 (m : M D) : M (List D) := fun ρ => bindR (m ρ) fun d ρ => match d with
  | .int j => if lim62 j = true then .ok (rngD 0 j.toNat) ρ else .fail
  | _ => .fail
def mRng2 (m m' : M D) : M (List D) := fun ρ => bindR (m ρ) fun d ρ => bindR (m' ρ) fun e ρ => match d, e with
  | .int i, .int j => if (lim62 i && lim62 j) = true then .ok (rngD i (j - i).toNat) ρ else .fail
  | _, _ => .fail
def enumD : Nat → List D → List D
  | _, [] => []
  | i, d :: r => .tup [.int (i : Int), d] :: enumD (i + 1) r
def mEnum (m : M D) : M (List D) := fun ρ => bindR (m ρ) fun d ρ => match d.lis with
  | some l => .ok (enumD 0 l) ρ
  | none => .fail
def zipD : List D → List D → List D
  | a :: r, b :: t => .tup [a, b] :: zipD r t
  | _, _ => []
def mZip (m m' : M D) : M (List D) := fun ρ => bindR (m ρ) fun d ρ => bindR (m' ρ) fun e ρ => match d, e with
  | .tup l, .tup r => .ok (zipD l r) ρ
  | _, _ => (match d.lis, e.lis with
    | some l, some r => .ok (zipD l r) ρ
    | _, _ => .fail)
section
variable {X : Cx} {E : XK} {pos p tpos : Pos} {tg e e2 : Expr} {m m' : M D} {K : PySem.W.Frag}
theorem iR.ext {c : Cz} {Z : Addr → Prop} {σ : St} {H H1 : Hp} {R : It → Hp → Prop} {r : Res (List D)} (h : iR K E c Z σ H R r) (e : Ext Z H H1) : iR K E c Z σ H1 R r := by
  cases r with
  | fail => exact h
  | ok ds ρ => exact fun J ex H' a b => h J ex H' a (e.trans b)
  | exc x l ρ => exact fun ed vs H' a b => h ed vs H' a (e.trans b)
theorem iR.bind {c : Cz} {Z : Addr → Prop} {σ : St} {H : Hp} {R : It → Hp → Prop} {r : Res D} {k : D → Env → Res (List D)} {Q' : V → Hp → Prop} (h : iR K E c Z σ H R (bindR r k))
    (f : ∀ d ρ1 v H1, Rel K c Z ρ1 σ H1 → Ext Z H H1 → Rep K H1 Z d v → iR K E c Z σ H1 R (k d ρ1) → Q' v H1) : tR K E rD c Z σ H Q' r := by
  cases r with
  | fail => exact h
  | ok d ρ1 => exact fun v H1 r1 e1 h1 => f d ρ1 v H1 r1 e1 h1 (iR.ext h e1)
  | exc x l ρ1 => exact h
theorem wk_list {a : Addr} {d : D} {l : List D} (hd : d.lis = some l) : WkD K (Itl K a) l [(d, .ref a)] := by
  have at_ : ∀ (H : Hp) (Z : Addr → Prop), (∀ q ∈ [(d, V.ref a)], Rep K H Z q.1 q.2) → ∃ vs, SqL K H a vs ∧ Reps K H Z l vs := fun H Z h => by
    obtain ⟨p, vs, e, h1, h2⟩ := D.lis_rep hd (h _ (List.mem_singleton.mpr rfl))
    cases e
    exact ⟨vs, h1, h2⟩
  refine ⟨fun H Z hz h i x hx => ?_, fun H Z h => ?_⟩
  · obtain ⟨vs, h1, h2⟩ := at_ H Z h
    obtain ⟨v, hv, rv⟩ := h2.get hx
    refine ⟨⟨vs, v, h1, hv⟩, fun y H' hy => ?_⟩
    obtain ⟨rfl, hy⟩ := hy
    have e := hy vs h1
    rw [hv] at e
    cases e
    exact ⟨Same.refl _, rv⟩
  · obtain ⟨vs, h1, h2⟩ := at_ H Z h
    exact ⟨vs, h1, by rw [h2.len]; exact Nat.le_refl _⟩
theorem wk_tup {a : Addr} {l : List D} : WkD K (Itt K a) l [(.tup l, .ref a)] := by
  have at_ : ∀ (H : Hp) (Z : Addr → Prop), (∀ q ∈ [(D.tup l, V.ref a)], Rep K H Z q.1 q.2) → ∃ vs, SqT K H a vs ∧ Reps K H Z l vs := fun H Z h => by
    have h0 := h _ (List.mem_singleton.mpr rfl)
    simp only [Rep] at h0
    obtain ⟨p, vs, e, h1, h2⟩ := h0
    cases e
    exact ⟨vs, h1.sq, h2⟩
  refine ⟨fun H Z hz h i x hx => ?_, fun H Z h => ?_⟩
  · obtain ⟨vs, h1, h2⟩ := at_ H Z h
    obtain ⟨v, hv, rv⟩ := h2.get hx
    refine ⟨⟨vs, v, h1, hv⟩, fun y H' hy => ?_⟩
    obtain ⟨rfl, hy⟩ := hy
    have e := hy vs h1
    rw [hv] at e
    cases e
    exact ⟨Same.refl _, rv⟩
  · obtain ⟨vs, h1, h2⟩ := at_ H Z h
    exact ⟨vs, h1, by rw [h2.len]; exact Nat.le_refl _⟩
theorem i_list (he : PE X e (tD X.K E m)) : PI X tg e (iD X.K E (mItL m)) := by
  refine (pi_list he).imp fun σ H R ⟨c, Z, ρ, r, q⟩ => ⟨c, Z, ρ, r, iR.bind q fun d ρ1 v H1 r1 e1 h1 q => ?_⟩
  cases e1 : d.lis with
  | none => rw [e1] at q; exact q.elim
  | some l =>
    rw [e1] at q
    obtain ⟨a, vs, rfl, g1, g2⟩ := D.lis_rep e1 h1
    exact ⟨a, rfl, ⟨vs, g1⟩, q _ _ H1 r1 Ext.refl (fun q hq => by rw [List.mem_singleton.mp hq]; exact h1) (wk_list e1)⟩
theorem i_tup (he : PE X e (tD X.K E m)) : PI X tg e (iD X.K E (mItT m)) := by
  refine (pi_tup he).imp fun σ H R ⟨c, Z, ρ, r, q⟩ => ⟨c, Z, ρ, r, iR.bind q fun d ρ1 v H1 r1 e1 h1 q => ?_⟩
  cases d <;> first | (exact q.elim; done) | skip
  rename_i l
  have h1' := h1
  simp only [Rep] at h1
  obtain ⟨a, vs, rfl, g1, g2⟩ := h1
  exact ⟨a, rfl, ⟨vs, g1.sq⟩, q _ _ H1 r1 Ext.refl (fun q hq => by rw [List.mem_singleton.mp hq]; exact h1') wk_tup⟩
theorem pi_or {t u : TI} (h : PI X tg e t) (h' : PI X tg e u) : PI X tg e (fun σ H R => t σ H R ∨ u σ H R) := ⟨fun pins s σ H R I q => q.elim (h.run pins s σ H R I) (h'.run pins s σ H R I)⟩
/-- a list or a tuple -/
theorem i_seq (he : PE X e (tD X.K E m)) : PI X tg e (iD X.K E (mItLT m)) := by
  refine (pi_or (i_list he) (i_tup he)).imp fun σ H R h => ?_
  obtain ⟨c, Z, ρ, r, q⟩ := h
  unfold mItLT at q
  cases em : m ρ with
  | fail => rw [em] at q; exact q.elim
  | exc x l ρ1 =>
    rw [em] at q
    refine .inl ⟨c, Z, ρ, r, ?_⟩
    unfold mItL
    rw [em]
    exact q
  | ok d ρ1 =>
    rw [em, bindR_ok] at q
    by_cases ht : ∃ l, d = .tup l
    · obtain ⟨l, rfl⟩ := ht
      refine .inr ⟨c, Z, ρ, r, ?_⟩
      unfold mItT
      rw [em]
      exact q
    · refine .inl ⟨c, Z, ρ, r, ?_⟩
      unfold mItL
      rw [em, bindR_ok]
      have e1 : d.seq = d.lis := by
        cases d <;> first | rfl | exact absurd ⟨_, rfl⟩ ht
      rw [← e1]
      exact q
theorem rngD_len {lo : Int} {n : Nat} : (rngD lo n).length = n := by simp [rngD]
theorem wk_rng {lo : Int} {n : Nat} : WkD K (Itr lo n) (rngD lo n) [] := by
  refine ⟨fun H Z hz h i x hx => ?_, fun H Z h => ?_⟩
  · have hi : i < n := by
      have := (List.getElem?_eq_some_iff.mp hx).1
      rw [rngD_len] at this
      exact this
    have ex : x = .int (lo + (i : Int)) := by
      simp only [rngD, List.getElem?_map, List.getElem?_range hi, Option.map_some, Option.some.injEq] at hx
      exact hx.symm
    refine ⟨hi, fun y H' hy => ?_⟩
    obtain ⟨rfl, rfl⟩ := hy
    subst ex
    exact ⟨Same.refl _, rfl⟩
  · show n ≤ (rngD lo n).length
    rw [rngD_len]
    exact Nat.le_refl _
theorem i_rng1 (he : PE X e (tD X.K E m)) (hm : X.mg "range" = none) (hg : Gl X "range" := by rfl) (hs : starEach [e] X.env = [(false, eval e X.env)] := by rfl) (hs' : starEach [e] X.env = (false, eval e X.env) :: starEach [] X.env := by rfl) : PI X tg (.Call (.Name "range" p) [e] [] pos) (iD X.K E (mRng1 m)) := by
  refine (pi_range1 hg hm (pa_cons he pa_nil hs') hs).imp fun σ H R ⟨c, Z, ρ, r, q⟩ => ⟨c, Z, ρ, r, iR.bind q fun d ρ1 v H1 r1 e1 h1 q => ?_⟩
  cases d <;> first | (exact q.elim; done) | skip
  rename_i j
  cases (show v = _ from h1)
  by_cases hl : lim62 j = true
  · have q : iR X.K E c Z σ H1 R (if lim62 j = true then .ok (rngD 0 j.toNat) ρ1 else .fail) := q
    rw [if_pos hl] at q
    obtain ⟨l1, l2⟩ := of_decide_eq_true hl
    exact ⟨j, rfl, l1, l2, q _ [] H1 r1 Ext.refl (fun q hq => by cases hq) wk_rng⟩
  · have q : iR X.K E c Z σ H1 R (if lim62 j = true then .ok (rngD 0 j.toNat) ρ1 else .fail) := q
    rw [if_neg hl] at q
    exact q.elim
theorem i_rng2 (he : PE X e (tD X.K E m)) (he2 : PE X e2 (tD X.K E m')) (hm : X.mg "range" = none) (hg : Gl X "range" := by rfl) (hs : starEach [e, e2] X.env = [(false, eval e X.env), (false, eval e2 X.env)] := by rfl) (hs' : starEach [e, e2] X.env = (false, eval e X.env) :: starEach [e2] X.env := by rfl)
    (hs2 : starEach [e2] X.env = [(false, eval e2 X.env)] := by rfl) (hs2' : starEach [e2] X.env = (false, eval e2 X.env) :: starEach [] X.env := by rfl) : PI X tg (.Call (.Name "range" p) [e, e2] [] pos) (iD X.K E (mRng2 m m')) := by
  refine (pi_range2 hg hm (pa_cons he (pa_cons he2 pa_nil hs2') hs') hs hs2).imp fun σ H R ⟨c, Z, ρ, r, q0⟩ => ⟨c, Z, ρ, r, iR.bind q0 fun d ρ1 v H1 r1 e1 h1 q1 => ⟨c, Z, ρ1, r1, iR.bind q1 fun d' ρ2 v' H2 r2 e2 h2 q => ?_⟩⟩
  split at q
  · rename_i i j
    cases (show v = _ from h1)
    cases (show v' = _ from h2)
    split at q
    · rename_i hl
      obtain ⟨l1, l2⟩ := Bool.and_eq_true_iff.mp hl
      obtain ⟨a1, a2⟩ := of_decide_eq_true l1
      obtain ⟨b1, b2⟩ := of_decide_eq_true l2
      exact ⟨i, j, rfl, ⟨a1, a2, b1, b2⟩, q _ [] H2 r2 Ext.refl (fun q hq => by cases hq) wk_rng⟩
    · exact q.elim
  · exact q.elim
theorem enumD_get : ∀ {l : List D} {k i : Nat} {d : D}, (enumD k l)[i]? = some d → ∃ x, l[i]? = some x ∧ d = .tup [.int ((k + i : Nat) : Int), x]
  | [], k, i, d, h => by simp [enumD] at h
  | a :: r, k, 0, d, h => by
    simp only [enumD, List.getElem?_cons_zero, Option.some.injEq] at h
    exact ⟨a, rfl, h.symm⟩
  | a :: r, k, i + 1, d, h => by
    simp only [enumD, List.getElem?_cons_succ] at h
    obtain ⟨x, h1, h2⟩ := enumD_get h
    refine ⟨x, by simpa using h1, ?_⟩
    rw [h2]
    have e : k + 1 + i = k + (i + 1) := by omega
    rw [e]
theorem enumD_len : ∀ (l : List D) (k : Nat), (enumD k l).length = l.length
  | [], _ => rfl
  | _ :: r, k => congrArg (· + 1) (enumD_len r (k + 1))
theorem wk_enum {a : Addr} {d : D} {l : List D} (hd : d.lis = some l) : WkD K (Ite K a) (enumD 0 l) [(d, .ref a)] := by
  have at_ : ∀ (H : Hp) (Z : Addr → Prop), (∀ q ∈ [(d, V.ref a)], Rep K H Z q.1 q.2) → ∃ vs, SqL K H a vs ∧ Reps K H Z l vs := fun H Z h => by
    obtain ⟨p, vs, e, h1, h2⟩ := D.lis_rep hd (h _ (List.mem_singleton.mpr rfl))
    cases e
    exact ⟨vs, h1, h2⟩
  refine ⟨fun H Z hz h i x hx => ?_, fun H Z h => ?_⟩
  · obtain ⟨vs, h1, h2⟩ := at_ H Z h
    obtain ⟨y, hy, rfl⟩ := enumD_get hx
    obtain ⟨v, hv, rv⟩ := h2.get hy
    refine ⟨⟨vs, v, h1, hv⟩, fun u H' hu => ?_⟩
    obtain ⟨T, x', rfl, hT, rfl, hx'⟩ := hu
    have e := hx' vs h1
    rw [hv] at e
    cases e
    exact ⟨same_upd hT, new_tup hz hT (Reps.cons (by show V.int _ = V.int _; rw [Nat.zero_add]) (Reps.one rv))⟩
  · obtain ⟨vs, h1, h2⟩ := at_ H Z h
    exact ⟨vs, h1, by rw [enumD_len, h2.len]; exact Nat.le_refl _⟩
theorem i_enum {elts : List Expr} {kk : Nat} (he : PE X e (tD X.K E m)) (hm : X.mg "enumerate" = none) (hg : Gl X "enumerate" := by rfl) (hs : starEach [e] X.env = [(false, eval e X.env)] := by rfl) (hs' : starEach [e] X.env = (false, eval e X.env) :: starEach [] X.env := by rfl) : PI X (.Tuple elts kk tpos) (.Call (.Name "enumerate" p) [e] [] pos) (iD X.K E (mEnum m)) := by
  refine (pi_enum hg hm (pa_cons he pa_nil hs') hs).imp fun σ H R ⟨c, Z, ρ, r, q⟩ => ⟨c, Z, ρ, r, iR.bind q fun d ρ1 v H1 r1 e1 h1 q => ?_⟩
  cases e1 : d.lis with
  | none => simp only [e1] at q; exact q.elim
  | some l =>
    simp only [e1] at q
    obtain ⟨a, vs, rfl, g1, g2⟩ := D.lis_rep e1 h1
    exact ⟨a, vs, rfl, g1, q _ _ H1 r1 Ext.refl (fun q hq => by rw [List.mem_singleton.mp hq]; exact h1) (wk_enum e1)⟩
theorem zipD_get : ∀ {l r : List D} {i : Nat} {d : D}, (zipD l r)[i]? = some d → ∃ x y, l[i]? = some x ∧ r[i]? = some y ∧ d = .tup [x, y]
  | [], r, i, d, h => by simp [zipD] at h
  | a :: l, [], i, d, h => by simp [zipD] at h
  | a :: l, b :: r, 0, d, h => by
    simp only [zipD, List.getElem?_cons_zero, Option.some.injEq] at h
    exact ⟨a, b, rfl, rfl, h.symm⟩
  | a :: l, b :: r, i + 1, d, h => by
    simp only [zipD, List.getElem?_cons_succ] at h
    obtain ⟨x, y, h1, h2, h3⟩ := zipD_get h
    exact ⟨x, y, by simpa using h1, by simpa using h2, h3⟩
theorem zipD_len : ∀ (l r : List D), (zipD l r).length = min l.length r.length
  | [], r => by simp [zipD]
  | a :: l, [] => by simp [zipD]
  | a :: l, b :: r => by
    simp only [zipD, List.length_cons, zipD_len l r]
    omega
theorem wk_zip {a b : Addr} {d d' : D} {l r : List D} (hd : d.lis = some l) (hd' : d'.lis = some r) : WkD K (Itz K a b) (zipD l r) [(d, .ref a), (d', .ref b)] := by
  have at_ : ∀ (H : Hp) (Z : Addr → Prop), (∀ q ∈ [(d, V.ref a), (d', V.ref b)], Rep K H Z q.1 q.2) → ∃ vs us, SqL K H a vs ∧ Reps K H Z l vs ∧ SqL K H b us ∧ Reps K H Z r us := fun H Z h => by
    obtain ⟨p, vs, e, h1, h2⟩ := D.lis_rep hd (h (d, .ref a) (by simp))
    obtain ⟨p', us, e', h3, h4⟩ := D.lis_rep hd' (h (d', .ref b) (by simp))
    cases e
    cases e'
    exact ⟨vs, us, h1, h2, h3, h4⟩
  refine ⟨fun H Z hz h i x hx => ?_, fun H Z h => ?_⟩
  · obtain ⟨vs, us, h1, h2, h3, h4⟩ := at_ H Z h
    obtain ⟨x1, y1, hx1, hy1, rfl⟩ := zipD_get hx
    obtain ⟨v, hv, rv⟩ := h2.get hx1
    obtain ⟨u, hu, ru⟩ := h4.get hy1
    refine ⟨⟨vs, us, v, u, h1, h3, hv, hu⟩, fun w H' hw => ?_⟩
    obtain ⟨T, x', y', rfl, hT, rfl, k1, k2⟩ := hw
    have e := k1 vs h1
    have e' := k2 us h3
    rw [hv] at e
    rw [hu] at e'
    cases e
    cases e'
    exact ⟨same_upd hT, new_tup hz hT (Reps.cons rv (Reps.one ru))⟩
  · obtain ⟨vs, us, h1, h2, h3, h4⟩ := at_ H Z h
    have := h2.len
    have := h4.len
    exact ⟨vs, us, h1, h3, by rw [zipD_len]; omega⟩
theorem wk_zipT {a b : Addr} {l r : List D} : WkD K (RZ.ItzT K a b) (zipD l r) [(.tup l, .ref a), (.tup r, .ref b)] := by
  have at_ : ∀ (H : Hp) (Z : Addr → Prop), (∀ q ∈ [(D.tup l, V.ref a), (D.tup r, V.ref b)], Rep K H Z q.1 q.2) → ∃ vs us, SqT K H a vs ∧ Reps K H Z l vs ∧ SqT K H b us ∧ Reps K H Z r us := fun H Z h => by
    have g1 := h (.tup l, .ref a) (by simp)
    have g2 := h (.tup r, .ref b) (by simp)
    simp only [Rep] at g1 g2
    obtain ⟨p, vs, e, h1, h2⟩ := g1
    obtain ⟨p', us, e', h3, h4⟩ := g2
    cases e
    cases e'
    exact ⟨vs, us, h1.sq, h2, h3.sq, h4⟩
  refine ⟨fun H Z hz h i x hx => ?_, fun H Z h => ?_⟩
  · obtain ⟨vs, us, h1, h2, h3, h4⟩ := at_ H Z h
    obtain ⟨x1, y1, hx1, hy1, rfl⟩ := zipD_get hx
    obtain ⟨v, hv, rv⟩ := h2.get hx1
    obtain ⟨u, hu, ru⟩ := h4.get hy1
    refine ⟨⟨vs, us, v, u, h1, h3, hv, hu⟩, fun w H' hw => ?_⟩
    obtain ⟨T, x', y', rfl, hT, rfl, k1, k2⟩ := hw
    have e := k1 vs h1
    have e' := k2 us h3
    rw [hv] at e
    rw [hu] at e'
    cases e
    cases e'
    exact ⟨same_upd hT, new_tup hz hT (Reps.cons rv (Reps.one ru))⟩
  · obtain ⟨vs, us, h1, h2, h3, h4⟩ := at_ H Z h
    have := h2.len
    have := h4.len
    exact ⟨vs, us, h1, h3, by rw [zipD_len]; omega⟩
theorem i_zip {elts : List Expr} {kk : Nat} (he : PE X e (tD X.K E m)) (he2 : PE X e2 (tD X.K E m')) (hm : X.mg "zip" = none) (hg : Gl X "zip" := by rfl) (hs : starEach [e, e2] X.env = (false, eval e X.env) :: starEach [e2] X.env := by rfl) (hs2 : starEach [e2] X.env = (false, eval e2 X.env) :: starEach [] X.env := by rfl)
    (hpl : (backTo pos (starEach [e2] X.env)).any (·.1) = false := by rfl) : PI X (.Tuple elts kk tpos) (.Call (.Name "zip" p) [e, e2] [] pos) (iD X.K E (mZip m m')) := by
  refine (RZ.pi_zipA hg hm (pa_cons he (pa_cons he2 pa_nil hs2) hs) hs hpl).imp fun σ H R ⟨c, Z, ρ, r, q0⟩ => ⟨c, Z, ρ, r, iR.bind q0 fun d ρ1 v H1 r1 e1 h1 q1 => ⟨c, Z, ρ1, r1, iR.bind q1 fun d' ρ2 v' H2 r2 e2 h2 q => ?_⟩⟩
  have h1' := Rep.ext e2 _ _ h1
  split at q
  · rename_i l l'
    have h1'' := h1'
    have h2' : Rep X.K H2 Z (.tup l') v' := h2
    simp only [Rep] at h1'' h2'
    obtain ⟨a, vs, rfl, g1, g2⟩ := h1''
    obtain ⟨b, us, rfl, g3, g4⟩ := h2'
    exact ⟨a, b, vs, us, rfl, .inr ⟨g1.sq, g3.sq, q _ _ H2 r2 Ext.refl (fun q hq => by
      rcases List.mem_cons.mp hq with e | hq
      · rw [e]; exact h1'
      · rw [List.mem_singleton.mp hq]; exact h2) wk_zipT⟩⟩
  · split at q
    · rename_i l l' g1 g2
      obtain ⟨a, vs, rfl, k1, k2⟩ := D.lis_rep g1 h1'
      obtain ⟨b, us, rfl, k3, k4⟩ := D.lis_rep g2 h2
      exact ⟨a, b, vs, us, rfl, .inl ⟨k1, k3, q _ _ H2 r2 Ext.refl (fun q hq => by
        rcases List.mem_cons.mp hq with e | hq
        · rw [e]; exact h1'
        · rw [List.mem_singleton.mp hq]; exact h2) (wk_zip g1 g2)⟩⟩
    · exact q.elim
end
end DL
set_option Elab.async false
set_option linter.all false
set_option maxRecDepth 100000
set_option maxHeartbeats 4000000
namespace DL
open PySem PySem.Spec PyProof.Rows L2
variable [CTab]
/-! ### more data that must stand, for a while -/
def Cz.withEx (c : Cz) (ex : List (D × V)) : Cz := { c with ex := ex ++ c.ex }
section
variable {K : PySem.W.Frag} {c : Cz} {Z : Addr → Prop} {ρ : Env} {σ : St} {H : Hp} {ex : List (D × V)}
theorem Rel.more (r : Rel K c Z ρ σ H) (h : ∀ q ∈ ex, Rep K H Z q.1 q.2) : Rel K (c.withEx ex) Z ρ σ H :=
  ⟨r.frame, r.keep, r.base, r.len, r.dom, r.val, r.own, r.inn, r.inj, fun q hq => (List.mem_append.mp hq).elim (h q) (r.xs q), r.hd⟩
theorem Rel.less (r : Rel K (c.withEx ex) Z ρ σ H) : Rel K c Z ρ σ H :=
  ⟨r.frame, r.keep, r.base, r.len, r.dom, r.val, r.own, r.inn, r.inj, fun q hq => r.xs q (List.mem_append_right _ hq), r.hd⟩
theorem Rel.exs (r : Rel K (c.withEx ex) Z ρ σ H) : ∀ q ∈ ex, Rep K H Z q.1 q.2 := fun q hq => r.xs q (List.mem_append_left _ hq)
theorem RelS.less (r : RelS K (c.withEx ex) ρ σ H) : RelS K c ρ σ H := ⟨r.choose, r.choose_spec.less⟩
end
/-! ### for -/
def forGo (g : MT) (body : M Fl) : List D → Env → Res Fl
  | [], ρ => .ok .nx ρ
  | d :: ds, ρ => match g d ρ with
    | none => .fail
    | some ρ1 => (match body ρ1 with
      | .ok .nx ρ2 => forGo g body ds ρ2
      | .ok .ct ρ2 => forGo g body ds ρ2
      | .ok .bk ρ2 => .ok .nx ρ2
      | r => r)
def mFor (mi : M (List D)) (g : MT) (body : M Fl) : M Fl := fun ρ => bindR (mi ρ) fun ds ρ => forGo g body ds ρ
def whileGo (t : M Bool) (body : M Fl) : Nat → Env → Res Fl
  | 0, _ => .fail
  | n + 1, ρ => bindR (t ρ) fun k ρ1 => if k = true then (match body ρ1 with
      | .ok .nx ρ2 => whileGo t body n ρ2
      | .ok .ct ρ2 => whileGo t body n ρ2
      | .ok .bk ρ2 => .ok .nx ρ2
      | r => r) else .ok .nx ρ1
/-- a while of at most so many turns -/
def mWhile (n : Nat) (t : M Bool) (body : M Fl) : M Fl := whileGo t body n
section
variable {X : Cx} {E : XK} {pos : Pos} {tg iter e : Expr} {body : List Stmt} {mi : M (List D)} {g : MT} {is : List Nat} {b : M Fl} {t : M Bool}
theorem s_for (hp : PassesOwn (model X.prog X.w) X.A X.env X.xe) (hc : X.calm = true) (hi : PI X tg iter (iD X.K E mi)) (hg : PG X tg (tTG X.K is g)) (hb : PSs X body (tS X.K E b)) (hs : ∀ x, foldedSetIterable iter X.env x = pure x := by intro _; rfl) : PS X (.For tg iter body [] pos) (tS X.K E (mFor mi g b)) := by
  refine (ps_for hp hc hi hg hb hs).imp fun Dn σ H h => ?_
  obtain ⟨c, ρ, ⟨Z, r⟩, q⟩ := h
  refine ⟨c, Z, ρ, r, ?_⟩
  unfold mFor at q
  cases em : mi ρ with
  | fail => rw [em] at q; exact q
  | exc x l ρ1 => rw [em] at q; exact fun ed vs H' h1 h2 h3 h4 h5 => q σ ed vs H' ⟨Z, h1⟩ h3 h4 (Reps.zed h1.z0 _ _ h5)
  | ok ds ρ1 =>
    rw [em, bindR_ok] at q
    intro J ex H1 r1 e1 hex wk
    refine ⟨fun i m σ H => m = ds.length - i ∧ i ≤ ds.length ∧ ∃ ρ, RelS X.K (c.withEx ex) ρ σ H ∧ tSR X.K E c Dn (forGo g b (ds.drop i) ρ), ⟨_, rfl, Nat.zero_le _, ρ1, ⟨Z, r1.more hex⟩, q⟩, ?_⟩
    rintro i m σ2 H2 ⟨rfl, hi2, ρ2, ⟨Z2, r2⟩, q2⟩
    by_cases hlt : i < ds.length
    · refine .inr ?_
      have hd : ds[i]? = some ds[i] := List.getElem?_eq_getElem hlt
      obtain ⟨go, yl⟩ := wk.go H2 Z2 r2.dom r2.exs i ds[i] hd
      rw [List.drop_eq_getElem_cons hlt] at q2
      unfold forGo at q2
      cases eg : g ds[i] ρ2 with
      | none => rw [eg] at q2; exact q2.elim
      | some ρ3 =>
        rw [eg] at q2
        simp only at q2
        refine ⟨go, fun σ' H' => ∃ ρ, RelS X.K (c.withEx ex) ρ σ' H' ∧ tSR X.K E c Dn (forGo g b (ds.drop (i + 1)) ρ), fun σ' H' ⟨ρ', r', q'⟩ => ⟨ds.length - (i + 1), by omega, rfl, hlt, ρ', r', q'⟩, fun x H' y => ?_⟩
        obtain ⟨s3, rd⟩ := yl x H' y
        refine ⟨c.withEx ex, Z2, ρ2, ds[i], ρ3, r2.same s3, rd, eg, fun σ4 H4 r4 s4 _ => ⟨c.withEx ex, ρ3, ⟨Z2, r4⟩, ?_⟩⟩
        cases eb : b ρ3 with
        | fail => rw [eb] at q2; exact q2
        | exc x l ρ4 => rw [eb] at q2; exact fun σ ed vs H h1 h2 h3 h4 => q2 σ ed vs H h1.less h2 h3 h4
        | ok f ρ4 =>
          rw [eb] at q2
          cases f with
          | nx => exact fun σ H r => ⟨ρ4, r, q2⟩
          | ct => exact fun σ H r => ⟨ρ4, r, q2⟩
          | bk => exact fun σ H r => q2 σ H r.less
          | rt d => exact fun σ v H r hd => q2 σ v H r.less hd
    · have e0 : i = ds.length := by omega
      subst e0
      rw [List.drop_length] at q2
      exact .inl ⟨wk.stop H2 Z2 r2.exs, q2 σ2 H2 ⟨Z2, r2.less⟩⟩
theorem s_while (n : Nat) (hp : PassesOwn (model X.prog X.w) X.A X.env X.xe) (ht : PT X e (tT X.K E t)) (hb : PSs X body (tS X.K E b)) : PS X (.While e body [] pos) (tS X.K E (mWhile n t b)) := by
  refine (ps_while hp ht hb).imp fun Dn σ H h => ?_
  obtain ⟨c, ρ, r, q⟩ := h
  refine ⟨fun m σ H => ∃ ρ, RelS X.K c ρ σ H ∧ tSR X.K E c Dn (whileGo t b m ρ), ⟨n, ρ, r, q⟩, ?_⟩
  rintro m σ1 H1 ⟨ρ1, ⟨Z, r1⟩, q1⟩
  cases m with
  | zero => exact q1.elim
  | succ m =>
    unfold whileGo at q1
    refine ⟨c, Z, ρ1, r1, tSR.expr q1 fun k ρ2 k' H2 r2 hk q2 => ?_⟩
    cases (show k = k' from hk)
    cases k with
    | false => exact iteF (q2 σ1 H2 ⟨Z, r2⟩)
    | true =>
      rw [if_pos rfl] at q2
      refine iteT ⟨fun σ' H' => ∃ ρ, RelS X.K c ρ σ' H' ∧ tSR X.K E c Dn (whileGo t b m ρ), fun σ' H' ⟨ρ', r', q'⟩ => ⟨m, Nat.lt_succ_self m, ρ', r', q'⟩, c, ρ2, ⟨Z, r2⟩, ?_⟩
      cases eb : b ρ2 with
      | fail => rw [eb] at q2; exact q2
      | exc x l ρ4 => rw [eb] at q2; exact q2
      | ok f ρ4 =>
        rw [eb] at q2
        cases f with
        | nx => exact fun σ H r => ⟨ρ4, r, q2⟩
        | ct => exact fun σ H r => ⟨ρ4, r, q2⟩
        | bk => exact fun σ H r => q2 σ H r
        | rt d => exact fun σ v H r hd => q2 σ v H r hd
end
/-! ### comprehensions -/
def notOwn (ρ : Env) (i : Nat) : Bool := match ρ[i]? with
  | some (some (.own _)) => false
  | some (some (.inn _)) => false
  | _ => true
def wipeE (ρ : Env) : List Nat → Env
  | [] => ρ
  | v :: vs => (wipeE ρ vs).set v none
/-- the slots vs as in ρ, the others as in ρ' -/
def restore (ρ ρ' : Env) : List Nat → Env
  | [] => ρ'
  | v :: vs => (restore ρ ρ' vs).set v ((ρ[v]?).getD none)
def lcGo (vs : List Nat) (g : MT) (t : M Bool) (m : M D) : List D → Env → Res (List D)
  | [], ρ => .ok [] ρ
  | d :: ds, ρ => match g d (wipeE ρ vs) with
    | none => .fail
    | some ρ1 => bindR (t ρ1) fun k ρ2 => if k = true then bindR (m ρ2) fun y ρ3 => bindR (lcGo vs g t m ds (restore ρ ρ3 vs)) fun ys ρ4 => .ok (y :: ys) ρ4
      else lcGo vs g t m ds (restore ρ ρ2 vs)
def mLc (vs : List Nat) (mi : M (List D)) (g : MT) (t : M Bool) (m : M D) : M (List D) := fun ρ => bindR (mi ρ) fun ds ρ => if (vs.all (notOwn ρ) && decide (ds.length ≤ sizeLine)) = true then lcGo vs g t m ds ρ else .fail
def mTrue : M Bool := fun ρ => .ok true ρ
def mLcD (m : M (List D)) : M D := fun ρ => bindR (m ρ) fun l ρ => .ok (.lst l) ρ
def oLc (m : M (List D)) : M Ct := fun ρ => bindR (m ρ) fun l ρ => .ok (.lst l) ρ
section
variable {K : PySem.W.Frag} {c : Cz} {Z : Addr → Prop} {ρ ρ' : Env} {σ σ' : St} {H H' : Hp} {vs : List Nat}
theorem wipeE_len : ∀ vs : List Nat, (wipeE ρ vs).length = ρ.length
  | [] => rfl
  | v :: vs => by simp [wipeE, wipeE_len vs]
theorem Rel.wipe (r : Rel K c Z ρ σ H) : ∀ vs : List Nat, Rel K c Z (wipeE ρ vs) (L2.wipe σ vs) H
  | [] => r
  | v :: vs => by
    have r1 := (Rel.wipe r vs).drop v
    -- the slot itself is emptied too
    have at_ : ∀ {j : Nat} {w : W}, ((wipeE ρ vs).set v none)[j]? = some (some w) → ((L2.wipe σ vs).set v none)[j]? = (L2.wipe σ vs)[j]? := fun {j w} h => by
      by_cases e : v = j
      · subst e
        have hl : v < (wipeE ρ vs).length := by
          have := (List.getElem?_eq_some_iff.mp h).1
          simpa using this
        rw [List.getElem?_set_self hl] at h
        cases h
      · rw [List.getElem?_set_ne e]
    show Rel K c Z ((wipeE ρ vs).set v none) ((L2.wipe σ vs).set v none) H
    refine ⟨r1.frame, r1.keep, r1.base, by simp [r1.len], r1.dom, fun i d h => ?_, fun i t h => ?_, fun i t h => ?_, fun i j p hi hj h1 h2 => ?_, r1.xs, fun q hq => ?_⟩
    · obtain ⟨u, h1, h2⟩ := r1.val i d h
      exact ⟨u, by rw [at_ h]; exact h1, h2⟩
    · obtain ⟨p, h1, h2⟩ := r1.own i t h
      exact ⟨p, by rw [at_ h]; exact h1, h2⟩
    · obtain ⟨p, h1, h2⟩ := r1.inn i t h
      exact ⟨p, by rw [at_ h]; exact h1, h2⟩
    · obtain ⟨t, ht⟩ := id hi
      obtain ⟨u, hu⟩ := id hj
      rw [ht.elim at_ at_] at h1
      rw [hu.elim at_ at_] at h2
      exact r1.inj i j p hi hj h1 h2
    · obtain ⟨g1, g2, g3⟩ := r1.hd q hq
      refine ⟨g1, g2, fun j hj e => ?_⟩
      obtain ⟨t, ht⟩ := id hj
      rw [ht.elim at_ at_] at e
      exact g3 j hj e
theorem restore_at : ∀ (vs : List Nat) (j : Nat), ρ'.length = ρ.length → (restore ρ ρ' vs)[j]? = if j ∈ vs then ρ[j]? else ρ'[j]?
  | [], j, _ => by simp [restore]
  | v :: vs, j, hl => by
    have ih := restore_at vs j hl
    have len : ∀ vs, (restore ρ ρ' vs).length = ρ'.length := by
      intro vs
      induction vs with
      | nil => rfl
      | cons a r ih => simp [restore, ih]
    unfold restore
    by_cases e : v = j
    · subst e
      by_cases hv : v < ρ.length
      · rw [List.getElem?_set_self (by rw [len, hl]; exact hv), if_pos List.mem_cons_self, List.getElem?_eq_getElem hv]
        rfl
      · rw [if_pos List.mem_cons_self, List.getElem?_eq_none (by simp [len, hl]; omega), List.getElem?_eq_none (by omega)]
    · rw [List.getElem?_set_ne e, ih]
      have e2 : ¬ j = v := fun z => e z.symm
      simp [e2]
theorem restore_len : ∀ vs : List Nat, (restore ρ ρ' vs).length = ρ'.length
  | [] => rfl
  | v :: vs => by simp [restore, restore_len vs]
theorem wipe_at : ∀ (vs : List Nat) (j : Nat), j ∉ vs → (L2.wipe σ vs)[j]? = σ[j]?
  | [], j, _ => rfl
  | v :: vs, j, h => by
    simp only [List.mem_cons, not_or] at h
    show ((L2.wipe σ vs).set v none)[j]? = σ[j]?
    rw [List.getElem?_set_ne (Ne.symm h.1), wipe_at vs j h.2]
theorem notOwn_no {i : Nat} (h : notOwn ρ i = true) : ¬ isOwn ρ i := fun ⟨t, e⟩ => by
  unfold notOwn at h
  rcases e with e | e <;> (rw [e] at h; cases h)
/-- behind an item -/
theorem Rel.back (r : Rel K c Z ρ σ H) (r' : Rel K c Z ρ' σ' H') (hn : ∀ v ∈ vs, notOwn ρ v = true) (e : Ext Z H H') (o : ∀ j, j ∉ vs → σ'[j]? = σ[j]?) (hl : σ'.length = σ.length) : Rel K c Z (restore ρ ρ' vs) σ H' := by
  have hlen : ρ'.length = ρ.length := by rw [r'.len, r.len, hl]
  have at_ : ∀ j, (restore ρ ρ' vs)[j]? = if j ∈ vs then ρ[j]? else ρ'[j]? := fun j => restore_at vs j hlen
  have own' : ∀ j, isOwn (restore ρ ρ' vs) j → j ∉ vs ∧ isOwn ρ' j := fun j ⟨t, h⟩ => by
    rw [at_] at h
    by_cases hj : j ∈ vs
    · rw [if_pos hj] at h
      exact absurd ⟨t, h⟩ (notOwn_no (hn j hj))
    · rw [if_neg hj] at h
      exact ⟨hj, t, h⟩
  refine ⟨r'.frame, r'.keep, r'.base, by rw [restore_len, hlen, r.len], r'.dom, fun j d h => ?_, fun j t h => ?_, fun j t h => ?_, fun i j p hi hj h1 h2 => ?_, r'.xs, fun q hq => ?_⟩
  · rw [at_] at h
    by_cases hj : j ∈ vs
    · rw [if_pos hj] at h
      obtain ⟨v, h1, h2⟩ := r.val j d h
      exact ⟨v, h1, h2.ext e⟩
    · rw [if_neg hj] at h
      obtain ⟨v, h1, h2⟩ := r'.val j d h
      exact ⟨v, by rw [← o j hj]; exact h1, h2⟩
  · obtain ⟨hj, _⟩ := own' j ⟨t, .inl h⟩
    rw [at_, if_neg hj] at h
    obtain ⟨p, h1, h2⟩ := r'.own j t h
    exact ⟨p, by rw [← o j hj]; exact h1, h2⟩
  · obtain ⟨hj, _⟩ := own' j ⟨t, .inr h⟩
    rw [at_, if_neg hj] at h
    obtain ⟨p, h1, h2⟩ := r'.inn j t h
    exact ⟨p, by rw [← o j hj]; exact h1, h2⟩
  · obtain ⟨a1, a2⟩ := own' i hi
    obtain ⟨b1, b2⟩ := own' j hj
    rw [← o i a1] at h1
    rw [← o j b1] at h2
    exact r'.inj i j p a2 b2 h1 h2
  · obtain ⟨g1, g2, g3⟩ := r'.hd q hq
    refine ⟨g1, g2, fun j hj ej => ?_⟩
    obtain ⟨a1, a2⟩ := own' j hj
    rw [← o j a1] at ej
    exact g3 j a2 ej
end
end DL
set_option Elab.async false
set_option linter.all false
set_option maxRecDepth 100000
set_option maxHeartbeats 4000000
namespace DL
open PySem PySem.Spec PyProof.Rows L2
variable [CTab]
/-! ### a new list that no slot holds, while a comprehension runs -/
def Cz.withHid (c : Cz) (D : Addr) (t : Ct) : Cz := { c with hid := (D, t) :: c.hid }
section
variable {K : PySem.W.Frag} {c : Cz} {Z : Addr → Prop} {ρ ρ' : Env} {σ σ' : St} {H H' : Hp} {vs : List Nat} {D : Addr} {t t' : Ct}
theorem NewAt.hide (n : NewAt K c Z ρ σ H t D) : Rel K (c.withHid D t) Z ρ σ H :=
  ⟨n.rel.frame, n.rel.keep, n.rel.base, n.rel.len, n.rel.dom, n.rel.val, n.rel.own, n.rel.inn, n.rel.inj, n.rel.xs, fun q hq => by
    rcases List.mem_cons.mp hq with e | hq
    · subst e
      exact ⟨n.z, n.at_, n.no⟩
    · exact n.rel.hd q hq⟩
theorem Rel.hidAt (r : Rel K (c.withHid D t) Z ρ σ H) : Z D ∧ RepC K H Z t D ∧ ∀ j, isOwn ρ j → σ[j]? ≠ some (some (.ref D)) := r.hd (D, t) List.mem_cons_self
theorem Rel.unhide (r : Rel K (c.withHid D t) Z ρ σ H) : Rel K c Z ρ σ H :=
  ⟨r.frame, r.keep, r.base, r.len, r.dom, r.val, r.own, r.inn, r.inj, r.xs, fun q hq => r.hd q (List.mem_cons_of_mem _ hq)⟩
theorem Rel.showAt (r : Rel K (c.withHid D t) Z ρ σ H) (h0 : c.H0 D = none) (hn : ∀ q ∈ c.hid, q.1 ≠ D) : NewAt K c Z ρ σ H t D :=
  ⟨r.unhide, r.hidAt.1, h0, r.hidAt.2.1, r.hidAt.2.2, hn⟩
/-- the new thing alone has changed -/
theorem Rel.putHid (r : Rel K (c.withHid D t) Z ρ σ H) (h0 : c.H0 D = none) (hn : ∀ q ∈ c.hid, q.1 ≠ D) (hk : ∀ a o, a ≠ D → H a = some o → H' a = some o) (h' : RepC K H' Z t' D) : Rel K (c.withHid D t') Z ρ σ H' := by
  obtain ⟨hz, hc, ho⟩ := r.hidAt
  have e0 : Ext Z H H' := fun a o n e => hk a o (fun q => n (by rw [q]; exact hz)) e
  have alive : ∀ a, H' a = none → H a = none := fun a e => by
    cases q : H a with
    | none => rfl
    | some o =>
      by_cases ha : a = D
      · obtain ⟨o', ho⟩ := h'.some
        rw [ha, ho] at e
        cases e
      · rw [hk a o ha q] at e
        cases e
  have keepC : ∀ {q u}, q ≠ D → RepC K H Z u q → RepC K H' Z u q := fun {q u} hne hu => by
    obtain ⟨o, ho⟩ := hu.some
    exact hu.ext e0 (by rw [hk q o hne ho, ho])
  refine ⟨fun a o n e => ?_, fun a e => r.keep a (alive a e), r.base, r.len, fun a z e => r.dom a z (alive a e), fun j d hd => ?_, fun j u hu => ?_, fun j u hu => ?_, r.inj, fun q hq => (r.xs q hq).ext e0, fun q hq => ?_⟩
  · refine hk a o (fun q => ?_) (r.frame a o n e)
    subst q
    have e : c.H0 a = some o := e
    rw [h0] at e
    cases e
  · obtain ⟨v, q1, q2⟩ := r.val j d hd
    exact ⟨v, q1, q2.ext e0⟩
  · obtain ⟨q, q1, q2, q3, q4⟩ := r.own j u hu
    exact ⟨q, q1, q2, q3, keepC (fun e => ho j ⟨u, .inl hu⟩ (by rw [q1, e])) q4⟩
  · obtain ⟨q, q1, q2, q3, q4⟩ := r.inn j u hu
    exact ⟨q, q1, q2, q3, keepC (fun e => ho j ⟨u, .inr hu⟩ (by rw [q1, e])) q4⟩
  · rcases List.mem_cons.mp hq with e | hq
    · subst e
      exact ⟨hz, h', ho⟩
    · obtain ⟨g1, g2, g3⟩ := r.hd q (List.mem_cons_of_mem _ hq)
      exact ⟨g1, keepC (hn q hq) g2, g3⟩
/-- without D among what may change -/
theorem NewAt.frz (n : NewAt K c Z ρ σ H t D) {Y : Addr → Prop} (hY : ∀ a, Z a ↔ (Y a ∨ a = D)) (hD : ¬ Y D) : Rel K c Y ρ σ H ∧ Rep K H Y t.toD (.ref D) := by
  have r := n.rel
  have zs : ∀ a o, ¬ Z a → H a = some o → ¬ Y a := fun a o n _ y => n ((hY a).mpr (.inl y))
  refine ⟨⟨r.frame, r.keep, fun a z => ⟨?_, (r.base a z).2⟩, r.len, fun a z => r.dom a ((hY a).mpr (.inl z)), fun j d hd => ?_, fun j u hu => ?_, fun j u hu => ?_, r.inj, fun q hq => (r.xs q hq).zed zs, fun q hq => ?_⟩, ?_⟩
  · rcases (hY a).mp (r.base a z).1 with y | e
    · exact y
    · exact absurd n.new (by rw [← e]; exact (r.base a z).2)
  · obtain ⟨v, q1, q2⟩ := r.val j d hd
    exact ⟨v, q1, q2.zed zs⟩
  · obtain ⟨q, q1, q2, q3, q4⟩ := r.own j u hu
    refine ⟨q, q1, ((hY q).mp q2).resolve_right fun e => n.no j ⟨u, .inl hu⟩ (by rw [q1, e]), q3, q4.zed zs⟩
  · obtain ⟨q, q1, q2, q3, q4⟩ := r.inn j u hu
    refine ⟨q, q1, ((hY q).mp q2).resolve_right fun e => n.no j ⟨u, .inr hu⟩ (by rw [q1, e]), q3, q4.zed zs⟩
  · obtain ⟨g1, g2, g3⟩ := r.hd q hq
    exact ⟨((hY _).mp g1).resolve_right (n.nh q hq), g2.zed zs, g3⟩
  · obtain ⟨o, h1, h2⟩ := n.at_
    exact CtHO.toD hD h1 (h2.zed zs)
theorem wipe_len : ∀ vs : List Nat, (L2.wipe σ vs).length = σ.length
  | [] => rfl
  | v :: vs => by
    show ((L2.wipe σ vs).set v none).length = σ.length
    rw [List.length_set, wipe_len vs]
theorem wipe_get : ∀ (vs : List Nat) (j : Nat), (L2.wipe σ vs)[j]? = if j ∈ vs ∧ j < σ.length then some none else σ[j]?
  | [], j => by simp [L2.wipe]
  | v :: vs, j => by
    show ((L2.wipe σ vs).set v none)[j]? = _
    by_cases e : v = j
    · subst e
      by_cases hv : v < σ.length
      · rw [List.getElem?_set_self (by rw [wipe_len]; exact hv), if_pos ⟨List.mem_cons_self, hv⟩]
      · rw [if_neg (fun h => hv h.2), List.getElem?_eq_none (by simp [wipe_len]; omega), List.getElem?_eq_none (by omega)]
    · rw [List.getElem?_set_ne e, wipe_get vs j]
      have e2 : ¬ j = v := fun z => e z.symm
      simp [e2]
theorem wipe_eq (hl : σ'.length = σ.length) (h : ∀ j, j ∉ vs → σ'[j]? = σ[j]?) : L2.wipe σ' vs = L2.wipe σ vs := by
  apply List.ext_getElem?
  intro j
  rw [wipe_get, wipe_get, hl]
  by_cases hj : j ∈ vs
  · by_cases hlt : j < σ.length
    · simp [hj, hlt]
    · rw [if_neg (fun h => hlt h.2), if_neg (fun h => hlt h.2), List.getElem?_eq_none (by omega), List.getElem?_eq_none (by omega)]
  · simp [hj, h j hj]
end
/-! ### list comprehensions with one for -/
abbrev E0 : XK := fun _ _ _ => False
def noX {α : Type} : Res α → Res α
  | .exc _ _ _ => .fail
  | r => r
def lcIt (vs : List Nat) (g : MT) (t : M Bool) (m : M D) (d : D) (ρ : Env) : Res (Option D) := match g d (wipeE ρ vs) with
  | none => .fail
  | some ρ1 => (match t ρ1 with
    | .ok true ρ2 => (match m ρ2 with
      | .ok y ρ3 => .ok (some y) (restore ρ ρ3 vs)
      | _ => .fail)
    | .ok false ρ2 => .ok none (restore ρ ρ2 vs)
    | _ => .fail)
def lcs (f : D → Env → Res (Option D)) : List D → Env → Res (List D)
  | [], ρ => .ok [] ρ
  | d :: ds, ρ => match f d ρ with
    | .ok o ρ1 => (match lcs f ds ρ1 with
      | .ok ys ρ2 => .ok (match o with | some y => y :: ys | none => ys) ρ2
      | r => r)
    | _ => .fail
/-- the items of a comprehension -/
def mComp (vs : List Nat) (mi : M (List D)) (g : MT) (t : M Bool) (m : M D) : M (List D) := fun ρ => bindR (mi ρ) fun ds ρ => if (vs.all (notOwn ρ) && decide (ds.length ≤ sizeLine)) = true then lcs (lcIt vs g t m) ds ρ else .fail
section
variable {K : PySem.W.Frag} {c : Cz} {Z : Addr → Prop} {ρ ρ' : Env} {σ σ' : St} {H H' : Hp} {vs is : List Nat} {t : Ct} {mi : M (List D)} {g : MT} {tt : M Bool} {m : M D}
theorem notOwn_back (hl : ρ'.length = ρ.length) (h : ∀ v ∈ vs, notOwn ρ v = true) : ∀ v ∈ vs, notOwn (restore ρ ρ' vs) v = true := fun v hv => by
  have e : (restore ρ ρ' vs)[v]? = ρ[v]? := by rw [restore_at vs v hl, if_pos hv]
  have h := h v hv
  unfold notOwn at h ⊢
  rw [e]
  exact h
theorem lcs_len {f : D → Env → Res (Option D)} : ∀ {ds : List D} {ρ ρ' : Env} {ys : List D}, lcs f ds ρ = .ok ys ρ' → ys.length ≤ ds.length
  | [], ρ, ρ', ys, h => by cases h; exact Nat.le_refl _
  | d :: ds, ρ, ρ', ys, h => by
    unfold lcs at h
    split at h
    · rename_i o ρ1 e1
      split at h
      · rename_i zs ρ2 e2
        have := lcs_len e2
        cases h
        cases o <;> simp <;> omega
      · rename_i r hr
        exact absurd h (hr _ _)
    · cases h
theorem lcs_noexc {f : D → Env → Res (Option D)} {x : Nat} {l : List D} : ∀ {ds : List D} {ρ ρ' : Env}, lcs f ds ρ ≠ .exc x l ρ'
  | [], ρ, ρ', h => by cases h
  | d :: ds, ρ, ρ', h => by
    unfold lcs at h
    split at h
    · split at h
      · cases h
      · exact lcs_noexc h
    · cases h
theorem lc_gen {σ : St} {H : Hp} {Q : VK} {E : XK} (hg : ∀ j ∈ is, j ∈ vs)
    (h : ∃ c Z ρ, Rel K c Z ρ σ H ∧ match mComp vs mi g tt m ρ with
      | .fail => False
      | .exc x l ρ' => ∀ ed us H', Rel K c Z ρ' σ H' → Ext Z H H' → H' ed = some (.xd ((cF x).zip us)) → us.length ≤ (cF x).length → Reps K H' Z l us → E (.ref (He.ga K (cN x))) (some ed) H'
      | .ok l ρ' => ∀ D H1 H', H1 D = none → Ext Z H H1 → (∀ p, Z p → H1 p ≠ none) → NewAt K c (fun a => Z a ∨ a = D) ρ' σ H' (.lst l) D → Ext (fun a => Z a ∨ a = D) H1 H' → Q (.ref D) H') :
    tLc (iD K E mi) (tTG K is g) (tT K E0 tt) (tD K E0 m) vs σ H Q := by
  obtain ⟨c, Z, ρ, r, q⟩ := h
  refine ⟨c, Z, ρ, r, ?_⟩
  unfold mComp at q
  cases em : mi ρ with
  | fail => rw [em] at q; exact q
  | exc x l ρ1 => rw [em] at q; exact q
  | ok ds ρ1 =>
    rw [em, bindR_ok] at q
    intro J ex H1 r1 e1 hex wk D hD
    split at q
    · exact q.elim
    · rename_i x l ρ' hx
      exfalso
      split at hx
      · exact lcs_noexc hx
      · cases hx
    · rename_i l ρF hx
      split at hx
      · rename_i hb
        obtain ⟨hno, hlen⟩ := Bool.and_eq_true_iff.mp hb
        have hno : ∀ v ∈ vs, notOwn ρ1 v = true := by simpa using hno
        have hlen : ds.length ≤ sizeLine := of_decide_eq_true hlen
        have fin := fun H' => q D H1 H' hD e1 r1.dom
        clear q em
        have n0 := (r1.more hex).newAt (p := D) (o := .lst []) (t := .lst []) hD ⟨[], rfl, Reps.nil⟩
        refine ⟨fun i k H => k = ds.length - i ∧ i ≤ ds.length ∧ ∃ ys ρ zs, ys.length ≤ i ∧ Rel K ((c.withEx ex).withHid D (.lst ys)) (fun a => Z a ∨ a = D) ρ σ H ∧ Ext (fun a => Z a ∨ a = D) H1 H ∧ (∀ v ∈ vs, notOwn ρ v = true) ∧ lcs (lcIt vs g tt m) (ds.drop i) ρ = .ok zs ρF ∧ ys ++ zs = l,
          ⟨_, rfl, Nat.zero_le _, [], ρ1, l, Nat.zero_le _, n0.hide, fun a o nz e => by rw [upd_ne (fun z => nz (.inr z))]; exact e, hno, hx, rfl⟩, ?_⟩
        rintro i k H2 ⟨rfl, hi, ys, ρ2, zs, hys, r2, e2, hno2, hgo, hl⟩
        by_cases hlt : i < ds.length
        · refine .inr ?_
          have hd : ds[i]? = some ds[i] := List.getElem?_eq_getElem hlt
          obtain ⟨go, yl⟩ := wk.go H2 _ r2.dom (fun q hq => r2.xs q (List.mem_append_left _ hq)) i ds[i] hd
          rw [List.drop_eq_getElem_cons hlt] at hgo
          unfold lcs at hgo
          cases ef : lcIt vs g tt m ds[i] ρ2 with
          | fail => rw [ef] at hgo; cases hgo
          | exc _ _ _ => rw [ef] at hgo; cases hgo
          | ok o ρ3 =>
            rw [ef] at hgo
            simp only at hgo
            cases er : lcs (lcIt vs g tt m) (ds.drop (i + 1)) ρ3 with
            | fail => rw [er] at hgo; cases hgo
            | exc _ _ _ => rw [er] at hgo; cases hgo
            | ok ws ρ4 =>
              rw [er] at hgo
              simp only at hgo
              refine ⟨go, fun H' => ∃ ys', ys'.length ≤ i + 1 ∧ Rel K ((c.withEx ex).withHid D (.lst ys')) (fun a => Z a ∨ a = D) ρ3 σ H' ∧ Ext (fun a => Z a ∨ a = D) H1 H' ∧ (∀ v ∈ vs, notOwn ρ3 v = true) ∧ ys' ++ ws = l,
                fun H' ⟨ys', k1, k2, k3, k4, k5⟩ => ⟨ds.length - (i + 1), by omega, rfl, hlt, ys', ρ3, ws, k1, k2, k3, k4, by rw [er]; cases hgo; rfl, k5⟩, fun x H' y => ?_⟩
              obtain ⟨s3, rd⟩ := yl x H' y
              unfold lcIt at ef
              split at ef
              · cases ef
              · rename_i ρg hgd
                refine ⟨_, _, _, _, ρg, (r2.same s3).wipe vs, rd, hgd, fun σ4 H4 r4 s4 o4 => ?_⟩
                have out4 : ∀ j, j ∉ vs → σ4[j]? = σ[j]? := fun j hj => (o4.2 j fun z => hj (hg j z)).trans (wipe_at vs j hj)
                have len4 : σ4.length = σ.length := by rw [o4.1, wipe_len]
                refine ⟨(wipe_eq len4 out4), _, _, _, r4, ?_⟩
                split at ef
                · rename_i ρt ht
                  rw [ht]
                  intro b H5 r5 e5 hb5
                  cases (show true = b from hb5)
                  rw [if_pos rfl]
                  refine ⟨_, _, _, r5, ?_⟩
                  split at ef
                  · rename_i yv ρy hy
                    rw [hy]
                    intro v H6 r6 e6 hv
                    cases ef
                    have ex6 : Ext (fun a => Z a ∨ a = D) H2 H6 := ((Ext.same s3).trans (Ext.same s4)).trans (e5.trans e6)
                    have rb := Rel.back (r2) r6 hno2 ex6 out4 len4
                    obtain ⟨hz, ⟨o, ho, us, rfl, hus⟩, _⟩ := r6.hidAt
                    refine ⟨us, ho, by rw [← hus.len]; omega, ys ++ [yv], by simp; omega, rb.putHid n0.new n0.nh (fun a o ne e => by rw [upd_ne ne]; exact e) ⟨_, upd_same, _, rfl, ?_⟩, ?_, notOwn_back (by rw [r6.len, r2.len, len4]) hno2, ?_⟩
                    · have ex7 : Ext (fun a => Z a ∨ a = D) H6 (upd H6 D (.lst (us ++ [v]))) := fun a o nz e => by rw [upd_ne (fun z => nz (.inr z))]; exact e
                      exact (Reps.ext ex7 _ _ hus).app (Reps.one (Rep.ext ex7 _ _ hv))
                    · exact e2.trans (ex6.trans fun a o nz e => by rw [upd_ne (fun z => nz (.inr z))]; exact e)
                    · cases hgo
                      rw [← hl]
                      simp
                  · cases ef
                · rename_i ρt ht
                  rw [ht]
                  intro b H5 r5 e5 hb5
                  cases (show false = b from hb5)
                  rw [if_neg (by decide)]
                  cases ef
                  have ex6 : Ext (fun a => Z a ∨ a = D) H2 H5 := ((Ext.same s3).trans (Ext.same s4)).trans e5
                  refine ⟨ys, by omega, Rel.back r2 r5 hno2 ex6 out4 len4, e2.trans ex6, notOwn_back (by rw [r5.len, r2.len, len4]) hno2, ?_⟩
                  cases hgo
                  rw [← hl]
                · cases ef
        · have e0 : i = ds.length := by omega
          subst e0
          rw [List.drop_length] at hgo
          cases hgo
          rw [List.append_nil] at hl
          subst hl
          have rl : Rel K (c.withHid D (.lst ys)) (fun a => Z a ∨ a = D) _ σ H2 := ⟨r2.frame, r2.keep, r2.base, r2.len, r2.dom, r2.val, r2.own, r2.inn, r2.inj, fun q hq => r2.xs q (List.mem_append_right _ hq), r2.hd⟩
          exact .inl ⟨wk.stop H2 _ (fun q hq => r2.xs q (List.mem_append_left _ hq)), fin H2 (rl.showAt n0.new n0.nh) e2⟩
      · cases hx
end
end DL
set_option Elab.async false
set_option linter.all false
set_option maxRecDepth 100000
set_option maxHeartbeats 4000000
namespace DL
open PySem PySem.Spec PyProof.Rows L2
variable [CTab]
section
variable {X : Cx} {E : XK} {pos spos py : Pos} {elt tg iter e : Expr} {ifs : List Expr} {scope : Scope} {own : List (Str × Nat)} {vs is : List Nat} {mi : M (List D)} {g : MT} {t : M Bool} {m : M D} {y : Str}
theorem ts_nil : PTs X [] (tT X.K E mTrue) := ⟨fun pins s σ H Q I h => pts_nil.run pins s σ H Q I (by
  obtain ⟨c, Z, ρ, r, q⟩ := h
  exact q true H r Ext.refl rfl)⟩
theorem ts_one (h : PT X e (tT X.K E t)) : PTs X [e] (tT X.K E t) := pts_one h
theorem ext_or {Z : Addr → Prop} {D : Addr} {H H' : Hp} (e : Ext (fun a => Z a ∨ a = D) H H') (h : H D = none) : Ext Z H H' := fun a o nz ea => e a o (fun z => z.elim nz fun q => by rw [q, h] at ea; cases ea) ea
theorem lcD {K : PySem.W.Frag} {σ : St} {H : Hp} {Q : VK} (hg : ∀ j ∈ is, j ∈ vs) (h : tD K E (mLcD (mComp vs mi g t m)) σ H Q) : tLc (iD K E mi) (tTG K is g) (tT K E0 t) (tD K E0 m) vs σ H Q := by
  obtain ⟨c, Z, ρ, r, q⟩ := h
  refine lc_gen hg ⟨c, Z, ρ, r, ?_⟩
  unfold mLcD at q
  cases ec : mComp vs mi g t m ρ with
  | fail => rw [ec] at q; exact q
  | exc x l ρ' => rw [ec] at q; exact q
  | ok l ρ' =>
    rw [ec] at q
    intro D H1 H' hD e1 hz n e2
    have hnz : ¬ Z D := fun z => hz D z hD
    obtain ⟨r', rp⟩ := n.frz (Y := Z) (fun a => Iff.rfl) hnz
    exact q (.ref D) H' r' (e1.trans (ext_or e2 hD)) rp
theorem lcO {K : PySem.W.Frag} {σ : St} {H : Hp} {Q : VK} (hg : ∀ j ∈ is, j ∈ vs) (h : tO K E (oLc (mComp vs mi g t m)) σ H Q) : tLc (iD K E mi) (tTG K is g) (tT K E0 t) (tD K E0 m) vs σ H Q := by
  obtain ⟨c, Z, ρ, r, q⟩ := h
  refine lc_gen hg ⟨c, Z, ρ, r, ?_⟩
  unfold oLc at q
  cases ec : mComp vs mi g t m ρ with
  | fail => rw [ec] at q; exact q
  | exc x l ρ' => rw [ec] at q; exact fun ed us H' h1 h2 h3 h4 h5 => q ed us H' h1 h3 h4 h5
  | ok l ρ' =>
    rw [ec] at q
    exact fun D H1 H' hD e1 hz n e2 => q D _ H' n fun d v hd => ((hd.ext e1).zed fun a u nz e z => z.elim nz fun q => by rw [q, hD] at e; cases e).ext e2
/-- [elt for tg in iter if ..] -/
theorem d_lc (own : List (Str × Nat)) (hc : X.calm = true) (hN : X.N.Nodup) (ok : BlkOk X.N X.env.scope scope own) (hg0 : ∀ j ∈ is, j ∈ own.map (·.2)) (hi : PI X tg iter (iD X.K E mi))
    (hg : ∀ (s : Shared) (H : Hp) (C : Addr) (cl : List (Str × Addr)) (fp : List Addr), PG (X.blk s H scope (compEnvC scope cl C X.env) fp) tg (tTG X.K is g)) (ht : ∀ (s : Shared) (H : Hp) (C : Addr) (cl : List (Str × Addr)) (fp : List Addr), PTs (X.blk s H scope (compEnvC scope cl C X.env) fp) ifs (tT X.K E0 t))
    (he : ∀ (s : Shared) (H : Hp) (C : Addr) (cl : List (Str × Addr)) (fp : List Addr), PE (X.blk s H scope (compEnvC scope cl C X.env) fp) elt (tD X.K E0 m)) (hs : ∀ x, foldedSetIterable iter X.env x = pure x := by intro _; rfl) :
    PE X (.ListComp elt [⟨tg, iter, ifs, 0⟩] scope pos) (tD X.K E (mLcD (mComp (own.map (·.2)) mi g t m))) :=
  (pe_lc hc hN hi ok hg ht he hs).imp fun _ _ _ h => lcD hg0 h
theorem o_lc (own : List (Str × Nat)) (hc : X.calm = true) (hN : X.N.Nodup) (ok : BlkOk X.N X.env.scope scope own) (hg0 : ∀ j ∈ is, j ∈ own.map (·.2)) (hi : PI X tg iter (iD X.K E mi))
    (hg : ∀ (s : Shared) (H : Hp) (C : Addr) (cl : List (Str × Addr)) (fp : List Addr), PG (X.blk s H scope (compEnvC scope cl C X.env) fp) tg (tTG X.K is g)) (ht : ∀ (s : Shared) (H : Hp) (C : Addr) (cl : List (Str × Addr)) (fp : List Addr), PTs (X.blk s H scope (compEnvC scope cl C X.env) fp) ifs (tT X.K E0 t))
    (he : ∀ (s : Shared) (H : Hp) (C : Addr) (cl : List (Str × Addr)) (fp : List Addr), PE (X.blk s H scope (compEnvC scope cl C X.env) fp) elt (tD X.K E0 m)) (hs : ∀ x, foldedSetIterable iter X.env x = pure x := by intro _; rfl) :
    PE X (.ListComp elt [⟨tg, iter, ifs, 0⟩] scope pos) (tO X.K E (oLc (mComp (own.map (·.2)) mi g t m))) :=
  (pe_lc hc hN hi ok hg ht he hs).imp fun _ _ _ h => lcO hg0 h
/-- y = [..], y a local, all on one line -/
theorem s_setLc (i : Nat) (own : List (Str × Nat)) (hc : X.calm = true) (hN : X.N.Nodup) (ok : BlkOk X.N X.env.scope scope own) (hg0 : ∀ j ∈ is, j ∈ own.map (·.2)) (hi : PI X tg iter (iD X.K E mi))
    (hg : ∀ (s : Shared) (H : Hp) (C : Addr) (cl : List (Str × Addr)) (fp : List Addr), PG (X.blk s H scope (compEnvC scope cl C X.env) fp) tg (tTG X.K is g)) (ht : ∀ (s : Shared) (H : Hp) (C : Addr) (cl : List (Str × Addr)) (fp : List Addr), PTs (X.blk s H scope (compEnvC scope cl C X.env) fp) ifs (tT X.K E0 t))
    (he : ∀ (s : Shared) (H : Hp) (C : Addr) (cl : List (Str × Addr)) (fp : List Addr), PE (X.blk s H scope (compEnvC scope cl C X.env) fp) elt (tD X.K E0 m)) (hs : ∀ x, foldedSetIterable iter X.env x = pure x := by intro _; rfl)
    (hy : X.N[i]? = some y := by rfl) (hyl : X.env.scope.names.lookup y = some .local := by rfl) (hsw : swapsWith (.ListComp elt [⟨tg, iter, ifs, 0⟩] scope pos) (some (.Name y py)) spos.line X.env = pure true := by exact sw_true rfl rfl rfl (by decide +kernel)) :
    PS X (.Assign [.Name y py] (.ListComp elt [⟨tg, iter, ifs, 0⟩] scope pos) spos) (tS X.K E (mSet i (mLcD (mComp (own.map (·.2)) mi g t m)))) := by
  refine (ps_setLc hc hN hy hyl hsw hi ok hg ht he hs).imp fun Dn σ H h => ?_
  obtain ⟨c, ρ, ⟨Z, r⟩, q⟩ := h
  exact lcD hg0 ⟨c, Z, ρ, r, tSR.expr (k := fun d ρ => .ok .nx (ρ.set i (some (.val d)))) q fun d ρ1 v H1 r1 h1 q1 => q1 _ _ ⟨Z, r1.set h1⟩⟩
theorem s_setLcO (i : Nat) (own : List (Str × Nat)) (hc : X.calm = true) (hN : X.N.Nodup) (ok : BlkOk X.N X.env.scope scope own) (hg0 : ∀ j ∈ is, j ∈ own.map (·.2)) (hi : PI X tg iter (iD X.K E mi))
    (hg : ∀ (s : Shared) (H : Hp) (C : Addr) (cl : List (Str × Addr)) (fp : List Addr), PG (X.blk s H scope (compEnvC scope cl C X.env) fp) tg (tTG X.K is g)) (ht : ∀ (s : Shared) (H : Hp) (C : Addr) (cl : List (Str × Addr)) (fp : List Addr), PTs (X.blk s H scope (compEnvC scope cl C X.env) fp) ifs (tT X.K E0 t))
    (he : ∀ (s : Shared) (H : Hp) (C : Addr) (cl : List (Str × Addr)) (fp : List Addr), PE (X.blk s H scope (compEnvC scope cl C X.env) fp) elt (tD X.K E0 m)) (hs : ∀ x, foldedSetIterable iter X.env x = pure x := by intro _; rfl)
    (hy : X.N[i]? = some y := by rfl) (hyl : X.env.scope.names.lookup y = some .local := by rfl) (hsw : swapsWith (.ListComp elt [⟨tg, iter, ifs, 0⟩] scope pos) (some (.Name y py)) spos.line X.env = pure true := by exact sw_true rfl rfl rfl (by decide +kernel)) :
    PS X (.Assign [.Name y py] (.ListComp elt [⟨tg, iter, ifs, 0⟩] scope pos) spos) (tS X.K E (mSetO i (oLc (mComp (own.map (·.2)) mi g t m)))) := by
  refine (ps_setLc hc hN hy hyl hsw hi ok hg ht he hs).imp fun Dn σ H h => ?_
  obtain ⟨c, ρ, ⟨Z, r⟩, q⟩ := h
  refine lcO hg0 ⟨c, Z, ρ, r, ?_⟩
  unfold mSetO at q
  cases em : oLc (mComp (own.map (·.2)) mi g t m) ρ with
  | fail => rw [em] at q; exact q
  | exc x l ρ1 => rw [em] at q; exact fun ed vs H' h1 h3 h4 h5 => q σ ed vs H' ⟨Z, h1⟩ h3 h4 (Reps.zed h1.z0 _ _ h5)
  | ok t ρ1 =>
    rw [em] at q
    exact fun p Z' H' n _ => q _ _ ⟨Z', n.set i⟩
end
end DL
set_option Elab.async false
set_option linter.all false
set_option maxRecDepth 100000
set_option maxHeartbeats 4000000
namespace DL
open PySem PySem.Spec PyProof.Rows L2
variable [CTab]
/-! ### a def by its body -/
def startE (n : Nat) (ws : List W) : Env := ws.map some ++ List.replicate (n - ws.length) none
/-- what became of the things handed in -/
def outsE (ρ : Env) : List W → Nat → Option (List Ct)
  | [], _ => some []
  | .inn _ :: ws, i => match ρ[i]? with
    | some (some (.inn t)) => (outsE ρ ws (i + 1)).map (t :: ·)
    | _ => none
  | _ :: ws, i => outsE ρ ws (i + 1)
def finE (d : D) (ρ : Env) (ws : List W) : FR := match outsE ρ ws 0 with
  | some ts => .ok d ts
  | none => .fail
/-- x: it may raise -/
def runF (n : Nat) (x : Bool) (m : M Fl) : FD := fun ws => match m (startE n ws) with
  | .ok .nx ρ => finE .non ρ ws
  | .ok (.rt d) ρ => finE d ρ ws
  | .exc c l _ => if x = true then .exc c l else .fail
  | _ => .fail
def inP : List W → List V → Nat → Option Addr
  | .inn _ :: _, .ref p :: _, 0 => some p
  | _ :: ws, _ :: vs, i + 1 => inP ws vs i
  | _, _, _ => none
section
variable {K : PySem.W.Frag} {H : Hp} {Z : Addr → Prop}
theorem inP_mem : ∀ {ws : List W} {vs : List V} {i : Nat} {p : Addr}, inP ws vs i = some p → p ∈ inAd ws vs := by
  intro ws
  induction ws with
  | nil => intro vs i p h; simp [inP] at h
  | cons w ws ih =>
    intro vs i p h
    cases vs with
    | nil => cases w <;> simp [inP] at h
    | cons v vs =>
      cases i with
      | zero =>
        cases w <;> cases v <;> simp [inP] at h
        subst h
        simp [inAd]
      | succ i =>
        have h2 : inP ws vs i = some p := by
          cases w <;> simpa [inP] using h
        have := ih h2
        cases w <;> cases v <;> simp [inAd, this]
theorem inP_inj : ∀ {ws : List W} {vs : List V} {i j : Nat} {p : Addr}, (inAd ws vs).Nodup → inP ws vs i = some p → inP ws vs j = some p → i = j := by
  intro ws
  induction ws with
  | nil => intro vs i j p _ h; simp [inP] at h
  | cons w ws ih =>
    intro vs i j p nd hi hj
    cases vs with
    | nil => cases w <;> simp [inP] at hi
    | cons v vs =>
      have step : ∀ {k}, inP (w :: ws) (v :: vs) (k + 1) = inP ws vs k := by
        intro k
        cases w <;> simp [inP]
      cases i with
      | zero =>
        cases j with
        | zero => rfl
        | succ j =>
          rw [step] at hj
          cases w <;> cases v <;> simp [inP] at hi
          subst hi
          simp only [inAd, List.nodup_cons] at nd
          exact absurd (inP_mem hj) nd.1
      | succ i =>
        have nd2 : (inAd ws vs).Nodup := by
          cases w <;> cases v <;> simp [inAd] at nd <;> first | exact nd | exact nd.2
        cases j with
        | zero =>
          rw [step] at hi
          cases w <;> cases v <;> simp [inP] at hj
          subst hj
          simp only [inAd, List.nodup_cons] at nd
          exact absurd (inP_mem hi) nd.1
        | succ j =>
          rw [step] at hi hj
          rw [ih nd2 hi hj]
theorem repWs_get : ∀ {ws : List W} {vs : List V} {i : Nat} {w : W}, RepWs K H Z ws vs → ws[i]? = some w → (∃ d v, w = .val d ∧ vs[i]? = some v ∧ Rep K H Z d v) ∨ (∃ t p, w = .inn t ∧ vs[i]? = some (.ref p) ∧ Z p ∧ RepC K H Z t p ∧ inP ws vs i = some p)
  | [], vs, i, w, h, e => by simp at e
  | .val d :: ws, vs, i, w, h, e => by
    obtain ⟨v, r, e1, h1, h2⟩ := h
    subst e1
    cases i with
    | zero =>
      simp only [List.getElem?_cons_zero, Option.some.injEq] at e
      exact .inl ⟨d, v, e.symm, rfl, h1⟩
    | succ i =>
      simp only [List.getElem?_cons_succ] at e
      rcases repWs_get h2 e with q | ⟨t, p, q1, q2, q3, q4, q5⟩
      · exact .inl (by simpa using q)
      · exact .inr ⟨t, p, q1, by simpa using q2, q3, q4, by simpa [inP] using q5⟩
  | .inn t :: ws, vs, i, w, h, e => by
    obtain ⟨p, r, e1, h0, h1, h2⟩ := h
    subst e1
    cases i with
    | zero =>
      simp only [List.getElem?_cons_zero, Option.some.injEq] at e
      exact .inr ⟨t, p, e.symm, rfl, h0, h1, by simp [inP]⟩
    | succ i =>
      simp only [List.getElem?_cons_succ] at e
      rcases repWs_get h2 e with q | ⟨t, p, q1, q2, q3, q4, q5⟩
      · exact .inl (by simpa using q)
      · exact .inr ⟨t, p, q1, by simpa using q2, q3, q4, by simpa [inP] using q5⟩
  | .own _ :: ws, vs, i, w, h, e => h.elim
theorem startE_get {n : Nat} {ws : List W} {i : Nat} {w : W} (h : (startE n ws)[i]? = some (some w)) : ws[i]? = some w := by
  unfold startE at h
  by_cases hi : i < ws.length
  · rw [List.getElem?_append_left (by simpa using hi), List.getElem?_map] at h
    simpa using h
  · rw [List.getElem?_append_right (by simpa using Nat.le_of_not_lt hi)] at h
    rw [List.getElem?_replicate] at h
    split at h <;> simp at h
theorem start_get {N : List Str} {vs : List V} {i : Nat} {v : V} (h : vs[i]? = some v) : (start N vs)[i]? = some (some v) := by
  unfold L2.start
  have hi := (List.getElem?_eq_some_iff.mp h).1
  rw [List.getElem?_append_left (by simpa using hi), List.getElem?_map, h]
  rfl
def startCz (ws : List W) (vs : List V) (H : Hp) (Z : Addr → Prop) : Cz := ⟨inP ws vs, H, Z, [], []⟩
theorem rel_start {N : List Str} {ws : List W} {vs : List V} (hz : ∀ p, Z p → H p ≠ none) (hr : RepWs K H Z ws vs) (nd : (inAd ws vs).Nodup) : Rel K (startCz ws vs H Z) Z (startE N.length ws) (start N vs) H where
  frame := fun a o _ e => e
  keep := fun a e => e
  base := fun a z => ⟨z, hz a z⟩
  len := by simp [startE, L2.start, hr.len]
  dom := hz
  val := fun i d e => by
    rcases repWs_get hr (startE_get e) with ⟨d', v, e1, h1, h2⟩ | ⟨t, p, e1, _⟩
    · cases e1
      exact ⟨v, start_get h1, h2⟩
    · cases e1
  own := fun i t e => by
    rcases repWs_get hr (startE_get e) with ⟨d', v, e1, h1, h2⟩ | ⟨t, p, e1, _⟩ <;> cases e1
  inn := fun i t e => by
    rcases repWs_get hr (startE_get e) with ⟨d', v, e1, h1, h2⟩ | ⟨t, p, e1, h1, h2, h3, h4⟩
    · cases e1
    · cases e1
      exact ⟨p, start_get h1, h2, h4, h3⟩
  inj := fun i j p hi hj h1 h2 => by
    have at_ : ∀ k, isOwn (startE N.length ws) k → (start N vs)[k]? = some (some (.ref p)) → inP ws vs k = some p := fun k ⟨t, h⟩ hs => by
      rcases h with h | h
      · rcases repWs_get hr (startE_get h) with ⟨d', v, e1, _⟩ | ⟨t, p, e1, _⟩ <;> cases e1
      · rcases repWs_get hr (startE_get h) with ⟨d', v, e1, _⟩ | ⟨t, q, e1, g1, g2, g3, g4⟩
        · cases e1
        · rw [start_get g1] at hs
          cases hs
          exact g4
    exact inP_inj nd (at_ i hi h1) (at_ j hj h2)
  xs := fun q hq => by cases hq
  hd := fun q hq => by cases hq
theorem outs_rep {c : Cz} {Z' : Addr → Prop} {σ : St} {H' : Hp} {ρ : Env} (r : Rel K c Z' ρ σ H') : ∀ {ws : List W} {vs : List V} {ts : List Ct} {k : Nat}, RepWs K H Z ws vs → (∀ i, inP ws vs i = c.P (k + i)) → outsE ρ ws k = some ts → RepCs K H' c.Z0 ts (inAd ws vs)
  | [], vs, ts, k, h, hp, e => by
    cases (show vs = [] from h)
    cases e
    rfl
  | .val d :: ws, vs, ts, k, h, hp, e => by
    obtain ⟨v, q, e1, h1, h2⟩ := h
    subst e1
    have h0 : inAd (.val d :: ws) (v :: q) = inAd ws q := by simp [inAd]
    rw [h0]
    exact outs_rep r h2 (fun i => by have := hp (i + 1); simp only [inP] at this; rw [this]; congr 1; omega) (show outsE ρ ws (k + 1) = some ts from e)
  | .inn t :: ws, vs, ts, k, h, hp, e => by
    obtain ⟨p, q, e1, h0, h1, h2⟩ := h
    subst e1
    show RepCs K H' c.Z0 ts (p :: inAd ws q)
    unfold outsE at e
    split at e
    · rename_i t' ht
      cases e2 : outsE ρ ws (k + 1) with
      | none => rw [e2] at e; cases e
      | some ts' =>
        rw [e2] at e
        cases e
        obtain ⟨p', g1, g2, g3, g4⟩ := r.inn k t' ht
        have hp0 : c.P k = some p := by
          have := hp 0
          simp only [inP, Nat.add_zero] at this
          exact this.symm
        rw [hp0] at g3
        cases g3
        exact ⟨p, _, rfl, g4.zed r.z0, outs_rep r h2 (fun i => by have := hp (i + 1); simp only [inP] at this; rw [this]; congr 1; omega) e2⟩
    · cases e
  | .own _ :: ws, vs, ts, k, h, hp, e => h.elim
/-- the promise leads to the body's reading -/
theorem run_core {N : List Str} {n : Nat} {x : Bool} {m : M Fl} {vs : List V} {Q : VK} {E : XK} {E' : XK} (hE : x = true → E' = E) (h : spF K n (runF N.length x m) vs H Q E) : tS K E' m { nx := fun _ H' => Q .non H', rt := Q } (start N vs) H := by
  obtain ⟨Z, ws, hl, hz, hr, nd, h⟩ := h
  refine ⟨startCz ws vs H Z, startE N.length ws, ⟨Z, rel_start hz hr nd⟩, ?_⟩
  have fr : ∀ {σ' H' ρ'}, RelS K (startCz ws vs H Z) ρ' σ' H' → ∀ a o, a ∉ inAd ws vs → H a = some o → H' a = some o := fun ⟨Z', r⟩ a o ha e => r.frame a o (fun i hi => ha (inP_mem hi)) e
  unfold runF at h
  cases em : m (startE N.length ws) with
  | fail => rw [em] at h; exact h
  | exc c l ρ =>
    rw [em] at h
    simp only at h
    split at h
    · exact h.elim
    · rename_i he
      split at he <;> cases he
    · rename_i c' l' he
      split at he
      · rename_i hx
        cases he
        rw [hE hx]
        exact fun σ ed us H' r h1 h2 h3 => h ed us H' (fr r) h1 h2 h3
      · cases he
  | ok f ρ =>
    rw [em] at h
    have fin : ∀ {d : D} {v : V} {σ' H'}, (match finE d ρ ws with
        | .fail => False
        | .ok d ts => ∀ v H', (∀ a o, a ∉ inAd ws vs → H a = some o → H' a = some o) → RepCs K H' Z ts (inAd ws vs) → Rep K H' Z d v → Q v H'
        | .exc c l => ∀ ed us H', (∀ a o, a ∉ inAd ws vs → H a = some o → H' a = some o) → H' ed = some (.xd ((cF c).zip us)) → us.length ≤ (cF c).length → Reps K H' Z l us → E (.ref (He.ga K (cN c))) (some ed) H') →
        RelS K (startCz ws vs H Z) ρ σ' H' → Rep K H' Z d v → Q v H' := by
      intro d v σ' H' h r hd
      unfold finE at h
      cases eo : outsE ρ ws 0 with
      | none => rw [eo] at h; exact h.elim
      | some ts =>
        rw [eo] at h
        have f := fr r
        obtain ⟨Z', r⟩ := r
        exact h v H' f (outs_rep r hr (fun i => by rw [Nat.zero_add]; rfl) eo) hd
    cases f with
    | nx => exact fun σ' H' r => fin h r rfl
    | rt d => exact fun σ' v H' r hd => fin h r hd
    | bk => exact h.elim
    | ct => exact h.elim
end
section
variable {P : Program} {w : World} {K : PySem.W.Frag} {mg : Str → Option Value} {base : Heap} {x qual : Str} {params : Arguments} {body : List Stmt} {scope : Scope} {f : Addr} {fd : FuncData} {N ps : List Str} {k : Nat} {m : M Fl} {kws : List (Str × V)} {dvs : List V}
/-- a def that raises nothing -/
theorem fn_ok (F : FunD K x qual params body scope dvs kws f fd) (S : FnScope N ps scope)
    (hb : ∀ (cdv : Value) (A : Around) (outer : List PySem.Env) (s : Shared) (H : Hp) (E : XK), Room k (A.deeper (envOfC qual scope s.heap.objs.size f cdv)) → PSs (cxOf CX0 P w K mg base N qual scope f cdv A outer s H E).nox body (tS K E0 m)) :
    FnOk P w K mg base CX0 (k + 1) f fd ps (spF K ps.length (runF N.length false m)) :=
  F.ok S spF_len fun cdv A outer s H vs Q E hr h => ⟨_, PSs.nox (hb cdv A outer s H E hr), run_core (fun e => by cases e) h⟩
/-- a def that may raise -/
theorem fn_okX {CX : CXT} (F : FunD K x qual params body scope dvs kws f fd) (S : FnScope N ps scope)
    (hb : ∀ (cdv : Value) (A : Around) (outer : List PySem.Env) (s : Shared) (H : Hp) (E : XK), Room k (A.deeper (envOfC qual scope s.heap.objs.size f cdv)) → PSs (cxOf CX P w K mg base N qual scope f cdv A outer s H E) body (tS K E m)) :
    FnOk P w K mg base CX (k + 1) f fd ps (spF K ps.length (runF N.length true m)) :=
  F.ok S spF_len fun cdv A outer s H vs Q E hr h => ⟨_, hb cdv A outer s H E hr, run_core (fun _ => rfl) h⟩
end
end DL
set_option Elab.async false
set_option linter.all false
set_option maxRecDepth 100000
set_option maxHeartbeats 4000000
/-! ### the truth of an object by the text's own __bool__ -/
namespace OB
open PySem PySem.Spec PyProof.Rows L2
section
variable {X : Cx} {CX : CXT} {n : Nat} {C f : Addr} {fd : FuncData} {ps : List Str} {sp : Sp} {E : XK}
theorem truthy_ref {M : Model} {A : Around} {a : Addr} {Q : Bool → Shared → Prop} {E : Value → Shared → Prop} {s : Shared} (h : wpAny M A (callSpecial? (.ref a) "__bool__" []) (fun r s' => ∃ b, r = some (.bool b) ∧ Q b s') E s) : wpAny M A (truthy (.ref a)) Q E s := by
  unfold truthy
  first
    | exact wpAny_bind (wpAny_mono h (fun r s' h' => by obtain ⟨b, rfl, q⟩ := h'; exact wpAny_pure q) fun _ _ x => x)
    | exact wpAny_bind (wpAny_pure (wpAny_bind (wpAny_mono h (fun r s' h' => by obtain ⟨b, rfl, q⟩ := h'; exact wpAny_pure q) fun _ _ x => x)))
theorem truthy_at (F : FnOk X.prog X.w X.K X.mg X.base CX n f fd ps sp) (hs : PySem.W.findIn X.K (.ref C) "__bool__" = some (some (.ref f))) (hf : PySem.W.isFn X.K (.ref f) = true) (hb : Binds X.K fd ps []) (hx : Passes CX X E)
    {A : Around} {pins : List (Addr × Obj)} {σ : L2.St} {H : Hp} {s : Shared} {a dx : Addr} {fs : List (Str × V)} {Q : Bool → Hp → Prop} (sb : Sub X n A) (I : Inv X pins σ H s) (ha : H a = some (.ins C dx fs))
    (h : sp [.ref a] H (fun v H' => ∃ b, v = .bl b ∧ Q b H') E) : wpAny (model X.prog X.w) A (truthy (.ref a)) (fun b s' => ∃ H', Inv X pins σ H' s' ∧ Q b H') X.xe s := by
  obtain ⟨mA, J, _⟩ := ins_get I.hok ha
  obtain ⟨od, J, _⟩ := J.look
  refine truthy_ref (PySem.W.special_fn I.kIn J hs (beq_iff_eq.mp hf) ?_)
  have e0 : Env0 X.prog X.w X.K X.mg X.base A X.stack s H := by
    have e := I.env0
    exact ⟨by rw [sb.fr]; exact e.frames, e.mod, e.bs, e.bsz, e.funs, e.frf, e.hok, e.bare⟩
  have hl := F.len _ _ _ _ h
  have r2 : Vals [V.ref a] [Value.ref a] := .cons rfl .nil
  refine wpAny_call (codeAny_mono (F.run A X.stack s H ⟨[.ref a], []⟩ [.ref a] [.ref a] _ E sb.room e0 (by
    have := hb s [.ref a] I.kIn (by simpa using hl)
    simpa using this) r2 h) fun r s' hq => ?_)
  cases r with
  | error e => exact hx pins σ H s e s' I hq
  | ok fl =>
    cases fl with
    | ret w =>
      obtain ⟨z, H', I', rz, b, ez, q⟩ := I.after hq
      subst ez
      cases rz
      exact ⟨b, rfl, H', I', q⟩
    | next => exact False.elim hq
    | brk => exact False.elim hq
    | cont => exact False.elim hq
def rOwnB (C : Addr) (sp : Sp) (E : XK) : V → Hp → (Bool → Hp → Prop) → Prop := fun x H Q => ∃ a dx fs, x = .ref a ∧ H a = some (.ins C dx fs) ∧ sp [.ref a] H (fun v H' => ∃ b, v = .bl b ∧ Q b H') E
theorem tru_own (F : FnOk X.prog X.w X.K X.mg X.base CX n f fd ps sp) (hs : PySem.W.findIn X.K (.ref C) "__bool__" = some (some (.ref f))) (hf : PySem.W.isFn X.K (.ref f) = true) (hb : Binds X.K fd ps []) (hx : Passes CX X E) (hr : Room n X.A) : TruR X (rOwnB C sp E) := by
  intro pins s σ H x v Q I rx h
  obtain ⟨a, dx, fs, rfl, ha, h⟩ := h
  cases rx
  exact truthy_at F hs hf hb hx ⟨hr, rfl⟩ I ha h
/-- bool(x) -/
theorem plain_bool_new : plainId "bool.__new__" = true := by decide +kernel
theorem bool_new (x : Value) : Builtin.«bool.__new__» ⟨[.type "bool", x], []⟩ = (isSubtype (.type "bool") (.type "bool") >>= fun b => if (!b) = true then (do rule "bool.__new__.no-subtype"; raiseError "TypeError" s!"bool.__new__({← typeName (.type "bool")}): {← typeName (.type "bool")} is not a subtype of bool") else truthy x >>= fun b => pure (.done (.ret (.bool b)))) := by
  first | rfl | kernel_rfl
theorem code_bool_new {prog : Program} {w : World} {A : Around} {s : Shared} {x : Value} {Q E : Value → Shared → Prop} (h : wpAny (model prog w) A.in1 (truthy x) (fun b s' => Q (.bool b) s') E s) :
    codeAny (model prog w) A (.call (.builtin "bool.__new__") ⟨[.type "bool", x], []⟩) (wants Q E) s := by
  refine codeAny_of_tree ?_
  show wpAny _ A.in1 (do checkBuiltinCall "bool.__new__" ⟨[.type "bool", x], []⟩; again (.builtin "bool.__new__" ⟨[.type "bool", x], []⟩)) _ _ s
  refine wpAny_bind (wpAny_of_eq (PySem.F.newCall_bool_1 _) (wpAny_pure ⟨plainId_quiet plain_bool_new _, codeAny_builtin PySem.F.entry_bool_new ?_⟩))
  rw [Around.under_plainId plain_bool_new _, bool_new, PySem.F.conv_sub_bool, pure_bind, if_neg (by decide)]
  exact wpAny_bind (wpAny_mono h (fun b s' q => wpAny_pure q) fun _ _ x => x)
theorem call_boolO (F : FnOk X.prog X.w X.K X.mg X.base CX n f fd ps sp) (hs : PySem.W.findIn X.K (.ref C) "__bool__" = some (some (.ref f))) (hf : PySem.W.isFn X.K (.ref f) = true) (hb : Binds X.K fd ps []) (hx : Passes CX X E) (hr : Room (n + 2) X.A) :
    CallR X (.type "bool") (fun xs H Q => ∃ x, xs = [x] ∧ rOwnB C sp E x H fun b H' => Q (.bl b) H') := by
  intro pins s σ H xs us Q I r h
  obtain ⟨x, rfl, a, dx, fs, rfl, ha, h⟩ := h
  obtain rfl := Vals.ref1 r
  have key := truthy_at F hs hf hb hx (A := X.A.in1.in1) (Q := fun b H' => Q (.bl b) H') (sb := ⟨hr.in1.in1, rfl⟩) I ha h
  refine callType_codes (Q₁ := fun obj s₁ => s₁.TypeIs obj "bool" ∧ EP X pins σ Q obj s₁) PySem.F.called_bool (PySem.F.typeCall_bool_1 _) PySem.F.entry_object_init
    (code_bool_new (A := X.A.in1) (wpAny_mono key (fun b s' q => ⟨rfl, .bl b, q.choose, q.choose_spec.1, rfl, q.choose_spec.2⟩) fun _ _ x => x)) fun obj s₁ h₁ => ?_
  exact ⟨h₁.1, PySem.F.args_object_init_2 obj _, object_init_meets PySem.F.called_bool.init.lookup PySem.F.called_bool.made (by decide) X.prog X.w X.A.in1 _ s₁ ⟨h₁.1, rfl, h₁.2⟩⟩
end
end OB
set_option Elab.async false
set_option linter.all false
set_option maxRecDepth 100000
set_option maxHeartbeats 4000000
namespace DL
open PySem PySem.Spec PyProof.Rows L2
variable [CTab]
/-! ### calls without arguments -/
section
variable {X : Cx} {CX : CXT} {E : XK} {pos p : Pos} {k c : Nat} {g : FD} {x : Str}
theorem d_call0 {j : Nat} (c : Callee X.prog X.w X.K X.mg X.base CX k x 0 g) (hr : Room j X.A) (hx : Passes CX X E) (hj : k ≤ j := by decide) (hg : Gl X x := by rfl) (hdb : (x == ("__debug__" : Str)) = false := by decide) :
    PE X (.Call (.Name x p) [] [] pos) (tD X.K E (mCall g mANil)) := by
  obtain ⟨f, fd, ps, F, hm, hk, hb, hps⟩ := c.ex
  refine (pe_call0 F (hr.mono hj) hg hm hk hb .nil hx hdb).imp fun σ H Q h => ?_
  obtain ⟨c, Z, ρ, r, q⟩ := h
  exact call_gen (as := []) r .nil rfl q
end
/-! ### self.f = e -/
/-- the j-th field of the thing in slot i -/
def cFld (c j : Nat) : Ct → D → Option Ct
  | .ob c' l, d => if c' = c then (if j < l.length then some (.ob c (l.set j d)) else if j = l.length then some (.ob c (l ++ [d])) else none) else none
  | _, _ => none
def mFld (i c j : Nat) (m : M D) : M Fl := mMut i (cFld c j) m
theorem putF_at {f : Str} {v : V} : ∀ {ns : List Str} {vs : List V} {j : Nat}, ns.Nodup → ns[j]? = some f → (j < vs.length → putF f v (ns.zip vs) = ns.zip (vs.set j v)) ∧ (j = vs.length → putF f v (ns.zip vs) = ns.zip (vs ++ [v]))
  | [], vs, j, _, h => by simp at h
  | n :: ns, [], j, nd, h => by
    refine ⟨fun hj => absurd hj (Nat.not_lt_zero _), fun hj => ?_⟩
    subst hj
    simp only [List.length_nil, List.getElem?_cons_zero, Option.some.injEq] at h
    subst h
    simp [putF]
  | n :: ns, u :: vs, 0, nd, h => by
    simp only [List.getElem?_cons_zero, Option.some.injEq] at h
    subst h
    refine ⟨fun _ => by simp [putF], fun hj => by simp at hj⟩
  | n :: ns, u :: vs, j + 1, nd, h => by
    obtain ⟨hn, hr⟩ := List.nodup_cons.mp nd
    simp only [List.getElem?_cons_succ] at h
    have hne : ¬ n = f := fun e => hn (by rw [e]; exact List.mem_of_getElem? h)
    obtain ⟨h1, h2⟩ := putF_at (v := v) (vs := vs) hr h
    refine ⟨fun hj => ?_, fun hj => ?_⟩
    · rw [List.zip_cons_cons, List.set_cons_succ, List.zip_cons_cons]
      show (if n = f then _ else (n, u) :: putF f v (ns.zip vs)) = _
      rw [if_neg hne, h1 (by simpa using hj)]
    · rw [List.zip_cons_cons, List.cons_append, List.zip_cons_cons]
      show (if n = f then _ else (n, u) :: putF f v (ns.zip vs)) = _
      rw [if_neg hne, h2 (by simpa using hj)]
section
variable {X : Cx} {E : XK} {pos pos' : Pos} {e : Expr} {m : M D}
theorem s_fld {n : Nat} {f x : Str} {xp : Pos} (cf : CFacts X.K n) (i c j : Nat) (hc : c < n) (hj : (cF c)[j]? = some f) (hl : (cF c).length < 1000) (he : PE X e (tD X.K E m)) (hN : X.N[i]? = some x := by rfl) (hv : Vis X.env.scope x := by first | exact Or.inl rfl | exact Or.inr (Or.inl rfl) | exact Or.inr (Or.inr rfl)) (hd : (x == ("__debug__" : Str)) = false := by decide)
    (hcd : (x == ("__classdict__" : Str)) = false := by decide) (hs : swapsWith e (some (.Attribute (.Name x xp) f pos')) pos.line X.env = pure false := by rfl) : PS X (.Assign [.Attribute (.Name x xp) f pos'] e pos) (tS X.K E (mFld i c j m)) := by
  refine (ps_fld (pe_var hN hv hd hcd) he hs).imp fun Dn σ H h => ?_
  obtain ⟨cz, ρ, ⟨Z, r⟩, q⟩ := h
  refine ⟨cz, Z, ρ, r, tSR.expr q fun d ρ1 v H1 r1 hd q1 => ?_⟩
  obtain ⟨p, t, t', h1, ⟨o, h2, h3⟩, hz, hf, k⟩ := mut_gen q1 r1
  have hd : Rep X.K H1 Z d v := hd
  cases t with
  | lst _ => cases hf
  | dct _ _ => cases hf
  | ob c' l =>
    have hf : (if c' = c then (if j < l.length then some (Ct.ob c (l.set j d)) else if j = l.length then some (Ct.ob c (l ++ [d])) else none) else none) = some t' := hf
    split at hf
    · rename_i ec
      subst ec
      obtain ⟨dx, vs, rfl, hlen, hr⟩ := h3
      have hll := hr.len
      obtain ⟨g1, g2⟩ := putF_at (v := v) (vs := vs) (cf.nd c' hc) hj
      have ex : ∀ o', Ext Z H1 (upd H1 p o') := fun o' a o nz e => by rw [upd_ne (fun z => nz (by rw [z]; exact hz))]; exact e
      have hz1 : ((cF c').zip vs).length < 1000 := by rw [List.length_zip]; omega
      have hjl := (List.getElem?_eq_some_iff.mp hj).1
      refine ⟨_, h1, p, _, dx, _, rfl, h2, (cf.cls c' hc).cl, cf.noat c' f hc (List.mem_of_getElem? hj), hz1, ?_⟩
      refine k _ (fun a o ne e => by rw [upd_ne ne]; exact e) ?_
      split at hf
      · rename_i hlt
        cases hf
        exact ⟨_, upd_same, dx, vs.set j v, by rw [g1 (by omega)], by simpa using hlen, Reps.set (Rep.ext (ex _) _ _ hd) j (Reps.ext (ex _) _ _ hr)⟩
      · split at hf
        · rename_i hlt heq
          cases hf
          exact ⟨_, upd_same, dx, vs ++ [v], by rw [g2 (by omega)], by simp; omega, (Reps.ext (ex _) _ _ hr).app (Reps.one (Rep.ext (ex _) _ _ hd))⟩
        · cases hf
    · cases hf
end
/-! ### the truth of objects -/
/-- the class at c has a __bool__ that does g -/
structure Booler (P : Program) (w : World) (K : PySem.W.Frag) (mg : Str → Option Value) (base : Heap) (CX : CXT) (k : Nat) (c : Nat) (g : FD) : Prop where
  ex : ∃ (f : Addr) (fd : FuncData) (ps : List Str), PySem.W.findIn K (.ref (He.ga K (cN c))) "__bool__" = some (some (.ref f)) ∧ PySem.W.isFn K (.ref f) = true ∧ FnOk P w K mg base CX k f fd ps (spF K 1 g) ∧ Binds K fd ps []
def obTru (bs : List (Nat × FD)) : D → Option Bool
  | .ob c l => match bs.lookup c with
    | some g => (match g [.val (.ob c l)] with
      | .ok (.bl b) [] => some b
      | _ => none)
    | none => none
  | d => dTru d
def fBoolO (bs : List (Nat × FD)) : List D → Option D
  | [.ob c l] => (obTru bs (.ob c l)).map .bl
  | l => fBool l
section
variable {P : Program} {w : World} {X : Cx} {CX : CXT} {E : XK} {e : Expr} {m : M D} {k : Nat} {bs : List (Nat × FD)}
theorem lookupB {bs : List (Nat × FD)} {c : Nat} {g : FD} : bs.lookup c = some g → (c, g) ∈ bs := by
  induction bs with
  | nil => intro h; cases h
  | cons p r ih =>
    obtain ⟨a, b⟩ := p
    rw [List.lookup_cons]
    cases e : c == a with
    | true =>
      intro h
      cases h
      rw [eq_of_beq e]
      exact List.mem_cons_self
    | false => exact fun h => List.mem_cons_of_mem _ (ih h)
/-- what the own __bool__ is given -/
theorem ob_sp {K : PySem.W.Frag} {H : Hp} {Z : Addr → Prop} {c : Nat} {l : List D} {v : V} {g : FD} {b : Bool} {Q : Bool → Hp → Prop} (hz : ∀ p, Z p → H p ≠ none) (hr : Rep K H Z (.ob c l) v) (hg : g [.val (.ob c l)] = .ok (.bl b) []) (q : ∀ H', Same H H' → Q b H') :
    spF K 1 g [v] H (fun u H' => ∃ b, u = .bl b ∧ Q b H') E := by
  have hi : inAd [W.val (.ob c l)] [v] = [] := by simp [inAd]
  refine ⟨Z, [.val (.ob c l)], rfl, hz, ⟨v, [], rfl, hr, rfl⟩, by rw [hi]; exact .nil, ?_⟩
  rw [hg]
  intro u H' hk _ hu
  rw [hi] at hk
  exact ⟨b, hu, q H' fun a o h => hk a o (by simp) h⟩
theorem tru_objs (hb : ∀ q ∈ bs, Booler X.prog X.w X.K X.mg X.base CX k q.1 q.2) (hx : Passes CX X E) (hr : Room k X.A) : TruR X (fun x H Q => ∃ q ∈ bs, OB.rOwnB (He.ga X.K (cN q.1)) (spF X.K 1 q.2) E x H Q) := by
  intro pins s σ H x v Q I rx h
  obtain ⟨q, hq, h⟩ := h
  obtain ⟨f, fd, ps, h1, h2, F, hB⟩ := (hb q hq).ex
  exact OB.tru_own F h1 h2 hB hx hr pins s σ H x v Q I rx h
def mTruO (bs : List (Nat × FD)) (m : M D) : M Bool := fun ρ => bindR (m ρ) fun d ρ => liftO (obTru bs d) ρ
theorem _root_.L2.TruR.or {r r' : V → Hp → (Bool → Hp → Prop) → Prop} (h : TruR X r) (h' : TruR X r') : TruR X (fun x H Q => r x H Q ∨ r' x H Q) := fun pins s σ H x v Q I rx q => q.elim (h pins s σ H x v Q I rx) (h' pins s σ H x v Q I rx)
theorem tR.liftBs {K : PySem.W.Frag} {o : Option Bool} {c : Cz} {Z : Addr → Prop} {ρ : Env} {σ : St} {H : Hp} {Q : Bool → Hp → Prop} (h : tR K E rB c Z σ H Q (liftO o ρ)) (r : Rel K c Z ρ σ H) : ∃ k, o = some k ∧ ∀ H', Same H H' → Q k H' := by
  cases o with
  | none => exact h.elim
  | some k => exact ⟨k, rfl, fun H' s => h.new r s rfl⟩
theorem obTru_ok {K : PySem.W.Frag} {H : Hp} {Z : Addr → Prop} {d : D} {v : V} {b : Bool} {Q : Bool → Hp → Prop} (hz : ∀ p, Z p → H p ≠ none) (hd : Rep K H Z d v) (h : obTru bs d = some b) (q : ∀ H', Same H H' → Q b H') :
    (∃ q ∈ bs, OB.rOwnB (He.ga K (cN q.1)) (spF K 1 q.2) E v H Q) ∨ ∃ k, TruV K v H k ∧ Q k H := by
  have plain : dTru d = some b → (∃ q ∈ bs, OB.rOwnB (He.ga K (cN q.1)) (spF K 1 q.2) E v H Q) ∨ ∃ k, TruV K v H k ∧ Q k H := fun e => .inr ⟨b, tru_ok' e hd, q H (Same.refl H)⟩
  cases d with
  | ob c l =>
    simp only [obTru] at h
    split at h
    · rename_i g hg
      split at h
      · rename_i b' he
        cases h
        have hd' := hd
        simp only [Rep] at hd'
        obtain ⟨a, dx, vs, rfl, _, h2, _⟩ := hd'
        exact .inl ⟨(c, g), lookupB hg, a, dx, _, rfl, h2, ob_sp hz hd he q⟩
      · cases h
    · cases h
  | non => exact plain h
  | bl _ => exact plain h
  | int _ => exact plain h
  | str _ => exact plain h
  | lst _ => exact plain h
  | rol _ => exact plain h
  | tup _ => exact plain h
  | dct _ _ => exact plain h
theorem dt_truO {j : Nat} (bs : List (Nat × FD)) (hb : ∀ q ∈ bs, Booler X.prog X.w X.K X.mg X.base CX k q.1 q.2) (hx : Passes CX X E) (hr : Room j X.A) (he : PE X e (tD X.K E m)) (hj : k ≤ j := by decide) (hi : ∀ whole, isTrue e X.env whole = (do let v ← whole; standAt e.pos; holding [v] (truthy v)) := by intro _; rfl) : PT X e (tT X.K E (mTruO bs m)) := by
  refine (pt_truthR he ((tru_objs hb hx (hr.mono hj)).or tru_ok) hi).imp fun σ H Q h => ?_
  obtain ⟨c, Z, ρ, r, q⟩ := h
  refine ⟨c, Z, ρ, r, q.bind fun d ρ1 v H1 r1 e1 h1 q1 => ?_⟩
  obtain ⟨b, hb, k⟩ := q1.liftBs r1
  exact obTru_ok r1.dom h1 hb k
/-- bool(x) -/
theorem call_boolOs (hb : ∀ q ∈ bs, Booler X.prog X.w X.K X.mg X.base CX k q.1 q.2) (hx : Passes CX X E) (hr : Room (k + 2) X.A) : CallR X (.type "bool") (fun xs H Q => ∃ q ∈ bs, ∃ x, xs = [x] ∧ OB.rOwnB (He.ga X.K (cN q.1)) (spF X.K 1 q.2) E x H fun b H' => Q (.bl b) H') := by
  intro pins s σ H xs us Q I r h
  obtain ⟨q, hq, h⟩ := h
  obtain ⟨f, fd, ps, h1, h2, F, hB⟩ := (hb q hq).ex
  exact OB.call_boolO F h1 h2 hB hx hr pins s σ H xs us Q I r h
theorem ca_boolO {K : PySem.W.Frag} {E : XK} : CaD K (fun xs H Q => (∃ q ∈ bs, ∃ x, xs = [x] ∧ OB.rOwnB (He.ga K (cN q.1)) (spF K 1 q.2) E x H fun b H' => Q (.bl b) H') ∨ (∃ i, xs = [.int i] ∧ Q (.bl (i != 0)) H) ∨ ∃ k, xs = [.bl k] ∧ Q (.bl k) H) (fBoolO bs) := by
  intro H Z l d xs Q hz r h k
  unfold fBoolO at h
  split at h
  · rename_i c l'
    cases ho : obTru bs (.ob c l') with
    | none => rw [ho] at h; cases h
    | some b =>
      rw [ho] at h
      cases h
      obtain ⟨v, rfl, h1⟩ := r.inv1
      simp only [obTru] at ho
      split at ho
      · rename_i g hg
        split at ho
        · rename_i b' he
          cases ho
          have hd' := h1
          simp only [Rep] at hd'
          obtain ⟨a, dx, vs, rfl, _, h2, _⟩ := hd'
          exact .inl ⟨(c, g), lookupB hg, _, rfl, a, dx, _, rfl, h2, ob_sp hz h1 he fun H' s => k _ H' s rfl⟩
        · cases ho
      · cases ho
  · exact .inr (ca_bool H Z _ d xs Q hz r h k)
end
/-! ### dict displays -/
def rPr : RG (List (D × D)) (List (V × V)) := fun K _ H Z ps vs => Paired (fun p q => Rep K H Z p.1 q.1 ∧ Rep K H Z p.2 q.2) ps vs
def mPairs : List (M D × M D) → M (List (D × D))
  | [] => fun ρ => .ok [] ρ
  | (mk, mv) :: r => fun ρ => bindR (mk ρ) fun x ρ => bindR (mv ρ) fun y ρ => bindR (mPairs r ρ) fun l ρ => .ok ((x, y) :: l) ρ
def putD (ks : List Key) (l : List D) (k : Key) (d : D) : List Key × List D := if hasK ks k = true then (ks, (ks.zip l).map fun q => if q.1 = k then d else q.2) else (ks ++ [k], l ++ [d])
def mergeD : List Key → List D → List (D × D) → Option (List Key × List D)
  | ks, l, [] => some (ks, l)
  | ks, l, (x, y) :: r => match x.key with
    | some k => mergeD (putD ks l k y).1 (putD ks l k y).2 r
    | none => none
def mDisp (ms : List (M D × M D)) : M D := fun ρ => bindR (mPairs ms ρ) fun ps ρ => match mergeD [] [] ps with
  | some (ks, l) => if ps.length ≤ 15 then .ok (.dct ks l) ρ else .fail
  | none => .fail
section
variable {X : Cx} {E : XK} {pos : Pos} {K : PySem.W.Frag}
theorem rPr_ext {σ : St} {H H' : Hp} {Z : Addr → Prop} {ps : List (D × D)} {vs : List (V × V)} (e : Ext Z H H') (h : rPr K σ H Z ps vs) : rPr K σ H' Z ps vs := Paired.mapP h fun a v q => ⟨q.1.ext e, q.2.ext e⟩
theorem pairs_gen : ∀ (ms : List (M D × M D)) {σ : St} {H : Hp} {Q : List (V × V) → Hp → Prop}, tG K E rPr (mPairs ms) σ H Q → tPairs (ms.map fun q => (tD K E q.1, tD K E q.2)) σ H Q
  | [], σ, H, Q, ⟨c, Z, ρ, r, q⟩ => q.done r .nil
  | (mk, mv) :: ms, σ, H, Q, ⟨c, Z, ρ, r, q⟩ => by
    refine ⟨c, Z, ρ, r, q.bind fun x ρ1 u H1 r1 e1 hx q1 => ⟨c, Z, ρ1, r1, q1.bind fun y ρ2 v H2 r2 e2 hy q2 => ?_⟩⟩
    exact pairs_gen ms ⟨c, Z, ρ2, r2, q2.bind fun l ρ3 vs H3 r3 e3 hl q3 => q3.done r3 (.cons ⟨Rep.ext e3 _ _ (Rep.ext e2 _ _ hx), Rep.ext e3 _ _ hy⟩ hl)⟩
theorem putK_zip {H : Hp} {Z : Addr → Prop} {ks : List Key} {l : List D} {vs : List V} {k : Key} {d : D} {v : V} (hl : ks.length = vs.length) (hr : Reps K H Z l vs) (hd : Rep K H Z d v) :
    ∃ vs', putK (ks.zip vs) k v = (putD ks l k d).1.zip vs' ∧ (putD ks l k d).1.length = vs'.length ∧ Reps K H Z (putD ks l k d).2 vs' := by
  have hany : ∀ (ks : List Key) (vs : List V), ks.length = vs.length → ((ks.zip vs).any fun kv => decide (kv.1 = k)) = hasK ks k := by
    intro ks
    induction ks with
    | nil => intro vs _; simp [hasK]
    | cons a r ih =>
      intro vs hl
      cases vs with
      | nil => cases hl
      | cons v vs =>
        have := ih vs (by simpa using hl)
        unfold hasK at this ⊢
        rw [List.zip_cons_cons, List.any_cons, List.any_cons, this]
  unfold putK putD
  rw [hany ks vs hl]
  by_cases hk : hasK ks k = true
  · rw [if_pos hk, if_pos hk]
    refine ⟨(ks.zip vs).map fun q => if q.1 = k then v else q.2, ?_, by simp [hl], ?_⟩
    · clear hk hr hany
      induction ks generalizing vs with
      | nil => simp
      | cons a r ih =>
        cases vs with
        | nil => cases hl
        | cons u vs =>
          rw [List.zip_cons_cons, List.map_cons, List.map_cons, List.zip_cons_cons, ih (by simpa using hl)]
          congr 1
          by_cases e : a = k <;> simp [e]
    · clear hk hany
      induction ks generalizing vs l with
      | nil =>
        cases vs with
        | nil => simp [Reps]
        | cons _ _ => cases hl
      | cons a r ih =>
        cases vs with
        | nil => cases hl
        | cons u vs =>
          cases l with
          | nil => simp [Reps] at hr
          | cons b l =>
            obtain ⟨u', vs', e, h1, h2⟩ := hr.inv
            cases e
            rw [List.zip_cons_cons, List.map_cons, List.zip_cons_cons, List.map_cons]
            refine Reps.cons ?_ (ih (by simpa using hl) h2)
            by_cases e : a = k
            · simp [e, hd]
            · simp [e, h1]
  · rw [if_neg hk, if_neg hk]
    refine ⟨vs ++ [v], ?_, by simp [hl], hr.app (Reps.one hd)⟩
    rw [List.zip_append hl]
    rfl
theorem mergeK_zip {σ : St} {H : Hp} {Z : Addr → Prop} : ∀ {ps : List (D × D)} {ks : List Key} {l : List D} {vs : List V} {us : List (V × V)} {ks' : List Key} {l' : List D}, ks.length = vs.length → Reps K H Z l vs → rPr K σ H Z ps us → mergeD ks l ps = some (ks', l') →
    ∃ kvs vs', us = kvs.map (fun kv => (kV kv.1, kv.2)) ∧ kvs.length = ps.length ∧ mergeK (ks.zip vs) kvs = ks'.zip vs' ∧ ks'.length = vs'.length ∧ Reps K H Z l' vs'
  | [], ks, l, vs, us, ks', l', hl, hr, hp, h => by
    cases hp
    cases h
    exact ⟨[], vs, rfl, rfl, rfl, hl, hr⟩
  | (x, y) :: ps, ks, l, vs, us, ks', l', hl, hr, hp, h => by
    cases hp with
    | cons h1 h2 =>
      rename_i b bs
      obtain ⟨b1, b2⟩ := b
      obtain ⟨g1, g2⟩ := h1
      unfold mergeD at h
      split at h
      · rename_i k hk
        obtain ⟨vs1, e1, e2, e3⟩ := putK_zip (k := k) hl hr g2
        obtain ⟨kvs, vs', f1, f2, f3, f4, f5⟩ := mergeK_zip (σ := σ) e2 e3 h2 h
        have ek : b1 = kV k := D.key_rep hk g1
        refine ⟨(k, b2) :: kvs, vs', by rw [List.map_cons, ← f1, ek], by simp [f2], ?_, f4, f5⟩
        show mergeK (putK (ks.zip vs) k b2) kvs = _
        rw [e1]
        exact f3
      · cases h
theorem d_disp {keys : List (Option Expr)} {values : List Expr} (ms : List (M D × M D)) (h : PPs X pos keys values (ms.map fun q => (tD X.K E q.1, tD X.K E q.2))) (hall : keys.all (·.isSome) = true := by rfl) (hl : keys.length = values.length := by rfl) (h0 : keys ≠ [] := by exact List.cons_ne_nil _ _)
    (h15 : keys.length ≤ 15 := by decide) : PE X (.Dict keys values pos) (tD X.K E (mDisp ms)) := by
  refine (pe_disp h hall hl h0 h15).imp fun σ H Q hh => ?_
  obtain ⟨c, Z, ρ, r, q⟩ := hh
  intro p hp
  have hnz : ¬ Z p := r.zfree hp
  have n0 := r.newAt (o := .dK []) (t := .dct [] []) hp ⟨[], rfl, rfl, rfl⟩
  have back : ∀ {ρ H' t}, NewAt X.K c (fun a => Z a ∨ a = p) ρ σ H' t p → Rel X.K c Z ρ σ H' ∧ Rep X.K H' Z t.toD (.ref p) := fun n => n.frz (fun a => Iff.rfl) hnz
  have e0 : ∀ {H'}, Ext (fun a => Z a ∨ a = p) (upd H p (.dK [])) H' → Ext Z H H' := fun e a o nz ea => e a o (fun z => z.elim nz fun q => by rw [q, hp] at ea; cases ea) (by rw [upd_ne (ne_of_none ea hp)]; exact ea)
  refine pairs_gen ms ⟨c.withHid p (.dct [] []), _, ρ, n0.hide, ?_⟩
  unfold mDisp at q
  cases em : mPairs ms ρ with
  | fail => rw [em] at q; exact q
  | exc x l ρ1 =>
    rw [em] at q
    intro ed vs H' r1 e1 h1 h2 h3
    exact q ed vs H' (back (r1.showAt n0.new n0.nh)).1 (e0 e1) h1 h2 (Reps.zed (fun a o nz e z => nz (.inl z)) _ _ h3)
  | ok ps ρ1 =>
    rw [em] at q
    simp only [bindR_ok] at q
    intro us H2 r2 e2 hu
    have q : tR X.K E rD c Z σ H Q (match mergeD [] [] ps with
      | some (ks, l) => if ps.length ≤ 15 then .ok (.dct ks l) ρ1 else .fail
      | none => .fail) := q
    split at q
    · rename_i ks l hm
      split at q
      · rename_i h15
        obtain ⟨_, ⟨o, ho, us0, rfl, hl0, hr0⟩, _⟩ := r2.hidAt
        have hus0 : us0 = [] := by
          cases us0 with
          | nil => rfl
          | cons _ _ => cases hl0
        subst hus0
        obtain ⟨kvs, vs', f1, f2, f3, f4, f5⟩ := mergeK_zip (σ := σ) (vs := []) rfl Reps.nil hu hm
        have ex : Ext (fun a => Z a ∨ a = p) H2 (upd H2 p (.dK (ks.zip vs'))) := fun a o nz e => by rw [upd_ne (fun z => nz (.inr z))]; exact e
        have r3 := r2.putHid (t' := .dct ks l) (H' := upd H2 p (.dK (ks.zip vs'))) n0.new n0.nh (fun a o ne e => by rw [upd_ne ne]; exact e) ⟨_, upd_same, vs', rfl, f4, Reps.ext ex _ _ f5⟩
        obtain ⟨g1, g2⟩ := back (r3.showAt n0.new n0.nh)
        refine ⟨ho, kvs, f1, by omega, ?_⟩
        have f3 : mergeK [] kvs = ks.zip vs' := f3
        rw [f3]
        exact q _ _ g1 (e0 (e2.trans ex)) g2
      · exact q.elim
    · exact q.elim
end
end DL
set_option Elab.async false
set_option linter.all false
set_option maxRecDepth 100000
set_option maxHeartbeats 4000000
namespace DL
open PySem PySem.Spec PyProof.Rows L2
variable [CTab]
/-! ### dicts that are equal -/
def flatS : D → Bool
  | .non => true | .bl _ => true | .int _ => true | .str _ => true
  | _ => false
/-- the two are seen to be equal -/
def eqDct : D → D → Bool
  | .dct ks l, .dct js r => decide (ks.length = js.length) && decide (ks.length = l.length) && decide (js.length = r.length) && (ks.zip l).all fun q => flatS q.2 && (match lookD js r q.1 with
    | some d => (match q.2.sc, d.sc with
      | some a, some b => decide (a = b)
      | _, _ => false)
    | none => false)
  | _, _ => false
def dEqD (a b : D) : Option D := if eqDct a b = true then some (.bl true) else none
def dNeD (a b : D) : Option D := if eqDct a b = true then some (.bl false) else none
/-- == of any data; dicts only where they are equal -/
def dEqA (a b : D) : Option D := match dEq a b with | some d => some d | none => dEqD a b
def dNeA (a b : D) : Option D := match dNe a b with | some d => some d | none => dNeD a b
section
variable {X : Cx} {E : XK} {pos : Pos} {a b : Expr} {ma mb : M D} {K : PySem.W.Frag}
def rEqR : R2 := fun x y H Q => ∃ a b ks ls, x = .ref a ∧ y = .ref b ∧ Rd H a (.dK ks) ∧ Rd H b (.dK ls) ∧ ks.length = ls.length ∧ (∀ p ∈ ks, valV ls p.1 = some p.2 ∧ flatB p.2 = true) ∧ Q (.bl true) H
def rNeR : R2 := fun x y H Q => ∃ a b ks ls, x = .ref a ∧ y = .ref b ∧ Rd H a (.dK ks) ∧ Rd H b (.dK ls) ∧ ks.length = ls.length ∧ (∀ p ∈ ks, valV ls p.1 = some p.2 ∧ flatB p.2 = true) ∧ Q (.bl false) H
theorem op_eqR (hu : X.A.units < cLine) : OpR X (compareOp .Eq) rEqR := by
  intro pins s σ H x y v u Q I rx ry h
  obtain ⟨a, b, ks, ls, rfl, rfl, ea, eb, hlen, hp, q⟩ := h
  obtain rfl : v = Value.ref a := rx
  obtain rfl : u = Value.ref b := ry
  obtain ⟨_, ya, va, ra, da⟩ := (show ObjOk X.prog X.w H s.heap a (.dK ks) from ea.ok I.hok)
  obtain ⟨_, yb, vb, rb, db⟩ := (show ObjOk X.prog X.w H s.heap b (.dK ls) from eb.ok I.hok)
  have hl : va.length = vb.length := by rw [← ra.length, ← rb.length]; exact hlen
  exact PySem.W.keq_eq (knd := mixKind X.prog X.w) (r := true) ya yb da db hu (fun _ => hits_all rb ra hp) (fin_bl I q (by simp [hl]))
theorem op_neR (hu : X.A.units < cLine) : OpR X (compareOp .NotEq) rNeR := by
  intro pins s σ H x y v u Q I rx ry h
  obtain ⟨a, b, ks, ls, rfl, rfl, ea, eb, hlen, hp, q⟩ := h
  obtain rfl : v = Value.ref a := rx
  obtain rfl : u = Value.ref b := ry
  obtain ⟨_, ya, va, ra, da⟩ := (show ObjOk X.prog X.w H s.heap a (.dK ks) from ea.ok I.hok)
  obtain ⟨_, yb, vb, rb, db⟩ := (show ObjOk X.prog X.w H s.heap b (.dK ls) from eb.ok I.hok)
  have hl : va.length = vb.length := by rw [← ra.length, ← rb.length]; exact hlen
  exact PySem.W.keq_ne (knd := mixKind X.prog X.w) (r := true) ya yb da db hu (fun _ => hits_all rb ra hp) (fin_bl I q (by simp [hl]))
theorem zip_len_of {α β : Type} {ks : List α} {vs : List β} (h : ks.length = vs.length) : (ks.zip vs).length = ks.length := by simp [h]
theorem eqDct_rep {H : Hp} {Z : Addr → Prop} {x y : D} {v u : V} (h : eqDct x y = true) (hx : Rep K H Z x v) (hy : Rep K H Z y u) :
    ∃ a b ks ls, v = .ref a ∧ u = .ref b ∧ Rd H a (.dK ks) ∧ Rd H b (.dK ls) ∧ ks.length = ls.length ∧ ∀ p ∈ ks, valV ls p.1 = some p.2 ∧ flatB p.2 = true := by
  cases x <;> cases y <;> first | (cases h; done) | skip
  rename_i ks l js r
  simp only [eqDct, Bool.and_eq_true, decide_eq_true_eq, List.all_eq_true] at h
  obtain ⟨⟨⟨h1, h2⟩, h3⟩, h4⟩ := h
  simp only [Rep] at hx hy
  obtain ⟨a, vs, rfl, _, g1, g2, g3⟩ := hx
  obtain ⟨b, us, rfl, _, k1, k2, k3⟩ := hy
  refine ⟨a, b, _, _, rfl, rfl, g1, k1, by rw [zip_len_of g2, zip_len_of k2, h1], fun p hp => ?_⟩
  obtain ⟨i, hi⟩ := List.getElem?_of_mem hp
  obtain ⟨hk, hv⟩ := List.getElem?_zip_eq_some.mp hi
  obtain ⟨d, hd, rd⟩ := g3.getV hv
  have hm : (p.1, d) ∈ ks.zip l := List.mem_of_getElem? (List.getElem?_zip_eq_some.mpr ⟨hk, hd⟩)
  obtain ⟨f1, f2⟩ := h4 _ hm
  simp only at f1 f2
  have lk := lookD_rep (k := p.1) (ks := js) k3
  split at f2
  · rename_i d' hd'
    rw [hd'] at lk
    obtain ⟨v', e1, rv'⟩ := lk
    split at f2
    · rename_i s1 s2 hs1 hs2
      have e2 := D.sc_rep hs1 rd
      have e3 := D.sc_rep hs2 rv'
      have e4 := of_decide_eq_true f2
      refine ⟨by rw [e1, e3, ← e4, e2], ?_⟩
      rw [e2]
      cases d <;> simp [D.sc, flatS] at hs1 f1 <;> subst hs1 <;> rfl
    · cases f2
  · cases f2
theorem eqD_opD : OpD K rEqR dEqD := by
  intro H Z a b d x y Q hz ra rb h k
  unfold dEqD at h
  split at h
  · rename_i he
    cases h
    obtain ⟨p, q, ks, ls, e1, e2, h1, h2, h3, h4⟩ := eqDct_rep he ra rb
    exact ⟨p, q, ks, ls, e1, e2, h1, h2, h3, h4, k _ H (Same.refl H) rfl⟩
  · cases h
theorem neD_opD : OpD K rNeR dNeD := by
  intro H Z a b d x y Q hz ra rb h k
  unfold dNeD at h
  split at h
  · rename_i he
    cases h
    obtain ⟨p, q, ks, ls, e1, e2, h1, h2, h3, h4⟩ := eqDct_rep he ra rb
    exact ⟨p, q, ks, ls, e1, e2, h1, h2, h3, h4, k _ H (Same.refl H) rfl⟩
  · cases h
end
/-! ### the signs of a text -/
def signs (x : Str) : List D := x.cps.toList.map fun c => .str ⟨#[c]⟩
def mItS (m : M D) : M (List D) := fun ρ => bindR (m ρ) fun d ρ => match d with
  | .str x => .ok (signs x) ρ
  | _ => .fail
section
variable {X : Cx} {E : XK} {tg e : Expr} {m : M D} {K : PySem.W.Frag}
theorem wk_str {x : Str} : WkD K (Its x) (signs x) [] := by
  refine ⟨fun H Z hz h i d hd => ?_, fun H Z h => ?_⟩
  · simp only [signs, List.getElem?_map, Array.getElem?_toList, Option.map_eq_some_iff] at hd
    obtain ⟨c, hc, rfl⟩ := hd
    have hi : i < x.cps.size := (Array.getElem?_eq_some_iff.mp hc).1
    refine ⟨hi, fun v H' hv => ?_⟩
    obtain ⟨rfl, c', hc', rfl⟩ := hv
    rw [hc] at hc'
    cases hc'
    exact ⟨Same.refl _, rfl⟩
  · show x.cps.size ≤ (signs x).length
    simp [signs]
theorem i_str (he : PE X e (tD X.K E m)) : PI X tg e (iD X.K E (mItS m)) := by
  refine (pi_str he).imp fun σ H R ⟨c, Z, ρ, r, q⟩ => ⟨c, Z, ρ, r, iR.bind q fun d ρ1 v H1 r1 e1 h1 q => ?_⟩
  cases d <;> first | (exact q.elim; done) | skip
  rename_i x
  exact ⟨x, h1, q _ [] H1 r1 Ext.refl (fun q hq => by cases hq) wk_str⟩
end
/-! ### a, b = x, [..] -/
def mParDO (i j : Nat) (m : M D) (mo : M Ct) : M Fl := fun ρ => bindR (m ρ) fun d ρ => bindR (mo ρ) fun t ρ => .ok .nx ((ρ.set i (some (.val d))).set j (some (.own t)))
section
variable {X : Cx} {E : XK} {pos : Pos} {m : M D} {mo : M Ct}
theorem NewAt.setD {K : PySem.W.Frag} {c : Cz} {Z : Addr → Prop} {ρ : Env} {σ : St} {H : Hp} {t : Ct} {p : Addr} (n : NewAt K c Z ρ σ H t p) {i : Nat} {d : D} {v : V} (hd : Rep K H Z d v) : NewAt K c Z (ρ.set i (some (.val d))) (σ.set i (some v)) H t p := by
  have r := n.rel.set (i := i) hd
  refine ⟨r, n.z, n.new, n.at_, fun j hj e => ?_, n.nh⟩
  by_cases h : i = j
  · subst h
    obtain ⟨u, hu⟩ := hj
    rcases hu with hu | hu <;>
    · have hi := (List.getElem?_eq_some_iff.mp hu).1
      rw [List.getElem?_set_self (by simpa using hi)] at hu
      cases hu
  · have hj' : isOwn ρ j := by
      obtain ⟨u, hu⟩ := hj
      rw [List.getElem?_set_ne h] at hu
      exact ⟨u, hu⟩
    rw [List.getElem?_set_ne h] at e
    exact n.no j hj' e
theorem s_parDO (i j : Nat) {x y : Str} {a b : Expr} {px py pt : Pos} {kt k2 pt2} (hc : X.calm = true) (hN : X.N.Nodup) (ha : PE X a (tD X.K E m)) (hb : PE X b (tO X.K E mo)) (hi : X.N[i]? = some x := by rfl) (hj : X.N[j]? = some y := by rfl) (hij : i ≠ j := by decide)
    (hx : X.env.scope.names.lookup x = some .local := by rfl) (hy : X.env.scope.names.lookup y = some .local := by rfl)
    (hw : swappedStores [.Tuple [.Name x px, .Name y py] kt pt] (.Tuple [a, b] k2 pt2) X.env = pure (some [x, y]) := by rfl)
    (hs : swapsWithSole [.Tuple [.Name x px, .Name y py] kt pt] (.Tuple [a, b] k2 pt2) pos.line X.env = pure false := by rfl)
    (hsa : starEach [a, b] X.env = (false, eval a X.env) :: starEach [b] X.env := by rfl) (hsb : starEach [b] X.env = (false, eval b X.env) :: starEach [] X.env := by rfl) :
    PS X (.Assign [.Tuple [.Name x px, .Name y py] kt pt] (.Tuple [a, b] k2 pt2) pos) (tS X.K E (mParDO i j m mo)) := by
  refine (ps_par hc hN hi hj hij hx hy (pa_cons ha (pa_cons hb pa_nil hsb) hsa) hw hs).imp fun Dn σ H h => ?_
  obtain ⟨c, ρ, ⟨Z, r⟩, q⟩ := h
  refine ⟨c, Z, ρ, r, tSR.expr q fun d ρ1 v H1 r1 hd q1 => ⟨c, Z, ρ1, r1, ?_⟩⟩
  cases em : mo ρ1 with
  | fail => rw [em] at q1; exact q1
  | exc x l ρ2 => rw [em] at q1; exact fun ed vs H' h1 h3 h4 h5 => q1 σ ed vs H' ⟨Z, h1⟩ h3 h4 (Reps.zed h1.z0 _ _ h5)
  | ok t ρ2 =>
    rw [em] at q1
    exact fun p Z' H' n hk => ⟨v, .ref p, rfl, q1 _ _ ⟨Z', (n.setD (hk d v hd)).set j⟩⟩
end
/-! ### items of a list of one's own -/
def mOwnIx (i : Nat) (m : M D) : M D := fun ρ => match holds ρ i with
  | some (.lst _) => bindR (m ρ) fun k ρ => match k, holds ρ i with
    | .int j, some (.lst l) => liftO (L2.atI l j) ρ
    | _, _ => .fail
  | _ => .fail
def cSetAt (j : Int) : Ct → D → Option Ct
  | .lst l, d => match ixN l.length j with
    | some k => some (.lst (l.set k d))
    | _ => none
  | _, _ => none
def mMutNow (i : Nat) (f : Ct → D → Option Ct) (d : D) : M Fl := fun ρ => match ρ[i]? with
  | some (some w) => (match holds ρ i with
    | some t => (match f t d with
      | some t' => .ok .nx (ρ.set i (some (w.put t')))
      | none => .fail)
    | none => .fail)
  | _ => .fail
/-- x[e] += e2, x a list of one's own -/
def mAugIx (i : Nat) (mi : M D) (f : D → D → Option D) (m : M D) : M Fl := fun ρ => match holds ρ i with
  | some (.lst _) => bindR (mi ρ) fun k ρ => (match k, holds ρ i with
    | .int j, some (.lst l) => if 0 ≤ j ∧ j < 2 ^ 63 then (match L2.atI l j with
      | some d0 => bindR (m ρ) fun d ρ => (match f d0 d with
        | some d' => mMutNow i (cSetAt j) d' ρ
        | none => .fail)
      | none => .fail) else .fail
    | _, _ => .fail)
  | _ => .fail
/-- x[e] = e2 -/
def mSetIx (i : Nat) (mi m : M D) : M Fl := fun ρ => bindR (m ρ) fun d ρ => (match holds ρ i with
  | some (.lst _) => bindR (mi ρ) fun k ρ => (match k, holds ρ i with
    | .int j, some (.lst _) => mMutNow i (cSetAt j) d ρ
    | _, _ => .fail)
  | _ => .fail)
section
variable {X : Cx} {E : XK} {pos tpos : Pos} {e b : Expr} {m mb : M D} {K : PySem.W.Frag}
theorem holds_rel {c : Cz} {Z : Addr → Prop} {ρ : Env} {σ : St} {H : Hp} {i : Nat} {t : Ct} (r : Rel K c Z ρ σ H) (h : holds ρ i = some t) : ∃ p w, ρ[i]? = some (some w) ∧ Hold w t ∧ σ[i]? = some (some (.ref p)) ∧ Z p ∧ RepC K H Z t p := by
  obtain ⟨w, hw, hh⟩ := holds_hold h
  obtain ⟨p, h1, h2, h3⟩ := r.hold hw hh
  exact ⟨p, w, hw, hh, h1, h2, h3⟩
theorem d_ownIx (i : Nat) {x : Str} {np : Pos} (hb : PE X b (tD X.K E mb)) (hN : X.N[i]? = some x := by rfl) (hv : Vis X.env.scope x := by first | exact Or.inl rfl | exact Or.inr (Or.inl rfl) | exact Or.inr (Or.inr rfl)) (hd : (x == ("__debug__" : Str)) = false := by decide) (hcd : (x == ("__classdict__" : Str)) = false := by decide)
    (hs : PlainIx b := by exact fun _ _ => rfl) : PE X (.Subscript (.Name x np) b pos) (tD X.K E (mOwnIx i mb)) := by
  refine (pe_ix ix_list (pe_var hN hv hd hcd) hb hs).imp fun σ H Q h => ?_
  obtain ⟨c, Z, ρ, r, q⟩ := h
  unfold mOwnIx at q
  split at q
  · rename_i l0 ht
    obtain ⟨p, w, _, _, h1, _, _⟩ := holds_rel r ht
    refine ⟨_, h1, c, Z, ρ, r, q.bind fun k ρ1 v H1 r1 e1 hk q1 => ?_⟩
    split at q1
    · rename_i j l ht1
      obtain ⟨p', w', _, _, g1, hz, o, ho, us, rfl, hus⟩ := holds_rel r1 ht1
      rw [h1] at g1
      cases g1
      cases (show v = _ from hk)
      obtain ⟨d, hd, kk⟩ := q1.lift r1
      obtain ⟨u, hu, ru⟩ := hus.atI hd
      exact ⟨p, us, j, u, rfl, rfl, .inl (.inl ho), hu, kk _ H1 (Same.refl H1) ru⟩
    · exact q1.elim
  · exact q.elim
def rGetL (K : PySem.W.Frag) : V → V → Hp → VK → Prop := fun x y H Q => ∃ p xs i v, x = .ref p ∧ y = .int i ∧ 0 ≤ i ∧ i < 2 ^ 63 ∧ SqL K H p xs ∧ L2.atI xs i = some v ∧ Q v H
theorem get_own : PGet X (rGetL X.K) := by
  intro pins s σ H o i ov iv Q I ro ri h
  obtain ⟨p, xs, j, z, rfl, rfl, h0, h63, hq, he, q⟩ := h
  cases ro
  obtain ⟨t, rfl⟩ := ri
  obtain ⟨its, r, pl, hz⟩ := I.list hq
  obtain ⟨k, h1, h2, h3, h4, h5⟩ := L2.atI_get he
  obtain ⟨w, ew, rw'⟩ := r.get h2
  have hj : j.toNat = k := by
    rw [seqIndex_of h0 h5] at h1
    exact Option.some.inj h1
  exact wpAny_getItem_list pl.isList h0 h63 (by rw [hj]; simpa using ew) ⟨z, H, I, rw', q⟩
theorem cSetAt_ok {c : Cz} {Z : Addr → Prop} {ρ : Env} {σ : St} {H : Hp} {Dn : Ends} {i : Nat} {j : Int} {d : D} {v : V} {p : Addr} (r : Rel K c Z ρ σ H) (hp : σ[i]? = some (some (.ref p))) (hd : Rep K H Z d v) (q : tSR K E c Dn (mMutNow i (cSetAt j) d ρ)) :
    ∃ us k, H p = some (.lst us) ∧ ixN us.length j = some k ∧ Dn.nx σ (upd H p (.lst (us.set k v))) := by
  obtain ⟨p', t, t', h1, ⟨o, h2, h3⟩, hz, hf, kk⟩ := mut_gen (d := d) q r
  rw [hp] at h1
  cases h1
  cases t with
  | dct _ _ => cases hf
  | ob _ _ => cases hf
  | lst l =>
    obtain ⟨us, rfl, hus⟩ := h3
    simp only [cSetAt] at hf
    split at hf
    · rename_i k hk
      cases hf
      have ex : Ext Z H (upd H p (.lst (us.set k v))) := fun a o nz e => by rw [upd_ne (fun z => nz (by rw [z]; exact hz))]; exact e
      exact ⟨us, k, h2, by rw [← hus.len]; exact hk, kk _ (fun a o ne e => by rw [upd_ne ne]; exact e) ⟨_, upd_same, _, rfl, Reps.set (Rep.ext ex _ _ hd) k (Reps.ext ex _ _ hus)⟩⟩
    · cases hf
theorem s_augIx (i : Nat) {x : Str} {np : Pos} {ei : Expr} {mi : M D} {op : Operator} {g : Int → Int → Int} {f : D → D → Option D} (ho : PIp X op (ipI g)) (hg : ∀ a b d, f a b = some d → ∃ j k, a = .int j ∧ b = .int k ∧ d = .int (g j k)) (hei : PE X ei (tD X.K E mi)) (he : PE X e (tD X.K E m))
    (hN : X.N[i]? = some x := by rfl) (hv : Vis X.env.scope x := by first | exact Or.inl rfl | exact Or.inr (Or.inl rfl) | exact Or.inr (Or.inr rfl)) (hd : (x == ("__debug__" : Str)) = false := by decide) (hcd : (x == ("__classdict__" : Str)) = false := by decide)
    (ha : ∀ ov iv new, augStore ei ov iv new = (do holding [new, ov, iv] (setItem ov iv new); release [new, ov, iv] []; pure .next) := by intros; rfl) :
    PS X (.AugAssign (.Subscript (.Name x np) ei tpos) op e pos) (tS X.K E (mAugIx i mi f m)) := by
  refine (ps_augS (pe_var hN hv hd hcd) hei get_own he ho set_list ha).imp fun Dn σ H h => ?_
  obtain ⟨c, ρ, ⟨Z, r⟩, q⟩ := h
  unfold mAugIx at q
  split at q
  · rename_i l0 ht
    obtain ⟨p, w, _, _, h1, _, _⟩ := holds_rel r ht
    refine ⟨_, h1, c, Z, ρ, r, tSR.expr q fun k ρ1 v H1 r1 hk q1 => ?_⟩
    split at q1
    · rename_i j l ht1
      split at q1
      · rename_i hj
        split at q1
        · rename_i d0 hd0
          obtain ⟨p', w', _, _, g1, hz, o, ho', us, rfl, hus⟩ := holds_rel r1 ht1
          rw [h1] at g1
          cases g1
          cases (show v = _ from hk)
          obtain ⟨u0, hu0, ru0⟩ := hus.atI hd0
          refine ⟨p, us, j, u0, rfl, rfl, hj.1, hj.2, .inl (.inl ho'), hu0, c, Z, ρ1, r1, tSR.expr q1 fun d ρ2 y H2 r2 hd q2 => ?_⟩
          split at q2
          · rename_i d' hf
            obtain ⟨a, b, rfl, rfl, rfl⟩ := hg _ _ _ hf
            cases (show u0 = _ from ru0)
            cases (show y = _ from hd)
            obtain ⟨us', k', g2, g3, g4⟩ := cSetAt_ok (d := .int (g a b)) (v := .int (g a b)) r2 h1 (show Rep X.K H2 Z (.int (g a b)) (.int (g a b)) from rfl) q2
            exact ⟨a, b, rfl, rfl, p, us', j, k', rfl, rfl, g2, g3, g4⟩
          · exact q2.elim
        · exact q1.elim
      · exact q1.elim
    · exact q1.elim
  · exact q.elim
end
/-! ### a thing of one's own is looked at -/
/-- nothing in the slots changes -/
class Still {α : Type} (m : M α) : Prop where
  st : ∀ ρ a ρ', m ρ = .ok a ρ' → ρ' = ρ
instance {i : Nat} : Still (mVar i) := ⟨fun ρ a ρ' h => by
  unfold mVar at h
  split at h <;> cases h
  rfl⟩
instance {d : D} : Still (mC d) := ⟨fun ρ a ρ' h => by cases h; rfl⟩
theorem liftO_st {α : Type} {o : Option α} {ρ ρ' : Env} {a : α} (h : liftO o ρ = .ok a ρ') : ρ' = ρ := by
  cases o <;> cases h
  rfl
instance {f : D → Option D} {m : M D} [i : Still m] : Still (m1 f m) := ⟨fun ρ a ρ' h => by
  obtain ⟨x, ρ1, h1, h2⟩ := bind_ok h
  rw [liftO_st h2, i.st _ _ _ h1]⟩
instance {f : D → D → Option D} {m m' : M D} [i : Still m] [j : Still m'] : Still (m2 f m m') := ⟨fun ρ a ρ' h => by
  obtain ⟨x, ρ1, h1, h2⟩ := bind_ok h
  obtain ⟨y, ρ2, h3, h4⟩ := bind_ok h2
  rw [liftO_st h4, j.st _ _ _ h3, i.st _ _ _ h1]⟩
end DL
set_option Elab.async false
set_option linter.all false
set_option maxRecDepth 100000
set_option maxHeartbeats 4000000
namespace DL
open PySem PySem.Spec PyProof.Rows L2
theorem bt_len : bootBuiltins "len" = some (.builtin "len") := by decide +kernel
theorem bt_abs : bootBuiltins "abs" = some (.builtin "abs") := by decide +kernel
theorem bt_sum : bootBuiltins "sum" = some (.builtin "sum") := by decide +kernel
theorem bt_any : bootBuiltins "any" = some (.builtin "any") := by decide +kernel
theorem bt_all : bootBuiltins "all" = some (.builtin "all") := by decide +kernel
theorem bt_max : bootBuiltins "max" = some (.builtin "max") := by decide +kernel
theorem bt_min : bootBuiltins "min" = some (.builtin "min") := by decide +kernel
theorem bt_sorted : bootBuiltins "sorted" = some (.builtin "sorted") := by decide +kernel
theorem bt_int : bootBuiltins "int" = some (.type "int") := by decide +kernel
theorem bt_bool : bootBuiltins "bool" = some (.type "bool") := by decide +kernel
theorem bt_str : bootBuiltins "str" = some (.type "str") := by decide +kernel
theorem bt_list : bootBuiltins "list" = some (.type "list") := by decide +kernel
theorem bt_tuple : bootBuiltins "tuple" = some (.type "tuple") := by decide +kernel
theorem bt_dict : bootBuiltins "dict" = some (.type "dict") := by decide +kernel
theorem p0 {X : Cx} {E : XK} : Passes CX0 X E := fun _ _ _ _ _ _ _ h => h.elim
def dAddI : D → D → Option D
  | .int i, .int j => some (.int (i + j))
  | _, _ => none
theorem add_opI : ∀ a b d : D, dAddI a b = some d → ∃ j k, a = .int j ∧ b = .int k ∧ d = .int (j + k) := by
  intro a b d h
  unfold dAddI at h
  split at h <;> cases h
  exact ⟨_, _, rfl, rfl, rfl⟩
variable [CTab]
section
variable {X : Cx} {E : XK} {pos : Pos}
theorem c_eqA {k : Nat} (hr : Room k X.A) : CmpD X .Eq dEqA := by
  obtain ⟨r, h1, h2⟩ := c_eq (X := X) hr
  exact ⟨_, h1.or (op_eqR hr.units0), h2.orL eqD_opD⟩
theorem c_neA {k : Nat} (hr : Room k X.A) : CmpD X .NotEq dNeA := by
  obtain ⟨r, h1, h2⟩ := c_ne (X := X) hr
  exact ⟨_, h1.or (op_neR hr.units0), h2.orL neD_opD⟩
theorem d_dict0 : PE X (.Dict [] [] pos) (tD X.K E (mC (.dct [] []))) := by
  refine pe_dnewK.imp fun σ H Q h => ?_
  obtain ⟨c, Z, ρ, r, q⟩ := h
  intro p hp
  refine q.new r (same_upd hp) ?_
  show Rep X.K _ Z (.dct [] []) (.ref p)
  simp only [Rep]
  exact ⟨p, [], rfl, r.zfree hp, .inl upd_same, rfl, rfl⟩
end
end DL
set_option Elab.async false
set_option linter.all false
set_option maxRecDepth 100000
set_option maxHeartbeats 4000000
namespace DL
open PySem PySem.Spec PyProof.Rows L2
variable [CTab]
/-! ### list comprehensions with two fors -/
section
variable {K : PySem.W.Frag} {c : Cz} {Z : Addr → Prop} {ρ1 ρF : Env} {σ : St} {H1 : Hp} {vs is : List Nat} {P : Addr} {g : MT} {tt : M Bool} {m : M D} {J : It} {ds ys0 zs : List D} {ex : List (D × V)} {Fn : Hp → Prop}
/-- behind an item in which the hidden thing has grown -/
theorem Rel.back' {t t' : Ct} {ρ ρ' : Env} {σ' : St} {H H' : Hp} (r : Rel K (c.withHid P t) Z ρ σ H) (r' : Rel K (c.withHid P t') Z ρ' σ' H') (hn : ∀ v ∈ vs, notOwn ρ v = true) (e : Ext Z H H') (o : ∀ j, j ∉ vs → σ'[j]? = σ[j]?) (hl : σ'.length = σ.length) : Rel K (c.withHid P t') Z (restore ρ ρ' vs) σ H' := by
  have rb := Rel.back r.unhide r'.unhide hn e o hl
  refine ⟨rb.frame, rb.keep, rb.base, rb.len, rb.dom, rb.val, rb.own, rb.inn, rb.inj, rb.xs, fun q hq => ?_⟩
  rcases List.mem_cons.mp hq with eq | hq
  · subst eq
    refine ⟨r'.hidAt.1, r'.hidAt.2.1, fun j ⟨u, hu⟩ => ?_⟩
    have hj : j ∉ vs := fun z => by
      have hh := hn j z
      rw [restore_at vs j (by rw [r'.len, r.len, hl]), if_pos z] at hu
      exact absurd ⟨u, hu⟩ (notOwn_no hh)
    rw [restore_at vs j (by rw [r'.len, r.len, hl]), if_neg hj] at hu
    rw [← o j hj]
    exact r'.hidAt.2.2 j ⟨u, hu⟩
  · exact rb.hd q hq
/-- the loop of a comprehension, behind items that lie there already -/
theorem lc_loop (hg : ∀ j ∈ is, j ∈ vs) (wk : WkD K J ds ex) (h0 : c.H0 P = none) (hnh : ∀ q ∈ c.hid, q.1 ≠ P) (hZ : Z P) (hno : ∀ v ∈ vs, notOwn ρ1 v = true) (r1 : Rel K ((c.withEx ex).withHid P (.lst ys0)) Z ρ1 σ H1)
    (hrun : lcs (lcIt vs g tt m) ds ρ1 = .ok zs ρF) (hbd : (ys0 ++ zs).length ≤ sizeLine) (fin : ∀ H', Rel K ((c.withEx ex).withHid P (.lst (ys0 ++ zs))) Z ρF σ H' → Ext Z H1 H' → Fn H') :
    ∃ W : Nat → Nat → Hp → Prop, (∃ k, W 0 k H1) ∧ ∀ i k H, W i k H → (J.stop i H ∧ Fn H) ∨ (J.go i H ∧ ∃ Nx : Hp → Prop, (∀ H', Nx H' → ∃ k', k' < k ∧ W (i + 1) k' H') ∧ ∀ x H', J.yld i H x H' → tTG K is g x (L2.wipe σ vs) H' fun σ2 H2 => L2.wipe σ2 vs = L2.wipe σ vs ∧ tT K E0 tt σ2 H2 fun b H3 =>
      if b = true then tD K E0 m σ2 H3 fun y H4 => ∃ acc, H4 P = some (.lst acc) ∧ acc.length < sizeLine ∧ Nx (upd H4 P (.lst (acc ++ [y]))) else Nx H3) := by
  refine ⟨fun i k H => k = ds.length - i ∧ i ≤ ds.length ∧ ∃ ys ρ ws, Rel K ((c.withEx ex).withHid P (.lst ys)) Z ρ σ H ∧ Ext Z H1 H ∧ (∀ v ∈ vs, notOwn ρ v = true) ∧ lcs (lcIt vs g tt m) (ds.drop i) ρ = .ok ws ρF ∧ ys ++ ws = ys0 ++ zs,
    ⟨_, rfl, Nat.zero_le _, ys0, ρ1, zs, r1, Ext.refl, hno, hrun, rfl⟩, ?_⟩
  rintro i k H2 ⟨rfl, hi, ys, ρ2, ws, r2, e2, hno2, hgo, hl⟩
  by_cases hlt : i < ds.length
  · refine .inr ?_
    have hd : ds[i]? = some ds[i] := List.getElem?_eq_getElem hlt
    obtain ⟨go, yl⟩ := wk.go H2 _ r2.dom (fun q hq => r2.xs q (List.mem_append_left _ hq)) i ds[i] hd
    rw [List.drop_eq_getElem_cons hlt] at hgo
    unfold lcs at hgo
    cases ef : lcIt vs g tt m ds[i] ρ2 with
    | fail => rw [ef] at hgo; cases hgo
    | exc _ _ _ => rw [ef] at hgo; cases hgo
    | ok o ρ3 =>
      rw [ef] at hgo
      simp only at hgo
      cases er : lcs (lcIt vs g tt m) (ds.drop (i + 1)) ρ3 with
      | fail => rw [er] at hgo; cases hgo
      | exc _ _ _ => rw [er] at hgo; cases hgo
      | ok us ρ4 =>
        rw [er] at hgo
        simp only at hgo
        refine ⟨go, fun H' => ∃ ys', Rel K ((c.withEx ex).withHid P (.lst ys')) Z ρ3 σ H' ∧ Ext Z H1 H' ∧ (∀ v ∈ vs, notOwn ρ3 v = true) ∧ ys' ++ us = ys0 ++ zs,
          fun H' ⟨ys', k2, k3, k4, k5⟩ => ⟨ds.length - (i + 1), by omega, rfl, hlt, ys', ρ3, us, k2, k3, k4, by rw [er]; cases hgo; rfl, k5⟩, fun x H' y => ?_⟩
        obtain ⟨s3, rd⟩ := yl x H' y
        unfold lcIt at ef
        split at ef
        · cases ef
        · rename_i ρg hgd
          refine ⟨_, _, _, _, ρg, (r2.same s3).wipe vs, rd, hgd, fun σ4 H4 r4 s4 o4 => ?_⟩
          have out4 : ∀ j, j ∉ vs → σ4[j]? = σ[j]? := fun j hj => (o4.2 j fun z => hj (hg j z)).trans (wipe_at vs j hj)
          have len4 : σ4.length = σ.length := by rw [o4.1, wipe_len]
          refine ⟨(wipe_eq len4 out4), _, _, _, r4, ?_⟩
          split at ef
          · rename_i ρt ht
            rw [ht]
            intro b H5 r5 e5 hb5
            cases (show true = b from hb5)
            rw [if_pos rfl]
            refine ⟨_, _, _, r5, ?_⟩
            split at ef
            · rename_i yv ρy hy
              rw [hy]
              intro v H6 r6 e6 hv
              cases ef
              have ex6 : Ext Z H2 H6 := ((Ext.same s3).trans (Ext.same s4)).trans (e5.trans e6)
              have rb := Rel.back r2 r6 hno2 ex6 out4 len4
              obtain ⟨hz, ⟨o, ho, us', rfl, hus⟩, _⟩ := r6.hidAt
              cases hgo
              have ex7 : Ext Z H6 (upd H6 P (.lst (us' ++ [v]))) := fun a o nz e => by rw [upd_ne (fun z => nz (by rw [z]; exact hZ))]; exact e
              have hlen := congrArg List.length hl
              rw [List.length_append, List.length_cons] at hlen
              refine ⟨us', ho, by rw [← hus.len]; omega, ys ++ [yv], rb.putHid h0 hnh (fun a o ne e => by rw [upd_ne ne]; exact e) ⟨_, upd_same, _, rfl, ?_⟩, e2.trans (ex6.trans ex7), notOwn_back (by rw [r6.len, r2.len, len4]) hno2, ?_⟩
              · exact (Reps.ext ex7 _ _ hus).app (Reps.one (Rep.ext ex7 _ _ hv))
              · rw [← hl]
                simp
            · cases ef
          · rename_i ρt ht
            rw [ht]
            intro b H5 r5 e5 hb5
            cases (show false = b from hb5)
            rw [if_neg (by decide)]
            cases ef
            have ex6 : Ext Z H2 H5 := ((Ext.same s3).trans (Ext.same s4)).trans e5
            refine ⟨ys, Rel.back r2 r5 hno2 ex6 out4 len4, e2.trans ex6, notOwn_back (by rw [r5.len, r2.len, len4]) hno2, ?_⟩
            cases hgo
            exact hl
          · cases ef
  · have e0 : i = ds.length := by omega
    subst e0
    rw [List.drop_length] at hgo
    cases hgo
    rw [List.append_nil] at hl
    subst hl
    exact .inl ⟨wk.stop H2 _ (fun q hq => r2.xs q (List.mem_append_left _ hq)), fin H2 r2 e2⟩
end
def lcIt2 (vs : List Nat) (g : MT) (t : M Bool) (vs1 : List Nat) (mi1 : M (List D)) (g1 : MT) (t1 : M Bool) (m : M D) (d : D) (ρ : Env) : Res (List D) := match g d (wipeE ρ vs) with
  | none => .fail
  | some ρ1 => (match t ρ1 with
    | .ok true ρ2 => (match mi1 ρ2 with
      | .ok ds1 ρ3 => if vs1.all (notOwn ρ3) = true then (match lcs (lcIt vs1 g1 t1 m) ds1 ρ3 with
        | .ok ys ρ4 => .ok ys (restore ρ ρ4 vs)
        | _ => .fail) else .fail
      | _ => .fail)
    | .ok false ρ2 => .ok [] (restore ρ ρ2 vs)
    | _ => .fail)
def lcs2 (f : D → Env → Res (List D)) : List D → Env → Res (List D)
  | [], ρ => .ok [] ρ
  | d :: ds, ρ => match f d ρ with
    | .ok ys ρ1 => (match lcs2 f ds ρ1 with
      | .ok zs ρ2 => .ok (ys ++ zs) ρ2
      | _ => .fail)
    | _ => .fail
/-- the items of a comprehension with two fors -/
def mComp2 (vs : List Nat) (mi : M (List D)) (g : MT) (t : M Bool) (vs1 : List Nat) (mi1 : M (List D)) (g1 : MT) (t1 : M Bool) (m : M D) : M (List D) := fun ρ => bindR (mi ρ) fun ds ρ => if vs.all (notOwn ρ) = true then (match lcs2 (lcIt2 vs g t vs1 mi1 g1 t1 m) ds ρ with
    | .ok l ρ' => if l.length ≤ sizeLine then .ok l ρ' else .fail
    | _ => .fail) else .fail
section
variable {K : PySem.W.Frag} {vs vs1 is is1 : List Nat} {mi mi1 : M (List D)} {g g1 : MT} {tt t1 : M Bool} {m : M D}
theorem lc2_gen {σ : St} {H : Hp} {Q : VK} {E : XK} (hg : ∀ j ∈ is, j ∈ vs) (hg1 : ∀ j ∈ is1, j ∈ vs1)
    (h : ∃ c Z ρ, Rel K c Z ρ σ H ∧ match mComp2 vs mi g tt vs1 mi1 g1 t1 m ρ with
      | .fail => False
      | .exc x l ρ' => ∀ ed us H', Rel K c Z ρ' σ H' → Ext Z H H' → H' ed = some (.xd ((cF x).zip us)) → us.length ≤ (cF x).length → Reps K H' Z l us → E (.ref (He.ga K (cN x))) (some ed) H'
      | .ok l ρ' => ∀ P H1 H', H1 P = none → Ext Z H H1 → (∀ p, Z p → H1 p ≠ none) → NewAt K c (fun a => Z a ∨ a = P) ρ' σ H' (.lst l) P → Ext (fun a => Z a ∨ a = P) H1 H' → Q (.ref P) H') :
    tLc2 (iD K E mi) (tTG K is g) (tT K E0 tt) (iD K E0 mi1) (tTG K is1 g1) (tT K E0 t1) (tD K E0 m) vs vs1 σ H Q := by
  obtain ⟨c, Z, ρ, r, q⟩ := h
  refine ⟨c, Z, ρ, r, ?_⟩
  unfold mComp2 at q
  cases em : mi ρ with
  | fail => rw [em] at q; exact q
  | exc x l ρ1 => rw [em] at q; exact q
  | ok ds ρ1 =>
    rw [em, bindR_ok] at q
    intro J ex H1 r1 e1 hex wk P hP
    by_cases hno : vs.all (notOwn ρ1) = true
    · rw [if_pos hno] at q
      have hno : ∀ v ∈ vs, notOwn ρ1 v = true := by simpa using hno
      cases el : lcs2 (lcIt2 vs g tt vs1 mi1 g1 t1 m) ds ρ1 with
      | fail => rw [el] at q; exact q.elim
      | exc x l ρ' => rw [el] at q; exact q.elim
      | ok l ρF =>
        rw [el] at q
        simp only at q
        by_cases hbd : l.length ≤ sizeLine
        · rw [if_pos hbd] at q
          have fin := fun H' => q P H1 H' hP e1 r1.dom
          clear q em
          have n0 := (r1.more hex).newAt (p := P) (o := .lst []) (t := .lst []) hP ⟨[], rfl, Reps.nil⟩
          refine ⟨fun i k H => k = ds.length - i ∧ i ≤ ds.length ∧ ∃ ys ρ zs, Rel K ((c.withEx ex).withHid P (.lst ys)) (fun a => Z a ∨ a = P) ρ σ H ∧ Ext (fun a => Z a ∨ a = P) H1 H ∧ (∀ v ∈ vs, notOwn ρ v = true) ∧ lcs2 (lcIt2 vs g tt vs1 mi1 g1 t1 m) (ds.drop i) ρ = .ok zs ρF ∧ ys ++ zs = l,
            ⟨_, rfl, Nat.zero_le _, [], ρ1, l, n0.hide, fun a o nz e => by rw [upd_ne (fun z => nz (.inr z))]; exact e, hno, el, rfl⟩, ?_⟩
          rintro i k H2 ⟨rfl, hi, ys, ρ2, zs, r2, e2, hno2, hgo, hl⟩
          by_cases hlt : i < ds.length
          · refine .inr ?_
            have hd : ds[i]? = some ds[i] := List.getElem?_eq_getElem hlt
            obtain ⟨go, yl⟩ := wk.go H2 _ r2.dom (fun q hq => r2.xs q (List.mem_append_left _ hq)) i ds[i] hd
            rw [List.drop_eq_getElem_cons hlt] at hgo
            unfold lcs2 at hgo
            cases ef : lcIt2 vs g tt vs1 mi1 g1 t1 m ds[i] ρ2 with
            | fail => rw [ef] at hgo; cases hgo
            | exc _ _ _ => rw [ef] at hgo; cases hgo
            | ok ws ρ3 =>
              rw [ef] at hgo
              simp only at hgo
              cases er : lcs2 (lcIt2 vs g tt vs1 mi1 g1 t1 m) (ds.drop (i + 1)) ρ3 with
              | fail => rw [er] at hgo; cases hgo
              | exc _ _ _ => rw [er] at hgo; cases hgo
              | ok us ρ4 =>
                rw [er] at hgo
                simp only at hgo
                cases hgo
                refine ⟨go, fun H' => ∃ ys', Rel K ((c.withEx ex).withHid P (.lst ys')) (fun a => Z a ∨ a = P) ρ3 σ H' ∧ Ext (fun a => Z a ∨ a = P) H1 H' ∧ (∀ v ∈ vs, notOwn ρ3 v = true) ∧ ys' ++ us = l,
                  fun H' ⟨ys', k2, k3, k4, k5⟩ => ⟨ds.length - (i + 1), by omega, rfl, hlt, ys', ρ3, us, k2, k3, k4, er, k5⟩, fun x H' y => ?_⟩
                obtain ⟨s3, rd⟩ := yl x H' y
                unfold lcIt2 at ef
                split at ef
                · cases ef
                · rename_i ρg hgd
                  refine ⟨_, _, _, _, ρg, (r2.same s3).wipe vs, rd, hgd, fun σ4 H4 r4 s4 o4 => ?_⟩
                  have out4 : ∀ j, j ∉ vs → σ4[j]? = σ[j]? := fun j hj => (o4.2 j fun z => hj (hg j z)).trans (wipe_at vs j hj)
                  have len4 : σ4.length = σ.length := by rw [o4.1, wipe_len]
                  refine ⟨(wipe_eq len4 out4), _, _, _, r4, ?_⟩
                  split at ef
                  · rename_i ρt ht
                    rw [ht]
                    intro b H5 r5 e5 hb5
                    cases (show true = b from hb5)
                    rw [if_pos rfl]
                    refine ⟨_, _, _, r5, ?_⟩
                    split at ef
                    · rename_i ds1 ρm hm1
                      rw [hm1]
                      intro J1 ex1 H6 r6 e6 hex1 wk1
                      split at ef
                      · rename_i hno1
                        have hno1 : ∀ v ∈ vs1, notOwn ρm v = true := by simpa using hno1
                        split at ef
                        · rename_i ws' ρw hw
                          cases ef
                          have hb2 : (ys ++ ws).length ≤ sizeLine := by
                            have hlen := congrArg List.length hl
                            simp only [List.length_append] at hlen ⊢
                            omega
                          refine lc_loop (c := c.withEx ex) (ex := ex1) (ys0 := ys) hg1 wk1 n0.new n0.nh (.inr rfl) hno1 (r6.more hex1) hw hb2 fun H' rr ee => ?_
                          have ex6 : Ext (fun a => Z a ∨ a = P) H2 H' := ((Ext.same s3).trans (Ext.same s4)).trans ((e5.trans e6).trans ee)
                          have rr' : Rel K ((c.withEx ex).withHid P (.lst (ys ++ ws))) (fun a => Z a ∨ a = P) ρw σ4 H' := Rel.less (c := (c.withEx ex).withHid P (.lst (ys ++ ws))) (ex := ex1) rr
                          have rb : Rel K ((c.withEx ex).withHid P (.lst (ys ++ ws))) (fun a => Z a ∨ a = P) (restore ρ2 ρw vs) σ H' := Rel.back' r2 rr' hno2 ex6 out4 len4
                          exact ⟨ys ++ ws, rb, e2.trans ex6, notOwn_back (by rw [rr'.len, r2.len, len4]) hno2, by rw [← hl]; simp⟩
                        · cases ef
                      · cases ef
                    · cases ef
                  · rename_i ρt ht
                    rw [ht]
                    intro b H5 r5 e5 hb5
                    cases (show false = b from hb5)
                    rw [if_neg (by decide)]
                    cases ef
                    have ex6 : Ext (fun a => Z a ∨ a = P) H2 H5 := ((Ext.same s3).trans (Ext.same s4)).trans e5
                    exact ⟨ys, Rel.back r2 r5 hno2 ex6 out4 len4, e2.trans ex6, notOwn_back (by rw [r5.len, r2.len, len4]) hno2, hl⟩
                  · cases ef
          · have e0 : i = ds.length := by omega
            subst e0
            rw [List.drop_length] at hgo
            cases hgo
            rw [List.append_nil] at hl
            subst hl
            have rl : Rel K (c.withHid P (.lst ys)) (fun a => Z a ∨ a = P) _ σ H2 := ⟨r2.frame, r2.keep, r2.base, r2.len, r2.dom, r2.val, r2.own, r2.inn, r2.inj, fun q hq => r2.xs q (List.mem_append_right _ hq), r2.hd⟩
            exact .inl ⟨wk.stop H2 _ (fun q hq => r2.xs q (List.mem_append_left _ hq)), fin H2 (rl.showAt n0.new n0.nh) e2⟩
        · rw [if_neg hbd] at q
          exact q.elim
    · rw [if_neg hno] at q
      exact q.elim
end
end DL
namespace DL
open PySem PySem.Spec PyProof.Rows L2
variable [CTab]
section
variable {X : Cx} {E : XK} {pos spos py : Pos} {elt tg iter tg1 iter1 : Expr} {ifs ifs1 : List Expr} {scope : Scope} {vs vs1 is is1 : List Nat} {mi mi1 : M (List D)} {g g1 : MT} {t t1 : M Bool} {m : M D} {y : Str}
theorem lc2D {K : PySem.W.Frag} {σ : St} {H : Hp} {Q : VK} (hg : ∀ j ∈ is, j ∈ vs) (hg1 : ∀ j ∈ is1, j ∈ vs1) (h : tD K E (mLcD (mComp2 vs mi g t vs1 mi1 g1 t1 m)) σ H Q) : tLc2 (iD K E mi) (tTG K is g) (tT K E0 t) (iD K E0 mi1) (tTG K is1 g1) (tT K E0 t1) (tD K E0 m) vs vs1 σ H Q := by
  obtain ⟨c, Z, ρ, r, q⟩ := h
  refine lc2_gen hg hg1 ⟨c, Z, ρ, r, ?_⟩
  unfold mLcD at q
  cases ec : mComp2 vs mi g t vs1 mi1 g1 t1 m ρ with
  | fail => rw [ec] at q; exact q
  | exc x l ρ' => rw [ec] at q; exact q
  | ok l ρ' =>
    rw [ec] at q
    intro D H1 H' hD e1 hz n e2
    have hnz : ¬ Z D := fun z => hz D z hD
    obtain ⟨r', rp⟩ := n.frz (Y := Z) (fun a => Iff.rfl) hnz
    exact q (.ref D) H' r' (e1.trans (ext_or e2 hD)) rp
/-- [elt for tg in iter if .. for tg1 in iter1 if ..] -/
theorem d_lc2 (own : List (Str × Nat)) (vs1 : List Nat) (hc : X.calm = true) (hN : X.N.Nodup) (ok : BlkOk X.N X.env.scope scope own) (hv : ∀ i ∈ vs1, i ∈ own.map (·.2)) (hg0 : ∀ j ∈ is, j ∈ own.map (·.2)) (hg01 : ∀ j ∈ is1, j ∈ vs1) (hi : PI X tg iter (iD X.K E mi))
    (hg : ∀ (s : Shared) (H : Hp) (C : Addr) (cl : List (Str × Addr)) (fp : List Addr), PG (X.blk s H scope (compEnvC scope cl C X.env) fp) tg (tTG X.K is g)) (ht : ∀ (s : Shared) (H : Hp) (C : Addr) (cl : List (Str × Addr)) (fp : List Addr), PTs (X.blk s H scope (compEnvC scope cl C X.env) fp) ifs (tT X.K E0 t))
    (hi1 : ∀ (s : Shared) (H : Hp) (C : Addr) (cl : List (Str × Addr)) (fp : List Addr), PI (X.blk s H scope (compEnvC scope cl C X.env) fp) tg1 iter1 (iD X.K E0 mi1))
    (hg1 : ∀ (s : Shared) (H : Hp) (C : Addr) (cl : List (Str × Addr)) (fp : List Addr), PG (X.blk s H scope (compEnvC scope cl C X.env) fp) tg1 (tTG X.K is1 g1)) (ht1 : ∀ (s : Shared) (H : Hp) (C : Addr) (cl : List (Str × Addr)) (fp : List Addr), PTs (X.blk s H scope (compEnvC scope cl C X.env) fp) ifs1 (tT X.K E0 t1))
    (he : ∀ (s : Shared) (H : Hp) (C : Addr) (cl : List (Str × Addr)) (fp : List Addr), PE (X.blk s H scope (compEnvC scope cl C X.env) fp) elt (tD X.K E0 m)) (hs : ∀ x, foldedSetIterable iter X.env x = pure x := by intro _; rfl) (hs1 : ∀ env x, foldedSetIterable iter1 env x = pure x := by intro _ _; rfl) :
    PE X (.ListComp elt [⟨tg, iter, ifs, 0⟩, ⟨tg1, iter1, ifs1, 0⟩] scope pos) (tD X.K E (mLcD (mComp2 (own.map (·.2)) mi g t vs1 mi1 g1 t1 m))) :=
  (pe_lc2 hc hN hi ok hv hg ht hi1 hg1 ht1 he hs hs1).imp fun _ _ _ h => lc2D hg0 hg01 h
theorem s_setLc2 (i : Nat) (own : List (Str × Nat)) (vs1 : List Nat) (hc : X.calm = true) (hN : X.N.Nodup) (ok : BlkOk X.N X.env.scope scope own) (hv : ∀ i ∈ vs1, i ∈ own.map (·.2)) (hg0 : ∀ j ∈ is, j ∈ own.map (·.2)) (hg01 : ∀ j ∈ is1, j ∈ vs1) (hi : PI X tg iter (iD X.K E mi))
    (hg : ∀ (s : Shared) (H : Hp) (C : Addr) (cl : List (Str × Addr)) (fp : List Addr), PG (X.blk s H scope (compEnvC scope cl C X.env) fp) tg (tTG X.K is g)) (ht : ∀ (s : Shared) (H : Hp) (C : Addr) (cl : List (Str × Addr)) (fp : List Addr), PTs (X.blk s H scope (compEnvC scope cl C X.env) fp) ifs (tT X.K E0 t))
    (hi1 : ∀ (s : Shared) (H : Hp) (C : Addr) (cl : List (Str × Addr)) (fp : List Addr), PI (X.blk s H scope (compEnvC scope cl C X.env) fp) tg1 iter1 (iD X.K E0 mi1))
    (hg1 : ∀ (s : Shared) (H : Hp) (C : Addr) (cl : List (Str × Addr)) (fp : List Addr), PG (X.blk s H scope (compEnvC scope cl C X.env) fp) tg1 (tTG X.K is1 g1)) (ht1 : ∀ (s : Shared) (H : Hp) (C : Addr) (cl : List (Str × Addr)) (fp : List Addr), PTs (X.blk s H scope (compEnvC scope cl C X.env) fp) ifs1 (tT X.K E0 t1))
    (he : ∀ (s : Shared) (H : Hp) (C : Addr) (cl : List (Str × Addr)) (fp : List Addr), PE (X.blk s H scope (compEnvC scope cl C X.env) fp) elt (tD X.K E0 m)) (hs : ∀ x, foldedSetIterable iter X.env x = pure x := by intro _; rfl) (hs1 : ∀ env x, foldedSetIterable iter1 env x = pure x := by intro _ _; rfl)
    (hy : X.N[i]? = some y := by rfl) (hyl : X.env.scope.names.lookup y = some .local := by rfl) (hsw : swapsWith (.ListComp elt [⟨tg, iter, ifs, 0⟩, ⟨tg1, iter1, ifs1, 0⟩] scope pos) (some (.Name y py)) spos.line X.env = pure true := by exact sw_true rfl rfl rfl (by decide +kernel)) :
    PS X (.Assign [.Name y py] (.ListComp elt [⟨tg, iter, ifs, 0⟩, ⟨tg1, iter1, ifs1, 0⟩] scope pos) spos) (tS X.K E (mSet i (mLcD (mComp2 (own.map (·.2)) mi g t vs1 mi1 g1 t1 m)))) := by
  refine (ps_setLc2 hc hN hy hyl hsw hi ok hv hg ht hi1 hg1 ht1 he hs hs1).imp fun Dn σ H h => ?_
  obtain ⟨c, ρ, ⟨Z, r⟩, q⟩ := h
  exact lc2D hg0 hg01 ⟨c, Z, ρ, r, tSR.expr (k := fun d ρ => .ok .nx (ρ.set i (some (.val d)))) q fun d ρ1 v H1 r1 h1 q1 => q1 _ _ ⟨Z, r1.set h1⟩⟩
end
end DL
set_option Elab.async false
set_option linter.all false
set_option maxRecDepth 100000
set_option maxHeartbeats 4000000
namespace DL
open PySem PySem.Spec PyProof.Rows L2
variable [CTab]
/-! ### methods -/
/-- the class at c has the method m, that does g -/
structure Method (P : Program) (w : World) (K : PySem.W.Frag) (mg : Str → Option Value) (base : Heap) (CX : CXT) (k : Nat) (m : Str) (n : Nat) (c : Nat) (g : FD) : Prop where
  cls : Cls K (He.ga K (cN c))
  nf : m ∉ cF c
  ex : ∃ (f : Addr) (fd : FuncData) (ps : List Str), Meth K (He.ga K (cN c)) m f ∧ FnOk P w K mg base CX k f fd ps (spF K (n + 1) g) ∧ Binds K fd ps [] ∧ ps.length = n + 1
/-- o.m(..) of data: gs tells for each class what its m does -/
def mMeth (gs : List (Nat × FD)) (ma : M D) (ms : M (List Ar)) : M D := fun ρ => bindR (ma ρ) fun d ρ => match d with
  | .ob c l => (match gs.lookup c with
    | some g => bindR (ms ρ) fun as ρ => callF g (.d (.ob c l) :: as) ρ
    | none => .fail)
  | _ => .fail
/-- x.m(..) of a thing of one's own -/
def mMethS (gs : List (Nat × FD)) (i : Nat) (ms : M (List Ar)) : M D := fun ρ => match holds ρ i with
  | some (.ob c _) => (match gs.lookup c with
    | some g => bindR (ms ρ) fun as ρ => callF g (.s i :: as) ρ
    | none => .fail)
  | _ => .fail
theorem lookup_nf {m : Str} : ∀ {ns : List Str} {vs : List V}, m ∉ ns → (ns.zip vs).lookup m = none
  | [], _, _ => by simp
  | _ :: _, [], _ => by simp
  | n :: ns, v :: vs, h => by
    simp only [List.mem_cons, not_or] at h
    rw [List.zip_cons_cons, List.lookup_cons, beq_eq_false_iff_ne.mpr h.1]
    exact lookup_nf h.2
section
variable {X : Cx} {CX : CXT} {E : XK} {pos apos : Pos} {o e : Expr} {es : List Expr} {ma : M D} {ms : M (List Ar)} {k n : Nat} {m : Str} {gs : List (Nat × FD)}
theorem pe_ex {ι : Type} {p : ι → Prop} {t : ι → TE} (h : ∀ i, p i → PE X e (t i)) : PE X e (fun σ H Q => ∃ i, p i ∧ t i σ H Q) := ⟨fun pins s σ H Q I ⟨i, hi, q⟩ => (h i hi).run pins s σ H Q I q⟩
/-- what a receiver must be: data of a class that has the method -/
theorem meth_gen {K : PySem.W.Frag} {σ : St} {H : Hp} {Q : VK} (hm : ∀ q ∈ gs, m ∉ cF q.1) [hml : ArLen n ms] (h : tD K E (mMeth gs ma ms) σ H Q) :
    tD K E ma σ H fun x H1 => ∃ q, q ∈ gs ∧ ∃ a dx fs, x = V.ref a ∧ H1 a = some (.ins (He.ga K (cN q.1)) dx fs) ∧ fs.lookup m = none ∧ tAs K E ms σ H1 fun vs H2 => spF K (n + 1) q.2 (x :: (vs ++ [])) H2 Q E := by
  obtain ⟨c, Z, ρ, r, q⟩ := h
  refine ⟨c, Z, ρ, r, q.bind fun d ρ1 x H1 r1 e1 hx q1 => ?_⟩
  cases d <;> first | (exact q1.elim; done) | skip
  rename_i cl l
  have hx : Rep K H1 Z (.ob cl l) x := hx
  have hx' := hx
  simp only [Rep] at hx'
  obtain ⟨a, dx, us, rfl, hna, ha, hlen, hus⟩ := hx'
  have q1 : tR K E rD c Z σ H1 Q (match gs.lookup cl with
    | some g => bindR (ms ρ1) fun as ρ => callF g (.d (.ob cl l) :: as) ρ
    | none => .fail) := q1
  split at q1
  · rename_i g hg
    have hmem := lookupB hg
    refine ⟨(cl, g), hmem, a, dx, _, rfl, ha, lookup_nf (hm _ hmem), c, Z, ρ1, r1, ?_⟩
    cases em : ms ρ1 with
    | fail => rw [em] at q1; exact q1
    | exc x l ρ2 => rw [em] at q1; exact q1
    | ok as ρ2 =>
      rw [em] at q1
      simp only [bindR_ok] at q1
      intro vs H2 r2 e2 h2
      rw [List.append_nil]
      have h2 : rAr K σ H2 Z as vs := h2
      exact call_gen (as := .d (.ob cl l) :: as) r2 (.cons (show Rep K H2 Z (.ob cl l) (.ref a) from Rep.ext e2 _ _ hx) h2) (by simp [← rAr_len h2, hml.len _ _ _ em]) (q1.ext e2)
  · exact q1.elim
theorem meths_gen {i : Nat} {K : PySem.W.Frag} {σ : St} {H : Hp} {Q : VK} (hm : ∀ q ∈ gs, m ∉ cF q.1) [hml : ArLen n ms] (h : tD K E (mMethS gs i ms) σ H Q) :
    tVar i σ H fun x H1 => ∃ q, q ∈ gs ∧ ∃ a dx fs, x = V.ref a ∧ H1 a = some (.ins (He.ga K (cN q.1)) dx fs) ∧ fs.lookup m = none ∧ tAs K E ms σ H1 fun vs H2 => spF K (n + 1) q.2 (x :: (vs ++ [])) H2 Q E := by
  obtain ⟨c, Z, ρ, r, q⟩ := h
  unfold mMethS at q
  split at q
  · rename_i cl l ht
    obtain ⟨p, w, hw, hh, h1, hz, o, ho, dx, us, rfl, hlen, hus⟩ := holds_rel r ht
    refine ⟨_, h1, ?_⟩
    split at q
    · rename_i g hg
      have hmem := lookupB hg
      refine ⟨(cl, g), hmem, p, dx, _, rfl, ho, lookup_nf (hm _ hmem), c, Z, ρ, r, ?_⟩
      cases em : ms ρ with
      | fail => rw [em] at q; exact q
      | exc x l ρ2 => rw [em] at q; exact q
      | ok as ρ2 =>
        rw [em] at q
        simp only [bindR_ok] at q
        intro vs H2 r2 e2 h2
        rw [List.append_nil]
        have h2 : rAr K σ H2 Z as vs := h2
        exact call_gen (as := .s i :: as) r2 (.cons h1 h2) (by simp [← rAr_len h2, hml.len _ _ _ em]) (q.ext e2)
    · exact q.elim
  · exact q.elim
/-- o.m(e, ..), the class seen when o is there -/
theorem pe_methE {pl : Sem Bool} {ta : TE} {t : TA} (hk : ∀ q ∈ gs, Method X.prog X.w X.K X.mg X.base CX k m n q.1 q.2) (hr : Room k X.A) (hx : Passes CX X E) (he : PE X o ta) (ha : PA X (e :: es) t)
    (hst : starEach (e :: es) X.env = (false, eval e X.env) :: starEach es X.env) (hpl : (backTo pos (starEach es X.env)).any (·.1) = false)
    (ht : eval (.Call (.Attribute o m apos) (e :: es) [] pos) X.env = (do let ov ← eval o X.env; standAt apos.atName; let (f, first) ← holding [ov] (getMethod ov m pl); callWith pos f first (backTo pos (starEach (e :: es) X.env)) (backToKw pos (keywordEach [] X.env)))) :
    PE X (.Call (.Attribute o m apos) (e :: es) [] pos) (fun σ H Q => ta σ H fun x H1 => ∃ q, q ∈ gs ∧ ∃ a dx fs, x = V.ref a ∧ H1 a = some (.ins (He.ga X.K (cN q.1)) dx fs) ∧ fs.lookup m = none ∧ t σ H1 fun vs H2 => spF X.K (n + 1) q.2 (x :: (vs ++ [])) H2 Q E) := by
  constructor
  intro pins s σ H Q I h
  apply PySem.W.methodCall_KW (pl := pl) _ ht
  refine thn (he.run pins s σ H _ I h) ?_
  rintro u s1 ⟨x, H1, I1, rx, q, hq, a, dx, fs, ex, ea, l, q1⟩
  subst ex
  obtain rfl : u = Value.ref a := rx
  have M := hk q hq
  obtain ⟨f, fd, ps, hm, F, hb, _⟩ := M.ex
  refine getmeth_ok I1 ea M.cls hm l ?_
  apply PySem.W.callWith_K (first := [.ref a]) (h₀ := X.base) I.ok.mod.kin hm.kp _ hst hpl
  refine thn (ha.run pos pins s1 σ H1 _ I1 q1) ?_
  rintro us s2 ⟨vs, H2, I2, r, q2⟩
  exact ⟨I2.kIn, run_fn (us := .ref a :: us) (vs := .ref a :: vs) F hr hb .nil hx I2 (.cons rfl r) q2⟩
theorem pe_methE0 {pl : Sem Bool} {ta : TE} (hk : ∀ q ∈ gs, Method X.prog X.w X.K X.mg X.base CX k m 0 q.1 q.2) (hr : Room k X.A) (hx : Passes CX X E) (he : PE X o ta)
    (ht : eval (.Call (.Attribute o m apos) [] [] pos) X.env = (do let ov ← eval o X.env; standAt apos.atName; let (f, first) ← holding [ov] (getMethod ov m pl); callWith pos f first (backTo pos (starEach [] X.env)) (backToKw pos (keywordEach [] X.env)))) :
    PE X (.Call (.Attribute o m apos) [] [] pos) (fun σ H Q => ta σ H fun x H1 => ∃ q, q ∈ gs ∧ ∃ a dx fs, x = V.ref a ∧ H1 a = some (.ins (He.ga X.K (cN q.1)) dx fs) ∧ fs.lookup m = none ∧ spF X.K 1 q.2 [x] H1 Q E) := by
  constructor
  intro pins s σ H Q I h
  apply PySem.W.methodCall_KW (pl := pl) _ ht
  refine thn (he.run pins s σ H _ I h) ?_
  rintro u s1 ⟨x, H1, I1, rx, q, hq, a, dx, fs, ex, ea, l, q1⟩
  subst ex
  obtain rfl : u = Value.ref a := rx
  have M := hk q hq
  obtain ⟨f, fd, ps, hm, F, hb, _⟩ := M.ex
  refine getmeth_ok I1 ea M.cls hm l ?_
  exact PySem.W.callWith_K0 (first := [.ref a]) I1.kIn hm.kp (run_fn (us := [.ref a]) (vs := [.ref a]) F hr hb .nil hx I1 (.cons rfl .nil) q1)
/-- o.m(e, ..) of data -/
theorem d_meth {j : Nat} {pl : Sem Bool} (gs : List (Nat × FD)) (hk : ∀ q ∈ gs, Method X.prog X.w X.K X.mg X.base CX k m n q.1 q.2) (hr : Room j X.A) (hx : Passes CX X E) (he : PE X o (tD X.K E ma)) (ha : PA X (e :: es) (tAs X.K E ms)) [hml : ArLen n ms] (hj : k ≤ j := by decide)
    (hst : starEach (e :: es) X.env = (false, eval e X.env) :: starEach es X.env := by rfl) (hpl : (backTo pos (starEach es X.env)).any (·.1) = false := by rfl)
    (ht : eval (.Call (.Attribute o m apos) (e :: es) [] pos) X.env = (do let ov ← eval o X.env; standAt apos.atName; let (f, first) ← holding [ov] (getMethod ov m pl); callWith pos f first (backTo pos (starEach (e :: es) X.env)) (backToKw pos (keywordEach [] X.env))) := by rfl) :
    PE X (.Call (.Attribute o m apos) (e :: es) [] pos) (tD X.K E (mMeth gs ma ms)) :=
  (pe_methE hk (hr.mono hj) hx he ha hst hpl ht).imp fun σ H Q h => meth_gen (fun q hq => (hk q hq).nf) h
theorem d_meth0 {j : Nat} {pl : Sem Bool} (gs : List (Nat × FD)) (hk : ∀ q ∈ gs, Method X.prog X.w X.K X.mg X.base CX k m 0 q.1 q.2) (hr : Room j X.A) (hx : Passes CX X E) (he : PE X o (tD X.K E ma)) (hj : k ≤ j := by decide)
    (ht : eval (.Call (.Attribute o m apos) [] [] pos) X.env = (do let ov ← eval o X.env; standAt apos.atName; let (f, first) ← holding [ov] (getMethod ov m pl); callWith pos f first (backTo pos (starEach [] X.env)) (backToKw pos (keywordEach [] X.env))) := by rfl) :
    PE X (.Call (.Attribute o m apos) [] [] pos) (tD X.K E (mMeth gs ma mANil)) := by
  refine (pe_methE0 hk (hr.mono hj) hx he ht).imp fun σ H Q h => ?_
  have h2 := meth_gen (ms := mANil) (n := 0) (fun q hq => (hk q hq).nf) h
  obtain ⟨c, Z, ρ, r, q⟩ := h2
  refine ⟨c, Z, ρ, r, ?_⟩
  cases em : ma ρ with
  | fail => rw [em] at q; exact q
  | exc x l ρ2 => rw [em] at q; exact q
  | ok d ρ1 =>
    rw [em] at q
    intro x H1 r1 e1 h1
    obtain ⟨q', hq, a, dx, fs, ex, ea, l, cz, Z', ρ', r', qq⟩ := q x H1 r1 e1 h1
    exact ⟨q', hq, a, dx, fs, ex, ea, l, qq [] H1 r' Ext.refl .nil⟩
/-- x.m(e, ..) of a thing of one's own -/
theorem d_methS {j i : Nat} {x : Str} {np : Pos} {pl : Sem Bool} (gs : List (Nat × FD)) (hk : ∀ q ∈ gs, Method X.prog X.w X.K X.mg X.base CX k m n q.1 q.2) (hr : Room j X.A) (hx : Passes CX X E) (ha : PA X (e :: es) (tAs X.K E ms)) [hml : ArLen n ms] (hj : k ≤ j := by decide)
    (hN : X.N[i]? = some x := by rfl) (hv : Vis X.env.scope x := by first | exact Or.inl rfl | exact Or.inr (Or.inl rfl) | exact Or.inr (Or.inr rfl)) (hd : (x == ("__debug__" : Str)) = false := by decide) (hcd : (x == ("__classdict__" : Str)) = false := by decide)
    (hst : starEach (e :: es) X.env = (false, eval e X.env) :: starEach es X.env := by rfl) (hpl : (backTo pos (starEach es X.env)).any (·.1) = false := by rfl)
    (ht : eval (.Call (.Attribute (.Name x np) m apos) (e :: es) [] pos) X.env = (do let ov ← eval (.Name x np) X.env; standAt apos.atName; let (f, first) ← holding [ov] (getMethod ov m pl); callWith pos f first (backTo pos (starEach (e :: es) X.env)) (backToKw pos (keywordEach [] X.env))) := by rfl) :
    PE X (.Call (.Attribute (.Name x np) m apos) (e :: es) [] pos) (tD X.K E (mMethS gs i ms)) :=
  (pe_methE hk (hr.mono hj) hx (pe_var hN hv hd hcd) ha hst hpl ht).imp fun σ H Q h => meths_gen (fun q hq => (hk q hq).nf) h
theorem d_methS0 {j i : Nat} {x : Str} {np : Pos} {pl : Sem Bool} (gs : List (Nat × FD)) (hk : ∀ q ∈ gs, Method X.prog X.w X.K X.mg X.base CX k m 0 q.1 q.2) (hr : Room j X.A) (hx : Passes CX X E) (hj : k ≤ j := by decide)
    (hN : X.N[i]? = some x := by rfl) (hv : Vis X.env.scope x := by first | exact Or.inl rfl | exact Or.inr (Or.inl rfl) | exact Or.inr (Or.inr rfl)) (hd : (x == ("__debug__" : Str)) = false := by decide) (hcd : (x == ("__classdict__" : Str)) = false := by decide)
    (ht : eval (.Call (.Attribute (.Name x np) m apos) [] [] pos) X.env = (do let ov ← eval (.Name x np) X.env; standAt apos.atName; let (f, first) ← holding [ov] (getMethod ov m pl); callWith pos f first (backTo pos (starEach [] X.env)) (backToKw pos (keywordEach [] X.env))) := by rfl) :
    PE X (.Call (.Attribute (.Name x np) m apos) [] [] pos) (tD X.K E (mMethS gs i mANil)) := by
  refine (pe_methE0 hk (hr.mono hj) hx (pe_var hN hv hd hcd) ht).imp fun σ H Q h => ?_
  obtain ⟨v, h1, q', hq, a, dx, fs, ex, ea, l, cz, Z', ρ', r', qq⟩ := meths_gen (ms := mANil) (n := 0) (fun q hq => (hk q hq).nf) h
  exact ⟨v, h1, q', hq, a, dx, fs, ex, ea, l, qq [] H r' Ext.refl .nil⟩
end
end DL
set_option Elab.async false
set_option linter.all false
set_option maxRecDepth 100000
set_option maxHeartbeats 4000000
namespace DL
open PySem PySem.Spec PyProof.Rows L2
variable [CTab]
/-! ### objects of one's own -/
section
variable {K : PySem.W.Frag} {c : Cz} {Z : Addr → Prop} {ρ : Env} {σ : St} {H H' : Hp} {a : Addr} {t : Ct}
theorem Rel.made (r : Rel K c Z ρ σ H) (ha : H a = none) (s : Same H H') (h : RepC K H' (fun b => Z b ∨ b = a) t a) : NewAt K c (fun b => Z b ∨ b = a) ρ σ H' t a := by
  obtain ⟨o, ho, hc⟩ := h
  have n := r.newAt (p := a) (o := .lst []) (t := .lst []) ha ⟨[], rfl, Reps.nil⟩
  have r2 : Rel K c (fun b => Z b ∨ b = a) ρ σ (upd H a o) := r.addZ ha
  have s2 : Same (upd H a o) H' := fun b u e => by
    by_cases hb : b = a
    · subst hb
      rw [upd_same] at e
      cases e
      exact ho
    · rw [upd_ne hb] at e
      exact s b u e
  exact ⟨r2.same s2, .inr rfl, n.new, ⟨o, ho, hc⟩, n.no, n.nh⟩
end
def oNew (c : Nat) (g : FD) (ms : M (List Ar)) : M Ct := fun ρ => bindR (ms ρ) fun as ρ => match toWs ρ as with
  | some (ws, none) => (match g (.inn (.ob c []) :: ws) with
    | .ok .non [.ob c' l] => if c' = c then .ok (.ob c l) ρ else .fail
    | .exc x l => .exc x l ρ
    | _ => .fail)
  | _ => .fail
section
variable {X : Cx} {CX : CXT} {E : XK} {pos p : Pos} {e : Expr} {es : List Expr} {ms : M (List Ar)} {k n c : Nat} {g : FD} {x : Str} {K : PySem.W.Frag}
/-- what __init__ is given, and what it leaves -/
theorem new_gen {cz : Cz} {Z : Addr → Prop} {ρ1 : Env} {σ : St} {H1 : Hp} {as : List Ar} {vs : List V} {Q : VK} {a dx : Addr} (r1 : Rel K cz Z ρ1 σ H1) (h1 : rAr K σ H1 Z as vs) (hn : as.length = n) (ha : H1 a = none) (hdx : H1 dx = none) (hne : dx ≠ a)
    (q2 : match toWs ρ1 as with
      | some (ws, none) => (match g (.inn (.ob c []) :: ws) with
        | .ok .non [.ob c' l] => c' = c ∧ ∀ H', Same H1 H' → RepC K H' (fun b => Z b ∨ b = a) (.ob c l) a → Q (.ref a) H'
        | .exc x l => ∀ ed us H', Same H1 H' → H' ed = some (.xd ((cF x).zip us)) → us.length ≤ (cF x).length → Reps K H' Z l us → E (.ref (He.ga K (cN x))) (some ed) H'
        | _ => False)
      | _ => False) :
    spF K (n + 1) g (.ref a :: vs) (upd (upd H1 dx (.own a)) a (.ins (He.ga K (cN c)) dx [])) (fun v H2 => v = .non ∧ Q (.ref a) H2) E := by
  cases ew : toWs ρ1 as with
  | none => rw [ew] at q2; exact q2.elim
  | some y =>
    obtain ⟨ws, o⟩ := y
    rw [ew] at q2
    cases o with
    | some i => exact q2.elim
    | none =>
      simp only at q2
      obtain ⟨g1, g2⟩ := toWs_none r1 ew h1
      have s1 : Same H1 (upd H1 dx (.own a)) := same_upd hdx
      have ha2 : upd H1 dx (.own a) a = none := by rw [upd_ne (Ne.symm hne)]; exact ha
      have s2 : Same H1 (upd (upd H1 dx (.own a)) a (.ins (He.ga K (cN c)) dx [])) := s1.trans (same_upd ha2)
      have zs : ∀ b o, ¬ Z b → H1 b = some o → ¬ (Z b ∨ b = a) := fun b o n e z => z.elim n fun q => by
        rw [q, ha] at e
        cases e
      have hin : inAd (.inn (.ob c []) :: ws) (.ref a :: vs) = [a] := by
        show a :: inAd ws vs = [a]
        rw [g2]
      refine ⟨fun b => Z b ∨ b = a, .inn (.ob c []) :: ws, ?_, fun b z e => ?_, ⟨a, vs, rfl, .inr rfl, ⟨_, upd_same, dx, [], by rw [List.zip_nil_right], by simp, rfl⟩, (g1.zed zs g2).ext (Ext.same s2) g2⟩, by rw [hin]; simp, ?_⟩
      · show ws.length + 1 = n + 1
        rw [g1.len, ← rAr_len h1, hn]
      · rcases z with z | z
        · exact r1.dom b z (s2.free e)
        · rw [z, upd_same] at e
          cases e
      · cases ef : g (.inn (.ob c []) :: ws) with
        | fail => rw [ef] at q2; exact q2.elim
        | exc x' l =>
          rw [ef] at q2
          intro ed us H' hk h1 h2 h3
          rw [hin] at hk
          have s3 : Same H1 H' := fun b o h => hk b o (by rw [List.mem_singleton]; exact ne_of_none h ha) (s2 b o h)
          exact q2 ed us H' s3 h1 h2 (Reps.zed (fun b o n e z => n (.inl z)) _ _ h3)
        | ok d ts =>
          rw [ef] at q2
          match d, ts, q2 with
          | .non, [.ob c' l], q2 =>
            simp only at q2
            obtain ⟨hc, q2⟩ := q2
            subst hc
            intro v H' hk ht hd
            rw [hin] at hk ht
            obtain ⟨p', r', e2, hrc, _⟩ := ht
            cases e2
            have s3 : Same H1 H' := fun b o h => hk b o (by rw [List.mem_singleton]; exact ne_of_none h ha) (s2 b o h)
            exact ⟨hd, q2 H' s3 hrc⟩
          | .non, [], q2 => exact q2.elim
          | .non, [.lst _], q2 => exact q2.elim
          | .non, [.dct _ _], q2 => exact q2.elim
          | .non, t1 :: _ :: _, q2 =>
            cases t1 <;> exact q2.elim
          | .bl _, _, q2 => exact q2.elim
          | .int _, _, q2 => exact q2.elim
          | .str _, _, q2 => exact q2.elim
          | .lst _, _, q2 => exact q2.elim
          | .rol _, _, q2 => exact q2.elim
          | .tup _, _, q2 => exact q2.elim
          | .dct _ _, _, q2 => exact q2.elim
          | .ob _ _, _, q2 => exact q2.elim
theorem own_new {cz : Cz} {Z : Addr → Prop} {ρ1 : Env} {σ : St} {H1 : Hp} {as : List Ar} {vs : List V} {Q : VK} {a dx : Addr} (r1 : Rel K cz Z ρ1 σ H1) (h1 : rAr K σ H1 Z as vs) (hn : as.length = n) (ha : H1 a = none) (hdx : H1 dx = none) (hne : dx ≠ a)
    (q : match (match toWs ρ1 as with
      | some (ws, none) => (match g (.inn (.ob c []) :: ws) with
        | .ok .non [.ob c' l] => if c' = c then Res.ok (Ct.ob c l) ρ1 else .fail
        | .exc x l => .exc x l ρ1
        | _ => .fail)
      | _ => .fail : Res Ct) with
      | .fail => False
      | .ok t ρ' => ∀ p Z' H', NewAt K cz Z' ρ' σ H' t p → (∀ d v, Rep K H1 Z d v → Rep K H' Z' d v) → Q (.ref p) H'
      | .exc x l ρ' => ∀ ed vs H', Rel K cz Z ρ' σ H' → H' ed = some (.xd ((cF x).zip vs)) → vs.length ≤ (cF x).length → Reps K H' Z l vs → E (.ref (He.ga K (cN x))) (some ed) H') :
    spF K (n + 1) g (.ref a :: vs) (upd (upd H1 dx (.own a)) a (.ins (He.ga K (cN c)) dx [])) (fun v H2 => v = .non ∧ Q (.ref a) H2) E := by
  refine new_gen r1 h1 hn ha hdx hne ?_
  cases ew : toWs ρ1 as with
  | none => rw [ew] at q; exact q
  | some y =>
    obtain ⟨ws, o⟩ := y
    rw [ew] at q
    cases o with
    | some i => exact q
    | none =>
      simp only at q ⊢
      cases ef : g (.inn (.ob c []) :: ws) with
      | fail => rw [ef] at q; exact q
      | exc x l => rw [ef] at q; exact fun ed us H' s h2 h3 h4 => q ed us H' (r1.same s) h2 h3 h4
      | ok d ts =>
        rw [ef] at q
        match d, ts, q with
        | .non, [.ob c' l], q =>
          simp only at q ⊢
          by_cases hc : c' = c
          · subst hc
            rw [if_pos rfl] at q
            refine ⟨rfl, fun H' s h => q a _ H' (r1.made ha s h) fun d v hd => (hd.zed fun b u n e z => z.elim n fun w => by rw [w, ha] at e; cases e).ext (Ext.same s)⟩
          · rw [if_neg hc] at q
            exact q.elim
        | .non, [], q => exact q
        | .non, [.lst _], q => exact q
        | .non, [.dct _ _], q => exact q
        | .non, t1 :: _ :: _, q => cases t1 <;> exact q
        | .bl _, _, q => exact q
        | .int _, _, q => exact q
        | .str _, _, q => exact q
        | .lst _, _, q => exact q
        | .rol _, _, q => exact q
        | .tup _, _, q => exact q
        | .dct _ _, _, q => exact q
        | .ob _ _, _, q => exact q
/-- x = C(..), the object one's own -/
theorem o_new {j : Nat} (mk : Maker X.prog X.w X.K X.mg X.base CX k x n c g) (hr : Room j X.A) (hx : Passes CX X E) (ha : PA X (e :: es) (tAs X.K E ms)) [hml : ArLen n ms] (hj : k + 1 ≤ j := by decide) (hg : Gl X x := by rfl) (hdb : (x == ("__debug__" : Str)) = false := by decide)
    (he : starEach (e :: es) X.env = (false, eval e X.env) :: starEach es X.env := by rfl) (hpl : (backTo pos (starEach es X.env)).any (·.1) = false := by rfl) :
    PE X (.Call (.Name x p) (e :: es) [] pos) (tO X.K E (oNew c g ms)) := by
  obtain ⟨f, fd, ps, M, F, hb, hps⟩ := mk.ex
  refine (pe_make M F (hr.mono hj) hg mk.gl hb .nil hx ha hdb he hpl).imp fun σ H Q h => ?_
  obtain ⟨cz, Z, ρ, r, q⟩ := h
  refine ⟨cz, Z, ρ, r, ?_⟩
  unfold oNew at q
  cases em : ms ρ with
  | fail => rw [em] at q; exact q
  | exc x l ρ1 => rw [em] at q; exact fun ed vs H' h1 h2 h3 h4 h5 => q ed vs H' h1 h3 h4 h5
  | ok as ρ1 =>
    rw [em] at q
    simp only [bindR_ok] at q
    intro vs H1 r1 e1 h1 a dx ha hdx hne
    rw [List.append_nil, mk.nm]
    refine own_new (ρ1 := ρ1) r1 h1 (hml.len _ _ _ em) ha hdx hne ?_
    split at q
    · rename_i he
      exact q.elim
    · rename_i t ρ' he
      first
      | exact fun p Z' H' n hk => q p Z' H' n fun d v hd => hk d v (hd.ext e1)
      | (rw [he]; exact fun p Z' H' n hk => q p Z' H' n fun d v hd => hk d v (hd.ext e1))
    · rename_i y l ρ' he
      first
      | exact q
      | (rw [he]; exact q)
theorem o_new0 {j : Nat} (mk : Maker X.prog X.w X.K X.mg X.base CX k x 0 c g) (hr : Room j X.A) (hx : Passes CX X E) (hj : k + 1 ≤ j := by decide) (hg : Gl X x := by rfl) (hdb : (x == ("__debug__" : Str)) = false := by decide) :
    PE X (.Call (.Name x p) [] [] pos) (tO X.K E (oNew c g mANil)) := by
  obtain ⟨f, fd, ps, M, F, hb, hps⟩ := mk.ex
  refine (pe_make0 M F (hr.mono hj) hg mk.gl hb .nil hx hdb).imp fun σ H Q h => ?_
  obtain ⟨cz, Z, ρ, r, q⟩ := h
  intro a dx ha hdx hne
  rw [mk.nm]
  exact own_new (as := []) (vs := []) r .nil rfl ha hdx hne q
theorem d_new0 {j : Nat} (mk : Maker X.prog X.w X.K X.mg X.base CX k x 0 c g) (hr : Room j X.A) (hx : Passes CX X E) (hj : k + 1 ≤ j := by decide) (hg : Gl X x := by rfl) (hdb : (x == ("__debug__" : Str)) = false := by decide) :
    PE X (.Call (.Name x p) [] [] pos) (tD X.K E (mNew c g mANil)) := by
  obtain ⟨f, fd, ps, M, F, hb, hps⟩ := mk.ex
  refine (pe_make0 M F (hr.mono hj) hg mk.gl hb .nil hx hdb).imp fun σ H Q h => ?_
  obtain ⟨cz, Z, ρ, r, q⟩ := h
  intro a dx ha hdx hne
  rw [mk.nm]
  refine new_gen (as := []) (vs := []) r .nil rfl ha hdx hne ?_
  have q : tR X.K E rD cz Z σ H Q (match g [.inn (.ob c [])] with
    | .ok .non [.ob c' l] => if c' = c then .ok (.ob c l) ρ else .fail
    | .exc x l => .exc x l ρ
    | _ => .fail) := q
  show match g [.inn (.ob c [])] with
    | .ok .non [.ob c' l] => c' = c ∧ ∀ H', Same H H' → RepC X.K H' (fun b => Z b ∨ b = a) (.ob c l) a → Q (.ref a) H'
    | .exc x l => ∀ ed us H', Same H H' → H' ed = some (.xd ((cF x).zip us)) → us.length ≤ (cF x).length → Reps X.K H' Z l us → E (.ref (He.ga X.K (cN x))) (some ed) H'
    | _ => False
  split at q
  · rename_i c' l he
    try rw [he]
    split at q
    · rename_i hc
      refine ⟨hc, fun H' s hrc => q.new r s ?_⟩
      obtain ⟨o, ho, dx', us, eo, hl, hr'⟩ := hrc
      subst eo
      show Rep X.K H' Z (.ob c l) (.ref a)
      simp only [Rep]
      exact ⟨a, dx', us, rfl, fun z => r.dom a z ha, ho, hl, Reps.zed (fun b o n e z => n (.inl z)) _ _ hr'⟩
    · exact q.elim
  · rename_i x' l he
    try rw [he]
    exact fun ed us H' s h1 h2 h3 => q ed us H' (r.same s) (Ext.same s) h1 h2 h3
  · exact q.elim
end
end DL
set_option Elab.async false
set_option linter.all false
set_option maxRecDepth 100000
set_option maxHeartbeats 4000000
namespace DL
open PySem PySem.Spec PyProof.Rows L2
variable [CTab]
/-! ### things of one's own are written at a place -/
section
variable {X : Cx} {E : XK} {pos tpos : Pos} {e ei : Expr} {m mi : M D} {K : PySem.W.Frag}
/-- x[e] = e2 of a list of one's own -/
theorem s_setIx (i : Nat) {x : Str} {np : Pos} (hei : PE X ei (tD X.K E mi)) (he : PE X e (tD X.K E m))
    (hN : X.N[i]? = some x := by rfl) (hv : Vis X.env.scope x := by first | exact Or.inl rfl | exact Or.inr (Or.inl rfl) | exact Or.inr (Or.inr rfl)) (hd : (x == ("__debug__" : Str)) = false := by decide) (hcd : (x == ("__classdict__" : Str)) = false := by decide)
    (ha : ∀ v, assign (.Subscript (.Name x np) ei tpos) X.env v = (do let ov ← holding [v] (eval (.Name x np) X.env); let iv ← holding [v, ov] (eval ei X.env); standAt tpos; holding [v, ov, iv] (setItem ov iv v); release [v, ov, iv] []) := by intro _; rfl)
    (hs : swapsWithSole [.Subscript (.Name x np) ei tpos] e pos.line X.env = pure false := by rfl) (hw : swappedStores [.Subscript (.Name x np) ei tpos] e X.env = pure none := by rfl) (h1 : (assignEach [.Subscript (.Name x np) ei tpos] X.env).map (·.2) = [assign (.Subscript (.Name x np) ei tpos) X.env] := by rfl) :
    PS X (.Assign [.Subscript (.Name x np) ei tpos] e pos) (tS X.K E (mSetIx i mi m)) := by
  refine (ps_asg he (pg_sub (pe_var hN hv hd hcd) hei set_list ha) hs hw h1).imp fun Dn σ H h => ?_
  obtain ⟨c, ρ, ⟨Z, r⟩, q⟩ := h
  refine ⟨c, Z, ρ, r, tSR.expr q fun d ρ1 v H1 r1 hd q1 => ?_⟩
  split at q1
  · rename_i l0 ht
    obtain ⟨p, w, _, _, g1, hz, o, ho, us, rfl, hus⟩ := holds_rel r1 ht
    refine ⟨_, g1, c, Z, ρ1, r1, ?_⟩
    have hd : Rep X.K H1 Z d v := hd
    cases em : mi ρ1 with
    | fail => rw [em] at q1; exact q1
    | exc x l ρ2 => rw [em] at q1; exact fun ed vs H' h1 h2 h3 h4 h5 => q1 σ ed vs H' ⟨Z, h1⟩ h3 h4 (Reps.zed h1.z0 _ _ h5)
    | ok k ρ2 =>
      rw [em] at q1
      simp only [bindR_ok] at q1
      intro kv H2 r2 e2 hk
      split at q1
      · rename_i j l2 ht2
        cases (show kv = _ from hk)
        obtain ⟨us', k', g2, g3, g4⟩ := cSetAt_ok (v := v) r2 g1 (hd.ext e2) q1
        exact ⟨p, us', j, k', rfl, rfl, g2, g3, g4⟩
      · exact q1.elim
  · exact q1.elim
/-- x[e] = e2 of a dict of one's own: e2 first, then x, then e -/
def cPut (k : Key) : Ct → D → Option Ct
  | .dct ks l, d => if ks.length < sizeLine then some (.dct (putD ks l k d).1 (putD ks l k d).2) else none
  | _, _ => none
def mPut (i : Nat) (mi m : M D) : M Fl := fun ρ => bindR (m ρ) fun d ρ => (match holds ρ i with
  | some (.dct _ _) => bindR (mi ρ) fun k ρ => (match k.key, holds ρ i with
    | some j, some (.dct _ _) => mMutNow i (cPut j) d ρ
    | _, _ => .fail)
  | _ => .fail)
theorem cPut_ok {c : Cz} {Z : Addr → Prop} {ρ : Env} {σ : St} {H : Hp} {Dn : Ends} {i : Nat} {j : Key} {d : D} {v : V} {p : Addr} (r : Rel K c Z ρ σ H) (hp : σ[i]? = some (some (.ref p))) (hd : Rep K H Z d v) (q : tSR K E c Dn (mMutNow i (cPut j) d ρ)) :
    ∃ kvs, H p = some (.dK kvs) ∧ kvs.length < sizeLine ∧ Dn.nx σ (upd H p (.dK (putK kvs j v))) := by
  obtain ⟨p', t, t', h1, ⟨o, h2, h3⟩, hz, hf, kk⟩ := mut_gen (d := d) q r
  rw [hp] at h1
  cases h1
  cases t with
  | lst _ => cases hf
  | ob _ _ => cases hf
  | dct ks l =>
    obtain ⟨us, rfl, hl, hus⟩ := h3
    simp only [cPut] at hf
    split at hf
    · rename_i hsz
      cases hf
      obtain ⟨us', e1, e2, e3⟩ := putK_zip (k := j) hl hus hd
      have ex : Ext Z H (upd H p (.dK (putK (ks.zip us) j v))) := fun a o nz e => by rw [upd_ne (fun z => nz (by rw [z]; exact hz))]; exact e
      refine ⟨_, h2, by rw [zip_len_of hl]; exact hsz, kk _ (fun a o ne e => by rw [upd_ne ne]; exact e) ⟨_, upd_same, us', ?_, e2, Reps.ext ex _ _ e3⟩⟩
      rw [e1]
    · cases hf
theorem s_put {k : Nat} (hr : Room k X.A) (i : Nat) {x : Str} {np : Pos} (hei : PE X ei (tD X.K E mi)) (he : PE X e (tD X.K E m))
    (hN : X.N[i]? = some x := by rfl) (hv : Vis X.env.scope x := by first | exact Or.inl rfl | exact Or.inr (Or.inl rfl) | exact Or.inr (Or.inr rfl)) (hd : (x == ("__debug__" : Str)) = false := by decide) (hcd : (x == ("__classdict__" : Str)) = false := by decide)
    (hs : swapsWith e (some (.Subscript (.Name x np) ei tpos)) pos.line X.env = pure false := by rfl) :
    PS X (.Assign [.Subscript (.Name x np) ei tpos] e pos) (tS X.K E (mPut i mi m)) := by
  refine (ps_dput (hu_of hr) (pe_var hN hv hd hcd) hei he hs).imp fun Dn σ H h => ?_
  obtain ⟨c, ρ, ⟨Z, r⟩, q⟩ := h
  refine ⟨c, Z, ρ, r, tSR.expr q fun d ρ1 v H1 r1 hd q1 => ?_⟩
  split at q1
  · rename_i ks0 l0 ht
    obtain ⟨p, w, _, _, g1, hz, _⟩ := holds_rel r1 ht
    refine ⟨_, g1, c, Z, ρ1, r1, ?_⟩
    have hd : Rep X.K H1 Z d v := hd
    cases em : mi ρ1 with
    | fail => rw [em] at q1; exact q1
    | exc x l ρ2 => rw [em] at q1; exact fun ed vs H' h1 h2 h3 h4 h5 => q1 σ ed vs H' ⟨Z, h1⟩ h3 h4 (Reps.zed h1.z0 _ _ h5)
    | ok kd ρ2 =>
      rw [em] at q1
      simp only [bindR_ok] at q1
      intro kv H2 r2 e2 hk
      split at q1
      · rename_i j ks2 l2 hkey ht2
        have ek : kv = kV j := D.key_rep hkey hk
        subst ek
        obtain ⟨kvs, g2, g3, g4⟩ := cPut_ok (v := v) r2 g1 (hd.ext e2) q1
        exact ⟨p, _, rfl, DPut.k g2 g3, g4⟩
      · exact q1.elim
  · exact q1.elim
end
end DL
set_option Elab.async false
set_option linter.all false
set_option maxRecDepth 100000
set_option maxHeartbeats 4000000
/-! ### C() of a class without an __init__ of its own -/
namespace OB
open PySem PySem.Spec PyProof.Rows L2
section
variable {X : Cx} {C : Addr} {x : Str} {p pos : Pos}
/-- a plain class: made by object's own -/
structure Plain (K : PySem.W.Frag) (C : Addr) : Prop where
  makes : PySem.W.makesIn K C = true
  init : PySem.W.findIn K (.ref C) "__init__" = some (some (.builtin "object.__init__"))
  kp : PySem.W.keepIn K (.ref C) = true
def tPlain (C : Addr) : TE := fun _ H Q => ∀ a dx, H a = none → H dx = none → dx ≠ a → Q (.ref a) (upd (upd H dx (.own a)) a (.ins C dx []))
theorem pe_plain (M : Plain X.K C) (hg : Gl X x) (hm : X.mg x = some (.ref C)) (hdb : (x == ("__debug__" : Str)) = false := by decide) : PE X (.Call (.Name x p) [] [] pos) (tPlain C) := by
  constructor
  intro pins s σ H Q I h
  refine wpAny_Call_Name_kw (ld_glob I hg hm ?_ hdb)
  refine PySem.W.callWith_K0 I.kIn M.kp ?_
  have q := h (s.heap.objs.size + 1) s.heap.objs.size (I.hok.fresh (Nat.le_succ _)) (I.hok.fresh (Nat.le_refl _)) (Nat.ne_of_lt (Nat.lt_succ_self _))
  have I2 := Inv.made (C := C) I
  have Y := PySem.W.makes_of (M := model X.prog X.w) I.kIn M.makes
  refine wpAny_call (make_map0 I.kIn M.makes M.init (fun self => PySem.W.Looks.of_pure (PySem.W.oi_bind self)) ?_)
  have e2 : ((s.heap.push PySem.W.emptyDict).push (PySem.W.instObj C s.heap.objs.size)).get? (s.heap.objs.size + 1) = some (PySem.W.instObj C s.heap.objs.size) := by
    have := Heap.get?_push_size (s.heap.push PySem.W.emptyDict) (o := PySem.W.instObj C s.heap.objs.size) rfl
    rwa [Heap.size_push] at this
  have t1 : PySem.W.Looks (model X.prog X.w) ((s.heap.push PySem.W.emptyDict).push (PySem.W.instObj C s.heap.objs.size)) (typeOf (.ref (s.heap.objs.size + 1))) (.ref C) := (PySem.W.Looks.ld e2).andThen .now
  have t2 : PySem.W.Looks (model X.prog X.w) ((s.heap.push PySem.W.emptyDict).push (PySem.W.instObj C s.heap.objs.size)) (isInstance (.ref (s.heap.objs.size + 1)) (.type "object")) true := t1.andThen (Y.top.keeps fun b o e => Heap.get?_push_of_some _ (Heap.get?_push_of_some _ e))
  refine codeAny_call_builtin PySem.W.oi_plain PySem.W.entry_oi (@PySem.W.check_slot (model X.prog X.w) _ _ _ "object.__init__" "object" "__init__" (.ref (s.heap.objs.size + 1)) [] [] _ PySem.W.oi_kind PySem.W.oi_split t2 (PySem.W.oi_args _) ?_)
  rw [PySem.W.oi_run]
  exact wpAny_pure (And.intro rfl ⟨V.ref (s.heap.objs.size + 1), _, I2, rfl, q⟩)
end
end OB
namespace DL
open PySem PySem.Spec PyProof.Rows L2
variable [CTab]
def mPlain (c : Nat) : M D := fun ρ => .ok (.ob c []) ρ
theorem d_plain {X : Cx} {E : XK} {c : Nat} {x : Str} {p pos : Pos} (M : OB.Plain X.K (He.ga X.K (cN c))) (hm : X.mg x = some (.ref (He.ga X.K (cN c)))) (hg : Gl X x := by rfl) (hdb : (x == ("__debug__" : Str)) = false := by decide) : PE X (.Call (.Name x p) [] [] pos) (tD X.K E (mPlain c)) := by
  refine (OB.pe_plain M hg hm hdb).imp fun σ H Q h => ?_
  obtain ⟨cz, Z, ρ, r, q⟩ := h
  intro a dx ha hdx hne
  have s1 : Same H (upd H dx (.own a)) := same_upd hdx
  have ha2 : upd H dx (.own a) a = none := by rw [upd_ne (Ne.symm hne)]; exact ha
  refine q.new r (s1.trans (same_upd ha2)) ?_
  show Rep X.K _ Z (.ob c []) (.ref a)
  simp only [Rep]
  exact ⟨a, dx, [], rfl, fun z => r.dom a z ha, by rw [upd_same, List.zip_nil_right], by simp, rfl⟩
end DL
set_option Elab.async false
set_option linter.all false
set_option maxRecDepth 100000
set_option maxHeartbeats 4000000
namespace DL
open PySem PySem.Spec PyProof.Rows L2
variable [CTab]
/-! ### try, the body raises nothing -/
theorem s_tryN {X : Cx} {E : XK} {pos : Pos} {body : List Stmt} {h₀ hs} {b : M Fl} (hn : ∀ e s, ¬ X.xe e s) (hb : PSs X body (tS X.K E b)) : PS X (.Try body (h₀ :: hs) [] [] pos) (tS X.K E b) :=
  ps_try_never (u := tNext) hn hb pss_nil
end DL
set_option Elab.async false
set_option linter.all false
set_option maxRecDepth 100000
set_option maxHeartbeats 4000000
/-! ### a field as a target -/
namespace OB
open PySem PySem.Spec PyProof.Rows L2
def gFld (K : PySem.W.Frag) (to : TE) (f : Str) : TG := fun v σ H Q => to σ H fun x H2 => ∃ a C dx fs, x = .ref a ∧ H2 a = some (.ins C dx fs) ∧ Cls K C ∧ NoAttr K C f ∧ fs.length < 1000 ∧ Q σ (upd H2 a (.ins C dx (putF f v fs)))
theorem pg_fld {X : Cx} {o : Expr} {f : Str} {pos : Pos} {to : TE} (ho : PE X o to)
    (ha : ∀ v, assign (.Attribute o f pos) X.env v = (do let ov ← holding [v] (eval o X.env); standAt pos.atName; holding [v, ov] (setAttr ov f v); release [v, ov] []) := by intro _; rfl) : PG X (.Attribute o f pos) (gFld X.K to f) := by
  constructor
  intro pins s σ H v u Q I r h
  rw [ha]
  refine wpAny_bind (wpAny_holding (thn (ho.run pins s σ H _ I h) ?_))
  rintro ov s1 ⟨x, H1, I1, rx, a, C, dx, fs, ex, ea, c, n, l, q⟩
  subst ex
  obtain rfl : ov = Value.ref a := rx
  refine wpAny_bind (wpAny_standAt (wpAny_bind (wpAny_holding (setattr_ok I1 ea c n l r fun s2 I2 => ?_))))
  exact wpAny_release ⟨σ, _, I2, q⟩
end OB
namespace DL
open PySem PySem.Spec PyProof.Rows L2
variable [CTab]
/-- the j-th field of the own thing in slot i takes data -/
def mTF (i c j : Nat) : MT := fun d ρ => match mMutNow i (cFld c j) d ρ with
  | .ok .nx ρ' => some ρ'
  | _ => none
end DL
set_option Elab.async false
set_option linter.all false
set_option maxRecDepth 100000
set_option maxHeartbeats 4000000
namespace DL
open PySem PySem.Spec PyProof.Rows L2
variable [CTab]
section
variable {X : Cx} {E : XK} {pos : Pos} {e : Expr} {m : M D} {K : PySem.W.Frag}
/-- a field of the own thing in slot i takes data: what a target's reading asks -/
theorem fld_gen {n : Nat} {f : Str} (cf : CFacts K n) {i c j : Nat} (hc : c < n) (hj : (cF c)[j]? = some f) (hl : (cF c).length < 1000) {cz : Cz} {Z : Addr → Prop} {ρ : Env} {σ : St} {H : Hp} {Dn : Ends} {d : D} {v : V} (r : Rel K cz Z ρ σ H) (hd : Rep K H Z d v)
    (q : tSR K E cz Dn (mMutNow i (cFld c j) d ρ)) : OB.gFld K (tVar i) f v σ H Dn.nx := by
  obtain ⟨p, t, t', h1, ⟨o, h2, h3⟩, hz, hf, k⟩ := mut_gen (d := d) q r
  cases t with
  | lst _ => cases hf
  | dct _ _ => cases hf
  | ob c' l =>
    have hf : (if c' = c then (if j < l.length then some (Ct.ob c (l.set j d)) else if j = l.length then some (Ct.ob c (l ++ [d])) else none) else none) = some t' := hf
    split at hf
    · rename_i ec
      subst ec
      obtain ⟨dx, vs, rfl, hlen, hr⟩ := h3
      have hll := hr.len
      obtain ⟨g1, g2⟩ := putF_at (v := v) (vs := vs) (cf.nd c' hc) hj
      have ex : ∀ o', Ext Z H (upd H p o') := fun o' a o nz e => by rw [upd_ne (fun z => nz (by rw [z]; exact hz))]; exact e
      have hz1 : ((cF c').zip vs).length < 1000 := by rw [List.length_zip]; omega
      have hjl := (List.getElem?_eq_some_iff.mp hj).1
      refine ⟨_, h1, p, _, dx, _, rfl, h2, (cf.cls c' hc).cl, cf.noat c' f hc (List.mem_of_getElem? hj), hz1, ?_⟩
      refine k _ (fun a o ne e => by rw [upd_ne ne]; exact e) ?_
      split at hf
      · rename_i hlt
        cases hf
        exact ⟨_, upd_same, dx, vs.set j v, by rw [g1 (by omega)], by simpa using hlen, Reps.set (Rep.ext (ex _) _ _ hd) j (Reps.ext (ex _) _ _ hr)⟩
      · split at hf
        · rename_i hlt heq
          cases hf
          exact ⟨_, upd_same, dx, vs ++ [v], by rw [g2 (by omega)], by simp; omega, (Reps.ext (ex _) _ _ hr).app (Reps.one (Rep.ext (ex _) _ _ hd))⟩
        · cases hf
    · cases hf
end
end DL
set_option Elab.async false
set_option linter.all false
set_option maxRecDepth 100000
set_option maxHeartbeats 4000000
namespace DL
open PySem PySem.Spec PyProof.Rows L2
variable [CTab]
section
variable {K : PySem.W.Frag}
/-- a change of the thing in slot i, the relation kept -/
theorem mutZ {i : Nat} {f : Ct → D → Option Ct} {c : Cz} {Z : Addr → Prop} {ρ ρ' : Env} {σ : St} {H : Hp} {d : D} (h : mMutNow i f d ρ = .ok .nx ρ') (r : Rel K c Z ρ σ H) :
    ∃ p t t', σ[i]? = some (some (.ref p)) ∧ RepC K H Z t p ∧ Z p ∧ f t d = some t' ∧ ∀ H', (∀ a o, a ≠ p → H a = some o → H' a = some o) → RepC K H' Z t' p → Rel K c Z ρ' σ H' := by
  unfold mMutNow at h
  split at h
  · rename_i w hw
    split at h
    · rename_i t ht
      split at h
      · rename_i t' hf
        cases h
        obtain ⟨w', hw', hh⟩ := holds_hold ht
        rw [hw] at hw'
        cases hw'
        obtain ⟨p, h1, h2, h3⟩ := r.hold hw hh
        exact ⟨p, t, t', h1, h3, h2, hf, fun H' hk hn => r.put hw hh h1 hk hn⟩
      · cases h
    · cases h
  · cases h
/-- fields of the own thing in slot i, one behind another -/
def putFs (i c : Nat) : List Nat → List D → Env → Option Env
  | [], [], ρ => some ρ
  | j :: js, d :: ds, ρ => (match mMutNow i (cFld c j) d ρ with
    | .ok .nx ρ1 => putFs i c js ds ρ1
    | _ => none)
  | _, _, _ => none
theorem fld_step {n : Nat} {f : Str} (cf : CFacts K n) {i c j : Nat} (hc : c < n) (hj : (cF c)[j]? = some f) (hl : (cF c).length < 1000) {cz : Cz} {Z : Addr → Prop} {ρ ρ' : Env} {σ : St} {H : Hp} {d : D} {v : V} {Q : St → Hp → Prop} (r : Rel K cz Z ρ σ H) (hd : Rep K H Z d v)
    (h : mMutNow i (cFld c j) d ρ = .ok .nx ρ') (q : ∀ H', Rel K cz Z ρ' σ H' → Ext Z H H' → Q σ H') : OB.gFld K (tVar i) f v σ H Q := by
  obtain ⟨p, t, t', h1, ⟨o, h2, h3⟩, hz, hf, k⟩ := mutZ h r
  cases t with
  | lst _ => cases hf
  | dct _ _ => cases hf
  | ob c' l =>
    have hf : (if c' = c then (if j < l.length then some (Ct.ob c (l.set j d)) else if j = l.length then some (Ct.ob c (l ++ [d])) else none) else none) = some t' := hf
    split at hf
    · rename_i ec
      subst ec
      obtain ⟨dx, vs, rfl, hlen, hr⟩ := h3
      have hll := hr.len
      obtain ⟨g1, g2⟩ := putF_at (v := v) (vs := vs) (cf.nd c' hc) hj
      have ex : ∀ o', Ext Z H (upd H p o') := fun o' a o nz e => by rw [upd_ne (fun z => nz (by rw [z]; exact hz))]; exact e
      have hz1 : ((cF c').zip vs).length < 1000 := by rw [List.length_zip]; omega
      have hjl := (List.getElem?_eq_some_iff.mp hj).1
      refine ⟨_, h1, p, _, dx, _, rfl, h2, (cf.cls c' hc).cl, cf.noat c' f hc (List.mem_of_getElem? hj), hz1, q _ (k _ (fun a o ne e => by rw [upd_ne ne]; exact e) ?_) (ex _)⟩
      split at hf
      · rename_i hlt
        cases hf
        exact ⟨_, upd_same, dx, vs.set j v, by rw [g1 (by omega)], by simpa using hlen, Reps.set (Rep.ext (ex _) _ _ hd) j (Reps.ext (ex _) _ _ hr)⟩
      · split at hf
        · rename_i hlt heq
          cases hf
          exact ⟨_, upd_same, dx, vs ++ [v], by rw [g2 (by omega)], by simp; omega, (Reps.ext (ex _) _ _ hr).app (Reps.one (Rep.ext (ex _) _ _ hd))⟩
        · cases hf
    · cases hf
end
end DL
set_option Elab.async false
set_option linter.all false
set_option maxRecDepth 100000
set_option maxHeartbeats 4000000
namespace DL
open PySem PySem.Spec PyProof.Rows L2
variable [CTab]
def tFs (K : PySem.W.Frag) (i c : Nat) (js : List Nat) : TGs := fun vs σ H Q => ∃ cz Z ρ l ρ', Rel K cz Z ρ σ H ∧ Reps K H Z l vs ∧ putFs i c js l ρ = some ρ' ∧ ∀ H', Rel K cz Z ρ' σ H' → Q σ H'
def mAsgF (i c : Nat) (js : List Nat) (m : M D) : M Fl := fun ρ => bindR (m ρ) fun d ρ => match d with
  | .tup l => (match putFs i c js l ρ with
    | some ρ' => .ok .nx ρ'
    | none => .fail)
  | _ => .fail
section
variable {X : Cx} {E : XK} {pos tpos apos : Pos} {e : Expr} {es : List Expr} {m : M D} {i c j : Nat} {js : List Nat}
theorem gf_nil : PGs X [] (tFs X.K i c []) := by
  refine pgs_nil.imp fun vs σ H Q h => ?_
  obtain ⟨cz, Z, ρ, l, ρ', r, hl, hp, q⟩ := h
  cases l with
  | nil =>
    cases hp
    exact ⟨hl, q H r⟩
  | cons _ _ => cases hp
theorem gf_cons {n : Nat} {f x : Str} {np : Pos} (cf : CFacts X.K n) (j : Nat) (hc : c < n) (hj : (cF c)[j]? = some f) (hl : (cF c).length < 1000) (hr : PGs X es (tFs X.K i c js)) (hN : X.N[i]? = some x := by rfl) (hv : Vis X.env.scope x := by first | exact Or.inl rfl | exact Or.inr (Or.inl rfl) | exact Or.inr (Or.inr rfl))
    (hd : (x == ("__debug__" : Str)) = false := by decide) (hcd : (x == ("__classdict__" : Str)) = false := by decide)
    (ha : ∀ v, assign (.Attribute (.Name x np) f apos) X.env v = (do let ov ← holding [v] (eval (.Name x np) X.env); standAt apos.atName; holding [v, ov] (setAttr ov f v); release [v, ov] []) := by intro _; rfl)
    (hs : (assignEach (.Attribute (.Name x np) f apos :: es) X.env).map (·.2) = assign (.Attribute (.Name x np) f apos) X.env :: (assignEach es X.env).map (·.2) := by rfl) : PGs X (.Attribute (.Name x np) f apos :: es) (tFs X.K i c (j :: js)) := by
  refine (pgs_cons (OB.pg_fld (pe_var hN hv hd hcd) ha) hr hs).imp fun vs σ H Q h => ?_
  obtain ⟨cz, Z, ρ, l, ρ', r, hrl, hp, q⟩ := h
  cases l with
  | nil => cases hp
  | cons d ds =>
    obtain ⟨u, us, rfl, h1, h2⟩ := hrl.inv
    have hp : (match mMutNow i (cFld c j) d ρ with
      | .ok .nx ρ1 => putFs i c js ds ρ1
      | _ => none) = some ρ' := hp
    split at hp
    · rename_i ρ1 hm
      exact ⟨u, us, rfl, fld_step cf hc hj hl r h1 hm fun H' r' ex => ⟨cz, Z, ρ1, ds, ρ', r', Reps.ext ex _ _ h2, hp, q⟩⟩
    · cases hp
/-- o.a, o.b = .. -/
theorem s_asgF {k : Nat} (hc : X.calm = true) (he : PE X e (tD X.K E m)) (hg : PGs X es (tFs X.K i c js)) (hn : (assignEach es X.env).length = js.length := by rfl) (hst : (assignEach es X.env).findIdx? (·.1) = none := by rfl)
    (hs : swapsWithSole [.Tuple es k tpos] e pos.line X.env = pure false := by rfl) (hw : swappedStores [.Tuple es k tpos] e X.env = pure none := by rfl) (h1 : (assignEach [.Tuple es k tpos] X.env).map (·.2) = [assign (.Tuple es k tpos) X.env] := by rfl) :
    PS X (.Assign [.Tuple es k tpos] e pos) (tS X.K E (mAsgF i c js m)) := by
  refine (ps_asg he (pg_tup hc hg hn hst) hs hw h1).imp fun Dn σ H h => ?_
  obtain ⟨cz, ρ, ⟨Z, r⟩, q⟩ := h
  refine ⟨cz, Z, ρ, r, tSR.expr q fun d ρ1 v H1 r1 hd q1 => ?_⟩
  cases d <;> first | (exact q1.elim; done) | skip
  rename_i l
  have hd : Rep X.K H1 Z (.tup l) v := hd
  simp only [Rep] at hd
  obtain ⟨p, us, rfl, h2, h3⟩ := hd
  have len : ∀ (js : List Nat) (l : List D) (ρ ρ' : Env), putFs i c js l ρ = some ρ' → l.length = js.length := by
    intro js
    induction js with
    | nil => intro l ρ ρ' h; cases l with | nil => rfl | cons _ _ => cases h
    | cons a js ih =>
      intro l ρ ρ' h
      cases l with
      | nil => cases h
      | cons d l =>
        unfold putFs at h
        split at h
        · exact congrArg (· + 1) (ih _ _ _ h)
        · cases h
  have q1 : tSR X.K E cz Dn (match putFs i c js l ρ1 with
    | some ρ' => .ok .nx ρ'
    | none => .fail) := q1
  split at q1
  · rename_i ρ' hp
    exact ⟨p, us, rfl, h2.sq, by rw [← h3.len]; exact len _ _ _ _ hp, cz, Z, ρ1, l, ρ', r1, h3, hp, fun H' r' => q1 σ H' ⟨Z, r'⟩⟩
  · exact q1.elim
end
end DL
set_option Elab.async false
set_option linter.all false
set_option maxRecDepth 100000
set_option maxHeartbeats 4000000
/-! ### a set of unlike texts, and its length -/
namespace DL
open PySem PySem.Spec PyProof.Rows L2
section
variable {prog : Program} {w : World} {A : Around} {R : Result → Shared → Prop} {I : Addr} {fp wr : List Addr} {G : Array GenState → Array GenState → Prop} {n : Nat} {P : Nat → Value → Prop} {St : Nat → Shared → Prop}
def inTake (xs : List Str) (i : Nat) : Str → Bool := fun k => decide (k ∈ xs.take i)
theorem inTake_succ {xs : List Str} {i : Nat} (hi : i < xs.length) (k : Str) : (inTake xs i k || decide (k = xs.getD i Str.empty)) = inTake xs (i + 1) k := by
  have e : xs.getD i Str.empty = xs[i] := by simp [hi]
  unfold inTake
  rw [e, List.take_succ_eq_append_getElem hi]
  simp only [List.mem_append, List.mem_singleton, Bool.decide_or]
theorem inTake_new {xs : List Str} (nd : xs.Nodup) {i : Nat} (hi : i < xs.length) : inTake xs i (xs.getD i Str.empty) = false := by
  have e : xs.getD i Str.empty = xs[i] := by simp [hi]
  unfold inTake
  rw [e, decide_eq_false_iff_not]
  intro h
  obtain ⟨j, hj, q⟩ := List.mem_iff_getElem.mp h
  rw [List.getElem_take] at q
  rw [List.length_take] at hj
  exact absurd q (List.pairwise_iff_getElem.mp nd j i (by omega) hi (by omega))
theorem setLoop (W : WalksS prog w A.in1 I fp wr G n P St) {b : Addr} (hb : b ∉ fp) {xs : List Str} (nd : xs.Nodup) (hn : xs.length = n) (hl : n + 1 < scanBound) (hv : ∀ i v, P i v → ∃ t, v = .str (xs.getD i Str.empty) t) :
    ∀ (m i : Nat) (s : Shared), i + m = n → St i s → s.heap.SetOf (strKind prog w) b (inTake xs i) i →
      (∀ s', Moved (b :: wr) G s s' → s'.heap.SetOf (strKind prog w) b (inTake xs n) n → R (.ok (.ret .none)) s') →
      codeAny (model prog w) A (.builtin "set.update.loop" ⟨[.ref b, .ref I], []⟩) R s := by
  have hw : b ∉ wr := fun h => hb (W.sub _ h)
  have mv : ∀ {s s' : Shared} {i : Nat}, Moved wr G s s' → s.heap.SetOf (strKind prog w) b (inTake xs i) i → s'.heap.SetOf (strKind prog w) b (inTake xs i) i := fun hm ⟨o, es, ep, t, ho, rest⟩ => ⟨o, es, ep, t, hm.heap b _ hw ho, rest⟩
  have up : ∀ {s s' : Shared}, Moved wr G s s' → Moved (b :: wr) G s s' := fun hm => hm.mono fun c hc => List.mem_cons_of_mem _ hc
  intro m
  induction m with
  | zero =>
    intro i s hi hst hS hR
    obtain rfl : i = n := by omega
    refine codeAny_builtin PyProof.Rows.F.entry_set_update_loop ?_
    rw [Around.under_plainId PyProof.Rows.F.plain_set_update_loop _]
    refine wpAny_bind (m := pyNext (.ref I)) (W.done s _ _ hst fun s' hm => ?_)
    exact wpAny_pure (hR s' (up hm) (mv hm hS))
  | succ m ih =>
    intro i s hi hst hS hR
    have hin : i < n := by omega
    refine codeAny_builtin PyProof.Rows.F.entry_set_update_loop ?_
    rw [Around.under_plainId PyProof.Rows.F.plain_set_update_loop _]
    refine wpAny_bind (m := pyNext (.ref I)) (W.item i s _ _ hin hst fun v s' hP hst' hm => ?_)
    obtain ⟨t, rfl⟩ := hv i v hP
    refine wpAny_bind (m := holding [Value.str (xs.getD i Str.empty) t] (setAdd b (.str (xs.getD i Str.empty) t))) (wpAny_holding ?_)
    unfold setAdd
    refine wpAny_holding (wpAny_bind ((strKind prog w).pyHash (k := xs.getD i Str.empty) (strKind_is _ _ _ _) ?_))
    refine wpAny_setAddHashed_of (knd := strKind prog w) (s := { s' with toks := s'.toks + 1 }) (strKind_is _ _ _ _) rfl (show s'.heap.SetOf (strKind prog w) b (inTake xs i) i from mv hm hS) (by omega) fun h' hsb hS2 => ?_
    have hS3 : h'.SetOf (strKind prog w) b (inTake xs (i + 1)) (i + 1) := SetOf_congr hS2 (inTake_succ (by omega)) (by rw [inTake_new nd (by omega)]; rfl)
    refine wpAny_pure ⟨plainId_quiet PyProof.Rows.F.plain_set_update_loop _, ih (i + 1) _ (by omega) (W.frame _ s' _ _ hst' (Nat.le_succ _) fun c hc o e => ?_) hS3 fun s'' hm2 hS4 => hR s'' (Moved.trans W.gtrans ((up hm).then_heap (Nat.le_succ _) fun c o hc e => ?_) hm2) hS4⟩
    · rw [hsb.2 c fun q => hb (q ▸ hc)]
      exact e
    · rw [hsb.2 c fun q => hc (by rw [q]; exact List.mem_cons_self)]
      exact e
end
section
variable {prog : Program} {w : World} {A : Around} {E : Value → Shared → Prop} {s : Shared}
abbrev freshSet (led : Bool) : Obj := { cls := .type "set", dict := none, data := .set #[] 0 (.fresh 0 0 led) }
abbrev withSet (s : Shared) (led : Bool) : Shared := { s with heap := s.heap.push (freshSet led) }
/-- what set(x) leaves: the set of xs at the first free place, all else as it was -/
def SetMade (prog : Program) (w : World) (s : Shared) (xs : List Str) (s' : Shared) : Prop :=
  ∃ (h' : Heap) (tk : Nat), s' = { s with heap := h', toks := tk } ∧ h'.SetOf (strKind prog w) s.heap.objs.size (inTake xs xs.length) xs.length ∧ ∀ b o, s.heap.get? b = some o → h'.get? b = some o
theorem set_of_init {v : Value} {xs : List Str} {Q : Value → Shared → Prop}
    (hi : ∀ led, codeAny (model prog w) A.in1 (.call (.builtin "set.__init__") ⟨[.ref s.heap.objs.size, v], []⟩) (wants (fun r s2 => r = .none ∧ SetMade prog w s xs s2) E) (withSet s led))
    (h : ∀ s', SetMade prog w s xs s' → Q (.ref s.heap.objs.size) s') : wpAny (model prog w) A (call (.type "set") [v]) Q E s := by
  obtain ⟨c, tl, hmro⟩ := PySem.F.called_set.mro
  have q1 := PySem.F.called_set.made
  have q2 := PySem.F.called_set.sub
  have q3 := PySem.F.called_set.notType
  have q4 := PySem.F.called_set.canCreate
  have q5 := PySem.F.typeCall_set_1 v
  refine wpAny_call (codeAny_of_tree ?_)
  show wpAny _ _ (callAny (.type "set") _) _ _ _
  refine wpAny_pure ⟨Code.quiet_builtin _ (by decide +kernel), codeAny_builtin PySem.F.entry_type_call ?_⟩
  rw [Around.under_plain (weight_type_call_type "set" [v] []) rfl]
  repeat (any_goals (first | assumption | wp_step))
  refine codeAny_mono (code_set_new_1 v (E := E) (Q₁ := fun x s1 => ∃ led, x = .ref s.heap.objs.size ∧ s1 = withSet s led) fun led => ⟨led, rfl, rfl⟩) fun r s1 hr => ?_
  match r, hr with
  | .error e, hr => exact hr
  | .ok (.ret x), hr =>
    obtain ⟨led, rfl, rfl⟩ := hr
    have hT : Shared.TypeIs (withSet s led) (.ref s.heap.objs.size) "set" := ⟨_, Heap.get?_push_size _ rfl, rfl⟩
    have q6 := PySem.F.called_set.init.lookup
    have q7 := PySem.F.called_set.init.bind (.ref s.heap.objs.size)
    repeat (any_goals (first | assumption | wp_step))
    refine codeAny_mono (hi led) fun r2 s2 hr2 => ?_
    match r2, hr2 with
    | .error e, hr2 => exact hr2
    | .ok (.ret x), hr2 =>
      obtain ⟨rfl, hm⟩ := hr2
      repeat (any_goals (first | assumption | wp_step))
      exact h _ hm
theorem init_list {l : Addr} {items : Array Value} {xs : List Str} (hh : A.handled = none) (hl : s.heap.IsList l items) (hi : StrsAre items.toList xs) (nd : xs.Nodup) (hb : xs.length + 1 < scanBound) (led : Bool) :
    codeAny (model prog w) A.in1 (.call (.builtin "set.__init__") ⟨[.ref s.heap.objs.size, .ref l], []⟩) (wants (fun r s2 => r = .none ∧ SetMade prog w s xs s2) E) (withSet s led) := by
  have g0 : (withSet s led).heap.get? s.heap.objs.size = some (freshSet led) := Heap.get?_push_size _ rfl
  refine codeAny_call_builtin PySem.F.called_set.init.plain PySem.F.entry_set_init (check_set_init_1 ⟨_, g0, rfl⟩ ?_)
  have hn : xs.length = items.size := by rw [← StrsAre.len_eq hi, Array.length_toList]
  obtain ⟨⟨oc, od, dt, sl⟩, ho, e1, k, e2⟩ := hl
  simp only at e1 e2
  subst e1 e2
  have u1 : (withSet s led).heap.get? l = some { cls := .type "list", dict := od, data := .seq items k, slots := sl } := Heap.get?_push_of_some _ ho
  have u2 := PySem.F.sub_list_set
  have u3 := PySem.F.sub_list_frozenset
  have u4 : (Value.type "list" == Value.type "dict") = false := by decide
  have hl1 : (withSet s led).heap.IsList l items := ⟨_, u1, rfl, k, rfl⟩
  unfold Builtin.«set.__init__» noKeywords Builtin.Frozenset.updateFrom
  generalize hPI : pyIter = PI
  wp_walk
  subst hPI
  refine wpAny_pyIter_list hl1 (wpAny_bind (wpAny_runValue ?_))
  have lt : l < s.heap.objs.size := Heap.lt_size ho
  have sz : (withSet s led).heap.objs.size = s.heap.objs.size + 1 := Heap.size_push ..
  have n1 : l ≠ (withSet s led).heap.objs.size := by rw [sz]; exact Nat.ne_of_lt (Nat.lt_succ_of_lt lt)
  have n2 : s.heap.objs.size ∉ [(withSet s led).heap.objs.size, l] := by
    rw [sz]
    simp only [List.mem_cons, List.not_mem_nil, or_false, not_or]
    exact ⟨Nat.ne_of_lt (Nat.lt_succ_self _), Nat.ne_of_gt lt⟩
  have at_ : ∀ (i : Nat) (v : Value), items[i]? = some v → ∃ t, v = .str (xs.getD i Str.empty) t := fun i v hv => SS.strs_at hi i v (by rw [Array.getElem?_toList]; exact hv)
  have h3 : A.in1.in1.in1.handled = none := by simp [hh]
  refine setLoop ((Walks.list h3 _ l n1 items).toS) n2 nd hn (by rw [← hn]; exact hb) at_ items.size 0 _ (by omega) ⟨⟨_, Heap.get?_push_size _ rfl, rfl, rfl⟩, (hl1.push _)⟩ ?hS0 ?hR
  case hS0 => exact SetOf_congr ((setObjOf_fresh (knd := strKind prog w) led).setOf (Heap.get?_push_of_some _ g0) (by unfold scanBound; omega)) (fun k => by simp [inTake]) rfl
  case hR =>
    intro s' hm hS
    obtain ⟨h', g', d', t', o'⟩ := s'
    obtain rfl : g' = s.gens := hm.gens
    obtain rfl : d' = s.drawn := hm.drawn
    obtain rfl : o' = s.os := hm.os
    show wpAny _ _ _ _ _ _
    refine wpAny_pure ?_
    show wpAny _ _ (ret Value.none) _ _ _
    refine wpAny_pure ⟨rfl, h', t', rfl, by rw [hn]; exact hS, fun b o e => ?_⟩
    have hb := Heap.lt_size e
    refine hm.heap b o ?_ (Heap.get?_push_of_some _ (Heap.get?_push_of_some _ e))
    rw [sz]
    simp only [List.mem_cons, List.not_mem_nil, or_false, not_or]
    exact ⟨Nat.ne_of_lt hb, Nat.ne_of_lt (Nat.lt_succ_of_lt hb)⟩
theorem init_tuple {l : Addr} {items : Array Value} {xs : List Str} (hh : A.handled = none) (hl : s.heap.IsTuple l items) (hi : StrsAre items.toList xs) (nd : xs.Nodup) (hb : xs.length + 1 < scanBound) (led : Bool) :
    codeAny (model prog w) A.in1 (.call (.builtin "set.__init__") ⟨[.ref s.heap.objs.size, .ref l], []⟩) (wants (fun r s2 => r = .none ∧ SetMade prog w s xs s2) E) (withSet s led) := by
  have g0 : (withSet s led).heap.get? s.heap.objs.size = some (freshSet led) := Heap.get?_push_size _ rfl
  refine codeAny_call_builtin PySem.F.called_set.init.plain PySem.F.entry_set_init (check_set_init_1 ⟨_, g0, rfl⟩ ?_)
  have hn : xs.length = items.size := by rw [← StrsAre.len_eq hi, Array.length_toList]
  obtain ⟨⟨oc, od, dt, sl⟩, ho, e1, k, e2⟩ := hl
  simp only at e1 e2
  subst e1 e2
  have u1 : (withSet s led).heap.get? l = some { cls := .type "tuple", dict := od, data := .seq items k, slots := sl } := Heap.get?_push_of_some _ ho
  have u2 := PySem.F.sub_tuple_set
  have u3 := PySem.F.sub_tuple_frozenset
  have u4 : (Value.type "tuple" == Value.type "dict") = false := by decide
  have hl1 : (withSet s led).heap.IsTuple l items := ⟨_, u1, rfl, k, rfl⟩
  unfold Builtin.«set.__init__» noKeywords Builtin.Frozenset.updateFrom
  generalize hPI : pyIter = PI
  wp_walk
  subst hPI
  refine wpAny_pyIter_tuple hl1 (wpAny_bind (wpAny_runValue ?_))
  have lt : l < s.heap.objs.size := Heap.lt_size ho
  have sz : (withSet s led).heap.objs.size = s.heap.objs.size + 1 := Heap.size_push ..
  have n1 : l ≠ (withSet s led).heap.objs.size := by rw [sz]; exact Nat.ne_of_lt (Nat.lt_succ_of_lt lt)
  have n2 : s.heap.objs.size ∉ [(withSet s led).heap.objs.size, l] := by
    rw [sz]
    simp only [List.mem_cons, List.not_mem_nil, or_false, not_or]
    exact ⟨Nat.ne_of_lt (Nat.lt_succ_self _), Nat.ne_of_gt lt⟩
  have at_ : ∀ (i : Nat) (v : Value), items[i]? = some v → ∃ t, v = .str (xs.getD i Str.empty) t := fun i v hv => SS.strs_at hi i v (by rw [Array.getElem?_toList]; exact hv)
  have h3 : A.in1.in1.in1.handled = none := by simp [hh]
  refine setLoop ((Walks.tuple h3 _ l n1 items).toS) n2 nd hn (by rw [← hn]; exact hb) at_ items.size 0 _ (by omega) ⟨⟨_, Heap.get?_push_size _ rfl, rfl, rfl⟩, (hl1.push _)⟩ ?hS0 ?hR
  case hS0 => exact SetOf_congr ((setObjOf_fresh (knd := strKind prog w) led).setOf (Heap.get?_push_of_some _ g0) (by unfold scanBound; omega)) (fun k => by simp [inTake]) rfl
  case hR =>
    intro s' hm hS
    obtain ⟨h', g', d', t', o'⟩ := s'
    obtain rfl : g' = s.gens := hm.gens
    obtain rfl : d' = s.drawn := hm.drawn
    obtain rfl : o' = s.os := hm.os
    show wpAny _ _ _ _ _ _
    refine wpAny_pure ?_
    show wpAny _ _ (ret Value.none) _ _ _
    refine wpAny_pure ⟨rfl, h', t', rfl, by rw [hn]; exact hS, fun b o e => ?_⟩
    have hb := Heap.lt_size e
    refine hm.heap b o ?_ (Heap.get?_push_of_some _ (Heap.get?_push_of_some _ e))
    rw [sz]
    simp only [List.mem_cons, List.not_mem_nil, or_false, not_or]
    exact ⟨Nat.ne_of_lt hb, Nat.ne_of_lt (Nat.lt_succ_of_lt hb)⟩
end
section
variable [CTab]
def dLenSet : D → Option D
  | .lst l => (dStrs l).bind fun xs => if xs.Nodup ∧ xs.length ≤ 4000 then some (.int (xs.length : Nat)) else none
  | .rol l => (dStrs l).bind fun xs => if xs.Nodup ∧ xs.length ≤ 4000 then some (.int (xs.length : Nat)) else none
  | .tup l => (dStrs l).bind fun xs => if xs.Nodup ∧ xs.length ≤ 4000 then some (.int (xs.length : Nat)) else none
  | _ => none
def tLenU (K : PySem.W.Frag) (ta : TE) : TE := fun σ H Q => ta σ H fun x H1 => ∃ (l : Addr) (xs : List Str), x = .ref l ∧ (SqL K H1 l (xs.map V.str) ∨ SqT K H1 l (xs.map V.str)) ∧ xs.Nodup ∧ xs.length ≤ 4000 ∧ Q (.int (xs.length : Nat)) H1
theorem pe_lenU {X : Cx} {a : Expr} {ta : TE} {p p2 q pos : Pos} (hc : X.calm = true) (hg : Gl X "len") (hm : X.mg "len" = none) (hg2 : Gl X "set") (hm2 : X.mg "set" = none) (ha : PE X a ta)
    (na : starEach [a] X.env = (false, eval a X.env) :: starEach [] X.env) : PE X (.Call (.Name "len" p) [.Call (.Name "set" p2) [a] [] q] [] pos) (tLenU X.K ta) := by
  constructor
  intro pins s σ H Q I h
  refine Call_ (ld_blt I hg hm boot_len (PyProof.Rows.callWith_builtin1 (PyProof.Rows.args_cons ?_ rfl) rfl rfl))
  refine Call_ (ld_blt I hg2 hm2 boot_set (PyProof.Rows.callWith_type1 (PyProof.Rows.args_cons (thn (ha.run pins s σ H _ I h) fun v s1 ⟨x, H1, I1, r1, q1⟩ => PyProof.Rows.args_nil ?_) na) na rfl))
  obtain ⟨l, xs, rfl, hq, nd, hl, q1⟩ := q1
  cases r1
  have ar : ∀ {its : List Value}, Vals (xs.map V.str) its → StrsAre its.toArray.toList xs := fun r => by simpa using strsAre_of r
  have fin : ∀ s', SetMade X.prog X.w s1 xs s' → wpAny (model X.prog X.w) X.A (spliced (backTo pos (starEach [] X.env))) (fun vs s₂ => wpAny (model X.prog X.w) X.A (call (.builtin "len") (Value.ref s1.heap.objs.size :: vs)) (EP X pins σ Q) X.xe s₂) X.xe s' := fun s' ⟨h', tk, e, hS, hk⟩ => by
    subst e
    refine PyProof.Rows.args_nil ?_
    obtain ⟨o, es, ep, t, ho, hex, hd, _, _, _, hf, hn⟩ := hS
    have I2 : Inv X pins σ H1 { s1 with heap := h', toks := tk } := I1.kept fun b o e => hk b o e
    exact call_len_set ho hex hd hf (by rw [hn]; omega) ⟨.int xs.length, H1, I2.tok _, ⟨_, by rw [hn]⟩, q1⟩
  rcases hq with hq | hq
  · obtain ⟨its, r, pl, hz⟩ := I1.list hq
    exact set_of_init (fun led => init_list (I1.ok.hd hc) pl.isList (ar r) nd (by unfold scanBound; omega) led) fin
  · obtain ⟨its, r, pl, hz⟩ := I1.tuple hq
    exact set_of_init (fun led => init_tuple (I1.ok.hd hc) pl (ar r) nd (by unfold scanBound; omega) led) fin
theorem d_lenSet {X : Cx} {E : XK} {a : Expr} {m : M D} {p p2 q pos : Pos} (ha : PE X a (tD X.K E m)) (hm : X.mg "len" = none) (hm2 : X.mg "set" = none) (hc : X.calm = true := by rfl) (hg : Gl X "len" := by rfl) (hg2 : Gl X "set" := by rfl)
    (na : starEach [a] X.env = (false, eval a X.env) :: starEach [] X.env := by rfl) : PE X (.Call (.Name "len" p) [.Call (.Name "set" p2) [a] [] q] [] pos) (tD X.K E (m1 dLenSet m)) := by
  refine (pe_lenU hc hg hm hg2 hm2 ha na).imp fun σ H Q h => ?_
  obtain ⟨c, Z, ρ, r, q⟩ := h
  refine ⟨c, Z, ρ, r, q.bind fun d ρ1 v H1 r1 e1 h1 q1 => ?_⟩
  obtain ⟨w, hw, k⟩ := q1.lift r1
  have h1 : Rep X.K H1 Z d v := h1
  unfold dLenSet at hw
  split at hw
  · rename_i l _
    cases hs : dStrs l with
    | none => rw [hs] at hw; cases hw
    | some xs =>
      rw [hs] at hw
      simp only [Option.bind_some] at hw
      split at hw
      · rename_i hx
        cases hw
        simp only [Rep] at h1
        obtain ⟨p, vs, rfl, g1, g2⟩ := h1
        cases dStrs_rep hs g2
        exact ⟨p, xs, rfl, .inl g1.sq, hx.1, hx.2, k _ H1 (Same.refl H1) rfl⟩
      · cases hw
  · rename_i l _
    cases hs : dStrs l with
    | none => rw [hs] at hw; cases hw
    | some xs =>
      rw [hs] at hw
      simp only [Option.bind_some] at hw
      split at hw
      · rename_i hx
        cases hw
        simp only [Rep] at h1
        obtain ⟨p, vs, rfl, g1, g2⟩ := h1
        cases dStrs_rep hs g2
        exact ⟨p, xs, rfl, .inl g1.sq, hx.1, hx.2, k _ H1 (Same.refl H1) rfl⟩
      · cases hw
  · rename_i l _
    cases hs : dStrs l with
    | none => rw [hs] at hw; cases hw
    | some xs =>
      rw [hs] at hw
      simp only [Option.bind_some] at hw
      split at hw
      · rename_i hx
        cases hw
        simp only [Rep] at h1
        obtain ⟨p, vs, rfl, g1, g2⟩ := h1
        cases dStrs_rep hs g2
        exact ⟨p, xs, rfl, .inr g1.sq, hx.1, hx.2, k _ H1 (Same.refl H1) rfl⟩
      · cases hw
  · cases hw
/-- a class without an __init__ of its own -/
def plainB (K : PySem.W.Frag) (x : Str) : Bool := PySem.W.makesIn K (He.ga K x) && (He.eqO (PySem.W.findIn K (.ref (He.ga K x)) "__init__") (some (some (.builtin "object.__init__"))) && PySem.W.keepIn K (.ref (He.ga K x)))
theorem plain_ok {K : PySem.W.Frag} {x : Str} (h : plainB K x = true) : OB.Plain K (He.ga K x) := by
  obtain ⟨h1, h⟩ := He.ba h
  obtain ⟨h2, h3⟩ := He.ba h
  exact ⟨h1, He.eqO_ok h2, h3⟩
end
end DL
set_option Elab.async false
set_option linter.all false
set_option maxRecDepth 100000
set_option maxHeartbeats 4000000
/-! ### targets that change things of one's own: names, places, fields, one behind another -/
namespace DL
open PySem PySem.Spec PyProof.Rows L2
variable [CTab]
def tXs (K : PySem.W.Frag) (g : MTs) : TGs := fun vs σ H Q => ∃ c Z ρ l ρ', Rel K c Z ρ σ H ∧ Reps K H Z l vs ∧ g l ρ = some ρ' ∧ ∀ σ' H', Rel K c Z ρ' σ' H' → Q σ' H'
def mXN (i : Nat) (gs : MTs) : MTs := fun l ρ => match l with
  | d :: r => gs r (ρ.set i (some (.val d)))
  | _ => none
/-- x[e], x a list of one's own in slot i -/
def mXI (i : Nat) (mi : M D) (gs : MTs) : MTs := fun l ρ => match l with
  | d :: r => (match holds ρ i with
    | some (.lst _) => (match mi ρ with
      | .ok (.int j) ρ1 => (match mMutNow i (cSetAt j) d ρ1 with
        | .ok .nx ρ2 => gs r ρ2
        | _ => none)
      | _ => none)
    | _ => none)
  | _ => none
def mXF (i c j : Nat) (gs : MTs) : MTs := fun l ρ => match l with
  | d :: r => (match mMutNow i (cFld c j) d ρ with
    | .ok .nx ρ1 => gs r ρ1
    | _ => none)
  | _ => none
instance {n i : Nat} {gs : MTs} [t : TgLen n gs] : TgLen (n + 1) (mXN i gs) := ⟨fun l ρ ρ' h => by
  unfold mXN at h
  split at h
  · exact congrArg (· + 1) (t.len _ _ _ h)
  · cases h⟩
instance {n i : Nat} {mi : M D} {gs : MTs} [t : TgLen n gs] : TgLen (n + 1) (mXI i mi gs) := ⟨fun l ρ ρ' h => by
  unfold mXI at h
  split at h
  · split at h <;> first | (cases h; done) | skip
    split at h <;> first | (cases h; done) | skip
    split at h <;> first | (cases h; done) | skip
    exact congrArg (· + 1) (t.len _ _ _ h)
  · cases h⟩
instance {n i c j : Nat} {gs : MTs} [t : TgLen n gs] : TgLen (n + 1) (mXF i c j gs) := ⟨fun l ρ ρ' h => by
  unfold mXF at h
  split at h
  · split at h <;> first | (cases h; done) | skip
    exact congrArg (· + 1) (t.len _ _ _ h)
  · cases h⟩
def mAsgX (gs : MTs) (m : M D) : M Fl := fun ρ => bindR (m ρ) fun d ρ => match d with
  | .tup l => (match gs l ρ with
    | some ρ' => .ok .nx ρ'
    | none => .fail)
  | _ => .fail
section
variable {X : Cx} {E : XK} {pos tpos apos : Pos} {e ei : Expr} {es : List Expr} {m mi : M D} {i c j : Nat} {gs : MTs}
theorem gx_nil : PGs X [] (tXs X.K mTNil) := by
  refine pgs_nil.imp fun vs σ H Q h => ?_
  obtain ⟨cz, Z, ρ, l, ρ', r, hl, hp, q⟩ := h
  unfold mTNil at hp
  split at hp
  · cases hp
    exact ⟨hl, q σ H r⟩
  · cases hp
theorem gx_name (i : Nat) {x : Str} (hN : X.N.Nodup) (hr : PGs X es (tXs X.K gs)) (hi : X.N[i]? = some x := by rfl) (hx : Loc X.env.scope x := by first | exact Or.inl rfl | exact Or.inr rfl) (hf : X.fn x = true ∨ X.env.scope.names.lookup x = some .local := by first | exact .inl rfl | exact .inr rfl)
    (hs : (assignEach (.Name x pos :: es) X.env).map (·.2) = assign (.Name x pos) X.env :: (assignEach es X.env).map (·.2) := by rfl) : PGs X (.Name x pos :: es) (tXs X.K (mXN i gs)) := by
  refine (pgs_cons (pg_name hN hi hx hf) hr hs).imp fun vs σ H Q h => ?_
  obtain ⟨cz, Z, ρ, l, ρ', r, hrl, hp, q⟩ := h
  unfold mXN at hp
  split at hp
  · rename_i d ds
    obtain ⟨u, us, rfl, h1, h2⟩ := hrl.inv
    exact ⟨u, us, rfl, cz, Z, _, ds, ρ', r.set h1, h2, hp, q⟩
  · cases hp
theorem gx_ix (i : Nat) {x : Str} {np : Pos} (hei : PE X ei (tD X.K E mi)) (hr : PGs X es (tXs X.K gs))
    (hN : X.N[i]? = some x := by rfl) (hv : Vis X.env.scope x := by first | exact Or.inl rfl | exact Or.inr (Or.inl rfl) | exact Or.inr (Or.inr rfl)) (hd : (x == ("__debug__" : Str)) = false := by decide) (hcd : (x == ("__classdict__" : Str)) = false := by decide)
    (ha : ∀ v, assign (.Subscript (.Name x np) ei apos) X.env v = (do let ov ← holding [v] (eval (.Name x np) X.env); let iv ← holding [v, ov] (eval ei X.env); standAt apos; holding [v, ov, iv] (setItem ov iv v); release [v, ov, iv] []) := by intro _; rfl)
    (hs : (assignEach (.Subscript (.Name x np) ei apos :: es) X.env).map (·.2) = assign (.Subscript (.Name x np) ei apos) X.env :: (assignEach es X.env).map (·.2) := by rfl) : PGs X (.Subscript (.Name x np) ei apos :: es) (tXs X.K (mXI i mi gs)) := by
  refine (pgs_cons (pg_sub (pe_var hN hv hd hcd) hei set_list ha) hr hs).imp fun vs σ H Q h => ?_
  obtain ⟨cz, Z, ρ, l, ρ', r, hrl, hp, q⟩ := h
  unfold mXI at hp
  split at hp
  · rename_i d ds
    obtain ⟨u, us, rfl, h1, h2⟩ := hrl.inv
    split at hp <;> first | (cases hp; done) | skip
    rename_i l0 ht
    obtain ⟨p, w, _, _, g1, hz, o, ho, ls, rfl, hus⟩ := holds_rel r ht
    split at hp <;> first | (cases hp; done) | skip
    rename_i j ρ1 em
    split at hp <;> first | (cases hp; done) | skip
    rename_i ρ2 em2
    refine ⟨u, us, rfl, _, g1, cz, Z, ρ, r, ?_⟩
    rw [em]
    intro kv H2 r2 e2 hk
    cases (show kv = _ from hk)
    obtain ⟨p', t, t', k1, ⟨o2, k2, k3⟩, k4, k5, kk⟩ := mutZ em2 r2
    rw [g1] at k1
    cases k1
    cases t with
    | dct _ _ => cases k5
    | ob _ _ => cases k5
    | lst l =>
      obtain ⟨us2, rfl, hus2⟩ := k3
      simp only [cSetAt] at k5
      split at k5
      · rename_i k hk
        cases k5
        have ex : Ext Z H2 (upd H2 p (.lst (us2.set k u))) := fun a o nz e => by rw [upd_ne (fun z => nz (by rw [z]; exact hz))]; exact e
        refine ⟨p, us2, j, k, rfl, rfl, k2, by rw [← hus2.len]; exact hk, cz, Z, ρ2, ds, ρ', ?_, Reps.ext ex _ _ (Reps.ext e2 _ _ h2), hp, q⟩
        exact kk _ (fun a o ne e => by rw [upd_ne ne]; exact e) ⟨_, upd_same, _, rfl, Reps.set (Rep.ext ex _ _ (Rep.ext e2 _ _ h1)) k (Reps.ext ex _ _ hus2)⟩
      · cases k5
  · cases hp
theorem gx_fld {n : Nat} {f x : Str} {np : Pos} (cf : CFacts X.K n) (j : Nat) (hc : c < n) (hj : (cF c)[j]? = some f) (hl : (cF c).length < 1000) (hr : PGs X es (tXs X.K gs)) (hN : X.N[i]? = some x := by rfl) (hv : Vis X.env.scope x := by first | exact Or.inl rfl | exact Or.inr (Or.inl rfl) | exact Or.inr (Or.inr rfl))
    (hd : (x == ("__debug__" : Str)) = false := by decide) (hcd : (x == ("__classdict__" : Str)) = false := by decide)
    (ha : ∀ v, assign (.Attribute (.Name x np) f apos) X.env v = (do let ov ← holding [v] (eval (.Name x np) X.env); standAt apos.atName; holding [v, ov] (setAttr ov f v); release [v, ov] []) := by intro _; rfl)
    (hs : (assignEach (.Attribute (.Name x np) f apos :: es) X.env).map (·.2) = assign (.Attribute (.Name x np) f apos) X.env :: (assignEach es X.env).map (·.2) := by rfl) : PGs X (.Attribute (.Name x np) f apos :: es) (tXs X.K (mXF i c j gs)) := by
  refine (pgs_cons (OB.pg_fld (pe_var hN hv hd hcd) ha) hr hs).imp fun vs σ H Q h => ?_
  obtain ⟨cz, Z, ρ, l, ρ', r, hrl, hp, q⟩ := h
  unfold mXF at hp
  split at hp
  · rename_i d ds
    obtain ⟨u, us, rfl, h1, h2⟩ := hrl.inv
    split at hp <;> first | (cases hp; done) | skip
    rename_i ρ1 hm
    exact ⟨u, us, rfl, fld_step cf hc hj hl r h1 hm fun H' r' ex => ⟨cz, Z, ρ1, ds, ρ', r', Reps.ext ex _ _ h2, hp, q⟩⟩
  · cases hp
theorem s_asgX {k n : Nat} [tl : TgLen n gs] (hc : X.calm = true) (he : PE X e (tD X.K E m)) (hg : PGs X es (tXs X.K gs)) (hn : (assignEach es X.env).length = n := by rfl) (hst : (assignEach es X.env).findIdx? (·.1) = none := by rfl)
    (hs : swapsWithSole [.Tuple es k tpos] e pos.line X.env = pure false := by rfl) (hw : swappedStores [.Tuple es k tpos] e X.env = pure none := by rfl) (h1 : (assignEach [.Tuple es k tpos] X.env).map (·.2) = [assign (.Tuple es k tpos) X.env] := by rfl) :
    PS X (.Assign [.Tuple es k tpos] e pos) (tS X.K E (mAsgX gs m)) := by
  refine (ps_asg he (pg_tup hc hg hn hst) hs hw h1).imp fun Dn σ H h => ?_
  obtain ⟨cz, ρ, ⟨Z, r⟩, q⟩ := h
  refine ⟨cz, Z, ρ, r, tSR.expr q fun d ρ1 v H1 r1 hd q1 => ?_⟩
  cases d <;> first | (exact q1.elim; done) | skip
  rename_i l
  have hd : Rep X.K H1 Z (.tup l) v := hd
  simp only [Rep] at hd
  obtain ⟨p, us, rfl, h2, h3⟩ := hd
  have q1 : tSR X.K E cz Dn (match gs l ρ1 with
    | some ρ' => .ok .nx ρ'
    | none => .fail) := q1
  split at q1
  · rename_i ρ' hp
    exact ⟨p, us, rfl, h2.sq, by rw [← h3.len]; exact tl.len _ _ _ hp, cz, Z, ρ1, l, ρ', r1, h3, hp, fun σ' H' r' => q1 σ' H' ⟨Z, r'⟩⟩
  · exact q1.elim
end
end DL
set_option Elab.async false
set_option linter.all false
set_option maxRecDepth 100000
set_option maxHeartbeats 4000000
/-! ### list(range(..)) -/
namespace DL
open PySem PySem.Spec PyProof.Rows L2
def rngV (a : Int) (n : Nat) : List V := (List.range n).map fun i : Nat => .int (a + (i : Int))
theorem rngV_succ (a : Int) (n : Nat) : rngV a (n + 1) = .int a :: rngV (a + 1) n := by
  unfold rngV
  rw [List.range_succ_eq_map, List.map_cons, List.map_map]
  congr 1
  · simp
  · apply List.map_congr_left
    intro i _
    simp only [Function.comp_def]
    congr 1
    omega
theorem vals_rng : ∀ (us : List Value) (a : Int), (∀ (j : Nat) v, us[j]? = some v → ∃ t, v = .int (a + (j : Int)) t) → Vals (rngV a us.length) us
  | [], a, _ => .nil
  | u :: us, a, h => by
    rw [List.length_cons, rngV_succ]
    obtain ⟨t, e⟩ := h 0 u rfl
    refine .cons ⟨t, by rw [e]; simp⟩ (vals_rng us (a + 1) fun j v hv => ?_)
    obtain ⟨t, e⟩ := h (j + 1) v (by simpa using hv)
    exact ⟨t, by rw [e]; congr 1; omega⟩
section
variable {X : Cx}
theorem cr_range1 : CallR X (.type "range") (fun vs H Q => ∃ j, vs = [V.int j] ∧ ∀ p, H p = none → Q (.ref p) (upd H p (.rng 0 j))) := by
  intro pins s σ H vs us Q I r h
  obtain ⟨j, rfl, q⟩ := h
  obtain ⟨u, rfl, t, rfl⟩ := vals1 r
  refine call_range_1 ⟨.ref s.heap.objs.size, upd H s.heap.objs.size (.rng 0 j), I.laid (t' := s.toks + 1 + 1) (fun b o e => Heap.get?_push_of_some _ e) (Nat.le_refl _) ⟨s.toks, t, s.toks + 1, Heap.get?_push_size _ rfl⟩, rfl, q _ (I.hok.fresh (Nat.le_refl _))⟩
theorem cr_listRng (hc : X.calm = true) : CallR X (.type "list") (fun vs H Q => ∃ p i j, vs = [V.ref p] ∧ H p = some (.rng i j) ∧ -4000 ≤ i ∧ i ≤ 4000 ∧ -4000 ≤ j ∧ j ≤ 4000 ∧ ∀ l, H l = none → Q (.ref l) (upd H l (.lst (rngV i (j - i).toNat)))) := by
  intro pins s σ H vs us Q I r h
  obtain ⟨p, i, j, rfl, hp, b1, b2, b3, b4, q⟩ := h
  obtain ⟨u, rfl, rx⟩ := vals1 r
  cases rx
  obtain ⟨t, u, v, ho⟩ := I.hok p _ hp
  have hn : Builtin.Range.rangeSize i j 1 = ((j - i).toNat : Nat) := by
    rw [rangeSize_one]
    split <;> omega
  have hs : Builtin.Range.small i j 1 = true := small_one (by omega) (by omega) (by omega) (by omega)
  refine call_list_range (n := (j - i).toNat) (I.ok.hd hc) ho hs hn (by omega) fun h' tk acc c' hk hS hacc => ?_
  have hv : Vals (rngV i (j - i).toNat) acc.toList := by
    have := vals_rng acc.toList i fun j v hv => by
      obtain ⟨t, e⟩ := hacc.2 j v (by simpa using hv)
      exact ⟨t, by rw [e, Int.mul_one]⟩
    rwa [Array.length_toList, hacc.1] at this
  exact ⟨.ref s.heap.objs.size, upd H s.heap.objs.size (.lst (rngV i (j - i).toNat)), I.laid (t' := tk) hk (Nat.le_refl _) (show ObjOk X.prog X.w _ h' _ (.lst _) from ⟨by unfold rngV sizeLine; simp; omega, acc.toList, c', hv, by simpa using hS⟩), rfl, q _ (I.hok.fresh (Nat.le_refl _))⟩
end
section
variable [CTab] {X : Cx} {E : XK} {pos p p2 pos2 : Pos} {e e2 : Expr} {m m' : M D}
def lim4 (i : Int) : Bool := decide (-4000 ≤ i ∧ i ≤ 4000)
def mLstRng1 (m : M D) : M D := fun ρ => bindR (m ρ) fun d ρ => match d with
  | .int j => if lim4 j = true then .ok (.lst (rngD 0 j.toNat)) ρ else .fail
  | _ => .fail
def mLstRng2 (m m' : M D) : M D := fun ρ => bindR (m ρ) fun d ρ => bindR (m' ρ) fun d' ρ => match d, d' with
  | .int i, .int j => if (lim4 i && lim4 j) = true then .ok (.lst (rngD i (j - i).toNat)) ρ else .fail
  | _, _ => .fail
theorem reps_rng {K : PySem.W.Frag} {H : Hp} {Z : Addr → Prop} : ∀ (n : Nat) (a : Int), Reps K H Z (rngD a n) (rngV a n) := fun n a => by
  unfold rngD rngV
  induction List.range n with
  | nil => exact Reps.nil
  | cons i l ih => exact Reps.cons (show V.int _ = V.int _ from rfl) ih
theorem lrng_gen {K : PySem.W.Frag} {c : Cz} {Z : Addr → Prop} {ρ : Env} {σ : St} {H : Hp} {Q : VK} (i : Int) (n : Nat) (r : Rel K c Z ρ σ H) (q : tR K E rD c Z σ H Q (.ok (.lst (rngD i n)) ρ)) {p l : Addr} {o : HO} (hp : H p = none) (hl : upd H p o l = none) : Q (.ref l) (upd (upd H p o) l (.lst (rngV i n))) := by
  have s1 : Same H (upd H p o) := same_upd hp
  exact q.new r (s1.trans (same_upd hl)) (new_lst (fun a z e => r.dom a z (s1.free e)) hl (reps_rng n i))
theorem d_lstRng1 (he : PE X e (tD X.K E m)) (hm : X.mg "list" = none) (hm2 : X.mg "range" = none) (hc : X.calm = true := by rfl) (hg : Gl X "list" := by rfl) (hg2 : Gl X "range" := by rfl) (h1 : starEach [e] X.env = (false, eval e X.env) :: starEach [] X.env := by rfl)
    (h2 : (backTo pos2 (starEach [] X.env)).any (·.1) = false := by rfl) (h3 : starEach [.Call (.Name "range" p2) [e] [] pos2] X.env = (false, eval (.Call (.Name "range" p2) [e] [] pos2) X.env) :: starEach [] X.env := by rfl) (h4 : (backTo pos (starEach [] X.env)).any (·.1) = false := by rfl) :
    PE X (.Call (.Name "list" p) [.Call (.Name "range" p2) [e] [] pos2] [] pos) (tD X.K E (mLstRng1 m)) := by
  refine (pe_callTy (cr_listRng hc) hg hm (by decide +kernel) (pa_cons (pe_callTy cr_range1 hg2 hm2 (by decide +kernel) (pa_cons he pa_nil h1) (by decide) (by decide) h1 h2) pa_nil h3) (by decide) (by decide) h3 h4).imp fun σ H Q h => ?_
  obtain ⟨c, Z, ρ, r, q⟩ := h
  refine ⟨c, Z, ρ, r, q.bind fun d ρ1 v H1 r1 e1 hd q1 => ?_⟩
  cases d <;> first | (exact q1.elim; done) | skip
  rename_i j
  cases (show v = _ from hd)
  by_cases hl : lim4 j = true
  · have q1 : tR X.K E rD c Z σ H1 Q (if lim4 j = true then .ok (.lst (rngD 0 j.toNat)) ρ1 else .fail) := q1
    rw [if_pos hl] at q1
    obtain ⟨l1, l2⟩ := of_decide_eq_true hl
    refine ⟨j, rfl, fun p hp => ⟨p, 0, j, rfl, upd_same, by omega, by omega, l1, l2, fun l hl => ?_⟩⟩
    rw [Int.sub_zero]
    exact lrng_gen 0 _ r1 q1 hp hl
  · have q1 : tR X.K E rD c Z σ H1 Q (if lim4 j = true then .ok (.lst (rngD 0 j.toNat)) ρ1 else .fail) := q1
    rw [if_neg hl] at q1
    exact q1.elim
theorem d_lstRng2 (he : PE X e (tD X.K E m)) (he2 : PE X e2 (tD X.K E m')) (hm : X.mg "list" = none) (hm2 : X.mg "range" = none) (hc : X.calm = true := by rfl) (hg : Gl X "list" := by rfl) (hg2 : Gl X "range" := by rfl) (h1 : starEach [e, e2] X.env = (false, eval e X.env) :: starEach [e2] X.env := by rfl) (h1' : starEach [e2] X.env = (false, eval e2 X.env) :: starEach [] X.env := by rfl)
    (h2 : (backTo pos2 (starEach [e2] X.env)).any (·.1) = false := by rfl) (h3 : starEach [.Call (.Name "range" p2) [e, e2] [] pos2] X.env = (false, eval (.Call (.Name "range" p2) [e, e2] [] pos2) X.env) :: starEach [] X.env := by rfl) (h4 : (backTo pos (starEach [] X.env)).any (·.1) = false := by rfl) :
    PE X (.Call (.Name "list" p) [.Call (.Name "range" p2) [e, e2] [] pos2] [] pos) (tD X.K E (mLstRng2 m m')) := by
  refine (pe_callTy (cr_listRng hc) hg hm (by decide +kernel) (pa_cons (pe_callTy cr_range2 hg2 hm2 (by decide +kernel) (pa_cons he (pa_cons he2 pa_nil h1') h1) (by decide) (by decide) h1 h2) pa_nil h3) (by decide) (by decide) h3 h4).imp fun σ H Q h => ?_
  obtain ⟨c, Z, ρ, r, q⟩ := h
  refine ⟨c, Z, ρ, r, q.bind fun d ρ1 v H1 r1 e1 hd q1 => ⟨c, Z, ρ1, r1, q1.bind fun d2 ρ2 v2 H2 r2 e2 hd2 q2 => ?_⟩⟩
  replace hd := Rep.ext e2 _ _ hd
  cases d <;> first | (exact q2.elim; done) | skip
  rename_i i
  cases d2 <;> first | (exact q2.elim; done) | skip
  rename_i j
  cases (show v = _ from hd)
  cases (show v2 = _ from hd2)
  by_cases hl : (lim4 i && lim4 j) = true
  · have q2 : tR X.K E rD c Z σ H2 Q (if (lim4 i && lim4 j) = true then .ok (.lst (rngD i (j - i).toNat)) ρ2 else .fail) := q2
    rw [if_pos hl] at q2
    obtain ⟨g1, g2⟩ := Bool.and_eq_true_iff.mp hl
    obtain ⟨l1, l2⟩ := of_decide_eq_true g1
    obtain ⟨l3, l4⟩ := of_decide_eq_true g2
    exact ⟨i, j, rfl, fun p hp => ⟨p, i, j, rfl, upd_same, l1, l2, l3, l4, fun l hl => lrng_gen i _ r2 q2 hp hl⟩⟩
  · have q2 : tR X.K E rD c Z σ H2 Q (if (lim4 i && lim4 j) = true then .ok (.lst (rngD i (j - i).toNat)) ρ2 else .fail) := q2
    rw [if_neg hl] at q2
    exact q2.elim
end
end DL
set_option Elab.async false
set_option linter.all false
set_option maxRecDepth 100000
set_option maxHeartbeats 4000000
/-! ### the module's constants -/
namespace DL
open PySem PySem.Spec PyProof.Rows L2
variable [CTab]
mutual
def repB (K : PySem.W.Frag) : D → Value → Bool
  | .int i, .int j _ => decide (j = i)
  | .str x, .str y _ => decide (y = x)
  | .bl b, .bool c => decide (c = b)
  | .non, .none => true
  | .tup l, .ref a => (match K.lookup a with
    | some o => decide (o.cls = .type "tuple") && (match o.data with
      | .seq its _ => decide (its.size ≤ sizeLine) && repBs K l its.toList
      | _ => false)
    | none => false)
  | .rol l, .ref a => (match K.lookup a with
    | some o => decide (o.cls = .type "list") && (o.dict.isNone && (match o.data with
      | .seq its _ => decide (its.size ≤ sizeLine) && repBs K l its.toList
      | _ => false))
    | none => false)
  | _, _ => false
def repBs (K : PySem.W.Frag) : List D → List Value → Bool
  | [], [] => true
  | d :: l, v :: r => repB K d v && repBs K l r
  | _, _ => false
end
mutual
theorem repB_ok {K : PySem.W.Frag} : ∀ (d : D) (v : Value), repB K d v = true → ∃ x : V, RelV x v ∧ ∀ H Z, Rep K H Z d x
  | .int i, v, h => by
    cases v <;> first | (simp [repB] at h; done) | skip
    rename_i j t
    simp only [repB, decide_eq_true_eq] at h
    exact ⟨.int i, ⟨t, by rw [h]⟩, fun _ _ => rfl⟩
  | .str i, v, h => by
    cases v <;> first | (simp [repB] at h; done) | skip
    rename_i j t
    simp only [repB, decide_eq_true_eq] at h
    exact ⟨.str i, ⟨t, by rw [h]⟩, fun _ _ => rfl⟩
  | .bl i, v, h => by
    cases v <;> first | (simp [repB] at h; done) | skip
    rename_i j
    simp only [repB, decide_eq_true_eq] at h
    exact ⟨.bl i, by rw [h]; rfl, fun _ _ => rfl⟩
  | .non, v, h => by
    cases v <;> first | (simp [repB] at h; done) | skip
    exact ⟨.non, rfl, fun _ _ => rfl⟩
  | .tup l, v, h => by
    cases v <;> first | (simp [repB] at h; done) | skip
    rename_i a
    simp only [repB] at h
    cases e : K.lookup a with
    | none => rw [e] at h; cases h
    | some o =>
      rw [e] at h
      simp only [Bool.and_eq_true, decide_eq_true_eq] at h
      obtain ⟨h1, h2⟩ := h
      split at h2
      · rename_i its n hd
        simp only [Bool.and_eq_true, decide_eq_true_eq] at h2
        obtain ⟨xs, r1, r2⟩ := repBs_ok l its.toList h2.2
        refine ⟨.ref a, rfl, fun H Z => ?_⟩
        simp only [Rep]
        exact ⟨a, xs, rfl, .inr ⟨o, its, n, e, h1, hd, h2.1, r1⟩, r2 H Z⟩
      · cases h2
  | .rol l, v, h => by
    cases v <;> first | (simp [repB] at h; done) | skip
    rename_i a
    simp only [repB] at h
    cases e : K.lookup a with
    | none => rw [e] at h; cases h
    | some o =>
      rw [e] at h
      simp only [Bool.and_eq_true, decide_eq_true_eq] at h
      obtain ⟨h1, h3, h2⟩ := h
      split at h2
      · rename_i its n hd
        simp only [Bool.and_eq_true, decide_eq_true_eq] at h2
        obtain ⟨xs, r1, r2⟩ := repBs_ok l its.toList h2.2
        refine ⟨.ref a, rfl, fun H Z => ?_⟩
        simp only [Rep]
        exact ⟨a, xs, rfl, .inr ⟨o, its, n, e, h1, by simpa using h3, hd, h2.1, r1⟩, r2 H Z⟩
      · cases h2
  | .lst l, v, h => by cases v <;> simp [repB] at h
  | .dct ks l, v, h => by cases v <;> simp [repB] at h
  | .ob c l, v, h => by cases v <;> simp [repB] at h
theorem repBs_ok {K : PySem.W.Frag} : ∀ (l : List D) (vs : List Value), repBs K l vs = true → ∃ xs : List V, Vals xs vs ∧ ∀ H Z, Reps K H Z l xs
  | [], [], _ => ⟨[], .nil, fun _ _ => Reps.nil⟩
  | [], _ :: _, h => by simp [repBs] at h
  | _ :: _, [], h => by simp [repBs] at h
  | d :: l, v :: vs, h => by
    simp only [repBs, Bool.and_eq_true] at h
    obtain ⟨x, h1, h2⟩ := repB_ok d v h.1
    obtain ⟨xs, h3, h4⟩ := repBs_ok l vs h.2
    exact ⟨x :: xs, .cons h1 h3, fun H Z => Reps.cons (h2 H Z) (h4 H Z)⟩
end
def constB (K : PySem.W.Frag) (x : Str) (d : D) : Bool := match PySem.W.nsIn K mainGlobals x with
  | some (some v) => repB K d v
  | _ => false
theorem const_ok {K : PySem.W.Frag} {h : Heap} {mg : Str → Option Value} (X : K.In h) (G : h.Ns mainGlobals mg) {x : Str} {d : D} (c : constB K x d = true) : ∃ p : V × Value, mg x = some p.2 ∧ RelV p.1 p.2 ∧ ∀ H Z, Rep K H Z d p.1 := by
  unfold constB at c
  split at c
  · rename_i v e
    obtain ⟨y, h1, h2⟩ := repB_ok d v c
    exact ⟨(y, v), PySem.W.mg_of X G e, h1, h2⟩
  · cases c
end DL
set_option Elab.async false
set_option linter.all false
set_option maxRecDepth 100000
set_option maxHeartbeats 4000000
/-! ### things of one's own are looked at: a scalar comes of it -/
namespace DL
open PySem PySem.Spec PyProof.Rows L2
variable [CTab]
def frzW : W → W
  | .val d => .val d
  | .own t => .val t.toD
  | .inn t => .val t.toD
def frzE (ρ : Env) : Env := ρ.map (Option.map frzW)
def mLook (m : M D) : M D := fun ρ => match m (frzE ρ) with
  | .ok d _ => if d.sc.isSome = true then .ok d ρ else .fail
  | _ => .fail
def mLookT (m : M Bool) : M Bool := fun ρ => match m (frzE ρ) with
  | .ok b _ => .ok b ρ
  | _ => .fail
/-- nothing may be changed -/
def czNo (H : Hp) : Cz := ⟨fun _ => none, H, fun _ => False, [], []⟩
section
variable {K : PySem.W.Frag} {c : Cz} {Z : Addr → Prop} {ρ : Env} {σ : St} {H H' : Hp}
theorem frzE_at {i : Nat} {d : D} (h : (frzE ρ)[i]? = some (some (.val d))) : ρ[i]? = some (some (.val d)) ∨ ∃ t w, ρ[i]? = some (some w) ∧ Hold w t ∧ d = t.toD := by
  unfold frzE at h
  rw [List.getElem?_map] at h
  cases e : ρ[i]? with
  | none => rw [e] at h; cases h
  | some o =>
    rw [e] at h
    cases o with
    | none => cases h
    | some w =>
      cases w with
      | val d' => cases h; exact .inl rfl
      | own t => cases h; exact .inr ⟨t, _, rfl, .own t, rfl⟩
      | inn t => cases h; exact .inr ⟨t, _, rfl, .inn t, rfl⟩
theorem frzE_no {i : Nat} {t : Ct} : ¬ (frzE ρ)[i]? = some (some (.own t)) ∧ ¬ (frzE ρ)[i]? = some (some (.inn t)) := by
  unfold frzE
  rw [List.getElem?_map]
  cases ρ[i]? with
  | none => exact ⟨fun h => (by cases h), fun h => (by cases h)⟩
  | some o =>
    cases o with
    | none => exact ⟨fun h => (by cases h), fun h => (by cases h)⟩
    | some w => cases w <;> exact ⟨fun h => (by cases h), fun h => (by cases h)⟩
theorem Rel.look (r : Rel K c Z ρ σ H) : Rel K (czNo H) (fun _ => False) (frzE ρ) σ H where
  frame := fun a o _ e => e
  keep := fun a e => e
  base := fun a z => z.elim
  len := by unfold frzE; rw [List.length_map]; exact r.len
  dom := fun a z => z.elim
  val := fun i d h => by
    rcases frzE_at h with h | ⟨t, w, h1, h2, rfl⟩
    · obtain ⟨v, h1, h2⟩ := r.val i d h
      exact ⟨v, h1, h2.zed fun _ _ _ _ z => z⟩
    · obtain ⟨p, g1, g2, o, g3, g4⟩ := r.hold h1 h2
      exact ⟨.ref p, g1, CtHO.toD (fun z => z) g3 (g4.zed fun _ _ _ _ z => z)⟩
  own := fun i t h => (frzE_no.1 h).elim
  inn := fun i t h => (frzE_no.2 h).elim
  inj := fun i j p ⟨t, h⟩ => (h.elim frzE_no.1 frzE_no.2).elim
  xs := fun q hq => by cases hq
  hd := fun q hq => by cases hq
theorem sc_repZ {d : D} {v : V} {Z' : Addr → Prop} (h : d.sc.isSome = true) (r : Rep K H Z d v) : Rep K H Z' d v := by
  cases d <;> first | exact r | (cases h; done)
end
section
variable {X : Cx} {E : XK} {e : Expr}
theorem look_ext {H H' : Hp} (h : Ext (fun _ => False) H H') : Same H H' := fun a o e => h a o (fun z => z) e
theorem d_look {m : M D} (h : PE X e (tD X.K E m)) : PE X e (tD X.K E (mLook m)) := by
  refine h.imp fun σ H Q h => ?_
  obtain ⟨c, Z, ρ, r, q⟩ := h
  refine ⟨_, _, _, r.look, ?_⟩
  have q : tR X.K E rD c Z σ H Q (match m (frzE ρ) with
    | .ok d _ => if d.sc.isSome = true then .ok d ρ else .fail
    | _ => .fail) := q
  cases em : m (frzE ρ) with
  | fail => rw [em] at q; exact q.elim
  | exc x l ρ' => rw [em] at q; exact q.elim
  | ok d ρ' =>
    rw [em] at q
    intro b H' r' ex hb
    simp only at q
    split at q
    · rename_i hs
      have s := look_ext ex
      exact q b H' (r.same s) (Ext.same s) (sc_repZ hs hb)
    · exact q.elim
theorem dt_look {m : M Bool} (h : PT X e (tT X.K E m)) : PT X e (tT X.K E (mLookT m)) := by
  refine h.imp fun σ H Q h => ?_
  obtain ⟨c, Z, ρ, r, q⟩ := h
  refine ⟨_, _, _, r.look, ?_⟩
  have q : tR X.K E rB c Z σ H Q (match m (frzE ρ) with
    | .ok b _ => .ok b ρ
    | _ => .fail) := q
  cases em : m (frzE ρ) with
  | fail => rw [em] at q; exact q.elim
  | exc x l ρ' => rw [em] at q; exact q.elim
  | ok d ρ' =>
    rw [em] at q
    intro b H' r' ex hb
    have s := look_ext ex
    exact q b H' (r.same s) (Ext.same s) hb
@[simp] theorem ev_mLook (m : M D) (ρ : Env) : mLook m ρ = (match m (frzE ρ) with
  | .ok d _ => if d.sc.isSome = true then .ok d ρ else .fail
  | _ => .fail) := rfl
@[simp] theorem ev_mLookT (m : M Bool) (ρ : Env) : mLookT m ρ = (match m (frzE ρ) with
  | .ok b _ => .ok b ρ
  | _ => .fail) := rfl
@[simp] theorem frzE_nil : frzE [] = [] := rfl
@[simp] theorem frzE_cons (o : Option W) (ρ : Env) : frzE (o :: ρ) = o.map frzW :: frzE ρ := rfl
@[simp] theorem frzW_val (d : D) : frzW (.val d) = .val d := rfl
@[simp] theorem frzW_own (t : Ct) : frzW (.own t) = .val t.toD := rfl
@[simp] theorem frzW_inn (t : Ct) : frzW (.inn t) = .val t.toD := rfl
end
end DL
set_option Elab.async false
set_option linter.all false
set_option maxRecDepth 100000
set_option maxHeartbeats 4000000
/-! ### or, and of any values -/
namespace DL
open PySem PySem.Spec PyProof.Rows L2
variable [CTab]
def mOrG (ma mb : M D) : M D := fun ρ => bindR (ma ρ) fun d ρ => match dTru d with
  | some true => .ok d ρ
  | some false => mb ρ
  | none => .fail
def mAndG (ma mb : M D) : M D := fun ρ => bindR (ma ρ) fun d ρ => match dTru d with
  | some true => mb ρ
  | some false => .ok d ρ
  | none => .fail
section
variable {X : Cx} {E : XK} {pos : Pos} {a b : Expr} {rest : List Expr} {ma mb : M D}
theorem d_orG (ha : PE X a (tD X.K E ma)) (hb : PE X (.BoolOp .Or (b :: rest) pos) (tD X.K E mb)) : PE X (.BoolOp .Or (a :: b :: rest) pos) (tD X.K E (mOrG ma mb)) := by
  refine (pe_orT ha hb).imp fun σ H Q h => ?_
  obtain ⟨c, Z, ρ, r, q⟩ := h
  refine ⟨c, Z, ρ, r, q.bind fun d ρ1 v H1 r1 e1 h1 q1 => ?_⟩
  split at q1
  · rename_i hk
    exact ⟨true, tru_ok' hk h1, by rw [if_pos rfl]; exact q1.done r1 h1⟩
  · rename_i hk
    exact ⟨false, tru_ok' hk h1, by rw [if_neg (by decide)]; exact ⟨c, Z, ρ1, r1, q1⟩⟩
  · exact q1.elim
theorem d_andG (ha : PE X a (tD X.K E ma)) (hb : PE X (.BoolOp .And (b :: rest) pos) (tD X.K E mb)) : PE X (.BoolOp .And (a :: b :: rest) pos) (tD X.K E (mAndG ma mb)) := by
  refine (pe_andT ha hb).imp fun σ H Q h => ?_
  obtain ⟨c, Z, ρ, r, q⟩ := h
  refine ⟨c, Z, ρ, r, q.bind fun d ρ1 v H1 r1 e1 h1 q1 => ?_⟩
  split at q1
  · rename_i hk
    exact ⟨true, tru_ok' hk h1, by rw [if_pos rfl]; exact ⟨c, Z, ρ1, r1, q1⟩⟩
  · rename_i hk
    exact ⟨false, tru_ok' hk h1, by rw [if_neg (by decide)]; exact q1.done r1 h1⟩
  · exact q1.elim
end
@[simp] theorem ev_mOrG (ma mb : M D) (ρ : Env) : mOrG ma mb ρ = (bindR (ma ρ) fun d ρ => match dTru d with
  | some true => .ok d ρ
  | some false => mb ρ
  | none => .fail) := rfl
@[simp] theorem ev_mAndG (ma mb : M D) (ρ : Env) : mAndG ma mb ρ = (bindR (ma ρ) fun d ρ => match dTru d with
  | some true => mb ρ
  | some false => .ok d ρ
  | none => .fail) := rfl
end DL
set_option Elab.async false
set_option linter.all false
set_option maxRecDepth 100000
set_option maxHeartbeats 4000000
/-! ### sorted(a tuple of texts) -/
namespace DL
open PySem PySem.Spec PyProof.Rows L2
def rSortedTu (K : PySem.W.Frag) : List V → Hp → VK → Prop := fun vs H Q => ∃ (a : Addr) (xs : List Str), vs = [V.ref a] ∧ SqT K H a (xs.map V.str) ∧ xs.length < 64 ∧ ∀ (ys : List Str) (p : Addr), ys.Perm xs → PyProof.Rows.sortedS ys = true → H p = none → Q (.ref p) (upd H p (.lst (ys.map V.str)))
theorem cr_sortedTu {X : Cx} : CallR X (.builtin "sorted") (rSortedTu X.K) := by
  intro pins s σ H vs us Q I r h
  obtain ⟨a, xs, rfl, hs, h64, q⟩ := h
  obtain ⟨its, rv, ⟨o, ho, hc, n, hd⟩, hz⟩ := I.tuple hs
  rw [Vals.ref1 r]
  have hS := rv.strs
  have hl : its.length = xs.length := by rw [← rv.length, List.length_map]
  refine Calls.call_function_entry PyProof.Rows.kind_sorted PyProof.Rows.plain_sorted PyProof.Rows.entry_sorted (PyProof.Rows.args_sorted1 _) ?_
  unfold Builtin.«sorted»
  refine wpAny_bind (m := checkCount "sorted" 1 1 _) (wpAny_pure ?_)
  have hsz : its.length ≤ sizeLine := by rw [hl]; exact Nat.le_trans (Nat.le_of_lt h64) (by decide)
  refine wpAny_bind (wpAny_collect_seq a (.inr rfl) ho hc hd (fun h' hk => ?_) (by simpa using hsz))
  rw [List.toList_toArray]
  have I1 : Inv X pins σ H { s with heap := h' } := I.kept (t' := s.toks) hk
  refine wpAny_bind (wpAny_newList ?_ hsz)
  have hL : (h'.push (seqObj "list" its.toArray 0)).get? h'.objs.size = some (seqObj "list" its.toArray 0) := Heap.get?_push_size _ rfl
  show wpAny _ _ _ _ _ { s with heap := h'.push (seqObj "list" its.toArray 0) }
  refine wpAny_bind (wpAny_holding (wpAny_call_entry PyProof.Rows.slot_list_sort ⟨_, hL, rfl⟩ PyProof.Rows.entry_list_sort
    (list_sort_treeK strKind_oneLt (s := { s with heap := h'.push (seqObj "list" its.toArray 0) }) hL hS.keysOf (fun v₁ v₂ rest e => keyKind_strs (by rw [← e]; exact hS)) (by rw [hl]; exact h64) fun st' hp hs' => ⟨_, rfl, ?_⟩)
    (PyProof.Rows.args_list_sort _)))
  obtain ⟨ys, g1, g2, g3⟩ := sorted_out_str hS hp hs'
  obtain ⟨e', he'⟩ := PyProof.Rows.sortedHeap_at (vs := its) (out := (arrOf st').map (·.2)) hL
  have hlen : (ys.map V.str).length ≤ sizeLine := by
    rw [List.length_map, g2.length_eq, ← hl]
    exact hsz
  refine wpAny_pure ⟨_, rfl, .ref h'.objs.size, upd H h'.objs.size (.lst (ys.map V.str)), I1.laid (t' := s.toks) (fun b u e => ?_) (Nat.le_refl _)
    (show ObjOk X.prog X.w _ _ _ (.lst (ys.map V.str)) from ⟨hlen, ((arrOf st').map (·.2)).toList, e', vals_of_strs g1, by rw [Array.toArray_toList]; exact he'⟩), rfl, q ys _ g2 g3 (I1.hok.fresh (Nat.le_refl _))⟩
  have hb : b < h'.objs.size := Heap.lt_size e
  rw [PyProof.Rows.sortedHeap_old (Nat.ne_of_lt hb) (by rw [size_push']; exact Nat.lt_succ_of_lt hb)]
  exact Heap.get?_push_of_some _ e
variable [CTab]
def fSortedX : List D → Option D
  | [.tup l] => (dStrs l).bind fun ss => if ss.length < 64 then some (.lst ((isort leS ss).map .str)) else none
  | l => fSorted l
theorem ca_sortedX {K : PySem.W.Frag} : CaD K (fun xs H Q => (rSortedI K xs H Q ∨ rSortedS K xs H Q) ∨ rSortedTu K xs H Q) fSortedX := by
  intro H Z l d xs Q hz r h k
  unfold fSortedX at h
  split at h
  · rename_i ds
    obtain ⟨v, rfl, h1⟩ := r.inv1
    cases e5 : dStrs ds with
    | none => rw [e5] at h; cases h
    | some ss =>
      rw [e5] at h
      simp only [Option.bind_some] at h
      split at h
      · rename_i h64
        cases h
        simp only [Rep] at h1
        obtain ⟨p, vs, rfl, h2, h3⟩ := h1
        cases dStrs_rep e5 h3
        refine .inr ⟨p, ss, rfl, h2.sq, h64, fun ys q hp hs hq => ?_⟩
        have e4 : ys = isort leS ss := List.Perm.eq_of_pairwise (le := fun a b => leS a b = true) (fun a b _ _ q1 q2 => leS_anti a b q1 q2) (sortedS_pw hs) (isort_pw leS_tr leS_tot ss) (hp.trans (isort_perm ss).symm)
        subst e4
        exact k _ _ (same_upd hq) (new_lst hz hq (reps_strs _))
      · cases h
  · exact .inl (ca_sorted H Z _ d xs Q hz r h k)
theorem call_sortedX {X : Cx} : CallR X (.builtin "sorted") (fun xs H Q => (rSortedI X.K xs H Q ∨ rSortedS X.K xs H Q) ∨ rSortedTu X.K xs H Q) := call_sortedA.or cr_sortedTu
end DL
set_option Elab.async false
set_option linter.all false
set_option maxRecDepth 100000
set_option maxHeartbeats 4000000
/-! ### list(d.values()) -/
namespace DL
open PySem PySem.Spec PyProof.Rows L2
def tLstVals (td : TE) : TE := fun σ H Q => td σ H fun x H1 => ∃ a kvs, x = V.ref a ∧ Rd H1 a (.dK kvs) ∧ kvs.length ≤ 4000 ∧ ∀ l, H1 l = none → Q (.ref l) (upd H1 l (.lst (kvs.map (·.2))))
theorem pe_lstVals {X : Cx} {o : Expr} {p pos apos mpos : Pos} {td : TE} (hc : X.calm = true) (hg : Gl X "list") (hm : X.mg "list" = none) (hd : PE X o td) (hbase : attributeBase o "values" X.env (eval o X.env) = eval o X.env) (hline : (apos.endLine == mpos.line) = true)
    (na : starEach [.Call (.Attribute o "values" apos) [] [] mpos] X.env = (false, eval (.Call (.Attribute o "values" apos) [] [] mpos) X.env) :: starEach [] X.env) :
    PE X (.Call (.Name "list" p) [.Call (.Attribute o "values" apos) [] [] mpos] [] pos) (tLstVals td) := by
  constructor
  intro pins s σ H Q I h
  refine Call_ (ld_blt I hg hm (u := .type "list") (by decide +kernel) ?_)
  refine PyProof.Rows.callWith_type1 (PyProof.Rows.args_cons ?_ na) na rfl
  refine wpAny_Call_method0_late hbase hline (thn (hd.run pins s σ H _ I h) fun v s1 ⟨x, H1, I1, r1, a, kvs, ex, ha, hz, q⟩ => ?_)
  subst ex
  obtain rfl : v = Value.ref a := r1
  obtain ⟨_, hsys, vs, rel, dof⟩ := dk_rd I1.hok ha
  obtain ⟨ep, dat⟩ := dof.dictAt
  have dat' := dat
  obtain ⟨ob, es, ho, ex, hdat, hko, hpr, hnd⟩ := dat'
  refine ⟨"dict", "dict.values", F.plainAttrs_dict, F.slot_dict_values, F.type_dict_values, ⟨ob, ho, ex.1⟩, fun b e => ?_, Calls.callWith_builtin rfl (PySem.evalArgs_none ?_)⟩
  · cases e
    exact ⟨ob, ho, ex.2.1⟩
  refine call_meetsIn F.slot_dict_values ⟨ob, ho, ex.1⟩ F.entry_dict_values (F.args_dict_values_1 _) (meets_dict_values (mixKind X.prog X.w) a hsys) ⟨⟨vs, dof⟩, ?_⟩
  have k1 : ∀ b u, s1.heap.get? b = some u → (s1.heap.push { cls := .type "dict_values", data := .fields #[.ref a] }).get? b = some u := fun b u e => Heap.get?_push_of_some _ e
  have dat1 : (s1.heap.push { cls := .type "dict_values", data := .fields #[.ref a] }).DictAt (mixKind X.prog X.w) a vs ep := dat.keep k1
  refine PyProof.Rows.args_nil ?_
  have hl : kvs.length = vs.length := Paired.length rel
  have I2 : Inv X pins σ H1 { s1 with heap := s1.heap.push { cls := .type "dict_values", data := .fields #[.ref a] } } := I1.kept (t' := s1.toks) k1
  have hz2 : vs.length ≤ sizeLine := by rw [← hl]; exact Nat.le_trans hz (by decide)
  refine PySem.W.kdl_call (s := { s1 with heap := s1.heap.push { cls := .type "dict_values", data := .fields #[.ref a] } }) (PySem.W.kdl_values (knd := mixKind X.prog X.w) (kvs := vs) (ep := ep) (d := a) (r := s1.heap.objs.size)) (I.ok.hd hc) ⟨⟨_, Heap.get?_push_size _ rfl, rfl, rfl⟩, dat1⟩ hz2 fun h' tk acc c' hk hS hacc => ?_
  refine ⟨.ref _, upd H1 _ (.lst (kvs.map (·.2))), I2.laid (t' := tk) hk (Nat.le_refl _) (show ObjOk X.prog X.w _ h' _ (.lst (kvs.map (·.2))) from ⟨by rw [List.length_map, hl]; exact hz2, acc.toList, c', ?_, by rw [Array.toArray_toList]; exact hS⟩), rfl, q _ (I2.hok.fresh (Nat.le_refl _))⟩
  have hal : acc.toList.length = acc.size := by simp
  refine vals_of_at (by rw [List.length_map, hal, hacc.1, hl]) fun j x w h1 h2 => ?_
  obtain ⟨k, hk2⟩ := hacc.2 j w (by rw [← Array.getElem?_toList]; exact h2)
  obtain ⟨y, g1, g2⟩ := KV.at' rel hk2
  rw [List.getElem?_map, g1] at h1
  cases h1
  exact g2
variable [CTab]
def dValsL : D → Option D
  | .dct ks l => if l.length ≤ 4000 then some (.lst l) else none
  | _ => none
theorem d_lstVals {X : Cx} {E : XK} {o : Expr} {m : M D} {p pos apos mpos : Pos} (hd : PE X o (tD X.K E m)) (hm : X.mg "list" = none) (hc : X.calm = true := by rfl) (hg : Gl X "list" := by rfl) (hbase : attributeBase o "values" X.env (eval o X.env) = eval o X.env := by rfl) (hline : (apos.endLine == mpos.line) = true := by rfl)
    (na : starEach [.Call (.Attribute o "values" apos) [] [] mpos] X.env = (false, eval (.Call (.Attribute o "values" apos) [] [] mpos) X.env) :: starEach [] X.env := by rfl) :
    PE X (.Call (.Name "list" p) [.Call (.Attribute o "values" apos) [] [] mpos] [] pos) (tD X.K E (m1 dValsL m)) := by
  refine (pe_lstVals hc hg hm hd hbase hline na).imp fun σ H Q h => ?_
  obtain ⟨c, Z, ρ, r, q⟩ := h
  refine ⟨c, Z, ρ, r, q.bind fun d ρ1 v H1 r1 e1 h1 q1 => ?_⟩
  obtain ⟨w, hw, k⟩ := q1.lift r1
  replace h1 : Rep X.K H1 Z d v := h1
  cases d <;> first | (cases hw; done) | skip
  rename_i ks l
  simp only [dValsL] at hw
  split at hw
  · rename_i hz
    cases hw
    simp only [Rep] at h1
    obtain ⟨a, vs, rfl, hza, hrd, hlen, hr⟩ := h1
    have hl2 := hr.len
    have e : (ks.zip vs).map (·.2) = vs := by
      rw [List.map_snd_zip]
      omega
    refine ⟨a, ks.zip vs, rfl, hrd, by rw [List.length_zip]; omega, fun q hq => ?_⟩
    rw [e]
    exact k _ _ (same_upd hq) (new_lst r1.dom hq hr)
  · cases hw
@[simp] theorem dValsL_dct (ks : List Key) (l : List D) : dValsL (.dct ks l) = if l.length ≤ 4000 then some (.lst l) else none := rfl
end DL
set_option Elab.async false
set_option linter.all false
set_option maxRecDepth 100000
set_option maxHeartbeats 4000000
/-! ### tuple(range(..)) -/
namespace DL
open PySem PySem.Spec PyProof.Rows L2
variable [CTab] {X : Cx} {E : XK} {pos p p2 pos2 : Pos} {e e2 : Expr} {m m' : M D}
def mTupRng1 (m : M D) : M D := fun ρ => bindR (m ρ) fun d ρ => match d with
  | .int j => if lim4 j = true then .ok (.tup (rngD 0 j.toNat)) ρ else .fail
  | _ => .fail
def mTupRng2 (m m' : M D) : M D := fun ρ => bindR (m ρ) fun d ρ => bindR (m' ρ) fun d' ρ => match d, d' with
  | .int i, .int j => if (lim4 i && lim4 j) = true then .ok (.tup (rngD i (j - i).toNat)) ρ else .fail
  | _, _ => .fail
theorem d_tupRng1 (he : PE X e (tD X.K E m)) (hm : X.mg "tuple" = none) (hm2 : X.mg "range" = none) (hc : X.calm = true := by rfl) (hg : Gl X "tuple" := by rfl) (hg2 : Gl X "range" := by rfl) (h1 : starEach [e] X.env = (false, eval e X.env) :: starEach [] X.env := by rfl)
    (h3 : starEach [.Call (.Name "range" p2) [e] [] pos2] X.env = (false, eval (.Call (.Name "range" p2) [e] [] pos2) X.env) :: starEach [] X.env := by rfl) :
    PE X (.Call (.Name "tuple" p) [.Call (.Name "range" p2) [e] [] pos2] [] pos) (tD X.K E (mTupRng1 m)) := by
  refine (pe_tupRg hc hg hm (prg_1 hg2 hm2 he h1) h3).imp fun σ H Q h => ?_
  obtain ⟨c, Z, ρ, r, q⟩ := h
  refine ⟨c, Z, ρ, r, q.bind fun d ρ1 v H1 r1 e1 hd q1 => ?_⟩
  cases d <;> first | (exact q1.elim; done) | skip
  rename_i j
  cases (show v = _ from hd)
  by_cases hl : lim4 j = true
  · have q1 : tR X.K E rD c Z σ H1 Q (if lim4 j = true then .ok (.tup (rngD 0 j.toNat)) ρ1 else .fail) := q1
    rw [if_pos hl] at q1
    obtain ⟨l1, l2⟩ := of_decide_eq_true hl
    refine ⟨j, rfl, ⟨by omega, by omega, by omega, by omega, by omega⟩, fun q hq => ?_⟩
    have := q1.new r1 (same_upd hq) (new_tup r1.dom hq (reps_rng j.toNat 0))
    have e : rgV 0 j = rngV 0 j.toNat := by unfold rgV rngV; rw [Int.sub_zero]
    rw [e]
    exact this
  · have q1 : tR X.K E rD c Z σ H1 Q (if lim4 j = true then .ok (.tup (rngD 0 j.toNat)) ρ1 else .fail) := q1
    rw [if_neg hl] at q1
    exact q1.elim
theorem d_tupRng2 (he : PE X e (tD X.K E m)) (he2 : PE X e2 (tD X.K E m')) (hm : X.mg "tuple" = none) (hm2 : X.mg "range" = none) (hc : X.calm = true := by rfl) (hg : Gl X "tuple" := by rfl) (hg2 : Gl X "range" := by rfl) (h1 : starEach [e, e2] X.env = (false, eval e X.env) :: starEach [e2] X.env := by rfl) (h1' : starEach [e2] X.env = (false, eval e2 X.env) :: starEach [] X.env := by rfl)
    (h2 : (backTo pos2 (starEach [e2] X.env)).any (·.1) = false := by rfl) (h3 : starEach [.Call (.Name "range" p2) [e, e2] [] pos2] X.env = (false, eval (.Call (.Name "range" p2) [e, e2] [] pos2) X.env) :: starEach [] X.env := by rfl) :
    PE X (.Call (.Name "tuple" p) [.Call (.Name "range" p2) [e, e2] [] pos2] [] pos) (tD X.K E (mTupRng2 m m')) := by
  refine (pe_tupRg hc hg hm (prg_2 hg2 hm2 he he2 h1 h1' h2) h3).imp fun σ H Q h => ?_
  obtain ⟨c, Z, ρ, r, q⟩ := h
  refine ⟨c, Z, ρ, r, q.bind fun d ρ1 v H1 r1 e1 hd q1 => ⟨c, Z, ρ1, r1, q1.bind fun d2 ρ2 v2 H2 r2 e2 hd2 q2 => ?_⟩⟩
  replace hd := Rep.ext e2 _ _ hd
  cases d <;> first | (exact q2.elim; done) | skip
  rename_i i
  cases d2 <;> first | (exact q2.elim; done) | skip
  rename_i j
  cases (show v = _ from hd)
  cases (show v2 = _ from hd2)
  by_cases hl : (lim4 i && lim4 j) = true
  · have q2 : tR X.K E rD c Z σ H2 Q (if (lim4 i && lim4 j) = true then .ok (.tup (rngD i (j - i).toNat)) ρ2 else .fail) := q2
    rw [if_pos hl] at q2
    obtain ⟨g1, g2⟩ := Bool.and_eq_true_iff.mp hl
    obtain ⟨l1, l2⟩ := of_decide_eq_true g1
    obtain ⟨l3, l4⟩ := of_decide_eq_true g2
    exact ⟨i, j, rfl, rfl, ⟨by omega, by omega, by omega, by omega, by omega⟩, fun q hq => q2.new r2 (same_upd hq) (new_tup r2.dom hq (reps_rng (j - i).toNat i))⟩
  · have q2 : tR X.K E rD c Z σ H2 Q (if (lim4 i && lim4 j) = true then .ok (.tup (rngD i (j - i).toNat)) ρ2 else .fail) := q2
    rw [if_neg hl] at q2
    exact q2.elim
@[simp] theorem ev_mTupRng1 (m : M D) (ρ : Env) : mTupRng1 m ρ = bindR (m ρ) fun d ρ => match d with
  | .int j => if lim4 j = true then .ok (.tup (rngD 0 j.toNat)) ρ else .fail
  | _ => .fail := rfl
@[simp] theorem ev_mTupRng2 (m m' : M D) (ρ : Env) : mTupRng2 m m' ρ = bindR (m ρ) fun d ρ => bindR (m' ρ) fun d' ρ => match d, d' with
  | .int i, .int j => if (lim4 i && lim4 j) = true then .ok (.tup (rngD i (j - i).toNat)) ρ else .fail
  | _, _ => .fail := rfl
end DL
set_option Elab.async false
set_option linter.all false
set_option maxRecDepth 100000
set_option maxHeartbeats 4000000
namespace DL
open PySem PySem.Spec PyProof.Rows L2
variable [CTab]
/-! ### how the mirror words run -/
/-- what hangs on a value in its type alone: the simplifier leaves that value as it is -/
def Tied {α : Sort u} (_ : α) : Type := Unit
def tie {α : Sort u} (x : α) : Tied x := ()
def bnd {α β : Type} (k : α → Env → Res β) (_ : Tied k) (r : Res α) : Res β := bindR r k
@[simp ↓] theorem bindR_to {α β : Type} (r : Res α) (k : α → Env → Res β) : bindR r k = bnd k (tie k) r := rfl
@[simp] theorem bnd_ok {α β : Type} (a : α) (e : Env) (k : α → Env → Res β) (t : Tied k) : bnd k t (.ok a e) = k a e := Eq.trans rfl rfl
@[simp] theorem bnd_fail {α β : Type} (k : α → Env → Res β) (t : Tied k) : bnd k t .fail = .fail := rfl
@[simp] theorem bnd_exc {α β : Type} (x : Nat) (l : List D) (ρ : Env) (k : α → Env → Res β) (t : Tied k) : bnd k t (.exc x l ρ) = .exc x l ρ := rfl
def seqR (r : Res Fl) (b : M Fl) : Res Fl := match r with
  | .ok .nx ρ1 => b ρ1
  | r => r
def sqn (b : M Fl) (_ : Tied b) (r : Res Fl) : Res Fl := seqR r b
@[simp ↓] theorem seqR_to (r : Res Fl) (b : M Fl) : seqR r b = sqn b (tie b) r := rfl
@[simp] theorem sqn_nx (ρ : Env) (b : M Fl) (t : Tied b) : sqn b t (.ok .nx ρ) = b ρ := Eq.trans rfl rfl
@[simp] theorem sqn_bk (ρ : Env) (b : M Fl) (t : Tied b) : sqn b t (.ok .bk ρ) = .ok .bk ρ := rfl
@[simp] theorem sqn_ct (ρ : Env) (b : M Fl) (t : Tied b) : sqn b t (.ok .ct ρ) = .ok .ct ρ := rfl
@[simp] theorem sqn_rt (d : D) (ρ : Env) (b : M Fl) (t : Tied b) : sqn b t (.ok (.rt d) ρ) = .ok (.rt d) ρ := rfl
@[simp] theorem sqn_fail (b : M Fl) (t : Tied b) : sqn b t .fail = .fail := rfl
theorem seqR_nx (ρ : Env) (b : M Fl) : seqR (.ok .nx ρ) b = b ρ := rfl
theorem seqR_bk (ρ : Env) (b : M Fl) : seqR (.ok .bk ρ) b = .ok .bk ρ := rfl
theorem seqR_ct (ρ : Env) (b : M Fl) : seqR (.ok .ct ρ) b = .ok .ct ρ := rfl
theorem seqR_rt (d : D) (ρ : Env) (b : M Fl) : seqR (.ok (.rt d) ρ) b = .ok (.rt d) ρ := rfl
theorem seqR_fail (b : M Fl) : seqR .fail b = .fail := rfl
@[simp] theorem ev_mSeq (a b : M Fl) (ρ : Env) : mSeq a b ρ = seqR (a ρ) b := by
  unfold mSeq seqR
  rfl
def finR (x : Bool) (ws : List W) (r : Res Fl) : FR := match r with
  | .ok .nx ρ => finE .non ρ ws
  | .ok (.rt d) ρ => finE d ρ ws
  | .exc c l _ => if x = true then .exc c l else .fail
  | _ => .fail
@[simp] theorem finR_nx (x : Bool) (ws : List W) (ρ : Env) : finR x ws (.ok .nx ρ) = finE .non ρ ws := rfl
@[simp] theorem finR_rt (x : Bool) (ws : List W) (d : D) (ρ : Env) : finR x ws (.ok (.rt d) ρ) = finE d ρ ws := rfl
theorem ev_runF (n : Nat) (x : Bool) (m : M Fl) (ws : List W) : runF n x m ws = finR x ws (m (startE n ws)) := by
  unfold runF finR
  rfl
def backR (r : FR) (o : Option Nat) (ρ : Env) : Res D := match r with
  | .fail => .fail
  | .ok d ts => (match putBack ρ o ts with
    | some ρ' => .ok d ρ'
    | none => .fail)
  | .exc c l => match o with
    | none => .exc c l ρ
    | some _ => .fail
def callR (q : Option (List W × Option Nat)) (f : FD) (ρ : Env) : Res D := match q with
  | none => .fail
  | some (ws, o) => backR (f ws) o ρ
@[simp] theorem callR_some (ws : List W) (o : Option Nat) (f : FD) (ρ : Env) : callR (some (ws, o)) f ρ = backR (f ws) o ρ := Eq.trans rfl rfl
@[simp] theorem backR_ok0 (d : D) (ρ : Env) : backR (.ok d []) none ρ = .ok d ρ := Eq.trans rfl rfl
@[simp] theorem backR_ok1 (d : D) (t : Ct) (i : Nat) (ρ : Env) : backR (.ok d [t]) (some i) ρ = (match ρ[i]? with
    | some (some w) => .ok d (ρ.set i (some (w.put t)))
    | _ => .fail) := by
  show (match putBack ρ (some i) [t] with
    | some ρ' => Res.ok d ρ'
    | none => .fail) = _
  unfold putBack
  cases h : ρ[i]? with
  | none => simp only [h]
  | some x => cases x <;> simp only [h]
@[simp] theorem ev_mCall (f : FD) (ms : M (List Ar)) (ρ : Env) : mCall f ms ρ = bindR (ms ρ) fun as ρ => callR (toWs ρ as) f ρ := by
  unfold mCall
  congr 1
def optR (o : Option Env) : Res Fl := match o with
  | some ρ' => .ok .nx ρ'
  | none => .fail
@[simp] theorem optR_some (ρ : Env) : optR (some ρ) = .ok .nx ρ := rfl
@[simp] theorem ev_mAsg (g : MT) (m : M D) (ρ : Env) : mAsg g m ρ = bindR (m ρ) fun d ρ => optR (g d ρ) := by
  unfold mAsg optR
  rfl
@[simp] theorem ev_mVar (i : Nat) (ρ : Env) : mVar i ρ = (match ρ[i]? with
  | some (some (.val d)) => .ok d ρ
  | _ => .fail) := rfl
@[simp] theorem ev_mC (d : D) (ρ : Env) : mC d ρ = (.ok d ρ) := rfl
@[simp] theorem ev_m1 (f : D → Option D) (ma : M D) (ρ : Env) : m1 f ma ρ = (bindR (ma ρ) fun a ρ => liftO (f a) ρ) := rfl
@[simp] theorem ev_m2 (f : D → D → Option D) (ma mb : M D) (ρ : Env) : m2 f ma mb ρ = (bindR (ma ρ) fun a ρ => bindR (mb ρ) fun b ρ => liftO (f a b) ρ) := rfl
@[simp] theorem ev_mSl (ma : M D) (ml mh : Option (M D)) (ρ : Env) : mSl ma ml mh ρ = (bindR (ma ρ) fun a ρ => bindR (mOpt ml ρ) fun lo ρ => bindR (mOpt mh ρ) fun hi ρ => liftO (dCut a lo hi) ρ) := rfl
@[simp] theorem ev_mTest (m : M D) (ρ : Env) : mTest m ρ = (bindR (m ρ) fun d ρ => match d with
  | .bl b => .ok b ρ
  | _ => .fail) := rfl
@[simp] theorem ev_mChain (f g : D → D → Option D) (ma mb mc : M D) (ρ : Env) : mChain f g ma mb mc ρ = (bindR (ma ρ) fun a ρ => bindR (mb ρ) fun b ρ => match f a b with
  | some (.bl true) => bindR (mc ρ) fun c ρ => liftO (g b c) ρ
  | some (.bl false) => .ok (.bl false) ρ
  | _ => .fail) := rfl
@[simp] theorem ev_mTru (m : M D) (ρ : Env) : mTru m ρ = (bindR (m ρ) fun d ρ => liftO (dTru d) ρ) := rfl
@[simp] theorem ev_mAndT (ta tb : M Bool) (ρ : Env) : mAndT ta tb ρ = (bindR (ta ρ) fun k ρ => if k = true then tb ρ else .ok false ρ) := rfl
@[simp] theorem ev_mOrT (ta tb : M Bool) (ρ : Env) : mOrT ta tb ρ = (bindR (ta ρ) fun k ρ => if k = true then .ok true ρ else tb ρ) := rfl
@[simp] theorem ev_mNotT (ta : M Bool) (ρ : Env) : mNotT ta ρ = (bindR (ta ρ) fun k ρ => .ok (!k) ρ) := rfl
@[simp] theorem ev_mAndV (ma mb : M D) (ρ : Env) : mAndV ma mb ρ = (bindR (ma ρ) fun d ρ => match d with
  | .bl true => mb ρ
  | .bl false => .ok (.bl false) ρ
  | _ => .fail) := rfl
@[simp] theorem ev_mOrV (ma mb : M D) (ρ : Env) : mOrV ma mb ρ = (bindR (ma ρ) fun d ρ => match d with
  | .bl false => mb ρ
  | .bl true => .ok (.bl true) ρ
  | _ => .fail) := rfl
@[simp] theorem ev_mNotV (ma : M D) (ρ : Env) : mNotV ma ρ = (bindR (ma ρ) fun d ρ => match dTru d with
  | some k => .ok (.bl (!k)) ρ
  | none => .fail) := rfl
@[simp] theorem ev_mIfE (t : M Bool) (ma mb : M D) (ρ : Env) : mIfE t ma mb ρ = (bindR (t ρ) fun k ρ => if k = true then ma ρ else mb ρ) := rfl
@[simp] theorem ev_mNil (ρ : Env) : mNil  ρ = (.ok [] ρ) := rfl
@[simp] theorem ev_mCons (m : M D) (ms : M (List D)) (ρ : Env) : mCons m ms ρ = (bindR (m ρ) fun d ρ => bindR (ms ρ) fun l ρ => .ok (d :: l) ρ) := rfl
@[simp] theorem ev_mStar (m : M D) (ms : M (List D)) (ρ : Env) : mStar m ms ρ = (bindR (m ρ) fun d ρ => match d.seq with
  | some l => bindR (ms ρ) fun r ρ => .ok (l ++ r) ρ
  | none => .fail) := rfl
@[simp] theorem ev_mLst (ms : M (List D)) (ρ : Env) : mLst ms ρ = (bindR (ms ρ) fun l ρ => if l.length ≤ sizeLine then .ok (.lst l) ρ else .fail) := rfl
@[simp] theorem ev_mTup (ms : M (List D)) (ρ : Env) : mTup ms ρ = (bindR (ms ρ) fun l ρ => if l.length ≤ sizeLine then .ok (.tup l) ρ else .fail) := rfl
@[simp] theorem ev_mCa (f : List D → Option D) (ms : M (List D)) (ρ : Env) : mCa f ms ρ = (bindR (ms ρ) fun l ρ => liftO (f l) ρ) := rfl
@[simp] theorem ev_mANil (ρ : Env) : mANil  ρ = (.ok [] ρ) := rfl
@[simp] theorem ev_mACons (m : M D) (ms : M (List Ar)) (ρ : Env) : mACons m ms ρ = (bindR (m ρ) fun d ρ => bindR (ms ρ) fun l ρ => .ok (.d d :: l) ρ) := rfl
@[simp] theorem ev_mASlot (i : Nat) (ms : M (List Ar)) (ρ : Env) : mASlot i ms ρ = (match holds ρ i with
  | some _ => bindR (ms ρ) fun l ρ => .ok (.s i :: l) ρ
  | none => .fail) := rfl
@[simp] theorem ev_mGet1 (ma mb : M D) (ρ : Env) : mGet1 ma mb ρ = (bindR (ma ρ) fun x ρ => if isDct x = true then bindR (mb ρ) fun y ρ => liftO (dGet1 x y) ρ else .fail) := rfl
@[simp] theorem ev_mGet2 (ma mb mc : M D) (ρ : Env) : mGet2 ma mb mc ρ = (bindR (ma ρ) fun x ρ => if isDct x = true then bindR (mb ρ) fun y ρ => bindR (mc ρ) fun z ρ => liftO (dGet2 x y z) ρ else .fail) := rfl
@[simp] theorem ev_mIndexOf (f : D → D → Option D) (ma mb : M D) (ρ : Env) : mIndexOf f ma mb ρ = (bindR (ma ρ) fun x ρ => if x.lis.isSome = true then bindR (mb ρ) fun y ρ => liftO (f x y) ρ else .fail) := rfl
@[simp] theorem ev_mNew (c : Nat) (g : FD) (ms : M (List Ar)) (ρ : Env) : mNew c g ms ρ = (bindR (ms ρ) fun as ρ => match toWs ρ as with
  | some (ws, none) => (match g (.inn (.ob c []) :: ws) with
    | .ok .non [.ob c' l] => if c' = c then .ok (.ob c l) ρ else .fail
    | .exc x l => .exc x l ρ
    | _ => .fail)
  | _ => .fail) := rfl
@[simp] theorem ev_mSkip (ρ : Env) : mSkip  ρ = (.ok .nx ρ) := rfl
@[simp] theorem ev_mBreak (ρ : Env) : mBreak  ρ = (.ok .bk ρ) := rfl
@[simp] theorem ev_mCont (ρ : Env) : mCont  ρ = (.ok .ct ρ) := rfl
@[simp] theorem ev_mSet (i : Nat) (m : M D) (ρ : Env) : mSet i m ρ = (bindR (m ρ) fun d ρ => .ok .nx (ρ.set i (some (.val d)))) := rfl
@[simp] theorem ev_mRet (m : M D) (ρ : Env) : mRet m ρ = (bindR (m ρ) fun d ρ => .ok (.rt d) ρ) := rfl
@[simp] theorem ev_mRetN (ρ : Env) : mRetN  ρ = (.ok (.rt .non) ρ) := rfl
@[simp] theorem ev_mDo (m : M D) (ρ : Env) : mDo m ρ = (bindR (m ρ) fun _ ρ => .ok .nx ρ) := rfl
@[simp] theorem ev_mIf (t : M Bool) (a b : M Fl) (ρ : Env) : mIf t a b ρ = (bindR (t ρ) fun k ρ => if k = true then a ρ else b ρ) := rfl
@[simp] theorem ev_mFrz (i : Nat) (m : M Fl) (ρ : Env) : mFrz i m ρ = (match ρ[i]? with
  | some (some (.own t)) => m (ρ.set i (some (.val t.toD)))
  | _ => .fail) := rfl
@[simp] theorem ev_mDrop (i : Nat) (m : M Fl) (ρ : Env) : mDrop i m ρ = (m (ρ.set i none)) := rfl
@[simp] theorem ev_oLst (ms : M (List D)) (ρ : Env) : oLst ms ρ = (bindR (ms ρ) fun l ρ => if l.length ≤ sizeLine then .ok (.lst l) ρ else .fail) := rfl
@[simp] theorem ev_oDct (ρ : Env) : oDct  ρ = (.ok (.dct [] []) ρ) := rfl
@[simp] theorem ev_mSetO (i : Nat) (m : M Ct) (ρ : Env) : mSetO i m ρ = (bindR (m ρ) fun t ρ => .ok .nx (ρ.set i (some (.own t)))) := rfl
@[simp] theorem ev_mMut (i : Nat) (f : Ct → D → Option Ct) (m : M D) (ρ : Env) : mMut i f m ρ = (bindR (m ρ) fun d ρ => match ρ[i]? with
  | some (some w) => (match holds ρ i with
    | some t => (match f t d with
      | some t' => .ok .nx (ρ.set i (some (w.put t')))
      | none => .fail)
    | none => .fail)
  | _ => .fail) := rfl
@[simp] theorem ev_mApp (i : Nat) (m : M D) (ρ : Env) : mApp i m ρ = (match holds ρ i with
  | some (.lst _) => mMut i cApp m ρ
  | _ => .fail) := rfl
@[simp] theorem ev_mExt (i : Nat) (m : M D) (ρ : Env) : mExt i m ρ = (match holds ρ i with
  | some (.lst _) => mMut i cExt m ρ
  | _ => .fail) := rfl
@[simp] theorem ev_mAug (i : Nat) (f : D → D → Option D) (m : M D) (ρ : Env) : mAug i f m ρ = (match ρ[i]? with
  | some (some (.val a)) => bindR (m ρ) fun b ρ => (match f a b with
    | some d => .ok .nx (ρ.set i (some (.val d)))
    | none => .fail)
  | _ => .fail) := rfl
@[simp] theorem ev_mTN (i : Nat) (d : D) (ρ : Env) : mTN i d ρ = (some (ρ.set i (some (.val d)))) := rfl
@[simp] theorem ev_mTNil (l : List D) (ρ : Env) : mTNil  l ρ = (match l with
  | [] => some ρ
  | _ => none) := rfl
@[simp] theorem ev_mTCons (g : MT) (gs : MTs) (l : List D) (ρ : Env) : mTCons g gs l ρ = (match l with
  | d :: r => (g d ρ).bind (gs r)
  | _ => none) := rfl
@[simp] theorem ev_mTT (gs : MTs) (d : D) (ρ : Env) : mTT gs d ρ = (match d with
  | .tup l => gs l ρ
  | _ => none) := rfl
@[simp] theorem ev_mPar (i j : Nat) (ms : M (List D)) (ρ : Env) : mPar i j ms ρ = (bindR (ms ρ) fun l ρ => match l with
  | [a, b] => .ok .nx ((ρ.set i (some (.val a))).set j (some (.val b)))
  | _ => .fail) := rfl
@[simp] theorem ev_mItL (m : M D) (ρ : Env) : mItL m ρ = (bindR (m ρ) fun d ρ => liftO d.lis ρ) := rfl
@[simp] theorem ev_mItT (m : M D) (ρ : Env) : mItT m ρ = (bindR (m ρ) fun d ρ => match d with
  | .tup l => .ok l ρ
  | _ => .fail) := rfl
@[simp] theorem ev_mItLT (m : M D) (ρ : Env) : mItLT m ρ = (bindR (m ρ) fun d ρ => liftO d.seq ρ) := rfl
@[simp] theorem ev_mRng1 (m : M D) (ρ : Env) : mRng1 m ρ = (bindR (m ρ) fun d ρ => match d with
  | .int j => if lim62 j = true then .ok (rngD 0 j.toNat) ρ else .fail
  | _ => .fail) := rfl
@[simp] theorem ev_mRng2 (m m' : M D) (ρ : Env) : mRng2 m m' ρ = (bindR (m ρ) fun d ρ => bindR (m' ρ) fun e ρ => match d, e with
  | .int i, .int j => if (lim62 i && lim62 j) = true then .ok (rngD i (j - i).toNat) ρ else .fail
  | _, _ => .fail) := rfl
@[simp] theorem ev_mEnum (m : M D) (ρ : Env) : mEnum m ρ = (bindR (m ρ) fun d ρ => match d.lis with
  | some l => .ok (enumD 0 l) ρ
  | none => .fail) := rfl
@[simp] theorem ev_mZip (m m' : M D) (ρ : Env) : mZip m m' ρ = (bindR (m ρ) fun d ρ => bindR (m' ρ) fun e ρ => match d, e with
  | .tup l, .tup r => .ok (zipD l r) ρ
  | _, _ => (match d.lis, e.lis with
    | some l, some r => .ok (zipD l r) ρ
    | _, _ => .fail)) := rfl
@[simp] theorem ev_mTrue (ρ : Env) : mTrue  ρ = (.ok true ρ) := rfl
@[simp] theorem ev_mLcD (m : M (List D)) (ρ : Env) : mLcD m ρ = (bindR (m ρ) fun l ρ => .ok (.lst l) ρ) := rfl
@[simp] theorem ev_oLc (m : M (List D)) (ρ : Env) : oLc m ρ = (bindR (m ρ) fun l ρ => .ok (.lst l) ρ) := rfl
@[simp] theorem ev_mTruO (bs : List (Nat × FD)) (m : M D) (ρ : Env) : mTruO bs m ρ = (bindR (m ρ) fun d ρ => liftO (obTru bs d) ρ) := rfl
@[simp] theorem ev_mDisp (ms : List (M D × M D)) (ρ : Env) : mDisp ms ρ = (bindR (mPairs ms ρ) fun ps ρ => match mergeD [] [] ps with
  | some (ks, l) => if ps.length ≤ 15 then .ok (.dct ks l) ρ else .fail
  | none => .fail) := rfl
@[simp] theorem ev_mItS (m : M D) (ρ : Env) : mItS m ρ = (bindR (m ρ) fun d ρ => match d with
  | .str x => .ok (signs x) ρ
  | _ => .fail) := rfl
@[simp] theorem ev_mParDO (i j : Nat) (m : M D) (mo : M Ct) (ρ : Env) : mParDO i j m mo ρ = (bindR (m ρ) fun d ρ => bindR (mo ρ) fun t ρ => .ok .nx ((ρ.set i (some (.val d))).set j (some (.own t)))) := rfl
@[simp] theorem ev_mOwnIx (i : Nat) (m : M D) (ρ : Env) : mOwnIx i m ρ = (match holds ρ i with
  | some (.lst _) => bindR (m ρ) fun k ρ => match k, holds ρ i with
    | .int j, some (.lst l) => liftO (L2.atI l j) ρ
    | _, _ => .fail
  | _ => .fail) := rfl
@[simp] theorem ev_mMutNow (i : Nat) (f : Ct → D → Option Ct) (d : D) (ρ : Env) : mMutNow i f d ρ = (match ρ[i]? with
  | some (some w) => (match holds ρ i with
    | some t => (match f t d with
      | some t' => .ok .nx (ρ.set i (some (w.put t')))
      | none => .fail)
    | none => .fail)
  | _ => .fail) := rfl
@[simp] theorem ev_mAugIx (i : Nat) (mi : M D) (f : D → D → Option D) (m : M D) (ρ : Env) : mAugIx i mi f m ρ = (match holds ρ i with
  | some (.lst _) => bindR (mi ρ) fun k ρ => (match k, holds ρ i with
    | .int j, some (.lst l) => if 0 ≤ j ∧ j < 2 ^ 63 then (match L2.atI l j with
      | some d0 => bindR (m ρ) fun d ρ => (match f d0 d with
        | some d' => mMutNow i (cSetAt j) d' ρ
        | none => .fail)
      | none => .fail) else .fail
    | _, _ => .fail)
  | _ => .fail) := rfl
@[simp] theorem ev_mSetIx (i : Nat) (mi m : M D) (ρ : Env) : mSetIx i mi m ρ = (bindR (m ρ) fun d ρ => (match holds ρ i with
  | some (.lst _) => bindR (mi ρ) fun k ρ => (match k, holds ρ i with
    | .int j, some (.lst _) => mMutNow i (cSetAt j) d ρ
    | _, _ => .fail)
  | _ => .fail)) := rfl
@[simp] theorem ev_mOpt_none (ρ : Env) : mOpt none ρ = .ok none ρ := rfl
@[simp] theorem ev_mOpt_some (m : M D) (ρ : Env) : mOpt (some m) ρ = bindR (m ρ) fun d ρ => match d with
  | .int i => .ok (some i) ρ
  | _ => .fail := rfl
@[simp] theorem ev_mFor (mi : M (List D)) (g : MT) (b : M Fl) (ρ : Env) : mFor mi g b ρ = bindR (mi ρ) fun ds ρ => forGo g b ds ρ := rfl
@[simp] theorem ev_mComp (vs : List Nat) (mi : M (List D)) (g : MT) (t : M Bool) (m : M D) (ρ : Env) : mComp vs mi g t m ρ = bindR (mi ρ) fun ds ρ => if (vs.all (notOwn ρ) && decide (ds.length ≤ sizeLine)) = true then lcs (lcIt vs g t m) ds ρ else .fail := rfl
@[simp] theorem ev_mWhile (n : Nat) (t : M Bool) (b : M Fl) (ρ : Env) : mWhile n t b ρ = whileGo t b n ρ := rfl
@[simp] theorem ev_mIs (f : D → Option Bool) (m : M D) (ρ : Env) : mIs f m ρ = bindR (m ρ) fun d ρ => liftO ((f d).map .bl) ρ := rfl
@[simp] theorem ev_mFld (i c j : Nat) (m : M D) (ρ : Env) : mFld i c j m ρ = mMut i (cFld c j) m ρ := rfl
@[simp] theorem ev_mIndex (ma mb : M D) (ρ : Env) : mIndexOf dIndex ma mb ρ = bindR (ma ρ) fun x ρ => if x.lis.isSome = true then bindR (mb ρ) fun y ρ => liftO (dIndex x y) ρ else .fail := rfl
@[simp] theorem ev_mPairs_nil (ρ : Env) : mPairs [] ρ = .ok [] ρ := rfl
@[simp] theorem ev_mPairs_cons (mk mv : M D) (r : List (M D × M D)) (ρ : Env) : mPairs ((mk, mv) :: r) ρ = bindR (mk ρ) fun x ρ => bindR (mv ρ) fun y ρ => bindR (mPairs r ρ) fun l ρ => .ok ((x, y) :: l) ρ := rfl
end DL
set_option Elab.async false
set_option linter.all false
set_option maxRecDepth 100000
set_option maxHeartbeats 4000000
namespace DL
open PySem PySem.Spec PyProof.Rows L2
variable [CTab]
/-! ### values told as data, and their equality -/
/-- a way of telling values of a type as data -/
structure Enc (α : Type) where
  d : α → D
  p : α → PyData
  ok : α → Prop
  dep : Nat
  py : ∀ a, toPy (d a) = some (p a)
  lay : ∀ a, ok a → (p a).canLay0 = true
  depth : ∀ a, (p a).depth ≤ dep
  eqv : ∀ a b, PyData.eqv (p a) (p b) = true ↔ a = b
def eInt : Enc Int := ⟨.int, .int, fun _ => True, 0, fun _ => rfl, fun _ _ => rfl, fun _ => Nat.le_refl _, fun a b => by simp [PyData.eqv]⟩
def eStr : Enc Str := ⟨.str, .str, fun x => PyData.strOk x = true, 0, fun _ => rfl, fun _ h => h, fun _ => Nat.le_refl _, fun a b => by simp [PyData.eqv]⟩
section
variable {α β : Type} (e : Enc α) (e' : Enc β)
theorem Enc.pys : ∀ l : List α, toPys (l.map e.d) = some (l.map e.p)
  | [] => rfl
  | a :: l => by simp [toPys, e.py, Enc.pys l]
theorem Enc.lays : ∀ l : List α, (∀ a ∈ l, e.ok a) → PyData.canLayAll0 (l.map e.p) = true
  | [], _ => rfl
  | a :: l, h => by simp [PyData.canLayAll0, e.lay a (h a (by simp)), Enc.lays l fun b hb => h b (by simp [hb])]
theorem Enc.deps : ∀ l : List α, PyData.depthAll (l.map e.p) ≤ e.dep
  | [] => Nat.zero_le _
  | a :: l => by
    simp only [List.map_cons, PyData.depthAll]
    exact Nat.max_le.mpr ⟨e.depth a, Enc.deps l⟩
theorem Enc.eqvs : ∀ l r : List α, PyData.eqvAll (l.map e.p) (r.map e.p) = true ↔ l = r
  | [], [] => by simp [PyData.eqvAll]
  | [], _ :: _ => by simp [PyData.eqvAll]
  | _ :: _, [] => by simp [PyData.eqvAll]
  | a :: l, b :: r => by simp [PyData.eqvAll, e.eqv, Enc.eqvs l r]
def eLst : Enc (List α) := ⟨fun l => .lst (l.map e.d), fun l => .list (l.map e.p), fun l => ∀ a ∈ l, e.ok a, e.dep + 1, fun l => by simp [toPy, e.pys], fun l h => by simpa [PyData.canLay0] using e.lays l h, fun l => by
  show PyData.depthAll _ + 1 ≤ _
  exact Nat.succ_le_succ (e.deps l), fun a b => by simpa [PyData.eqv] using e.eqvs a b⟩
def eTup : Enc (List α) := ⟨fun l => .tup (l.map e.d), fun l => .tuple (l.map e.p), fun l => ∀ a ∈ l, e.ok a, e.dep + 1, fun l => by simp [toPy, e.pys], fun l h => by simpa [PyData.canLay0] using e.lays l h, fun l => by
  show PyData.depthAll _ + 1 ≤ _
  exact Nat.succ_le_succ (e.deps l), fun a b => by simpa [PyData.eqv] using e.eqvs a b⟩
def ePr : Enc (α × β) := ⟨fun q => .tup [e.d q.1, e'.d q.2], fun q => .tuple [e.p q.1, e'.p q.2], fun q => e.ok q.1 ∧ e'.ok q.2, max e.dep e'.dep + 1, fun q => by simp [toPy, toPys, e.py, e'.py], fun q h => by simp [PyData.canLay0, PyData.canLayAll0, e.lay _ h.1, e'.lay _ h.2], fun q => by
  show PyData.depthAll _ + 1 ≤ _
  simp only [PyData.depthAll]
  have h1 := e.depth q.1
  have h2 := e'.depth q.2
  omega, fun a b => by simp [PyData.eqv, PyData.eqvAll, e.eqv, e'.eqv, Prod.ext_iff]⟩
theorem Enc.shaped {a : α} (h : e.ok a) (hd : e.dep ≤ 64) : SeqAt.shaped (e.p a) = true := by
  unfold SeqAt.shaped
  rw [e.lay a h]
  exact decide_eq_true (Nat.le_trans (e.depth a) hd)
theorem Enc.eqDeep [DecidableEq α] {a b : α} (ha : e.ok a) (hb : e.ok b) (hd : e.dep ≤ 64) : DL.eqDeep (e.d a) (e.d b) = some (decide (a = b)) := by
  unfold DL.eqDeep
  rw [e.py, e.py]
  simp only [e.shaped ha hd, e.shaped hb hd, Bool.and_self, if_true]
  have h := e.eqv a b
  by_cases q : a = b
  · rw [h.mpr q]; simp [q]
  · have : PyData.eqv (e.p a) (e.p b) = false := Bool.eq_false_iff.mpr fun z => q (h.mp z)
    rw [this]; simp [q]
end
section
variable {α β : Type} (e : Enc α) (e' : Enc β)
theorem eq_lst [DecidableEq α] {l r : List α} (ha : ∀ a ∈ l, e.ok a) (hb : ∀ a ∈ r, e.ok a) (hd : e.dep ≤ 63) : eqB (.lst (l.map e.d)) (.lst (r.map e.d)) = some (decide (l = r)) :=
  (eLst e).eqDeep (a := l) (b := r) ha hb (Nat.succ_le_succ hd)
theorem eq_tup [DecidableEq α] {l r : List α} (ha : ∀ a ∈ l, e.ok a) (hb : ∀ a ∈ r, e.ok a) (hd : e.dep ≤ 63) : eqB (.tup (l.map e.d)) (.tup (r.map e.d)) = some (decide (l = r)) :=
  (eTup e).eqDeep (a := l) (b := r) ha hb (Nat.succ_le_succ hd)
end
@[simp] theorem eq_int (a b : Int) : eqB (.int a) (.int b) = some (decide (a = b)) := by
  simp [eqB, D.sc, scal]
@[simp] theorem eq_str (a b : Str) : eqB (.str a) (.str b) = some (decide (a = b)) := by
  simp [eqB, D.sc, scal]
@[simp] theorem eq_bl (a b : Bool) : eqB (.bl a) (.bl b) = some (decide (a = b)) := by
  simp [eqB, D.sc, scal]
/-! ### in -/
theorem scs_strs : ∀ l : List Str, scs (l.map D.str) = some (l.map V.str)
  | [] => rfl
  | a :: l => by simp [scs, D.sc, scs_strs l]
theorem scs_ints : ∀ l : List Int, scs (l.map D.int) = some (l.map V.int)
  | [] => rfl
  | a :: l => by simp [scs, D.sc, scs_ints l]
theorem inV_strs (x : Str) (l : List Str) : inV (.str x) (l.map V.str) = decide (x ∈ l) := by
  induction l with
  | nil => simp [inV]
  | cons a l ih =>
    unfold inV at ih ⊢
    rw [List.map_cons, List.any_cons, ih]
    simp only [eqV]
    by_cases h : a = x
    · subst h; simp
    · have h2 : ¬ x = a := fun z => h z.symm
      have h3 : (a == x) = false := by simpa using h
      simp [h2, h3]
@[simp] theorem in_strs (x : Str) (l : List Str) : dIn (.str x) (.lst (l.map D.str)) = some (.bl (decide (x ∈ l))) := by
  simp [dIn, inB, D.seq, D.sc, scs_strs, inV_strs]
@[simp] theorem in_strsT (x : Str) (l : List Str) : dIn (.str x) (.tup (l.map D.str)) = some (.bl (decide (x ∈ l))) := by
  simp [dIn, inB, D.seq, D.sc, scs_strs, inV_strs]
@[simp] theorem nin_strs (x : Str) (l : List Str) : dNotIn (.str x) (.lst (l.map D.str)) = some (.bl (!decide (x ∈ l))) := by
  simp [dNotIn, inB, D.seq, D.sc, scs_strs, inV_strs]
@[simp] theorem nin_strsT (x : Str) (l : List Str) : dNotIn (.str x) (.tup (l.map D.str)) = some (.bl (!decide (x ∈ l))) := by
  simp [dNotIn, inB, D.seq, D.sc, scs_strs, inV_strs]
/-! ### index -/
theorem idxV_strs (x : Str) : ∀ l : List Str, idxV (.str x) (l.map V.str) = if x ∈ l then some (l.idxOf x) else none
  | [] => rfl
  | a :: l => by
    simp only [List.map_cons, idxV, idxV_strs x l, eqV]
    by_cases h : a = x
    · subst h; simp
    · have h2 : ¬ x = a := fun z => h z.symm
      have h3 : (a == x) = false := by simpa using h
      rw [List.idxOf_cons]
      by_cases hm : x ∈ l <;> simp [h2, h3, hm]
theorem index_strs {x : Str} {l : List Str} (h : x ∈ l) : dIndex (.lst (l.map D.str)) (.str x) = some (.int (l.idxOf x : Nat)) := by
  simp [dIndex, D.lis, D.sc, scs_strs, idxV_strs, h]
/-! ### comprehensions -/
theorem lcs_all {f : D → Env → Res (Option D)} {ρ : Env} (F : D → Option D) : ∀ ds : List D, (∀ d ∈ ds, f d ρ = .ok (F d) ρ) → lcs f ds ρ = .ok (ds.filterMap F) ρ
  | [], _ => rfl
  | d :: ds, h => by
    unfold lcs
    rw [h d (by simp)]
    simp only [lcs_all F ds fun x hx => h x (by simp [hx])]
    cases e : F d <;> simp [e]
/-- over told values: those that pass, each as told by m -/
theorem lcs_enc {α β : Type} {f : D → Env → Res (Option D)} {ρ : Env} (e : α → D) (o : β → D) (F : α → Option β) (l : List α) (h : ∀ a ∈ l, f (e a) ρ = .ok ((F a).map o) ρ) : lcs f (l.map e) ρ = .ok ((l.filterMap F).map o) ρ := by
  induction l with
  | nil => rfl
  | cons a l ih =>
    rw [List.map_cons]
    unfold lcs
    rw [h a (by simp)]
    simp only [ih fun x hx => h x (by simp [hx])]
    cases e : F a <;> simp [e]
theorem dBls_map : ∀ l : List Bool, dBls (l.map D.bl) = some l
  | [] => rfl
  | a :: l => by simp [dBls, dBls_map l]
theorem dStrs_map : ∀ l : List Str, dStrs (l.map D.str) = some l
  | [] => rfl
  | a :: l => by simp [dStrs, dStrs_map l]
@[simp] theorem all_map (l : List Bool) : fAll [.lst (l.map D.bl)] = some (.bl (l.all id)) := by simp [fAll, D.lis, dBls_map]
@[simp] theorem any_map (l : List Bool) : fAny [.lst (l.map D.bl)] = some (.bl (l.any id)) := by simp [fAny, D.lis, dBls_map]
theorem cutD_map {α : Type} (e : α → D) (l : List α) (lo hi : Option Int) : cutD (l.map e) lo hi = ((l.drop (HT.sIx l.length 0 lo)).take (HT.sIx l.length l.length hi - HT.sIx l.length 0 lo)).map e := by
  unfold cutD
  simp [List.map_drop, List.map_take]
theorem enumD_map {α : Type} (e : α → D) : ∀ (l : List α) (k : Nat), enumD k (l.map e) = (l.zipIdx k).map fun q => .tup [.int (q.2 : Nat), e q.1]
  | [], _ => rfl
  | a :: l, k => by simp [enumD, enumD_map e l (k + 1)]
theorem zipD_map {α β : Type} (e : α → D) (f : β → D) : ∀ (l : List α) (r : List β), zipD (l.map e) (r.map f) = (l.zip r).map fun q => .tup [e q.1, f q.2]
  | [], r => by cases r <;> simp [zipD]
  | a :: l, [] => by simp [zipD]
  | a :: l, b :: r => by simp [zipD, zipD_map e f l r]
theorem atI_map {α : Type} (f : α → D) (ns : List α) (i : Int) : L2.atI (ns.map f) i = (L2.atI ns i).map f := by
  unfold L2.atI
  rw [List.length_map]
  cases ixN ns.length i <;> simp
end DL
set_option Elab.async false
set_option linter.all false
set_option maxRecDepth 100000
set_option maxHeartbeats 4000000
namespace DL
open PySem PySem.Spec PyProof.Rows L2
variable [CTab]
/-! ### how the later mirror words run -/
@[simp] theorem ev_mComp2 (vs : List Nat) (mi : M (List D)) (g : MT) (t : M Bool) (vs1 : List Nat) (mi1 : M (List D)) (g1 : MT) (t1 : M Bool) (m : M D) (ρ : Env) : mComp2 vs mi g t vs1 mi1 g1 t1 m ρ = bindR (mi ρ) fun ds ρ => if vs.all (notOwn ρ) = true then (match lcs2 (lcIt2 vs g t vs1 mi1 g1 t1 m) ds ρ with
    | .ok l ρ' => if l.length ≤ sizeLine then .ok l ρ' else .fail
    | _ => .fail) else .fail := rfl
@[simp] theorem ev_mPlain (c : Nat) (ρ : Env) : mPlain c ρ = .ok (.ob c []) ρ := rfl
@[simp] theorem ev_mAsgX (gs : MTs) (m : M D) (ρ : Env) : mAsgX gs m ρ = bindR (m ρ) fun d ρ => match d with
  | .tup l => optR (gs l ρ)
  | _ => .fail := by
  unfold mAsgX optR
  rfl
@[simp] theorem ev_mXN (i : Nat) (gs : MTs) (d : D) (l : List D) (ρ : Env) : mXN i gs (d :: l) ρ = gs l (ρ.set i (some (.val d))) := rfl
@[simp] theorem ev_mXI (i : Nat) (mi : M D) (gs : MTs) (d : D) (l : List D) (ρ : Env) : mXI i mi gs (d :: l) ρ = (match holds ρ i with
    | some (.lst _) => (match mi ρ with
      | .ok (.int j) ρ1 => (match mMutNow i (cSetAt j) d ρ1 with
        | .ok .nx ρ2 => gs l ρ2
        | _ => none)
      | _ => none)
    | _ => none) := rfl
@[simp] theorem ev_mXF (i c j : Nat) (gs : MTs) (d : D) (l : List D) (ρ : Env) : mXF i c j gs (d :: l) ρ = (match mMutNow i (cFld c j) d ρ with
    | .ok .nx ρ1 => gs l ρ1
    | _ => none) := rfl
@[simp] theorem ev_mLstRng1 (m : M D) (ρ : Env) : mLstRng1 m ρ = bindR (m ρ) fun d ρ => match d with
  | .int j => if lim4 j = true then .ok (.lst (rngD 0 j.toNat)) ρ else .fail
  | _ => .fail := rfl
@[simp] theorem ev_mLstRng2 (m m' : M D) (ρ : Env) : mLstRng2 m m' ρ = bindR (m ρ) fun d ρ => bindR (m' ρ) fun d' ρ => match d, d' with
  | .int i, .int j => if (lim4 i && lim4 j) = true then .ok (.lst (rngD i (j - i).toNat)) ρ else .fail
  | _, _ => .fail := rfl
/-! ### statements one behind another -/
theorem seq_nx {a b : M Fl} {ρ ρ1 : Env} {r : Res Fl} (h : a ρ = .ok .nx ρ1) (k : b ρ1 = r) : mSeq a b ρ = r := by
  rw [ev_mSeq, h]
  exact k
theorem seq_to {a b : M Fl} {ρ : Env} {P : Res Fl → Prop} (h : ∃ ρ1, a ρ = .ok .nx ρ1 ∧ P (b ρ1)) : P (mSeq a b ρ) := by
  obtain ⟨ρ1, h1, h2⟩ := h
  rw [ev_mSeq, h1]
  exact h2
theorem seq_rt {a b : M Fl} {ρ ρ1 : Env} {d : D} (h : a ρ = .ok (.rt d) ρ1) : mSeq a b ρ = .ok (.rt d) ρ1 := by
  rw [ev_mSeq, h]
  rfl
/-! ### walks that keep a relation -/
theorem for_rel {α σ : Type} {g : MT} {b : M Fl} (R : σ → Env → Prop) (f : σ → α → σ) (e : α → D) : ∀ (l : List α), (∀ a ∈ l, ∀ s ρ, R s ρ → ∃ ρ1 ρ2, g (e a) ρ = some ρ1 ∧ b ρ1 = .ok .nx ρ2 ∧ R (f s a) ρ2) → ∀ s ρ, R s ρ → ∃ ρ', forGo g b (l.map e) ρ = .ok .nx ρ' ∧ R (l.foldl f s) ρ'
  | [], _, s, ρ, h => ⟨ρ, rfl, h⟩
  | a :: l, k, s, ρ, h => by
    obtain ⟨ρ1, ρ2, h1, h2, h3⟩ := k a (by simp) s ρ h
    obtain ⟨ρ', h4, h5⟩ := for_rel R f e l (fun x hx => k x (by simp [hx])) (f s a) ρ2 h3
    refine ⟨ρ', ?_, h5⟩
    rw [List.map_cons]
    unfold forGo
    rw [h1]
    simp only [h2]
    exact h4
/-- .. each turn goes on -/
theorem for_keep {g : MT} {b : M Fl} (R : Env → Prop) : ∀ (ds : List D), (∀ d ∈ ds, ∀ ρ, R ρ → ∃ ρ1 ρ2, g d ρ = some ρ1 ∧ b ρ1 = .ok .nx ρ2 ∧ R ρ2) → ∀ ρ, R ρ → ∃ ρ', forGo g b ds ρ = .ok .nx ρ' ∧ R ρ'
  | [], _, ρ, h => ⟨ρ, rfl, h⟩
  | d :: ds, k, ρ, h => by
    obtain ⟨ρ1, ρ2, h1, h2, h3⟩ := k d (by simp) ρ h
    obtain ⟨ρ', h4, h5⟩ := for_keep R ds (fun x hx => k x (by simp [hx])) ρ2 h3
    refine ⟨ρ', ?_, h5⟩
    unfold forGo
    rw [h1]
    simp only [h2]
    exact h4
/-- up to the first item at which the body hands back, if there is one -/
theorem for_find {α : Type} {g : MT} {b : M Fl} (R : Env → Prop) (p : α → Bool) (r : α → D) (e : α → D) : ∀ (l : List α), (∀ a ∈ l, ∀ ρ, R ρ → ∃ ρ1 ρ2, g (e a) ρ = some ρ1 ∧ ((p a = false ∧ b ρ1 = .ok .nx ρ2 ∧ R ρ2) ∨ (p a = true ∧ b ρ1 = .ok (.rt (r a)) ρ2))) → ∀ ρ, R ρ →
    (∃ ρ', l.find? p = none ∧ forGo g b (l.map e) ρ = .ok .nx ρ' ∧ R ρ') ∨ ∃ a ρ', l.find? p = some a ∧ forGo g b (l.map e) ρ = .ok (.rt (r a)) ρ'
  | [], _, ρ, h => .inl ⟨ρ, rfl, rfl, h⟩
  | a :: l, k, ρ, h => by
    obtain ⟨ρ1, ρ2, h1, h2⟩ := k a (by simp) ρ h
    rw [List.map_cons]
    unfold forGo
    rw [h1]
    rcases h2 with ⟨h2, h3, h4⟩ | ⟨h2, h3⟩
    · simp only [h3]
      rw [List.find?_cons_of_neg (by rw [h2]; simp)]
      exact for_find R p r e l (fun x hx => k x (by simp [hx])) ρ2 h4
    · simp only [h3]
      exact .inr ⟨a, ρ2, by rw [List.find?_cons_of_pos h2], rfl⟩
/-- items that draw: what comes of each is as ok says -/
theorem lcs_draw {β : Type} {f : D → Env → Res (Option D)} (R : Env → Prop) (o : β → D) (ok : β → Prop) : ∀ (ds : List D), (∀ d ∈ ds, ∀ ρ, R ρ → ∃ x ρ', f d ρ = .ok (some (o x)) ρ' ∧ ok x ∧ R ρ') → ∀ ρ, R ρ → ∃ (l : List β) (ρ' : Env), lcs f ds ρ = .ok (l.map o) ρ' ∧ l.length = ds.length ∧ (∀ x ∈ l, ok x) ∧ R ρ'
  | [], _, ρ, h => ⟨[], ρ, rfl, rfl, by simp, h⟩
  | d :: ds, k, ρ, h => by
    obtain ⟨x, ρ1, h1, h2, h3⟩ := k d (by simp) ρ h
    obtain ⟨l, ρ', h4, h5, h6, h7⟩ := lcs_draw R o ok ds (fun x hx => k x (by simp [hx])) ρ1 h3
    refine ⟨x :: l, ρ', ?_, by simp [h5], fun y hy => (List.mem_cons.mp hy).elim (fun e => e ▸ h2) (h6 y), h7⟩
    unfold lcs
    rw [h1]
    simp only [h4]
    rfl
/-- items that a draw takes or leaves -/
theorem lcs_some {α : Type} {f : D → Env → Res (Option D)} (R : Env → Prop) (o : α → D) (q : D → D) : ∀ (as : List α), (∀ a ∈ as, ∀ ρ, R ρ → ∃ ρ', (f (o a) ρ = .ok none ρ' ∨ f (o a) ρ = .ok (some (o a)) ρ') ∧ R ρ') → ∀ ρ, R ρ → ∃ (l : List α) (ρ' : Env), lcs f (as.map o) ρ = .ok (l.map o) ρ' ∧ l.Sublist as ∧ R ρ'
  | [], _, ρ, h => ⟨[], ρ, rfl, .slnil, h⟩
  | a :: as, k, ρ, h => by
    obtain ⟨ρ1, h1, h3⟩ := k a (by simp) ρ h
    obtain ⟨l, ρ', h4, h5, h6⟩ := lcs_some R o q as (fun x hx => k x (by simp [hx])) ρ1 h3
    rw [List.map_cons]
    unfold lcs
    rcases h1 with h1 | h1
    · rw [h1]
      exact ⟨l, ρ', by simp only [h4], h5.cons a, h6⟩
    · rw [h1]
      simp only [h4]
      exact ⟨a :: l, ρ', rfl, h5.cons₂ a, h6⟩
/-- nothing drawn: each item told by a function -/
theorem lcs_map {α β : Type} {f : D → Env → Res (Option D)} {ρ : Env} (e : α → D) (o : β → D) (F : α → β) (l : List α) (h : ∀ a ∈ l, f (e a) ρ = .ok (some (o (F a))) ρ) : lcs f (l.map e) ρ = .ok ((l.map F).map o) ρ := by
  have := lcs_enc (f := f) (ρ := ρ) e o (fun a => some (F a)) l (fun a ha => by rw [h a ha]; rfl)
  rw [this]
  congr 2
  simp
theorem lcs_filter {α β : Type} {f : D → Env → Res (Option D)} {ρ : Env} (e : α → D) (o : β → D) (p : α → Bool) (F : α → β) (l : List α) (h : ∀ a ∈ l, f (e a) ρ = .ok (if p a = true then some (o (F a)) else none) ρ) : lcs f (l.map e) ρ = .ok (((l.filter p).map F).map o) ρ := by
  have := lcs_enc (f := f) (ρ := ρ) e o (fun a => if p a = true then some (F a) else none) l (fun a ha => by rw [h a ha]; by_cases c : p a = true <;> simp [c])
  rw [this]
  congr 2
  clear h this
  induction l with
  | nil => rfl
  | cons a l ih => by_cases c : p a = true <;> simp [c, ih]
theorem lcs2_map {α β : Type} {f : D → Env → Res (List D)} {ρ : Env} (e : α → D) (o : β → D) (F : α → List β) : ∀ (l : List α), (∀ a ∈ l, f (e a) ρ = .ok ((F a).map o) ρ) → lcs2 f (l.map e) ρ = .ok ((l.flatMap F).map o) ρ
  | [], _ => rfl
  | a :: l, h => by
    rw [List.map_cons]
    unfold lcs2
    rw [h a (by simp)]
    simp only [lcs2_map e o F l fun x hx => h x (by simp [hx])]
    simp
theorem ofVal (ρ : Env) (i : Nat) (o : Option D) (h : ρ[i]? = some (o.map W.val)) : notOwn ρ i = true := by
  unfold notOwn
  rw [h]
  cases o <;> rfl
theorem sizeL {n : Nat} (h : n ≤ 1000) : n ≤ sizeLine := Nat.le_trans h (by decide)
theorem dInts_map : ∀ l : List Int, dInts (l.map D.int) = some l
  | [] => rfl
  | a :: l => by simp [dInts, dInts_map l]
@[simp] theorem sum_ints (l : List Int) : fSum [.lst (l.map D.int)] = some (.int l.sum) := by simp [fSum, D.lis, dInts_map]
end DL
namespace DL
open PySem PySem.Spec PyProof.Rows L2
variable [CTab]
theorem lcs_tru {α : Type} {f : D → DL.Env → DL.Res (Option D)} {ρ : DL.Env} (e : α → D) (l : List α) (h : ∀ a ∈ l, f (e a) ρ = .ok (some (.bl true)) ρ) : lcs f (l.map e) ρ = (.ok (List.replicate l.length (D.bl true)) ρ) := by
  rw [lcs_enc e D.bl (fun _ => some true) l (fun a ha => by rw [h a ha]; rfl)]
  congr 1
  clear h
  induction l with
  | nil => rfl
  | cons a l ih => simpa [List.replicate_succ] using ih
theorem all_rep (n : Nat) : fAll [.lst (List.replicate n (D.bl true))] = some (.bl true) := by
  have := all_map (List.replicate n true)
  simp at this
  simpa using this
theorem lenSet_lst {l : List Str} (h : l.Nodup) (h2 : l.length ≤ 4000) : dLenSet (.lst (l.map D.str)) = some (.int (l.length : Nat)) := by
  simp [dLenSet, dStrs_map, h, h2]
theorem lenSet_tup {l : List Str} (h : l.Nodup) (h2 : l.length ≤ 4000) : dLenSet (.tup (l.map D.str)) = some (.int (l.length : Nat)) := by
  simp [dLenSet, dStrs_map, h, h2]
/-- a walk with numbers: nothing but the walk's own slots changes, and each turn goes on -/
theorem for_pass {g : MT} {b : M Fl} (R : Env → Prop) (ds : List D) (h : ∀ d ∈ ds, ∀ ρ, R ρ → ∃ ρ1, g d ρ = some ρ1 ∧ b ρ1 = .ok .nx ρ1 ∧ R ρ1) : ∀ ρ, R ρ → ∃ ρ', forGo g b ds ρ = .ok .nx ρ' ∧ R ρ' :=
  for_keep R ds fun d hd ρ hr => by
    obtain ⟨ρ1, h1, h2, h3⟩ := h d hd ρ hr
    exact ⟨ρ1, ρ1, h1, h2, h3⟩
end DL
namespace DL
open PySem PySem.Spec PyProof.Rows L2
variable [CTab]
theorem enumD_mem {α : Type} (e : α → D) : ∀ (l : List α) (k : Nat) (d : D), d ∈ enumD k (l.map e) → ∃ (i : Nat) (a : α), a ∈ l ∧ d = .tup [.int (i : Int), e a]
  | [], _, d, h => by simp [enumD] at h
  | a :: l, k, d, h => by
    simp only [List.map_cons, enumD, List.mem_cons] at h
    rcases h with h | h
    · exact ⟨k, a, by simp, h⟩
    · obtain ⟨i, x, h1, h2⟩ := enumD_mem e l (k + 1) d h
      exact ⟨i, x, by simp [h1], h2⟩
end DL
namespace DL
/-- all rows that can be left of a row -/
def subs {α : Type} : List α → List (List α)
  | [] => [[]]
  | a :: l => subs l ++ (subs l).map (a :: ·)
theorem mem_subs {α : Type} : ∀ {m l : List α}, l.Sublist m → l ∈ subs m
  | _, _, .slnil => by simp [subs]
  | _, _, .cons a h => by simp [subs, mem_subs h]
  | _, _, .cons₂ a h => by
    simp only [subs, List.mem_append, List.mem_map]
    exact .inr ⟨_, mem_subs h, rfl⟩
end DL
namespace DL
open PySem PySem.Spec PyProof.Rows L2
variable [CTab]
/-- whether a slot holds no thing of one's own -/
def noW : Option (Option W) → Bool
  | some (some (.own _)) => false
  | some (some (.inn _)) => false
  | _ => true
theorem notOwn_eq (ρ : Env) (i : Nat) : notOwn ρ i = noW ρ[i]? := rfl
@[simp] theorem noW_val (d : D) : noW (some (some (.val d))) = true := rfl
@[simp] theorem noW_none : noW (some none) = true := rfl
@[simp] theorem noW_no : noW none = true := rfl
@[simp] theorem noW_map (o : Option D) : noW (some (o.map W.val)) = true := by cases o <;> rfl
/-- a walk whose relation speaks of what was taken -/
theorem for_pre {α : Type} {g : MT} {b : M Fl} (R : List α → Env → Prop) (e : α → D) (l : List α) (h : ∀ pre a suf, l = pre ++ a :: suf → ∀ ρ, R pre ρ → ∃ ρ1 ρ2, g (e a) ρ = some ρ1 ∧ b ρ1 = .ok .nx ρ2 ∧ R (pre ++ [a]) ρ2) : ∀ ρ, R [] ρ → ∃ ρ', forGo g b (l.map e) ρ = .ok .nx ρ' ∧ R l ρ' := by
  have gen : ∀ (suf pre : List α), l = pre ++ suf → ∀ ρ, R pre ρ → ∃ ρ', forGo g b (suf.map e) ρ = .ok .nx ρ' ∧ R l ρ' := by
    intro suf
    induction suf with
    | nil => intro pre e1 ρ hr; exact ⟨ρ, rfl, by rw [e1, List.append_nil]; exact hr⟩
    | cons a suf ih =>
      intro pre e1 ρ hr
      obtain ⟨ρ1, ρ2, h1, h2, h3⟩ := h pre a suf e1 ρ hr
      obtain ⟨ρ', h4, h5⟩ := ih (pre ++ [a]) (by rw [e1]; simp) ρ2 h3
      refine ⟨ρ', ?_, h5⟩
      rw [List.map_cons]
      unfold forGo
      rw [h1]
      simp only [h2]
      exact h4
  exact fun ρ hr => gen l [] rfl ρ hr
end DL
set_option linter.all false
/-! covers, in plain numbers and lists -/
namespace Cov
variable {S : Type} [DecidableEq S]
structure C (S : Type) where
  m : Int
  v : Int
  ps : List S
  lo : Int
  hi : Int
  le : Int
deriving DecidableEq
def on (c : C S) (p : S) (g : Int) : Bool := decide (p ∈ c.ps) && (decide (c.lo ≤ g) && decide (g < c.hi))
def part (c : C S) (a : Int) : Int := if c.v ≤ c.m then min a c.v else min a c.v * c.m / c.v
def pay (c : C S) (p : S) (g a : Int) : Int := if (!on c p g || decide (a < c.le)) = true then 0 else part c a
/-- what is left is laid on the first rows that pay -/
def dist : List Int → List Int → Int → List Int
  | r :: rs, f :: fs, l => if r > 0 ∧ l > 0 then (f + 1) :: dist rs fs (l - 1) else f :: dist rs fs l
  | _, fs, _ => fs
def shr (rows : List Int) (a : Int) : List Int := if rows.sum ≤ a then rows else dist rows (rows.map fun r => r * a / rows.sum) (a - (rows.map fun r => r * a / rows.sum).sum)
def npos (rows : List Int) : Int := ((rows.filter fun r => decide (r > 0)).length : Int)
theorem npos_cons (r : Int) (rs : List Int) : npos (r :: rs) = (if r > 0 then 1 else 0) + npos rs := by
  unfold npos
  by_cases h : r > 0 <;> simp [h] <;> omega
theorem npos_nn (rows : List Int) : 0 ≤ npos rows := by unfold npos; omega
theorem dist_sum : ∀ (rs fs : List Int) (l : Int), rs.length = fs.length → 0 ≤ l → l ≤ npos rs → (dist rs fs l).sum = fs.sum + l
  | [], [], l, _, h0, h1 => by
    simp [npos] at h1
    simp [dist]; omega
  | r :: rs, f :: fs, l, hl, h0, h1 => by
    rw [npos_cons] at h1
    unfold dist
    have hl2 : rs.length = fs.length := by simpa using hl
    by_cases h : r > 0 ∧ l > 0
    · rw [if_pos h, List.sum_cons, List.sum_cons, dist_sum rs fs (l - 1) hl2 (by omega) (by rw [if_pos h.1] at h1; omega)]
      omega
    · rw [if_neg h, List.sum_cons, List.sum_cons]
      by_cases hr : r > 0
      · have : l = 0 := by
          have : ¬ l > 0 := fun z => h ⟨hr, z⟩
          omega
        subst this
        rw [dist_sum rs fs 0 hl2 (by omega) (npos_nn rs)]
        omega
      · rw [if_neg hr] at h1
        rw [dist_sum rs fs l hl2 h0 (by omega)]
        omega
theorem dist_len : ∀ (rs fs : List Int) (l : Int), (dist rs fs l).length = fs.length
  | [], fs, l => by simp [dist]
  | r :: rs, [], l => by simp [dist]
  | r :: rs, f :: fs, l => by
    unfold dist
    split <;> simp [dist_len rs fs]
theorem shr_len (rows : List Int) (a : Int) : (shr rows a).length = rows.length := by
  unfold shr
  split
  · rfl
  · rw [dist_len]; simp
theorem floors {W a : Int} (hW : 0 < W) (ha : 0 ≤ a) : ∀ rs : List Int, (∀ r ∈ rs, 0 ≤ r) →
    W * (rs.map fun r => r * a / W).sum ≤ rs.sum * a ∧ rs.sum * a ≤ W * (rs.map fun r => r * a / W).sum + W * npos rs
  | [], _ => by simp [npos]
  | r :: rs, h => by
    obtain ⟨h1, h2⟩ := floors hW ha rs fun x hx => h x (by simp [hx])
    have hr := h r (by simp)
    rw [npos_cons]
    simp only [List.map_cons, List.sum_cons]
    rw [Int.mul_add, Int.add_mul]
    have e := Int.mul_ediv_add_emod (r * a) W
    have e1 := Int.emod_nonneg (r * a) (Int.ne_of_gt hW)
    have e2 := Int.emod_lt_of_pos (r * a) hW
    rw [Int.mul_add]
    by_cases hp : r > 0
    · rw [if_pos hp]
      constructor <;> omega
    · have : r = 0 := by omega
      subst this
      simp at *
      constructor <;> omega
theorem npos_pos : ∀ rs : List Int, (∀ r ∈ rs, 0 ≤ r) → 0 < rs.sum → 0 < npos rs
  | [], _, h => by simp at h
  | r :: rs, h, hs => by
    rw [npos_cons]
    have hr := h r (by simp)
    have := npos_nn rs
    by_cases hp : r > 0
    · rw [if_pos hp]; omega
    · rw [if_neg hp]
      have : r = 0 := by omega
      subst this
      have := npos_pos rs (fun x hx => h x (by simp [hx])) (by simpa using hs)
      omega
theorem shr_sum {rows : List Int} {a : Int} (h : ∀ r ∈ rows, 0 ≤ r) (ha : 0 ≤ a) : (shr rows a).sum = min rows.sum a := by
  unfold shr
  by_cases hs : rows.sum ≤ a
  · rw [if_pos hs]; omega
  · rw [if_neg hs]
    have hW : 0 < rows.sum := by omega
    obtain ⟨h1, h2⟩ := floors hW ha rows h
    generalize hf : (rows.map fun r => r * a / rows.sum) = f at h1 h2 ⊢
    have hl : rows.length = f.length := by rw [← hf]; simp
    have k1 : 0 ≤ a - f.sum := by
      have : rows.sum * f.sum ≤ rows.sum * a := h1
      have := Int.le_of_mul_le_mul_left this hW
      omega
    have k2 : a - f.sum ≤ npos rows := by
      rw [← Int.mul_add] at h2
      have := Int.le_of_mul_le_mul_left h2 hW
      omega
    rw [dist_sum rows f _ hl k1 k2]
    omega
theorem part_nn {c : C S} {a : Int} (ha : 0 ≤ a) (hm : 0 ≤ c.m) (hv : 1 ≤ c.v) : 0 ≤ part c a := by
  unfold part
  split
  · omega
  · exact Int.ediv_nonneg (Int.mul_nonneg (by omega) hm) (by omega)
theorem pay_nn {c : C S} {p : S} {g a : Int} (ha : 0 ≤ a) (hm : 0 ≤ c.m) (hv : 1 ≤ c.v) : 0 ≤ pay c p g a := by
  unfold pay
  split
  · omega
  · exact part_nn ha hm hv
theorem part_le {c : C S} {a : Int} (ha : 0 ≤ a) (hm : 0 ≤ c.m) (hv : 1 ≤ c.v) : part c a ≤ a ∧ part c a ≤ c.m := by
  unfold part
  split
  · omega
  · rename_i h
    constructor
    · refine Int.le_trans (Int.ediv_le_of_le_mul (by omega) (b := min a c.v) ?_) (by omega)
      exact Int.mul_le_mul_of_nonneg_left (by omega) (by omega)
    · refine Int.ediv_le_of_le_mul (by omega) ?_
      rw [Int.mul_comm c.m c.v]
      exact Int.mul_le_mul_of_nonneg_right (by omega) hm
theorem pay_le {c : C S} {p : S} {g a : Int} (ha : 0 ≤ a) (hm : 0 ≤ c.m) (hv : 1 ≤ c.v) : pay c p g a ≤ a ∧ pay c p g a ≤ c.m := by
  unfold pay
  split
  · omega
  · exact part_le ha hm hv
theorem part_more {c : C S} {a : Int} (ha : 0 ≤ a) (hm : 0 ≤ c.m) (hv : 1 ≤ c.v) : part c a ≤ part { c with m := c.m + 1 } a := by
  unfold part
  simp only
  by_cases h : c.v ≤ c.m
  · rw [if_pos h, if_pos (by omega)]; omega
  · rw [if_neg h]
    by_cases h2 : c.v ≤ c.m + 1
    · rw [if_pos h2]
      refine Int.ediv_le_of_le_mul (by omega) ?_
      exact Int.mul_le_mul_of_nonneg_left (by omega) (by omega)
    · rw [if_neg h2]
      exact Int.ediv_le_ediv (by omega) (Int.mul_le_mul_of_nonneg_left (by omega) (by omega))
theorem pay_more {c : C S} {p : S} {g a : Int} (ha : 0 ≤ a) (hm : 0 ≤ c.m) (hv : 1 ≤ c.v) : pay c p g a ≤ pay { c with m := c.m + 1 } p g a := by
  unfold pay
  show (if (!on c p g || decide (a < c.le)) = true then 0 else part c a) ≤ if (!on c p g || decide (a < c.le)) = true then 0 else _
  split
  · omega
  · exact part_more ha hm hv
theorem pay_least {c : C S} {p : S} {g a : Int} (ha : 0 ≤ a) (hm : 0 ≤ c.m) (hv : 1 ≤ c.v) : pay c p g a ≤ pay { c with le := 0 } p g a := by
  unfold pay
  show (if (!on c p g || decide (a < c.le)) = true then 0 else part c a) ≤ if (!on c p g || decide (a < 0)) = true then 0 else part c a
  have h0 : decide (a < 0) = false := by simp; omega
  rw [h0]
  have := part_nn ha hm hv
  cases on c p g <;> simp
  split <;> omega
/-! ### parted -/
def cut1 (c : C S) (k : Int) : C S := { c with hi := k }
def cut2 (c : C S) (k : Int) : C S := { c with lo := k }
def parts (c : C S) (k : Int) : List (C S) := [cut1 c k] ++ if k < c.hi then [cut2 c k] else []
theorem on_parts {c : C S} {k : Int} (h1 : c.lo < k) (h2 : k ≤ c.hi) (p : S) (g : Int) : (parts c k).any (fun d => on d p g) = on c p g := by
  unfold parts on cut1 cut2
  by_cases hp : p ∈ c.ps <;> by_cases hk : k < c.hi <;> simp [hp, hk]
  · by_cases a : c.lo ≤ g <;> by_cases b : g < c.hi <;> by_cases d : g < k <;> by_cases e : k ≤ g <;> simp [a, b, d, e] <;> omega
  · have : k = c.hi := by omega
    rw [this]
theorem pay_parts {c : C S} {k : Int} (h1 : c.lo < k) (h2 : k ≤ c.hi) (p : S) (g a : Int) : ((parts c k).map fun d => pay d p g a).sum = pay c p g a := by
  have q1 : part (cut1 c k) a = part c a := rfl
  have q2 : part (cut2 c k) a = part c a := rfl
  have l1 : (cut1 c k).le = c.le := rfl
  have l2 : (cut2 c k).le = c.le := rfl
  by_cases hk : k < c.hi
  · have e : parts c k = [cut1 c k, cut2 c k] := by simp [parts, hk]
    have := on_parts h1 h2 p g
    rw [e] at this ⊢
    simp only [List.any_cons, List.any_nil, Bool.or_false] at this
    have no : ¬ (on (cut1 c k) p g = true ∧ on (cut2 c k) p g = true) := by
      unfold on cut1 cut2
      simp
      omega
    simp only [List.map_cons, List.map_nil, List.sum_cons, List.sum_nil]
    unfold pay
    rw [← this, q1, q2, l1, l2]
    cases h3 : on (cut1 c k) p g <;> cases h4 : on (cut2 c k) p g <;> simp [h3, h4] at no ⊢
  · have e : parts c k = [cut1 c k] := by simp [parts, hk]
    have : k = c.hi := by omega
    have e2 : cut1 c k = c := by subst this; rfl
    rw [e, e2]
    simp
theorem any_flat {α β : Type} (f : α → List β) (p : β → Bool) (q : α → Bool) (l : List α) (h : ∀ a ∈ l, (f a).any p = q a) : (l.flatMap f).any p = l.any q := by
  induction l with
  | nil => rfl
  | cons a l ih => rw [List.flatMap_cons, List.any_append, List.any_cons, h a (by simp), ih fun b hb => h b (by simp [hb])]
theorem sum_flat {α β : Type} (f : α → List β) (p : β → Int) (q : α → Int) (l : List α) (h : ∀ a ∈ l, ((f a).map p).sum = q a) : ((l.flatMap f).map p).sum = (l.map q).sum := by
  induction l with
  | nil => rfl
  | cons a l ih => rw [List.flatMap_cons, List.map_append, List.sum_append, List.map_cons, List.sum_cons, h a (by simp), ih fun b hb => h b (by simp [hb])]
/-! ### peril by peril -/
def only (c : C S) (p : S) : C S := { c with ps := [p] }
def singles (c : C S) : List (C S) := c.ps.map (only c)
theorem on_singles (c : C S) (p : S) (g : Int) : (singles c).any (fun d => on d p g) = on c p g := by
  unfold singles
  rw [List.any_map]
  unfold on only
  by_cases hg : (decide (c.lo ≤ g) && decide (g < c.hi)) = true
  · rw [hg]
    simp only [Function.comp_def, hg, Bool.and_true, List.mem_singleton]
    rw [Bool.eq_iff_iff]
    simp
  · have : (decide (c.lo ≤ g) && decide (g < c.hi)) = false := by simpa using hg
    simp only [Function.comp_def, this, Bool.and_false]
    simp
theorem sum_pick (p : S) (x : Int) : ∀ l : List S, l.Nodup → (l.map fun q => if p = q then x else 0).sum = if p ∈ l then x else 0
  | [], _ => by simp
  | q :: l, h => by
    obtain ⟨h1, h2⟩ := List.nodup_cons.mp h
    rw [List.map_cons, List.sum_cons, sum_pick p x l h2]
    by_cases e : p = q
    · subst e; simp [h1]
    · by_cases m : p ∈ l <;> simp [e, m]
theorem pay_singles {c : C S} (h : c.ps.Nodup) (p : S) (g a : Int) : ((singles c).map fun d => pay d p g a).sum = pay c p g a := by
  unfold singles
  rw [List.map_map]
  have e : ∀ q, ((fun d => pay d p g a) ∘ only c) q = if p = q then (if (!(decide (c.lo ≤ g) && decide (g < c.hi)) || decide (a < c.le)) = true then 0 else part c a) else 0 := by
    intro q
    simp only [Function.comp_def]
    unfold pay on only
    by_cases hq : p = q
    · simp [hq]; rfl
    · simp [hq]
  rw [List.map_congr_left fun q _ => e q, sum_pick p _ _ h]
  unfold pay on
  by_cases hp : p ∈ c.ps <;> simp [hp]
/-! ### moved -/
def moved (c : C S) : C S := { c with lo := c.lo + 1, hi := c.hi + 1 }
theorem on_moved (c : C S) (p : S) (g : Int) : on (moved c) p (g + 1) = on c p g := by
  unfold on moved
  have a : decide (c.lo + 1 ≤ g + 1) = decide (c.lo ≤ g) := by simp
  have b : decide (g + 1 < c.hi + 1) = decide (g < c.hi) := by simp
  simp only [a, b]
theorem on_moved0 {c : C S} (h : 0 ≤ c.lo) (p : S) : on (moved c) p 0 = false := by
  unfold on moved
  have a : decide (c.lo + 1 ≤ 0) = false := by simp; omega
  simp only [a, Bool.false_and, Bool.and_false]
theorem pay_moved (c : C S) (p : S) (g a : Int) : pay (moved c) p (g + 1) a = pay c p g a := by
  unfold pay
  rw [on_moved]
  rfl
/-! ### gaps -/
def rng (n : Nat) : List Int := (List.range n).map fun i : Nat => (i : Int)
theorem rng_succ (n : Nat) : rng (n + 1) = 0 :: (rng n).map (· + 1) := by
  unfold rng
  rw [List.range_succ_eq_map]
  simp [Function.comp_def]
def prs (ps : List S) (n : Nat) : List (Int × S) := (rng n).flatMap fun g => ps.map fun p => (g, p)
def gaps (cs : List (C S)) (ps : List S) (n : Nat) : List (Int × S) := (prs ps n).filter fun q => !cs.any fun c => on c q.2 q.1
theorem gaps_eq {cs ds : List (C S)} (h : ∀ p g, cs.any (fun c => on c p g) = ds.any fun c => on c p g) (ps : List S) (n : Nat) : gaps cs ps n = gaps ds ps n := by
  unfold gaps
  congr 1
  funext q
  rw [h]
theorem filter_all {α : Type} {f : α → Bool} : ∀ l : List α, (∀ x ∈ l, f x = true) → l.filter f = l := fun l h => List.filter_eq_self.mpr h
theorem gaps_moved {cs : List (C S)} (h : ∀ c ∈ cs, 0 ≤ c.lo) (ps : List S) (n : Nat) : gaps (cs.map moved) ps (n + 1) = (ps.map fun p => ((0 : Int), p)) ++ (gaps cs ps n).map fun q => (q.1 + 1, q.2) := by
  unfold gaps prs
  rw [rng_succ, List.flatMap_cons, List.filter_append]
  congr 1
  · refine filter_all _ fun x hx => ?_
    obtain ⟨p, _, rfl⟩ := List.mem_map.mp hx
    simp only [List.any_map, Bool.not_eq_true', List.any_eq_false, Function.comp_def]
    intro c hc
    rw [on_moved0 (h c hc)]
    simp
  · have e1 : (List.flatMap (fun g => ps.map fun p => (g, p)) ((rng n).map (· + 1))) = ((rng n).flatMap fun g => ps.map fun p => (g, p)).map fun q => (q.1 + 1, q.2) := by
      rw [List.flatMap_map, List.map_flatMap]
      simp [Function.comp_def]
    rw [e1, List.filter_map]
    congr 1
    congr 1
    funext q
    simp only [Function.comp_def, List.any_map, on_moved]
theorem gaps_mono {cs ds : List (C S)} (h : ∀ c ∈ cs, c ∈ ds) {ps : List S} {n : Nat} (e : gaps cs ps n = []) : gaps ds ps n = [] := by
  unfold gaps at e ⊢
  rw [List.filter_eq_nil_iff] at e ⊢
  intro q hq
  have := e q hq
  simp only [Bool.not_eq_true', Bool.not_eq_false, List.any_eq_true] at this ⊢
  obtain ⟨c, hc, ho⟩ := this
  exact ⟨c, h c hc, ho⟩
def tot (cs : List (C S)) (p : S) (g a : Int) : Int := (cs.map fun c => pay c p g a).sum
def bor (cs : List (C S)) (p : S) (g a : Int) : Int := a - min (tot cs p g a) a
/-! ### the worst loss -/
def wst (f : S → Int → Int) : List (Int × S) → Option (S × Int × Int) → Option (S × Int × Int)
  | [], b => b
  | (g, p) :: l, none => wst f l (some (p, g, f p g))
  | (g, p) :: l, some b => wst f l (if f p g > b.2.2 then some (p, g, f p g) else some b)
theorem wst_ok (f : S → Int → Int) : ∀ (l : List (Int × S)) (b : S × Int × Int), b.2.2 = f b.1 b.2.1 → ∃ r, wst f l (some b) = some r ∧ r.2.2 = f r.1 r.2.1 ∧ b.2.2 ≤ r.2.2 ∧ (∀ q ∈ l, f q.2 q.1 ≤ r.2.2) ∧ (r = b ∨ (r.2.1, r.1) ∈ l)
  | [], b, h => ⟨b, rfl, h, Int.le_refl _, by simp, .inl rfl⟩
  | (g, p) :: l, b, h => by
    unfold wst
    by_cases c : f p g > b.2.2
    · rw [if_pos c]
      obtain ⟨r, h1, h2, h3, h4, h5⟩ := wst_ok f l (p, g, f p g) rfl
      refine ⟨r, h1, h2, by simp only at h3; omega, fun q hq => ?_, ?_⟩
      · rcases List.mem_cons.mp hq with e | e
        · rw [e]; exact h3
        · exact h4 q e
      · rcases h5 with e | e
        · rw [e]; exact .inr (by simp)
        · exact .inr (by simp [e])
    · rw [if_neg c]
      obtain ⟨r, h1, h2, h3, h4, h5⟩ := wst_ok f l b h
      refine ⟨r, h1, h2, h3, fun q hq => ?_, ?_⟩
      · rcases List.mem_cons.mp hq with e | e
        · rw [e]; simp only; omega
        · exact h4 q e
      · exact h5.elim .inl fun e => .inr (by simp [e])
theorem wst_all {f : S → Int → Int} {l : List (Int × S)} (h : l ≠ []) : ∃ r, wst f l none = some r ∧ r.2.2 = f r.1 r.2.1 ∧ (∀ q ∈ l, f q.2 q.1 ≤ r.2.2) ∧ (r.2.1, r.1) ∈ l := by
  match l, h with
  | (g, p) :: l, _ =>
    unfold wst
    obtain ⟨r, h1, h2, h3, h4, h5⟩ := wst_ok f l (p, g, f p g) rfl
    refine ⟨r, h1, h2, fun q hq => ?_, ?_⟩
    · rcases List.mem_cons.mp hq with e | e
      · rw [e]; exact h3
      · exact h4 q e
    · rcases h5 with e | e
      · rw [e]; simp
      · simp [e]
theorem mem_prs {ps : List S} {n : Nat} {g : Int} {p : S} : (g, p) ∈ prs ps n ↔ (0 ≤ g ∧ g < n) ∧ p ∈ ps := by
  unfold prs rng
  simp only [List.mem_flatMap, List.mem_map, List.mem_range, Prod.mk.injEq]
  constructor
  · rintro ⟨_, ⟨i, hi, rfl⟩, q, hq, rfl, rfl⟩
    exact ⟨by omega, hq⟩
  · rintro ⟨⟨h1, h2⟩, h3⟩
    exact ⟨g, ⟨g.toNat, by omega, by omega⟩, p, h3, rfl, rfl⟩
end Cov
set_option Elab.async false
set_option linter.all false
set_option maxRecDepth 100000
set_option maxHeartbeats 0
namespace T37
open PySem PySem.Spec PyProof.Rows L2 DL
def top (i : Nat) : Stmt := PySem.Challenge.pw_goodsbypapers_k37_across_drafts_and_cove.main.body.getD i (.Pass ⟨0, 0, 0, 0⟩)
instance tab : DL.CTab := ⟨fun c => match c with
  | 0 => ("Draft", ["money", "drawer", "payer", "due", "is_taken"])
  | 1 => ("Paid", ["hand"])
  | 2 => ("Bears", ["hand", "way"])
  | 3 => ("Cover", ["money", "value", "perils", "legs", "least"])
  | 4 => ("Whole", [])
  | 5 => ("Gap", ["leg", "peril"])
  | _ => ("", [])⟩
def c_FIGURES : D := .str "0123456789"
def c_MOST_LEGS : D := .int 9
def c_SMALL : D := .str "abcdefghijklmnopqrstuvwxyz"
structure B (K : PySem.W.Frag) (mg : Str → Option Value) : Prop where
  all : mg "all" = none
  any : mg "any" = none
  t_bool : mg "bool" = none
  enumerate : mg "enumerate" = none
  t_int : mg "int" = none
  isinstance : mg "isinstance" = none
  len : mg "len" = none
  t_list : mg "list" = none
  max : mg "max" = none
  min : mg "min" = none
  range : mg "range" = none
  t_set : mg "set" = none
  sorted : mg "sorted" = none
  t_str : mg "str" = none
  sum : mg "sum" = none
  t_tuple : mg "tuple" = none
  g_Bears : mg "Bears" = some (.ref (He.ga K "Bears"))
  g_Cover : mg "Cover" = some (.ref (He.ga K "Cover"))
  g_Draft : mg "Draft" = some (.ref (He.ga K "Draft"))
  g_Gap : mg "Gap" = some (.ref (He.ga K "Gap"))
  g_Paid : mg "Paid" = some (.ref (He.ga K "Paid"))
  g_Whole : mg "Whole" = some (.ref (He.ga K "Whole"))
  c_FIGURES : ∃ p : V × Value, mg "FIGURES" = some p.2 ∧ RelV p.1 p.2 ∧ ∀ H Z, Rep K H Z c_FIGURES p.1
  c_MOST_LEGS : ∃ p : V × Value, mg "MOST_LEGS" = some p.2 ∧ RelV p.1 p.2 ∧ ∀ H Z, Rep K H Z c_MOST_LEGS p.1
  c_SMALL : ∃ p : V × Value, mg "SMALL" = some p.2 ∧ RelV p.1 p.2 ∧ ∀ H Z, Rep K H Z c_SMALL p.1
  p_Whole : OB.Plain K (He.ga K "Whole")
section
variable {P : Program} {w : World} {K : PySem.W.Frag} {mg : Str → Option Value} {base : Heap}
/-! Paid.__bool__ -/
def m_Paid_bool : M Fl := (mRet (mC (.bl true)))
def F_Paid_bool : FD := runF 1 false m_Paid_bool
theorem sc_Paid_bool : FnScope ["self"] ["self"] (defScope (inClass (top 15) 1)) := ⟨rfl, rfl, rfl, by decide +kernel, rfl, by decide +kernel, by decide +kernel⟩
theorem k_Paid_bool {f : Addr} {fd : FuncData} (b : B K mg) (cf : CFacts K 6) (F : FunD K "__bool__" "Paid.__bool__" (defArgs (inClass (top 15) 1)) (defBody (inClass (top 15) 1)) (defScope (inClass (top 15) 1)) [] [] f fd) : FnOk P w K mg base CX0 1 f fd ["self"] (spF K 1 F_Paid_bool) :=
  have hN : List.Nodup (α := Str) ["self"] := sc_Paid_bool.nd
  fn_ok F sc_Paid_bool fun cdv A outer s H E hr =>
  (s_one (s_ret d_bl))
theorem n_Paid_bool {f : Addr} {fd : FuncData} (F : FunD K "__bool__" "Paid.__bool__" (defArgs (inClass (top 15) 1)) (defBody (inClass (top 15) 1)) (defScope (inClass (top 15) 1)) [] [] f fd) : L2.Binds K fd ["self"] [] :=
  F.bindsN fun _ _ _ _ _ _ us hl => match us, hl with | [_], _ => rfl
/-! Bears.__bool__ -/
def m_Bears_bool : M Fl := (mRet (mC (.bl false)))
def F_Bears_bool : FD := runF 1 false m_Bears_bool
theorem sc_Bears_bool : FnScope ["self"] ["self"] (defScope (inClass (top 16) 1)) := ⟨rfl, rfl, rfl, by decide +kernel, rfl, by decide +kernel, by decide +kernel⟩
theorem k_Bears_bool {f : Addr} {fd : FuncData} (b : B K mg) (cf : CFacts K 6) (F : FunD K "__bool__" "Bears.__bool__" (defArgs (inClass (top 16) 1)) (defBody (inClass (top 16) 1)) (defScope (inClass (top 16) 1)) [] [] f fd) : FnOk P w K mg base CX0 1 f fd ["self"] (spF K 1 F_Bears_bool) :=
  have hN : List.Nodup (α := Str) ["self"] := sc_Bears_bool.nd
  fn_ok F sc_Bears_bool fun cdv A outer s H E hr =>
  (s_one (s_ret d_bl))
theorem n_Bears_bool {f : Addr} {fd : FuncData} (F : FunD K "__bool__" "Bears.__bool__" (defArgs (inClass (top 16) 1)) (defBody (inClass (top 16) 1)) (defScope (inClass (top 16) 1)) [] [] f fd) : L2.Binds K fd ["self"] [] :=
  F.bindsN fun _ _ _ _ _ _ us hl => match us, hl with | [_], _ => rfl
/-! Whole.__bool__ -/
def m_Whole_bool : M Fl := (mRet (mC (.bl true)))
def F_Whole_bool : FD := runF 1 false m_Whole_bool
theorem sc_Whole_bool : FnScope ["self"] ["self"] (defScope (inClass (top 34) 0)) := ⟨rfl, rfl, rfl, by decide +kernel, rfl, by decide +kernel, by decide +kernel⟩
theorem k_Whole_bool {f : Addr} {fd : FuncData} (b : B K mg) (cf : CFacts K 6) (F : FunD K "__bool__" "Whole.__bool__" (defArgs (inClass (top 34) 0)) (defBody (inClass (top 34) 0)) (defScope (inClass (top 34) 0)) [] [] f fd) : FnOk P w K mg base CX0 1 f fd ["self"] (spF K 1 F_Whole_bool) :=
  have hN : List.Nodup (α := Str) ["self"] := sc_Whole_bool.nd
  fn_ok F sc_Whole_bool fun cdv A outer s H E hr =>
  (s_one (s_ret d_bl))
theorem n_Whole_bool {f : Addr} {fd : FuncData} (F : FunD K "__bool__" "Whole.__bool__" (defArgs (inClass (top 34) 0)) (defBody (inClass (top 34) 0)) (defScope (inClass (top 34) 0)) [] [] f fd) : L2.Binds K fd ["self"] [] :=
  F.bindsN fun _ _ _ _ _ _ us hl => match us, hl with | [_], _ => rfl
/-! Gap.__bool__ -/
def m_Gap_bool : M Fl := (mRet (mC (.bl false)))
def F_Gap_bool : FD := runF 1 false m_Gap_bool
theorem sc_Gap_bool : FnScope ["self"] ["self"] (defScope (inClass (top 35) 1)) := ⟨rfl, rfl, rfl, by decide +kernel, rfl, by decide +kernel, by decide +kernel⟩
theorem k_Gap_bool {f : Addr} {fd : FuncData} (b : B K mg) (cf : CFacts K 6) (F : FunD K "__bool__" "Gap.__bool__" (defArgs (inClass (top 35) 1)) (defBody (inClass (top 35) 1)) (defScope (inClass (top 35) 1)) [] [] f fd) : FnOk P w K mg base CX0 1 f fd ["self"] (spF K 1 F_Gap_bool) :=
  have hN : List.Nodup (α := Str) ["self"] := sc_Gap_bool.nd
  fn_ok F sc_Gap_bool fun cdv A outer s H E hr =>
  (s_one (s_ret d_bl))
theorem n_Gap_bool {f : Addr} {fd : FuncData} (F : FunD K "__bool__" "Gap.__bool__" (defArgs (inClass (top 35) 1)) (defBody (inClass (top 35) 1)) (defScope (inClass (top 35) 1)) [] [] f fd) : L2.Binds K fd ["self"] [] :=
  F.bindsN fun _ _ _ _ _ _ us hl => match us, hl with | [_], _ => rfl
def bs : List (Nat × FD) := [(1, F_Paid_bool), (2, F_Bears_bool), (4, F_Whole_bool), (5, F_Gap_bool)]
/-! _law_number -/
def b_law_number_1 (ρ : DL.Env) : DL.Res Fl := (mSet 4 (m2 dFdiv (mVar 4) (mC (.int 1009)))) ρ
def m_law_number : M Fl := (mSeq (mAsg (mTT (mTCons (mTN 2) (mTCons (mTN 3) mTNil))) (mIfE (mTest (m2 dNe (mVar 0) (mLst mNil))) (mTup (mCons (m2 dIx (mVar 0) (m2 dMod (mVar 1) (mCa fLen (mCons (mVar 0) mNil)))) (mCons (m2 dFdiv (mVar 1) (mCa fLen (mCons (mVar 0) mNil))) mNil))) (mTup (mCons (mC (.int 12345)) (mCons (mC (.int 0)) mNil)))))
  (mSeq (mSet 4 (mIfE (mTest (m2 dLt (mVar 3) (mC (.int 60)))) (m2 dSub (mVar 2) (m2 dPow (mC (.int 10)) (mC (.int 18)))) (mC (.int 0))))
  (mSeq (mFor (mRng1 (m2 dMod (mCa fInt (mCons (mVar 3) mNil)) (mC (.int 60)))) (mTN 5) b_law_number_1)
  (mSeq (mIf (mTest (m2 dGt (mVar 4) (mC (.int 0)))) (mRet (m2 dMod (mCa fInt (mCons (mVar 4) mNil)) (mC (.int 1009))))
  mSkip)
  (mSeq (mSet 6 (m2 dMod (m2 dAdd (m2 dMul (mCa fInt (mCons (m2 dAdd (mVar 2) (m2 dMul (mC (.int 977)) (mVar 1))) mNil)) (mC (.int 48271))) (m2 dMul (mC (.int 31)) (mCa fLen (mCons (mVar 0) mNil)))) (mC (.int 2147483647))))
  (mSeq (mSet 6 (m2 dMod (m2 dAdd (m2 dMul (mVar 6) (mVar 6)) (m2 dMul (mC (.int 40503)) (mVar 1))) (mC (.int 2147483629))))
  (mRet (mCa fInt (mCons (m2 dMod (m2 dAdd (m2 dMul (mVar 6) (mC (.int 69621))) (m2 dFdiv (mVar 6) (mC (.int 977)))) (mC (.int 2147483587))) mNil)))))))))
def F_law_number : FD := runF 7 false m_law_number
theorem sc_law_number : FnScope ["script", "index", "cell", "turn", "rest", "step", "blend"] ["script", "index"] (defScope (top 41)) := ⟨rfl, rfl, rfl, by decide +kernel, rfl, by decide +kernel, by decide +kernel⟩
theorem k_law_number {f : Addr} {fd : FuncData} (b : B K mg) (cf : CFacts K 6) (F : FunD K "_law_number" "_law_number" (defArgs (top 41)) (defBody (top 41)) (defScope (top 41)) [] [] f fd) : FnOk P w K mg base CX0 1 f fd ["script", "index"] (spF K 2 F_law_number) :=
  have hN : List.Nodup (α := Str) ["script", "index", "cell", "turn", "rest", "step", "blend"] := sc_law_number.nd
  fn_ok F sc_law_number fun cdv A outer s H E hr =>
  (s_cons (s_asg (d_ifexp (dt_cmp1 (c_ne hr) (d_var 0) (d_list da_nil)) (d_tuple (da_cons (d_item (d_var 0) (d_mod (d_var 1) (d_callB call_lenA ca_len b.len bt_len (da_cons (d_var 0) da_nil)))) (da_cons (d_fdiv (d_var 1) (d_callB call_lenA ca_len b.len bt_len (da_cons (d_var 0) da_nil))) da_nil))) (d_tuple (da_cons d_int (da_cons d_int da_nil)))) (g_tup rfl (gs_cons (g_name 2 hN) (gs_cons (g_name 3 hN) gs_nil))))
  (s_cons (s_set 4 hN (d_ifexp (dt_cmp1 c_lt (d_var 3) d_int) (d_sub (d_var 2) (d_pow d_int d_int)) d_int))
  (s_cons (s_for PassesOwn.never rfl (i_rng1 (d_mod (d_callTy call_int1 ca_int b.t_int bt_int (da_cons (d_var 3) da_nil)) d_int) b.range) (g_name 5 hN) (s_one (s_set 4 hN (d_fdiv (d_var 4) d_int))))
  (s_cons (s_if (dt_cmp1 c_gt (d_var 4) d_int) (s_one (s_ret (d_mod (d_callTy call_int1 ca_int b.t_int bt_int (da_cons (d_var 4) da_nil)) d_int)))
  s_nil)
  (s_cons (s_set 6 hN (d_mod (d_add (d_mul (d_callTy call_int1 ca_int b.t_int bt_int (da_cons (d_add (d_var 2) (d_mul d_int (d_var 1))) da_nil)) d_int) (d_mul d_int (d_callB call_lenA ca_len b.len bt_len (da_cons (d_var 0) da_nil)))) d_int))
  (s_cons (s_set 6 hN (d_mod (d_add (d_mul (d_var 6) (d_var 6)) (d_mul d_int (d_var 1))) d_int))
  (s_one (s_ret (d_callTy call_int1 ca_int b.t_int bt_int (da_cons (d_mod (d_add (d_mul (d_var 6) d_int) (d_fdiv (d_var 6) d_int)) d_int) da_nil))))))))))
theorem n_law_number {f : Addr} {fd : FuncData} (F : FunD K "_law_number" "_law_number" (defArgs (top 41)) (defBody (top 41)) (defScope (top 41)) [] [] f fd) : L2.Binds K fd ["script", "index"] [] :=
  F.bindsN fun _ _ _ _ _ _ us hl => match us, hl with | [_, _], _ => rfl
/-! _law_take -/
def m_law_take : M Fl := (mSeq (mAugIx 0 (mC (.int 1)) dAddI (mC (.int 1)))
  (mRet (m2 dMod (mCa fInt (mCons (mCall F_law_number (mACons (mOwnIx 0 (mC (.int 0))) (mACons (mCa fInt (mCons (mOwnIx 0 (mC (.int 1))) mNil)) mANil))) mNil)) (mVar 1))))
def F_law_take : FD := runF 2 false m_law_take
theorem sc_law_take : FnScope ["draw", "many"] ["draw", "many"] (defScope (top 42)) := ⟨rfl, rfl, rfl, by decide +kernel, rfl, by decide +kernel, by decide +kernel⟩
theorem k_law_take {f : Addr} {fd : FuncData} (b : B K mg) (cf : CFacts K 6) (h_law_number : Callee P w K mg base CX0 1 "_law_number" 2 F_law_number) (F : FunD K "_law_take" "_law_take" (defArgs (top 42)) (defBody (top 42)) (defScope (top 42)) [] [] f fd) : FnOk P w K mg base CX0 2 f fd ["draw", "many"] (spF K 2 F_law_take) :=
  have hN : List.Nodup (α := Str) ["draw", "many"] := sc_law_take.nd
  fn_ok F sc_law_take fun cdv A outer s H E hr =>
  (s_cons (s_augIx 0 ip_add add_opI d_int d_int)
  (s_one (s_ret (d_mod (d_callTy call_int1 ca_int b.t_int bt_int (da_cons (d_call h_law_number hr p0 (as_cons (d_ownIx 0 d_int) (as_cons (d_callTy call_int1 ca_int b.t_int bt_int (da_cons (d_ownIx 0 d_int) da_nil)) as_nil))) da_nil)) (d_var 1)))))
theorem n_law_take {f : Addr} {fd : FuncData} (F : FunD K "_law_take" "_law_take" (defArgs (top 42)) (defBody (top 42)) (defScope (top 42)) [] [] f fd) : L2.Binds K fd ["draw", "many"] [] :=
  F.bindsN fun _ _ _ _ _ _ us hl => match us, hl with | [_, _], _ => rfl
/-! is_integer -/
def m_is_integer : M Fl := (mRet (mAndV (mIs (isTy .int) (mVar 0)) (mNotV (mIs (isTy .bool) (mVar 0)))))
def F_is_integer : FD := runF 1 false m_is_integer
theorem sc_is_integer : FnScope ["thing"] ["thing"] (defScope (top 7)) := ⟨rfl, rfl, rfl, by decide +kernel, rfl, by decide +kernel, by decide +kernel⟩
theorem k_is_integer {f : Addr} {fd : FuncData} (b : B K mg) (cf : CFacts K 6) (F : FunD K "is_integer" "is_integer" (defArgs (top 7)) (defBody (top 7)) (defScope (top 7)) [] [] f fd) : FnOk P w K mg base CX0 1 f fd ["thing"] (spF K 1 F_is_integer) :=
  have hN : List.Nodup (α := Str) ["thing"] := sc_is_integer.nd
  fn_ok F sc_is_integer fun cdv A outer s H E hr =>
  (s_one (s_ret (d_and (d_isTy .int (d_var 0) b.isinstance b.t_int bt_int) (d_one (d_not (d_isTy .bool (d_var 0) b.isinstance b.t_bool bt_bool))))))
theorem n_is_integer {f : Addr} {fd : FuncData} (F : FunD K "is_integer" "is_integer" (defArgs (top 7)) (defBody (top 7)) (defScope (top 7)) [] [] f fd) : L2.Binds K fd ["thing"] [] :=
  F.bindsN fun _ _ _ _ _ _ us hl => match us, hl with | [_], _ => rfl
/-! is_number -/
def m_is_number : M Fl := (mRet (mAndV (mCall F_is_integer (mACons (mVar 0) mANil)) (mChain dLe dLe (mVar 1) (mVar 0) (mVar 2))))
def F_is_number : FD := runF 3 false m_is_number
theorem sc_is_number : FnScope ["thing", "low", "high"] ["thing", "low", "high"] (defScope (top 8)) := ⟨rfl, rfl, rfl, by decide +kernel, rfl, by decide +kernel, by decide +kernel⟩
theorem k_is_number {f : Addr} {fd : FuncData} (b : B K mg) (cf : CFacts K 6) (h_is_integer : Callee P w K mg base CX0 1 "is_integer" 1 F_is_integer) (F : FunD K "is_number" "is_number" (defArgs (top 8)) (defBody (top 8)) (defScope (top 8)) [] [] f fd) : FnOk P w K mg base CX0 2 f fd ["thing", "low", "high"] (spF K 3 F_is_number) :=
  have hN : List.Nodup (α := Str) ["thing", "low", "high"] := sc_is_number.nd
  fn_ok F sc_is_number fun cdv A outer s H E hr =>
  (s_one (s_ret (d_and (d_call h_is_integer hr p0 (as_cons (d_var 0) as_nil)) (d_one (d_chain c_le c_le (d_var 1) (d_var 0) (d_var 2))))))
theorem n_is_number {f : Addr} {fd : FuncData} (F : FunD K "is_number" "is_number" (defArgs (top 8)) (defBody (top 8)) (defScope (top 8)) [] [] f fd) : L2.Binds K fd ["thing", "low", "high"] [] :=
  F.bindsN fun _ _ _ _ _ _ us hl => match us, hl with | [_, _, _], _ => rfl
/-! check_number -/
def m_check_number : M Fl := (mIf (mNotT (mTru (mCall F_is_number (mACons (mVar 1) (mACons (mVar 2) (mACons (mVar 3) mANil)))))) mNever
  mSkip)
def F_check_number : FD := runF 4 false m_check_number
theorem sc_check_number : FnScope ["part", "thing", "low", "high"] ["part", "thing", "low", "high"] (defScope (top 9)) := ⟨rfl, rfl, rfl, by decide +kernel, rfl, by decide +kernel, by decide +kernel⟩
theorem k_check_number {f : Addr} {fd : FuncData} (b : B K mg) (cf : CFacts K 6) (h_is_number : Callee P w K mg base CX0 2 "is_number" 3 F_is_number) (F : FunD K "check_number" "check_number" (defArgs (top 9)) (defBody (top 9)) (defScope (top 9)) [] [] f fd) : FnOk P w K mg base CX0 3 f fd ["part", "thing", "low", "high"] (spF K 4 F_check_number) :=
  have hN : List.Nodup (α := Str) ["part", "thing", "low", "high"] := sc_check_number.nd
  fn_ok F sc_check_number fun cdv A outer s H E hr =>
  (s_one (s_if (dt_not (dt_tru (d_call h_is_number hr p0 (as_cons (d_var 1) (as_cons (d_var 2) (as_cons (d_var 3) as_nil)))))) (s_one s_never)
  s_nil))
theorem n_check_number {f : Addr} {fd : FuncData} (F : FunD K "check_number" "check_number" (defArgs (top 9)) (defBody (top 9)) (defScope (top 9)) [] [] f fd) : L2.Binds K fd ["part", "thing", "low", "high"] [] :=
  F.bindsN fun _ _ _ _ _ _ us hl => match us, hl with | [_, _, _, _], _ => rfl
/-! is_name -/
def e_is_name_1 (ρ : DL.Env) : DL.Res D := (m2 dIn (mVar 1) (m2 dAdd (mC c_SMALL) (mC c_FIGURES))) ρ
def m_is_name : M Fl := (mSeq (mIf (mOrT (mNotT (mTru (mIs (isTy .str) (mVar 0)))) (mOrT (mNotT (mTest (mChain dLe dLe (mC (.int 1)) (mCa fLen (mCons (mVar 0) mNil)) (mC (.int 8))))) (mTest (m2 dNotIn (m2 dIx (mVar 0) (mC (.int 0))) (mC c_SMALL))))) (mRet (mC (.bl false)))
  mSkip)
  (mRet (mCa fAll (mCons (mLcD (mComp [1] (mItS (mVar 0)) (mTN 1) mTrue e_is_name_1)) mNil))))
def F_is_name : FD := runF 2 false m_is_name
theorem sc_is_name : FnScope ["thing", "sign"] ["thing"] (defScope (top 10)) := ⟨rfl, rfl, rfl, by decide +kernel, rfl, by decide +kernel, by decide +kernel⟩
theorem k_is_name {f : Addr} {fd : FuncData} (b : B K mg) (cf : CFacts K 6) (F : FunD K "is_name" "is_name" (defArgs (top 10)) (defBody (top 10)) (defScope (top 10)) [] [] f fd) : FnOk P w K mg base CX0 1 f fd ["thing"] (spF K 1 F_is_name) :=
  have hN : List.Nodup (α := Str) ["thing", "sign"] := sc_is_name.nd
  fn_ok F sc_is_name fun cdv A outer s H E hr =>
  (s_cons (s_if (dw_or (dt_not (dt_tru (d_isTy .str (d_var 0) b.isinstance b.t_str bt_str))) (dw_or (dt_not (dt_chain c_le c_le d_int (d_callB call_lenA ca_len b.len bt_len (da_cons (d_var 0) da_nil)) d_int)) (dw_or1 (dt_cmp1 (c_notin hr) (d_item (d_var 0) d_int) (d_glob (by rfl) b.c_SMALL.choose_spec.1 b.c_SMALL.choose_spec.2.1 b.c_SMALL.choose_spec.2.2))))).pt (s_one (s_ret d_bl))
  s_nil)
  (s_one (s_ret (d_callB (cr_all rfl) ca_all b.all bt_all (da_cons (d_lc [("sign", 1)] rfl hN (blkOk_by (N := ["thing", "sign"]) (sc := defScope (top 10)) (by decide +kernel)) (by decide) (i_str (d_var 0)) (fun _ _ _ _ _ => (g_name 1 hN)) (fun _ _ _ _ _ => ts_nil) (fun _ _ _ _ _ => (d_cmp1 (c_in hr) (d_var 1) (d_add (d_glob (by rfl) b.c_SMALL.choose_spec.1 b.c_SMALL.choose_spec.2.1 b.c_SMALL.choose_spec.2.2) (d_glob (by rfl) b.c_FIGURES.choose_spec.1 b.c_FIGURES.choose_spec.2.1 b.c_FIGURES.choose_spec.2.2))))) da_nil)))))
theorem n_is_name {f : Addr} {fd : FuncData} (F : FunD K "is_name" "is_name" (defArgs (top 10)) (defBody (top 10)) (defScope (top 10)) [] [] f fd) : L2.Binds K fd ["thing"] [] :=
  F.bindsN fun _ _ _ _ _ _ us hl => match us, hl with | [_], _ => rfl
/-! check_name -/
def m_check_name : M Fl := (mIf (mNotT (mTru (mCall F_is_name (mACons (mVar 1) mANil)))) mNever
  mSkip)
def F_check_name : FD := runF 2 false m_check_name
theorem sc_check_name : FnScope ["part", "thing"] ["part", "thing"] (defScope (top 11)) := ⟨rfl, rfl, rfl, by decide +kernel, rfl, by decide +kernel, by decide +kernel⟩
theorem k_check_name {f : Addr} {fd : FuncData} (b : B K mg) (cf : CFacts K 6) (h_is_name : Callee P w K mg base CX0 1 "is_name" 1 F_is_name) (F : FunD K "check_name" "check_name" (defArgs (top 11)) (defBody (top 11)) (defScope (top 11)) [] [] f fd) : FnOk P w K mg base CX0 2 f fd ["part", "thing"] (spF K 2 F_check_name) :=
  have hN : List.Nodup (α := Str) ["part", "thing"] := sc_check_name.nd
  fn_ok F sc_check_name fun cdv A outer s H E hr =>
  (s_one (s_if (dt_not (dt_tru (d_call h_is_name hr p0 (as_cons (d_var 1) as_nil)))) (s_one s_never)
  s_nil))
theorem n_check_name {f : Addr} {fd : FuncData} (F : FunD K "check_name" "check_name" (defArgs (top 11)) (defBody (top 11)) (defScope (top 11)) [] [] f fd) : L2.Binds K fd ["part", "thing"] [] :=
  F.bindsN fun _ _ _ _ _ _ us hl => match us, hl with | [_, _], _ => rfl
/-! Draft.__init__ -/
def m_Draft_init : M Fl := (mSeq (mDo (mCall F_check_number (mACons (mC (.str "money")) (mACons (mVar 1) (mACons (mC (.int 1)) (mACons (mC (.int 9999)) mANil))))))
  (mSeq (mDo (mCall F_check_name (mACons (mC (.str "drawer")) (mACons (mVar 2) mANil))))
  (mSeq (mDo (mCall F_check_name (mACons (mC (.str "payer")) (mACons (mVar 3) mANil))))
  (mSeq (mIf (mTest (m2 dEq (mVar 2) (mVar 3))) mNever
  mSkip)
  (mSeq (mDo (mCall F_check_number (mACons (mC (.str "due")) (mACons (mVar 4) (mACons (mC (.int 0)) (mACons (mC (.int 999)) mANil))))))
  (mSeq (mIf (mNotT (mTru (mIs (isTy .bool) (mVar 5)))) mNever
  mSkip)
  (mSeq (mFld 0 0 0 (mVar 1))
  (mSeq (mFld 0 0 1 (mVar 2))
  (mSeq (mFld 0 0 2 (mVar 3))
  (mSeq (mFld 0 0 3 (mVar 4))
  (mFld 0 0 4 (mVar 5))))))))))))
def F_Draft_init : FD := runF 6 false m_Draft_init
theorem sc_Draft_init : FnScope ["self", "money", "drawer", "payer", "due", "is_taken"] ["self", "money", "drawer", "payer", "due", "is_taken"] (defScope (inClass (top 14) 0)) := ⟨rfl, rfl, rfl, by decide +kernel, rfl, by decide +kernel, by decide +kernel⟩
theorem k_Draft_init {f : Addr} {fd : FuncData} (b : B K mg) (cf : CFacts K 6) (h_check_name : Callee P w K mg base CX0 2 "check_name" 2 F_check_name) (h_check_number : Callee P w K mg base CX0 3 "check_number" 4 F_check_number) (F : FunD K "__init__" "Draft.__init__" (defArgs (inClass (top 14) 0)) (defBody (inClass (top 14) 0)) (defScope (inClass (top 14) 0)) [] [] f fd) : FnOk P w K mg base CX0 4 f fd ["self", "money", "drawer", "payer", "due", "is_taken"] (spF K 6 F_Draft_init) :=
  have hN : List.Nodup (α := Str) ["self", "money", "drawer", "payer", "due", "is_taken"] := sc_Draft_init.nd
  fn_ok F sc_Draft_init fun cdv A outer s H E hr =>
  (s_cons (s_expr (d_call h_check_number hr p0 (as_cons d_str (as_cons (d_var 1) (as_cons d_int (as_cons d_int as_nil))))))
  (s_cons (s_expr (d_call h_check_name hr p0 (as_cons d_str (as_cons (d_var 2) as_nil))))
  (s_cons (s_expr (d_call h_check_name hr p0 (as_cons d_str (as_cons (d_var 3) as_nil))))
  (s_cons (s_if (dt_cmp1 (c_eq hr) (d_var 2) (d_var 3)) (s_one s_never)
  s_nil)
  (s_cons (s_expr (d_call h_check_number hr p0 (as_cons d_str (as_cons (d_var 4) (as_cons d_int (as_cons d_int as_nil))))))
  (s_cons (s_if (dt_not (dt_tru (d_isTy .bool (d_var 5) b.isinstance b.t_bool bt_bool))) (s_one s_never)
  s_nil)
  (s_cons (s_fld cf 0 0 0 (by decide) rfl (by decide) (d_var 1))
  (s_cons (s_fld cf 0 0 1 (by decide) rfl (by decide) (d_var 2))
  (s_cons (s_fld cf 0 0 2 (by decide) rfl (by decide) (d_var 3))
  (s_cons (s_fld cf 0 0 3 (by decide) rfl (by decide) (d_var 4))
  (s_one (s_fld cf 0 0 4 (by decide) rfl (by decide) (d_var 5)))))))))))))
theorem n_Draft_init {f : Addr} {fd : FuncData} (F : FunD K "__init__" "Draft.__init__" (defArgs (inClass (top 14) 0)) (defBody (inClass (top 14) 0)) (defScope (inClass (top 14) 0)) [] [] f fd) : L2.Binds K fd ["self", "money", "drawer", "payer", "due", "is_taken"] [] :=
  F.bindsN fun _ _ _ _ _ _ us hl => match us, hl with | [_, _, _, _, _, _], _ => rfl
/-! is_row -/
def m_is_row : M Fl := (mRet (mIs (isTys [.list, .tuple]) (mVar 0)))
def F_is_row : FD := runF 1 false m_is_row
theorem sc_is_row : FnScope ["thing"] ["thing"] (defScope (top 12)) := ⟨rfl, rfl, rfl, by decide +kernel, rfl, by decide +kernel, by decide +kernel⟩
theorem k_is_row {f : Addr} {fd : FuncData} (b : B K mg) (cf : CFacts K 6) (F : FunD K "is_row" "is_row" (defArgs (top 12)) (defBody (top 12)) (defScope (top 12)) [] [] f fd) : FnOk P w K mg base CX0 1 f fd ["thing"] (spF K 1 F_is_row) :=
  have hN : List.Nodup (α := Str) ["thing"] := sc_is_row.nd
  fn_ok F sc_is_row fun cdv A outer s H E hr =>
  (s_one (s_ret (d_isTys2 .list .tuple (d_var 0) b.isinstance b.t_list b.t_tuple bt_list bt_tuple)))
theorem n_is_row {f : Addr} {fd : FuncData} (F : FunD K "is_row" "is_row" (defArgs (top 12)) (defBody (top 12)) (defScope (top 12)) [] [] f fd) : L2.Binds K fd ["thing"] [] :=
  F.bindsN fun _ _ _ _ _ _ us hl => match us, hl with | [_], _ => rfl
/-! check_passed -/
def b_check_passed_1 (ρ : DL.Env) : DL.Res Fl := (mIf (mOrT (mNotT (mTru (mCall F_is_name (mACons (mVar 4) mANil)))) (mOrT (mTest (m2 dIn (mVar 4) (mTup (mCons (m1 (dFld [(0, 1)]) (mVar 0)) (mCons (m1 (dFld [(0, 2)]) (mVar 0)) mNil))))) (mTest (m2 dIn (mVar 4) (mSl (mCa fLst (mCons (mVar 1) mNil)) none (some (mVar 3))))))) mNever
  mSkip) ρ
def e_check_passed_1 (ρ : DL.Env) : DL.Res D := (mCall F_is_name (mACons (mVar 4) mANil)) ρ
def m_check_passed : M Fl := (mSeq (mIf (mNotT (mTru (mIs (isCl 6 0) (mVar 0)))) mNever
  mSkip)
  (mSeq (mIf (mNotT (mTru (mCall F_is_row (mACons (mVar 1) mANil)))) mNever
  mSkip)
  (mSeq (mFor (mEnum (mVar 1)) (mTT (mTCons (mTN 3) (mTCons (mTN 4) mTNil))) b_check_passed_1)
  (mIf (mOrT (mNotT (mTru (mCall F_is_row (mACons (mVar 2) mANil)))) (mNotT (mTru (mCa fAll (mCons (mLcD (mComp [4] (mItLT (mVar 2)) (mTN 4) mTrue e_check_passed_1)) mNil))))) mNever
  mSkip))))
def F_check_passed : FD := runF 5 false m_check_passed
theorem sc_check_passed : FnScope ["draft", "hands", "failing", "place", "hand"] ["draft", "hands", "failing"] (defScope (top 17)) := ⟨rfl, rfl, rfl, by decide +kernel, rfl, by decide +kernel, by decide +kernel⟩
theorem k_check_passed {f : Addr} {fd : FuncData} (b : B K mg) (cf : CFacts K 6) (h_is_name : Callee P w K mg base CX0 1 "is_name" 1 F_is_name) (h_is_row : Callee P w K mg base CX0 1 "is_row" 1 F_is_row) (F : FunD K "check_passed" "check_passed" (defArgs (top 17)) (defBody (top 17)) (defScope (top 17)) [] [] f fd) : FnOk P w K mg base CX0 2 f fd ["draft", "hands", "failing"] (spF K 3 F_check_passed) :=
  have hN : List.Nodup (α := Str) ["draft", "hands", "failing", "place", "hand"] := sc_check_passed.nd
  fn_ok F sc_check_passed fun cdv A outer s H E hr =>
  (s_cons (s_if (dt_not (dt_tru (d_isCl cf 0 (by decide) rfl (d_var 0) b.isinstance b.g_Draft))) (s_one s_never)
  s_nil)
  (s_cons (s_if (dt_not (dt_tru (d_call h_is_row hr p0 (as_cons (d_var 1) as_nil)))) (s_one s_never)
  s_nil)
  (s_cons (s_for PassesOwn.never rfl (i_enum (d_var 1) b.enumerate) (g_tup rfl (gs_cons (g_name 3 hN) (gs_cons (g_name 4 hN) gs_nil))) (s_one (s_if (dw_or (dt_not (dt_tru (d_call h_is_name hr p0 (as_cons (d_var 4) as_nil)))) (dw_or (dt_cmp1 (c_in hr) (d_var 4) (d_tuple (da_cons (d_fld cf [(0, 1)] (d_var 0)) (da_cons (d_fld cf [(0, 2)] (d_var 0)) da_nil)))) (dw_or1 (dt_cmp1 (c_in hr) (d_var 4) (d_slice (d_callTy call_list_of ca_lst b.t_list bt_list (da_cons (d_var 1) da_nil)) do_none (do_some (d_var 3))))))).pt (s_one s_never)
  s_nil)))
  (s_one (s_if (dw_or (dt_not (dt_tru (d_call h_is_row hr p0 (as_cons (d_var 2) as_nil)))) (dw_or1 (dt_not (dt_tru (d_callB (cr_all rfl) ca_all b.all bt_all (da_cons (d_lc [("hand", 4)] rfl hN (blkOk_by (N := ["draft", "hands", "failing", "place", "hand"]) (sc := defScope (top 17)) (by decide +kernel)) (by decide) (i_seq (d_var 2)) (fun _ _ _ _ _ => (g_name 4 hN)) (fun _ _ _ _ _ => ts_nil) (fun _ _ _ _ _ => (d_call h_is_name hr p0 (as_cons (d_var 4) as_nil)))) da_nil)))))).pt (s_one s_never)
  s_nil)))))
theorem n_check_passed {f : Addr} {fd : FuncData} (F : FunD K "check_passed" "check_passed" (defArgs (top 17)) (defBody (top 17)) (defScope (top 17)) [] [] f fd) : L2.Binds K fd ["draft", "hands", "failing"] [] :=
  F.bindsN fun _ _ _ _ _ _ us hl => match us, hl with | [_, _, _], _ => rfl
/-! holder_of -/
def m_holder_of : M Fl := (mSeq (mDo (mCall F_check_passed (mACons (mVar 0) (mACons (mVar 1) (mACons (mLst mNil) mANil)))))
  (mRet (mIfE (mTest (m2 dGt (mCa fLen (mCons (mVar 1) mNil)) (mC (.int 0)))) (m2 dIx (mCa fLst (mCons (mVar 1) mNil)) (m1 dNeg (mC (.int 1)))) (m1 (dFld [(0, 1)]) (mVar 0)))))
def F_holder_of : FD := runF 2 false m_holder_of
theorem sc_holder_of : FnScope ["draft", "hands"] ["draft", "hands"] (defScope (top 18)) := ⟨rfl, rfl, rfl, by decide +kernel, rfl, by decide +kernel, by decide +kernel⟩
theorem k_holder_of {f : Addr} {fd : FuncData} (b : B K mg) (cf : CFacts K 6) (h_check_passed : Callee P w K mg base CX0 2 "check_passed" 3 F_check_passed) (F : FunD K "holder_of" "holder_of" (defArgs (top 18)) (defBody (top 18)) (defScope (top 18)) [] [] f fd) : FnOk P w K mg base CX0 3 f fd ["draft", "hands"] (spF K 2 F_holder_of) :=
  have hN : List.Nodup (α := Str) ["draft", "hands"] := sc_holder_of.nd
  fn_ok F sc_holder_of fun cdv A outer s H E hr =>
  (s_cons (s_expr (d_call h_check_passed hr p0 (as_cons (d_var 0) (as_cons (d_var 1) (as_cons (d_list da_nil) as_nil)))))
  (s_one (s_ret (d_ifexp (dt_cmp1 c_gt (d_callB call_lenA ca_len b.len bt_len (da_cons (d_var 1) da_nil)) d_int) (d_item (d_callTy call_list_of ca_lst b.t_list bt_list (da_cons (d_var 1) da_nil)) (d_neg d_int)) (d_fld cf [(0, 1)] (d_var 0))))))
theorem n_holder_of {f : Addr} {fd : FuncData} (F : FunD K "holder_of" "holder_of" (defArgs (top 18)) (defBody (top 18)) (defScope (top 18)) [] [] f fd) : L2.Binds K fd ["draft", "hands"] [] :=
  F.bindsN fun _ _ _ _ _ _ us hl => match us, hl with | [_, _], _ => rfl
/-! Paid.__init__ -/
def m_Paid_init : M Fl := (mFld 0 1 0 (mVar 1))
def F_Paid_init : FD := runF 2 false m_Paid_init
theorem sc_Paid_init : FnScope ["self", "hand"] ["self", "hand"] (defScope (inClass (top 15) 0)) := ⟨rfl, rfl, rfl, by decide +kernel, rfl, by decide +kernel, by decide +kernel⟩
theorem k_Paid_init {f : Addr} {fd : FuncData} (b : B K mg) (cf : CFacts K 6) (F : FunD K "__init__" "Paid.__init__" (defArgs (inClass (top 15) 0)) (defBody (inClass (top 15) 0)) (defScope (inClass (top 15) 0)) [] [] f fd) : FnOk P w K mg base CX0 1 f fd ["self", "hand"] (spF K 2 F_Paid_init) :=
  have hN : List.Nodup (α := Str) ["self", "hand"] := sc_Paid_init.nd
  fn_ok F sc_Paid_init fun cdv A outer s H E hr =>
  (s_one (s_fld cf 0 1 0 (by decide) rfl (by decide) (d_var 1)))
theorem n_Paid_init {f : Addr} {fd : FuncData} (F : FunD K "__init__" "Paid.__init__" (defArgs (inClass (top 15) 0)) (defBody (inClass (top 15) 0)) (defScope (inClass (top 15) 0)) [] [] f fd) : L2.Binds K fd ["self", "hand"] [] :=
  F.bindsN fun _ _ _ _ _ _ us hl => match us, hl with | [_, _], _ => rfl
/-! asked_back -/
def m_asked_back : M Fl := (mSeq (mDo (mCall F_check_passed (mACons (mVar 0) (mACons (mVar 1) (mACons (mLst mNil) mANil)))))
  (mSeq (mSet 3 (mLst (mCons (m1 (dFld [(0, 1)]) (mVar 0)) (mStar (mVar 1) mNil))))
  (mSeq (mIf (mTest (m2 dNotIn (mVar 2) (mVar 3))) mNever
  mSkip)
  (mRet (m1 dRev (mSl (mVar 3) none (some (mIndex (mVar 3) (mVar 2)))))))))
def F_asked_back : FD := runF 4 false m_asked_back
theorem sc_asked_back : FnScope ["draft", "hands", "hand", "rows"] ["draft", "hands", "hand"] (defScope (top 19)) := ⟨rfl, rfl, rfl, by decide +kernel, rfl, by decide +kernel, by decide +kernel⟩
theorem k_asked_back {f : Addr} {fd : FuncData} (b : B K mg) (cf : CFacts K 6) (h_check_passed : Callee P w K mg base CX0 2 "check_passed" 3 F_check_passed) (F : FunD K "asked_back" "asked_back" (defArgs (top 19)) (defBody (top 19)) (defScope (top 19)) [] [] f fd) : FnOk P w K mg base CX0 3 f fd ["draft", "hands", "hand"] (spF K 3 F_asked_back) :=
  have hN : List.Nodup (α := Str) ["draft", "hands", "hand", "rows"] := sc_asked_back.nd
  fn_ok F sc_asked_back fun cdv A outer s H E hr =>
  (s_cons (s_expr (d_call h_check_passed hr p0 (as_cons (d_var 0) (as_cons (d_var 1) (as_cons (d_list da_nil) as_nil)))))
  (s_cons (s_set 3 hN (d_list (da_cons (d_fld cf [(0, 1)] (d_var 0)) (da_star (d_var 1) da_nil))))
  (s_cons (s_if (dt_cmp1 (c_notin hr) (d_var 2) (d_var 3)) (s_one s_never)
  s_nil)
  (s_one (s_ret (d_rev (d_slice (d_var 3) do_none (do_some (d_index hr (d_var 3) (d_var 2))))))))))
theorem n_asked_back {f : Addr} {fd : FuncData} (F : FunD K "asked_back" "asked_back" (defArgs (top 19)) (defBody (top 19)) (defScope (top 19)) [] [] f fd) : L2.Binds K fd ["draft", "hands", "hand"] [] :=
  F.bindsN fun _ _ _ _ _ _ us hl => match us, hl with | [_, _, _], _ => rfl
/-! Bears.__init__ -/
def m_Bears_init : M Fl := (mSeq (mFld 0 2 0 (mVar 1))
  (mFld 0 2 1 (mIfE (mTru (mCall F_is_row (mACons (mVar 2) mANil))) (mCa fTup (mCons (mVar 2) mNil)) (mVar 2))))
def F_Bears_init : FD := runF 3 false m_Bears_init
theorem sc_Bears_init : FnScope ["self", "hand", "way"] ["self", "hand", "way"] (defScope (inClass (top 16) 0)) := ⟨rfl, rfl, rfl, by decide +kernel, rfl, by decide +kernel, by decide +kernel⟩
theorem k_Bears_init {f : Addr} {fd : FuncData} (b : B K mg) (cf : CFacts K 6) (h_is_row : Callee P w K mg base CX0 1 "is_row" 1 F_is_row) (F : FunD K "__init__" "Bears.__init__" (defArgs (inClass (top 16) 0)) (defBody (inClass (top 16) 0)) (defScope (inClass (top 16) 0)) [] [] f fd) : FnOk P w K mg base CX0 2 f fd ["self", "hand", "way"] (spF K 3 F_Bears_init) :=
  have hN : List.Nodup (α := Str) ["self", "hand", "way"] := sc_Bears_init.nd
  fn_ok F sc_Bears_init fun cdv A outer s H E hr =>
  (s_cons (s_fld cf 0 2 0 (by decide) rfl (by decide) (d_var 1))
  (s_one (s_fld cf 0 2 1 (by decide) rfl (by decide) (d_ifexp (dt_tru (d_call h_is_row hr p0 (as_cons (d_var 2) as_nil))) (d_callTy call_tuple_of ca_tup b.t_tuple bt_tuple (da_cons (d_var 2) da_nil)) (d_var 2)))))
theorem n_Bears_init {f : Addr} {fd : FuncData} (F : FunD K "__init__" "Bears.__init__" (defArgs (inClass (top 16) 0)) (defBody (inClass (top 16) 0)) (defScope (inClass (top 16) 0)) [] [] f fd) : L2.Binds K fd ["self", "hand", "way"] [] :=
  F.bindsN fun _ _ _ _ _ _ us hl => match us, hl with | [_, _, _], _ => rfl
/-! judge_draft -/
def t_judge_draft_1 (ρ : DL.Env) : DL.Res Bool := (mTest (m2 dNotIn (mVar 6) (mVar 2))) ρ
def t_judge_draft_2 (ρ : DL.Env) : DL.Res Bool := (mTest (m2 dNotIn (mVar 6) (mVar 2))) ρ
def w_judge_draft_1 (ρ : DL.Env) : DL.Res Bool := (mTest (m2 dNe (mLcD (mComp [6] (mItLT (mCall F_asked_back (mACons (mVar 0) (mACons (mVar 1) (mACons (mVar 3) mANil))))) (mTN 6) t_judge_draft_1 (mVar 6))) (mLst mNil))) ρ
def b_judge_draft_1 (ρ : DL.Env) : DL.Res Fl := (mSeq (mSet 5 (m2 dIx (mLcD (mComp [6] (mItLT (mCall F_asked_back (mACons (mVar 0) (mACons (mVar 1) (mACons (mVar 3) mANil))))) (mTN 6) t_judge_draft_2 (mVar 6))) (mC (.int 0))))
  (mSeq (mApp 4 (mTup (mCons (mVar 5) (mCons (mVar 3) mNil))))
  (mSet 3 (mVar 5)))) ρ
def m_judge_draft : M Fl := (mSeq (mDo (mCall F_check_passed (mACons (mVar 0) (mACons (mVar 1) (mACons (mVar 2) mANil)))))
  (mSeq (mParDO 3 4 (mCall F_holder_of (mACons (mVar 0) (mACons (mVar 1) mANil))) (oLst mNil))
  (mSeq (mIf (mAndT (mTru (m1 (dFld [(0, 4)]) (mVar 0))) (mTest (m2 dNotIn (m1 (dFld [(0, 2)]) (mVar 0)) (mVar 2)))) (mRet (mNew 1 F_Paid_init (mACons (mVar 3) mANil)))
  mSkip)
  (mSeq (mWhile 20 w_judge_draft_1 b_judge_draft_1)
  (mFrz 4 (mRet (mNew 2 F_Bears_init (mACons (mVar 3) (mACons (mVar 4) mANil)))))))))
def F_judge_draft : FD := runF 7 false m_judge_draft
theorem sc_judge_draft : FnScope ["draft", "hands", "failing", "hand", "way", "late", "one"] ["draft", "hands", "failing"] (defScope (top 20)) := ⟨rfl, rfl, rfl, by decide +kernel, rfl, by decide +kernel, by decide +kernel⟩
theorem k_judge_draft {f : Addr} {fd : FuncData} (b : B K mg) (cf : CFacts K 6) (h_asked_back : Callee P w K mg base CX0 3 "asked_back" 3 F_asked_back) (h_check_passed : Callee P w K mg base CX0 2 "check_passed" 3 F_check_passed) (h_holder_of : Callee P w K mg base CX0 3 "holder_of" 2 F_holder_of) (h_Bears_init : Maker P w K mg base CX0 2 "Bears" 2 2 F_Bears_init) (h_Paid_init : Maker P w K mg base CX0 1 "Paid" 1 1 F_Paid_init) (F : FunD K "judge_draft" "judge_draft" (defArgs (top 20)) (defBody (top 20)) (defScope (top 20)) [] [] f fd) : FnOk P w K mg base CX0 4 f fd ["draft", "hands", "failing"] (spF K 3 F_judge_draft) :=
  have hN : List.Nodup (α := Str) ["draft", "hands", "failing", "hand", "way", "late", "one"] := sc_judge_draft.nd
  fn_ok F sc_judge_draft fun cdv A outer s H E hr =>
  (s_cons (s_expr (d_call h_check_passed hr p0 (as_cons (d_var 0) (as_cons (d_var 1) (as_cons (d_var 2) as_nil)))))
  (s_cons (s_parDO 3 4 rfl hN (d_call h_holder_of hr p0 (as_cons (d_var 0) (as_cons (d_var 1) as_nil))) (o_list da_nil))
  (s_cons (s_if (dw_and (dt_tru (d_fld cf [(0, 4)] (d_var 0))) (dw_and1 (dt_cmp1 (c_notin hr) (d_fld cf [(0, 2)] (d_var 0)) (d_var 2)))).pt (s_one (s_ret (d_new h_Paid_init hr p0 (as_cons (d_var 3) as_nil))))
  s_nil)
  (s_cons (s_while 20 PassesOwn.never (dt_cmp1 (c_ne hr) (d_lc [("one", 6)] rfl hN (blkOk_by (N := ["draft", "hands", "failing", "hand", "way", "late", "one"]) (sc := defScope (top 20)) (by decide +kernel)) (by decide) (i_seq (d_call h_asked_back hr p0 (as_cons (d_var 0) (as_cons (d_var 1) (as_cons (d_var 3) as_nil))))) (fun _ _ _ _ _ => (g_name 6 hN)) (fun _ _ _ _ _ => (ts_one (dt_cmp1 (c_notin hr) (d_var 6) (d_var 2)))) (fun _ _ _ _ _ => (d_var 6))) (d_list da_nil)) (s_cons (s_set 5 hN (d_item (d_lc [("one", 6)] rfl hN (blkOk_by (N := ["draft", "hands", "failing", "hand", "way", "late", "one"]) (sc := defScope (top 20)) (by decide +kernel)) (by decide) (i_seq (d_call h_asked_back hr p0 (as_cons (d_var 0) (as_cons (d_var 1) (as_cons (d_var 3) as_nil))))) (fun _ _ _ _ _ => (g_name 6 hN)) (fun _ _ _ _ _ => (ts_one (dt_cmp1 (c_notin hr) (d_var 6) (d_var 2)))) (fun _ _ _ _ _ => (d_var 6))) d_int))
  (s_cons (s_append 4 (d_tuple (da_cons (d_var 5) (da_cons (d_var 3) da_nil))))
  (s_one (s_set 3 hN (d_var 5))))))
  (s_one (s_frz 4 (s_ret (d_new h_Bears_init hr p0 (as_cons (d_var 3) (as_cons (d_var 4) as_nil))))))))))
theorem n_judge_draft {f : Addr} {fd : FuncData} (F : FunD K "judge_draft" "judge_draft" (defArgs (top 20)) (defBody (top 20)) (defScope (top 20)) [] [] f fd) : L2.Binds K fd ["draft", "hands", "failing"] [] :=
  F.bindsN fun _ _ _ _ _ _ us hl => match us, hl with | [_, _, _], _ => rfl
/-! losses -/
def m_losses : M Fl := (mSeq (mSet 3 (mCall F_judge_draft (mACons (mVar 0) (mACons (mVar 1) (mACons (mVar 2) mANil)))))
  (mRet (mIfE (mTruO bs (mVar 3)) (mC (.dct [] [])) (mDisp [((m1 (dFld [(1, 0), (2, 0)]) (mVar 3)), (m1 (dFld [(0, 0), (3, 0)]) (mVar 0)))]))))
def F_losses : FD := runF 4 false m_losses
theorem sc_losses : FnScope ["draft", "hands", "failing", "found"] ["draft", "hands", "failing"] (defScope (top 21)) := ⟨rfl, rfl, rfl, by decide +kernel, rfl, by decide +kernel, by decide +kernel⟩
theorem k_losses {f : Addr} {fd : FuncData} (b : B K mg) (cf : CFacts K 6) (hbs : ∀ q ∈ bs, Booler P w K mg base CX0 1 q.1 q.2) (h_judge_draft : Callee P w K mg base CX0 4 "judge_draft" 3 F_judge_draft) (F : FunD K "losses" "losses" (defArgs (top 21)) (defBody (top 21)) (defScope (top 21)) [] [] f fd) : FnOk P w K mg base CX0 5 f fd ["draft", "hands", "failing"] (spF K 3 F_losses) :=
  have hN : List.Nodup (α := Str) ["draft", "hands", "failing", "found"] := sc_losses.nd
  fn_ok F sc_losses fun cdv A outer s H E hr =>
  (s_cons (s_set 3 hN (d_call h_judge_draft hr p0 (as_cons (d_var 0) (as_cons (d_var 1) (as_cons (d_var 2) as_nil)))))
  (s_one (s_ret (d_ifexp (dt_truO bs hbs p0 hr (d_var 3)) d_dict0 (d_disp [((m1 (dFld [(1, 0), (2, 0)]) (mVar 3)), (m1 (dFld [(0, 0), (3, 0)]) (mVar 0)))] (pps_cons (d_fld cf [(1, 0), (2, 0)] (d_var 3)) (d_fld cf [(0, 0), (3, 0)] (d_var 0)) pps_nil))))))
theorem n_losses {f : Addr} {fd : FuncData} (F : FunD K "losses" "losses" (defArgs (top 21)) (defBody (top 21)) (defScope (top 21)) [] [] f fd) : L2.Binds K fd ["draft", "hands", "failing"] [] :=
  F.bindsN fun _ _ _ _ _ _ us hl => match us, hl with | [_, _, _], _ => rfl
/-! safe_hands -/
def t_safe_hands_1 (ρ : DL.Env) : DL.Res Bool := (mTest (m2 dNotIn (mVar 4) (mVar 3))) ρ
def m_safe_hands : M Fl := (mSeq (mSet 3 (mCall F_losses (mACons (mVar 0) (mACons (mVar 1) (mACons (mVar 2) mANil)))))
  (mRet (mCa fTup (mCons (mLcD (mComp [4] (mItLT (mLst (mCons (m1 (dFld [(0, 1)]) (mVar 0)) (mStar (mVar 1) mNil)))) (mTN 4) t_safe_hands_1 (mVar 4))) mNil))))
def F_safe_hands : FD := runF 5 false m_safe_hands
theorem sc_safe_hands : FnScope ["draft", "hands", "failing", "lost", "hand"] ["draft", "hands", "failing"] (defScope (top 22)) := ⟨rfl, rfl, rfl, by decide +kernel, rfl, by decide +kernel, by decide +kernel⟩
theorem k_safe_hands {f : Addr} {fd : FuncData} (b : B K mg) (cf : CFacts K 6) (h_losses : Callee P w K mg base CX0 5 "losses" 3 F_losses) (F : FunD K "safe_hands" "safe_hands" (defArgs (top 22)) (defBody (top 22)) (defScope (top 22)) [] [] f fd) : FnOk P w K mg base CX0 6 f fd ["draft", "hands", "failing"] (spF K 3 F_safe_hands) :=
  have hN : List.Nodup (α := Str) ["draft", "hands", "failing", "lost", "hand"] := sc_safe_hands.nd
  fn_ok F sc_safe_hands fun cdv A outer s H E hr =>
  (s_cons (s_set 3 hN (d_call h_losses hr p0 (as_cons (d_var 0) (as_cons (d_var 1) (as_cons (d_var 2) as_nil)))))
  (s_one (s_ret (d_callTy call_tuple_of ca_tup b.t_tuple bt_tuple (da_cons (d_lc [("hand", 4)] rfl hN (blkOk_by (N := ["draft", "hands", "failing", "lost", "hand"]) (sc := defScope (top 22)) (by decide +kernel)) (by decide) (i_seq (d_list (da_cons (d_fld cf [(0, 1)] (d_var 0)) (da_star (d_var 1) da_nil)))) (fun _ _ _ _ _ => (g_name 4 hN)) (fun _ _ _ _ _ => (ts_one (dt_cmp1 (c_notin hr) (d_var 4) (d_var 3)))) (fun _ _ _ _ _ => (d_var 4))) da_nil)))))
theorem n_safe_hands {f : Addr} {fd : FuncData} (F : FunD K "safe_hands" "safe_hands" (defArgs (top 22)) (defBody (top 22)) (defScope (top 22)) [] [] f fd) : L2.Binds K fd ["draft", "hands", "failing"] [] :=
  F.bindsN fun _ _ _ _ _ _ us hl => match us, hl with | [_, _, _], _ => rfl
/-! worth -/
def m_worth : M Fl := (mSeq (mDo (mCall F_check_passed (mACons (mVar 0) (mACons (mLst mNil) (mACons (mLst mNil) mANil)))))
  (mSeq (mDo (mCall F_check_number (mACons (mC (.str "day")) (mACons (mVar 1) (mACons (mC (.int 0)) (mACons (mC (.int 999)) mANil))))))
  (mSeq (mDo (mCall F_check_number (mACons (mC (.str "rate")) (mACons (mVar 2) (mACons (mC (.int 0)) (mACons (mC (.int 10)) mANil))))))
  (mRet (m2 dFdiv (m2 dMul (m1 (dFld [(0, 0), (3, 0)]) (mVar 0)) (m2 dSub (mC (.int 1000)) (mCa fMin (mCons (mC (.int 1000)) (mCons (m2 dMul (mCa fMax (mCons (mC (.int 0)) (mCons (m2 dSub (m1 (dFld [(0, 3)]) (mVar 0)) (mVar 1)) mNil))) (mVar 2)) mNil))))) (mC (.int 1000)))))))
def F_worth : FD := runF 3 false m_worth
theorem sc_worth : FnScope ["draft", "day", "rate"] ["draft", "day", "rate"] (defScope (top 23)) := ⟨rfl, rfl, rfl, by decide +kernel, rfl, by decide +kernel, by decide +kernel⟩
theorem k_worth {f : Addr} {fd : FuncData} (b : B K mg) (cf : CFacts K 6) (h_check_number : Callee P w K mg base CX0 3 "check_number" 4 F_check_number) (h_check_passed : Callee P w K mg base CX0 2 "check_passed" 3 F_check_passed) (F : FunD K "worth" "worth" (defArgs (top 23)) (defBody (top 23)) (defScope (top 23)) [] [] f fd) : FnOk P w K mg base CX0 4 f fd ["draft", "day", "rate"] (spF K 3 F_worth) :=
  have hN : List.Nodup (α := Str) ["draft", "day", "rate"] := sc_worth.nd
  fn_ok F sc_worth fun cdv A outer s H E hr =>
  (s_cons (s_expr (d_call h_check_passed hr p0 (as_cons (d_var 0) (as_cons (d_list da_nil) (as_cons (d_list da_nil) as_nil)))))
  (s_cons (s_expr (d_call h_check_number hr p0 (as_cons d_str (as_cons (d_var 1) (as_cons d_int (as_cons d_int as_nil))))))
  (s_cons (s_expr (d_call h_check_number hr p0 (as_cons d_str (as_cons (d_var 2) (as_cons d_int (as_cons d_int as_nil))))))
  (s_one (s_ret (d_fdiv (d_mul (d_fld cf [(0, 0), (3, 0)] (d_var 0)) (d_sub d_int (d_callB (call_minA rfl) ca_min b.min bt_min (da_cons d_int (da_cons (d_mul (d_callB (call_maxA rfl) ca_max b.max bt_max (da_cons d_int (da_cons (d_sub (d_fld cf [(0, 3)] (d_var 0)) (d_var 1)) da_nil))) (d_var 2)) da_nil))))) d_int))))))
theorem n_worth {f : Addr} {fd : FuncData} (F : FunD K "worth" "worth" (defArgs (top 23)) (defBody (top 23)) (defScope (top 23)) [] [] f fd) : L2.Binds K fd ["draft", "day", "rate"] [] :=
  F.bindsN fun _ _ _ _ _ _ us hl => match us, hl with | [_, _, _], _ => rfl
/-! _law_cover -/
def t_law_cover_1 (ρ : DL.Env) : DL.Res Bool := (mTest (m2 dEq (mCall F_law_take (mASlot 0 (mACons (mC (.int 2)) mANil))) (mC (.int 0)))) ρ
def m_law_cover : M Fl := (mSeq (mSet 1 (mCall F_law_take (mASlot 0 (mACons (mC (.int 4)) mANil))))
  (mSeq (mSet 2 (mOrG (mLcD (mComp [3] (mItLT (mTup (mCons (mC (.str "fire")) (mCons (mC (.str "storm")) (mCons (mC (.str "theft")) mNil))))) (mTN 3) t_law_cover_1 (mVar 3))) (mLst (mCons (mC (.str "fire")) mNil))))
  (mRet (mTup (mCons (m2 dAdd (mC (.int 1)) (mCall F_law_take (mASlot 0 (mACons (mC (.int 60)) mANil)))) (mCons (m2 dAdd (mC (.int 1)) (mCall F_law_take (mASlot 0 (mACons (mC (.int 60)) mANil)))) (mCons (mVar 2) (mCons (mTup (mCons (mVar 1) (mCons (m2 dAdd (m2 dAdd (mVar 1) (mC (.int 1))) (mCall F_law_take (mASlot 0 (mACons (mC (.int 3)) mANil)))) mNil))) (mCons (m2 dMul (mCall F_law_take (mASlot 0 (mACons (mC (.int 20)) mANil))) (mCall F_law_take (mASlot 0 (mACons (mC (.int 2)) mANil)))) mNil)))))))))
def F_law_cover : FD := runF 4 false m_law_cover
theorem sc_law_cover : FnScope ["draw", "low", "perils", "peril"] ["draw"] (defScope (top 44)) := ⟨rfl, rfl, rfl, by decide +kernel, rfl, by decide +kernel, by decide +kernel⟩
theorem k_law_cover {f : Addr} {fd : FuncData} (b : B K mg) (cf : CFacts K 6) (h_law_take : Callee P w K mg base CX0 2 "_law_take" 2 F_law_take) (F : FunD K "_law_cover" "_law_cover" (defArgs (top 44)) (defBody (top 44)) (defScope (top 44)) [] [] f fd) : FnOk P w K mg base CX0 3 f fd ["draw"] (spF K 1 F_law_cover) :=
  have hN : List.Nodup (α := Str) ["draw", "low", "perils", "peril"] := sc_law_cover.nd
  fn_ok F sc_law_cover fun cdv A outer s H E hr =>
  (s_cons (s_set 1 hN (d_call h_law_take hr p0 (as_slot 0 (as_cons d_int as_nil))))
  (s_cons (s_set 2 hN (d_orG (d_lc [("peril", 3)] rfl hN (blkOk_by (N := ["draw", "low", "perils", "peril"]) (sc := defScope (top 44)) (by decide +kernel)) (by decide) (i_seq (d_tuple (da_cons d_str (da_cons d_str (da_cons d_str da_nil))))) (fun _ _ _ _ _ => (g_name 3 hN)) (fun _ _ _ _ _ => (ts_one (dt_cmp1 (c_eq hr) (d_call h_law_take hr p0 (as_slot 0 (as_cons d_int as_nil))) d_int))) (fun _ _ _ _ _ => (d_var 3))) (d_one (d_list (da_cons d_str da_nil)))))
  (s_one (s_ret (d_tuple (da_cons (d_add d_int (d_call h_law_take hr p0 (as_slot 0 (as_cons d_int as_nil)))) (da_cons (d_add d_int (d_call h_law_take hr p0 (as_slot 0 (as_cons d_int as_nil)))) (da_cons (d_var 2) (da_cons (d_tuple (da_cons (d_var 1) (da_cons (d_add (d_add (d_var 1) d_int) (d_call h_law_take hr p0 (as_slot 0 (as_cons d_int as_nil)))) da_nil))) (da_cons (d_mul (d_call h_law_take hr p0 (as_slot 0 (as_cons d_int as_nil))) (d_call h_law_take hr p0 (as_slot 0 (as_cons d_int as_nil)))) da_nil))))))))))
theorem n_law_cover {f : Addr} {fd : FuncData} (F : FunD K "_law_cover" "_law_cover" (defArgs (top 44)) (defBody (top 44)) (defScope (top 44)) [] [] f fd) : L2.Binds K fd ["draw"] [] :=
  F.bindsN fun _ _ _ _ _ _ us hl => match us, hl with | [_], _ => rfl
/-! check_perils -/
def e_check_perils_1 (ρ : DL.Env) : DL.Res D := (mCall F_is_name (mACons (mVar 2) mANil)) ρ
def m_check_perils : M Fl := (mSeq (mIf (mOrT (mNotT (mTru (mCall F_is_row (mACons (mVar 1) mANil)))) (mOrT (mTest (m2 dEq (mCa fLen (mCons (mVar 1) mNil)) (mC (.int 0)))) (mNotT (mTru (mCa fAll (mCons (mLcD (mComp [2] (mItLT (mVar 1)) (mTN 2) mTrue e_check_perils_1)) mNil)))))) mNever
  mSkip)
  (mIf (mTest (m2 dLt (m1 dLenSet (mVar 1)) (mCa fLen (mCons (mVar 1) mNil)))) mNever
  mSkip))
def F_check_perils : FD := runF 3 false m_check_perils
theorem sc_check_perils : FnScope ["part", "perils", "one"] ["part", "perils"] (defScope (top 27)) := ⟨rfl, rfl, rfl, by decide +kernel, rfl, by decide +kernel, by decide +kernel⟩
theorem k_check_perils {f : Addr} {fd : FuncData} (b : B K mg) (cf : CFacts K 6) (h_is_name : Callee P w K mg base CX0 1 "is_name" 1 F_is_name) (h_is_row : Callee P w K mg base CX0 1 "is_row" 1 F_is_row) (F : FunD K "check_perils" "check_perils" (defArgs (top 27)) (defBody (top 27)) (defScope (top 27)) [] [] f fd) : FnOk P w K mg base CX0 2 f fd ["part", "perils"] (spF K 2 F_check_perils) :=
  have hN : List.Nodup (α := Str) ["part", "perils", "one"] := sc_check_perils.nd
  fn_ok F sc_check_perils fun cdv A outer s H E hr =>
  (s_cons (s_if (dw_or (dt_not (dt_tru (d_call h_is_row hr p0 (as_cons (d_var 1) as_nil)))) (dw_or (dt_cmp1 (c_eq hr) (d_callB call_lenA ca_len b.len bt_len (da_cons (d_var 1) da_nil)) d_int) (dw_or1 (dt_not (dt_tru (d_callB (cr_all rfl) ca_all b.all bt_all (da_cons (d_lc [("one", 2)] rfl hN (blkOk_by (N := ["part", "perils", "one"]) (sc := defScope (top 27)) (by decide +kernel)) (by decide) (i_seq (d_var 1)) (fun _ _ _ _ _ => (g_name 2 hN)) (fun _ _ _ _ _ => ts_nil) (fun _ _ _ _ _ => (d_call h_is_name hr p0 (as_cons (d_var 2) as_nil)))) da_nil))))))).pt (s_one s_never)
  s_nil)
  (s_one (s_if (dt_cmp1 c_lt (d_lenSet (d_var 1) b.len b.t_set) (d_callB call_lenA ca_len b.len bt_len (da_cons (d_var 1) da_nil))) (s_one s_never)
  s_nil)))
theorem n_check_perils {f : Addr} {fd : FuncData} (F : FunD K "check_perils" "check_perils" (defArgs (top 27)) (defBody (top 27)) (defScope (top 27)) [] [] f fd) : L2.Binds K fd ["part", "perils"] [] :=
  F.bindsN fun _ _ _ _ _ _ us hl => match us, hl with | [_, _], _ => rfl
/-! Cover.__init__ -/
def m_Cover_init : M Fl := (mSeq (mDo (mCall F_check_number (mACons (mC (.str "money")) (mACons (mVar 1) (mACons (mC (.int 1)) (mACons (mC (.int 9999)) mANil))))))
  (mSeq (mDo (mCall F_check_number (mACons (mC (.str "value")) (mACons (mVar 2) (mACons (mC (.int 1)) (mACons (mC (.int 9999)) mANil))))))
  (mSeq (mDo (mCall F_check_perils (mACons (mC (.str "perils")) (mACons (mVar 3) mANil))))
  (mSeq (mIf (mOrT (mNotT (mTru (mIs (isTy .tuple) (mVar 4)))) (mOrT (mTest (m2 dNe (mCa fLen (mCons (mVar 4) mNil)) (mC (.int 2)))) (mNotT (mTru (mCall F_is_number (mACons (m2 dIx (mVar 4) (mC (.int 0))) (mACons (mC (.int 0)) (mACons (m2 dSub (mC c_MOST_LEGS) (mC (.int 1))) mANil)))))))) mNever
  mSkip)
  (mSeq (mIf (mNotT (mTru (mCall F_is_number (mACons (m2 dIx (mVar 4) (mC (.int 1))) (mACons (m2 dAdd (m2 dIx (mVar 4) (mC (.int 0))) (mC (.int 1))) (mACons (mC c_MOST_LEGS) mANil)))))) mNever
  mSkip)
  (mSeq (mDo (mCall F_check_number (mACons (mC (.str "least")) (mACons (mVar 5) (mACons (mC (.int 0)) (mACons (mC (.int 9999)) mANil))))))
  (mSeq (mFld 0 3 0 (mVar 1))
  (mSeq (mFld 0 3 1 (mVar 2))
  (mSeq (mFld 0 3 2 (mCa fTup (mCons (mCa fSortedX (mCons (mVar 3) mNil)) mNil)))
  (mSeq (mFld 0 3 3 (mVar 4))
  (mFld 0 3 4 (mVar 5))))))))))))
def F_Cover_init : FD := runF 6 false m_Cover_init
theorem sc_Cover_init : FnScope ["self", "money", "value", "perils", "legs", "least"] ["self", "money", "value", "perils", "legs", "least"] (defScope (inClass (top 26) 0)) := ⟨rfl, rfl, rfl, by decide +kernel, rfl, by decide +kernel, by decide +kernel⟩
theorem k_Cover_init {f : Addr} {fd : FuncData} (b : B K mg) (cf : CFacts K 6) (h_check_number : Callee P w K mg base CX0 3 "check_number" 4 F_check_number) (h_check_perils : Callee P w K mg base CX0 2 "check_perils" 2 F_check_perils) (h_is_number : Callee P w K mg base CX0 2 "is_number" 3 F_is_number) (F : FunD K "__init__" "Cover.__init__" (defArgs (inClass (top 26) 0)) (defBody (inClass (top 26) 0)) (defScope (inClass (top 26) 0)) [] [] f fd) : FnOk P w K mg base CX0 4 f fd ["self", "money", "value", "perils", "legs", "least"] (spF K 6 F_Cover_init) :=
  have hN : List.Nodup (α := Str) ["self", "money", "value", "perils", "legs", "least"] := sc_Cover_init.nd
  fn_ok F sc_Cover_init fun cdv A outer s H E hr =>
  (s_cons (s_expr (d_call h_check_number hr p0 (as_cons d_str (as_cons (d_var 1) (as_cons d_int (as_cons d_int as_nil))))))
  (s_cons (s_expr (d_call h_check_number hr p0 (as_cons d_str (as_cons (d_var 2) (as_cons d_int (as_cons d_int as_nil))))))
  (s_cons (s_expr (d_call h_check_perils hr p0 (as_cons d_str (as_cons (d_var 3) as_nil))))
  (s_cons (s_if (dw_or (dt_not (dt_tru (d_isTy .tuple (d_var 4) b.isinstance b.t_tuple bt_tuple))) (dw_or (dt_cmp1 (c_ne hr) (d_callB call_lenA ca_len b.len bt_len (da_cons (d_var 4) da_nil)) d_int) (dw_or1 (dt_not (dt_tru (d_call h_is_number hr p0 (as_cons (d_item (d_var 4) d_int) (as_cons d_int (as_cons (d_sub (d_glob (by rfl) b.c_MOST_LEGS.choose_spec.1 b.c_MOST_LEGS.choose_spec.2.1 b.c_MOST_LEGS.choose_spec.2.2) d_int) as_nil))))))))).pt (s_one s_never)
  s_nil)
  (s_cons (s_if (dt_not (dt_tru (d_call h_is_number hr p0 (as_cons (d_item (d_var 4) d_int) (as_cons (d_add (d_item (d_var 4) d_int) d_int) (as_cons (d_glob (by rfl) b.c_MOST_LEGS.choose_spec.1 b.c_MOST_LEGS.choose_spec.2.1 b.c_MOST_LEGS.choose_spec.2.2) as_nil)))))) (s_one s_never)
  s_nil)
  (s_cons (s_expr (d_call h_check_number hr p0 (as_cons d_str (as_cons (d_var 5) (as_cons d_int (as_cons d_int as_nil))))))
  (s_cons (s_fld cf 0 3 0 (by decide) rfl (by decide) (d_var 1))
  (s_cons (s_fld cf 0 3 1 (by decide) rfl (by decide) (d_var 2))
  (s_cons (s_fld cf 0 3 2 (by decide) rfl (by decide) (d_callTy call_tuple_of ca_tup b.t_tuple bt_tuple (da_cons (d_callB call_sortedX ca_sortedX b.sorted bt_sorted (da_cons (d_var 3) da_nil)) da_nil)))
  (s_cons (s_fld cf 0 3 3 (by decide) rfl (by decide) (d_var 4))
  (s_one (s_fld cf 0 3 4 (by decide) rfl (by decide) (d_var 5)))))))))))))
theorem n_Cover_init {f : Addr} {fd : FuncData} (F : FunD K "__init__" "Cover.__init__" (defArgs (inClass (top 26) 0)) (defBody (inClass (top 26) 0)) (defScope (inClass (top 26) 0)) [] [] f fd) : L2.Binds K fd ["self", "money", "value", "perils", "legs", "least"] [] :=
  F.bindsN fun _ _ _ _ _ _ us hl => match us, hl with | [_, _, _, _, _, _], _ => rfl
/-! _law_cover_built -/
def m_law_cover_built : M Fl := (mRet (mNew 3 F_Cover_init (mACons (m2 dIx (mVar 0) (mC (.int 0))) (mACons (m2 dIx (mVar 0) (mC (.int 1))) (mACons (m2 dIx (mVar 0) (mC (.int 2))) (mACons (m2 dIx (mVar 0) (mC (.int 3))) (mACons (m2 dIx (mVar 0) (mC (.int 4))) mANil)))))))
def F_law_cover_built : FD := runF 1 false m_law_cover_built
theorem sc_law_cover_built : FnScope ["told"] ["told"] (defScope (top 45)) := ⟨rfl, rfl, rfl, by decide +kernel, rfl, by decide +kernel, by decide +kernel⟩
theorem k_law_cover_built {f : Addr} {fd : FuncData} (b : B K mg) (cf : CFacts K 6) (h_Cover_init : Maker P w K mg base CX0 4 "Cover" 5 3 F_Cover_init) (F : FunD K "_law_cover_built" "_law_cover_built" (defArgs (top 45)) (defBody (top 45)) (defScope (top 45)) [] [] f fd) : FnOk P w K mg base CX0 6 f fd ["told"] (spF K 1 F_law_cover_built) :=
  have hN : List.Nodup (α := Str) ["told"] := sc_law_cover_built.nd
  fn_ok F sc_law_cover_built fun cdv A outer s H E hr =>
  (s_one (s_ret (d_new h_Cover_init hr p0 (as_cons (d_item (d_var 0) d_int) (as_cons (d_item (d_var 0) d_int) (as_cons (d_item (d_var 0) d_int) (as_cons (d_item (d_var 0) d_int) (as_cons (d_item (d_var 0) d_int) as_nil))))))))
theorem n_law_cover_built {f : Addr} {fd : FuncData} (F : FunD K "_law_cover_built" "_law_cover_built" (defArgs (top 45)) (defBody (top 45)) (defScope (top 45)) [] [] f fd) : L2.Binds K fd ["told"] [] :=
  F.bindsN fun _ _ _ _ _ _ us hl => match us, hl with | [_], _ => rfl
/-! check_covers -/
def b_check_covers_1 (ρ : DL.Env) : DL.Res Fl := (mIf (mNotT (mTru (mIs (isCl 6 3) (mVar 2)))) mNever
  mSkip) ρ
def m_check_covers : M Fl := (mSeq (mIf (mNotT (mTru (mCall F_is_row (mACons (mVar 0) mANil)))) mNever
  mSkip)
  (mFor (mEnum (mVar 0)) (mTT (mTCons (mTN 1) (mTCons (mTN 2) mTNil))) b_check_covers_1))
def F_check_covers : FD := runF 3 false m_check_covers
theorem sc_check_covers : FnScope ["covers", "place", "cover"] ["covers"] (defScope (top 28)) := ⟨rfl, rfl, rfl, by decide +kernel, rfl, by decide +kernel, by decide +kernel⟩
theorem k_check_covers {f : Addr} {fd : FuncData} (b : B K mg) (cf : CFacts K 6) (h_is_row : Callee P w K mg base CX0 1 "is_row" 1 F_is_row) (F : FunD K "check_covers" "check_covers" (defArgs (top 28)) (defBody (top 28)) (defScope (top 28)) [] [] f fd) : FnOk P w K mg base CX0 2 f fd ["covers"] (spF K 1 F_check_covers) :=
  have hN : List.Nodup (α := Str) ["covers", "place", "cover"] := sc_check_covers.nd
  fn_ok F sc_check_covers fun cdv A outer s H E hr =>
  (s_cons (s_if (dt_not (dt_tru (d_call h_is_row hr p0 (as_cons (d_var 0) as_nil)))) (s_one s_never)
  s_nil)
  (s_one (s_for PassesOwn.never rfl (i_enum (d_var 0) b.enumerate) (g_tup rfl (gs_cons (g_name 1 hN) (gs_cons (g_name 2 hN) gs_nil))) (s_one (s_if (dt_not (dt_tru (d_isCl cf 3 (by decide) rfl (d_var 2) b.isinstance b.g_Cover))) (s_one s_never)
  s_nil)))))
theorem n_check_covers {f : Addr} {fd : FuncData} (F : FunD K "check_covers" "check_covers" (defArgs (top 28)) (defBody (top 28)) (defScope (top 28)) [] [] f fd) : L2.Binds K fd ["covers"] [] :=
  F.bindsN fun _ _ _ _ _ _ us hl => match us, hl with | [_], _ => rfl
/-! is_on -/
def m_is_on : M Fl := (mRet (mAndV (m2 dIn (mVar 1) (m1 (dFld [(3, 2)]) (mVar 0))) (mChain dLe dLt (m2 dIx (m1 (dFld [(3, 3)]) (mVar 0)) (mC (.int 0))) (mVar 2) (m2 dIx (m1 (dFld [(3, 3)]) (mVar 0)) (mC (.int 1))))))
def F_is_on : FD := runF 3 false m_is_on
theorem sc_is_on : FnScope ["cover", "peril", "leg"] ["cover", "peril", "leg"] (defScope (top 30)) := ⟨rfl, rfl, rfl, by decide +kernel, rfl, by decide +kernel, by decide +kernel⟩
theorem k_is_on {f : Addr} {fd : FuncData} (b : B K mg) (cf : CFacts K 6) (F : FunD K "is_on" "is_on" (defArgs (top 30)) (defBody (top 30)) (defScope (top 30)) [] [] f fd) : FnOk P w K mg base CX0 1 f fd ["cover", "peril", "leg"] (spF K 3 F_is_on) :=
  have hN : List.Nodup (α := Str) ["cover", "peril", "leg"] := sc_is_on.nd
  fn_ok F sc_is_on fun cdv A outer s H E hr =>
  (s_one (s_ret (d_and (d_cmp1 (c_in hr) (d_var 1) (d_fld cf [(3, 2)] (d_var 0))) (d_one (d_chain c_le c_lt (d_item (d_fld cf [(3, 3)] (d_var 0)) d_int) (d_var 2) (d_item (d_fld cf [(3, 3)] (d_var 0)) d_int))))))
theorem n_is_on {f : Addr} {fd : FuncData} (F : FunD K "is_on" "is_on" (defArgs (top 30)) (defBody (top 30)) (defScope (top 30)) [] [] f fd) : L2.Binds K fd ["cover", "peril", "leg"] [] :=
  F.bindsN fun _ _ _ _ _ _ us hl => match us, hl with | [_, _, _], _ => rfl
/-! gaps -/
def e_gaps_1 (ρ : DL.Env) : DL.Res D := (mTup (mCons (mVar 4) (mCons (mVar 5) mNil))) ρ
def e_gaps_2 (ρ : DL.Env) : DL.Res D := (mCall F_is_on (mACons (mVar 6) (mACons (mVar 5) (mACons (mVar 4) mANil)))) ρ
def t_gaps_1 (ρ : DL.Env) : DL.Res Bool := (mNotT (mTru (mCa fAny (mCons (mLcD (mComp [6] (mItLT (mVar 0)) (mTN 6) mTrue e_gaps_2)) mNil)))) ρ
def e_gaps_3 (ρ : DL.Env) : DL.Res D := (mTup (mCons (mVar 4) (mCons (mVar 5) mNil))) ρ
def m_gaps : M Fl := (mSeq (mDo (mCall F_check_covers (mACons (mVar 0) mANil)))
  (mSeq (mDo (mCall F_check_perils (mACons (mC (.str "perils")) (mACons (mVar 1) mANil))))
  (mSeq (mDo (mCall F_check_number (mACons (mC (.str "legs")) (mACons (mVar 2) (mACons (mC (.int 1)) (mACons (mC c_MOST_LEGS) mANil))))))
  (mSeq (mSet 3 (mLcD (mComp2 [4, 5] (mRng1 (mVar 2)) (mTN 4) mTrue [5] (mItLT (mVar 1)) (mTN 5) mTrue e_gaps_1)))
  (mRet (mLcD (mComp [4, 5] (mItLT (mVar 3)) (mTT (mTCons (mTN 4) (mTCons (mTN 5) mTNil))) t_gaps_1 e_gaps_3)))))))
def F_gaps : FD := runF 7 false m_gaps
theorem sc_gaps : FnScope ["covers", "perils", "legs", "rows", "leg", "peril", "cover"] ["covers", "perils", "legs"] (defScope (top 36)) := ⟨rfl, rfl, rfl, by decide +kernel, rfl, by decide +kernel, by decide +kernel⟩
theorem k_gaps {f : Addr} {fd : FuncData} (b : B K mg) (cf : CFacts K 6) (h_check_covers : Callee P w K mg base CX0 2 "check_covers" 1 F_check_covers) (h_check_number : Callee P w K mg base CX0 3 "check_number" 4 F_check_number) (h_check_perils : Callee P w K mg base CX0 2 "check_perils" 2 F_check_perils) (h_is_on : Callee P w K mg base CX0 1 "is_on" 3 F_is_on) (F : FunD K "gaps" "gaps" (defArgs (top 36)) (defBody (top 36)) (defScope (top 36)) [] [] f fd) : FnOk P w K mg base CX0 4 f fd ["covers", "perils", "legs"] (spF K 3 F_gaps) :=
  have hN : List.Nodup (α := Str) ["covers", "perils", "legs", "rows", "leg", "peril", "cover"] := sc_gaps.nd
  fn_ok F sc_gaps fun cdv A outer s H E hr =>
  (s_cons (s_expr (d_call h_check_covers hr p0 (as_cons (d_var 0) as_nil)))
  (s_cons (s_expr (d_call h_check_perils hr p0 (as_cons d_str (as_cons (d_var 1) as_nil))))
  (s_cons (s_expr (d_call h_check_number hr p0 (as_cons d_str (as_cons (d_var 2) (as_cons d_int (as_cons (d_glob (by rfl) b.c_MOST_LEGS.choose_spec.1 b.c_MOST_LEGS.choose_spec.2.1 b.c_MOST_LEGS.choose_spec.2.2) as_nil))))))
  (s_cons (s_setLc2 3 [("leg", 4), ("peril", 5)] [5] rfl hN (blkOk_by (N := ["covers", "perils", "legs", "rows", "leg", "peril", "cover"]) (sc := defScope (top 36)) (by decide +kernel)) (by decide) (by decide) (by decide) (i_rng1 (d_var 2) b.range) (fun _ _ _ _ _ => (g_name 4 hN)) (fun _ _ _ _ _ => ts_nil) (fun _ _ _ _ _ => (i_seq (d_var 1))) (fun _ _ _ _ _ => (g_name 5 hN)) (fun _ _ _ _ _ => ts_nil) (fun _ _ _ _ _ => (d_tuple (da_cons (d_var 4) (da_cons (d_var 5) da_nil)))))
  (s_one (s_ret (d_lc [("leg", 4), ("peril", 5)] rfl hN (blkOk_by (N := ["covers", "perils", "legs", "rows", "leg", "peril", "cover"]) (sc := defScope (top 36)) (by decide +kernel)) (by decide) (i_seq (d_var 3)) (fun _ _ _ _ _ => (g_tup rfl (gs_cons (g_name 4 hN) (gs_cons (g_name 5 hN) gs_nil)))) (fun _ _ _ _ _ => (ts_one (dt_not (dt_tru (d_callB (cr_any rfl) ca_any b.any bt_any (da_cons (d_lc [("cover", 6)] rfl hN (blkOk_by (by kernel_rfl)) (by decide) (i_seq (d_var 0)) (fun _ _ _ _ _ => (g_name 6 hN)) (fun _ _ _ _ _ => ts_nil) (fun _ _ _ _ _ => (d_call h_is_on hr p0 (as_cons (d_var 6) (as_cons (d_var 5) (as_cons (d_var 4) as_nil)))))) da_nil)))))) (fun _ _ _ _ _ => (d_tuple (da_cons (d_var 4) (da_cons (d_var 5) da_nil)))))))))))
theorem n_gaps {f : Addr} {fd : FuncData} (F : FunD K "gaps" "gaps" (defArgs (top 36)) (defBody (top 36)) (defScope (top 36)) [] [] f fd) : L2.Binds K fd ["covers", "perils", "legs"] [] :=
  F.bindsN fun _ _ _ _ _ _ us hl => match us, hl with | [_, _, _], _ => rfl
/-! Gap.__init__ -/
def m_Gap_init : M Fl := (mSeq (mFld 0 5 0 (mVar 1))
  (mFld 0 5 1 (mVar 2)))
def F_Gap_init : FD := runF 3 false m_Gap_init
theorem sc_Gap_init : FnScope ["self", "leg", "peril"] ["self", "leg", "peril"] (defScope (inClass (top 35) 0)) := ⟨rfl, rfl, rfl, by decide +kernel, rfl, by decide +kernel, by decide +kernel⟩
theorem k_Gap_init {f : Addr} {fd : FuncData} (b : B K mg) (cf : CFacts K 6) (F : FunD K "__init__" "Gap.__init__" (defArgs (inClass (top 35) 0)) (defBody (inClass (top 35) 0)) (defScope (inClass (top 35) 0)) [] [] f fd) : FnOk P w K mg base CX0 1 f fd ["self", "leg", "peril"] (spF K 3 F_Gap_init) :=
  have hN : List.Nodup (α := Str) ["self", "leg", "peril"] := sc_Gap_init.nd
  fn_ok F sc_Gap_init fun cdv A outer s H E hr =>
  (s_cons (s_fld cf 0 5 0 (by decide) rfl (by decide) (d_var 1))
  (s_one (s_fld cf 0 5 1 (by decide) rfl (by decide) (d_var 2))))
theorem n_Gap_init {f : Addr} {fd : FuncData} (F : FunD K "__init__" "Gap.__init__" (defArgs (inClass (top 35) 0)) (defBody (inClass (top 35) 0)) (defScope (inClass (top 35) 0)) [] [] f fd) : L2.Binds K fd ["self", "leg", "peril"] [] :=
  F.bindsN fun _ _ _ _ _ _ us hl => match us, hl with | [_, _, _], _ => rfl
/-! judge_covers -/
def m_judge_covers : M Fl := (mSeq (mSet 3 (mCall F_gaps (mACons (mVar 0) (mACons (mVar 1) (mACons (mVar 2) mANil)))))
  (mRet (mIfE (mTest (m2 dEq (mVar 3) (mLst mNil))) (mPlain 4) (mNew 5 F_Gap_init (mACons (m2 dIx (m2 dIx (mVar 3) (mC (.int 0))) (mC (.int 0))) (mACons (m2 dIx (m2 dIx (mVar 3) (mC (.int 0))) (mC (.int 1))) mANil))))))
def F_judge_covers : FD := runF 4 false m_judge_covers
theorem sc_judge_covers : FnScope ["covers", "perils", "legs", "found"] ["covers", "perils", "legs"] (defScope (top 37)) := ⟨rfl, rfl, rfl, by decide +kernel, rfl, by decide +kernel, by decide +kernel⟩
theorem k_judge_covers {f : Addr} {fd : FuncData} (b : B K mg) (cf : CFacts K 6) (h_gaps : Callee P w K mg base CX0 4 "gaps" 3 F_gaps) (h_Gap_init : Maker P w K mg base CX0 1 "Gap" 2 5 F_Gap_init) (F : FunD K "judge_covers" "judge_covers" (defArgs (top 37)) (defBody (top 37)) (defScope (top 37)) [] [] f fd) : FnOk P w K mg base CX0 5 f fd ["covers", "perils", "legs"] (spF K 3 F_judge_covers) :=
  have hN : List.Nodup (α := Str) ["covers", "perils", "legs", "found"] := sc_judge_covers.nd
  fn_ok F sc_judge_covers fun cdv A outer s H E hr =>
  (s_cons (s_set 3 hN (d_call h_gaps hr p0 (as_cons (d_var 0) (as_cons (d_var 1) (as_cons (d_var 2) as_nil)))))
  (s_one (s_ret (d_ifexp (dt_cmp1 (c_eq hr) (d_var 3) (d_list da_nil)) (d_plain (c := 4) b.p_Whole b.g_Whole) (d_new h_Gap_init hr p0 (as_cons (d_item (d_item (d_var 3) d_int) d_int) (as_cons (d_item (d_item (d_var 3) d_int) d_int) as_nil)))))))
theorem n_judge_covers {f : Addr} {fd : FuncData} (F : FunD K "judge_covers" "judge_covers" (defArgs (top 37)) (defBody (top 37)) (defScope (top 37)) [] [] f fd) : L2.Binds K fd ["covers", "perils", "legs"] [] :=
  F.bindsN fun _ _ _ _ _ _ us hl => match us, hl with | [_, _, _], _ => rfl
/-! twice_covered -/
def e_twice_covered_1 (ρ : DL.Env) : DL.Res D := (mTup (mCons (mVar 4) (mCons (mVar 5) mNil))) ρ
def t_twice_covered_1 (ρ : DL.Env) : DL.Res Bool := (mTru (mCall F_is_on (mACons (mVar 6) (mACons (mVar 5) (mACons (mVar 4) mANil))))) ρ
def e_twice_covered_2 (ρ : DL.Env) : DL.Res D := (mC (.int 0)) ρ
def t_twice_covered_2 (ρ : DL.Env) : DL.Res Bool := (mTest (m2 dGt (mCa fLen (mCons (mLcD (mComp [6] (mItLT (mVar 0)) (mTN 6) t_twice_covered_1 e_twice_covered_2)) mNil)) (mC (.int 1)))) ρ
def e_twice_covered_3 (ρ : DL.Env) : DL.Res D := (mTup (mCons (mVar 4) (mCons (mVar 5) mNil))) ρ
def m_twice_covered : M Fl := (mSeq (mDo (mCall F_gaps (mACons (mVar 0) (mACons (mVar 1) (mACons (mVar 2) mANil)))))
  (mSeq (mSet 3 (mLcD (mComp2 [4, 5] (mRng1 (mVar 2)) (mTN 4) mTrue [5] (mItLT (mVar 1)) (mTN 5) mTrue e_twice_covered_1)))
  (mRet (mLcD (mComp [4, 5] (mItLT (mVar 3)) (mTT (mTCons (mTN 4) (mTCons (mTN 5) mTNil))) t_twice_covered_2 e_twice_covered_3)))))
def F_twice_covered : FD := runF 7 false m_twice_covered
theorem sc_twice_covered : FnScope ["covers", "perils", "legs", "rows", "leg", "peril", "cover"] ["covers", "perils", "legs"] (defScope (top 38)) := ⟨rfl, rfl, rfl, by decide +kernel, rfl, by decide +kernel, by decide +kernel⟩
theorem k_twice_covered {f : Addr} {fd : FuncData} (b : B K mg) (cf : CFacts K 6) (h_gaps : Callee P w K mg base CX0 4 "gaps" 3 F_gaps) (h_is_on : Callee P w K mg base CX0 1 "is_on" 3 F_is_on) (F : FunD K "twice_covered" "twice_covered" (defArgs (top 38)) (defBody (top 38)) (defScope (top 38)) [] [] f fd) : FnOk P w K mg base CX0 5 f fd ["covers", "perils", "legs"] (spF K 3 F_twice_covered) :=
  have hN : List.Nodup (α := Str) ["covers", "perils", "legs", "rows", "leg", "peril", "cover"] := sc_twice_covered.nd
  fn_ok F sc_twice_covered fun cdv A outer s H E hr =>
  (s_cons (s_expr (d_call h_gaps hr p0 (as_cons (d_var 0) (as_cons (d_var 1) (as_cons (d_var 2) as_nil)))))
  (s_cons (s_setLc2 3 [("leg", 4), ("peril", 5)] [5] rfl hN (blkOk_by (N := ["covers", "perils", "legs", "rows", "leg", "peril", "cover"]) (sc := defScope (top 38)) (by decide +kernel)) (by decide) (by decide) (by decide) (i_rng1 (d_var 2) b.range) (fun _ _ _ _ _ => (g_name 4 hN)) (fun _ _ _ _ _ => ts_nil) (fun _ _ _ _ _ => (i_seq (d_var 1))) (fun _ _ _ _ _ => (g_name 5 hN)) (fun _ _ _ _ _ => ts_nil) (fun _ _ _ _ _ => (d_tuple (da_cons (d_var 4) (da_cons (d_var 5) da_nil)))))
  (s_one (s_ret (d_lc [("leg", 4), ("peril", 5)] rfl hN (blkOk_by (N := ["covers", "perils", "legs", "rows", "leg", "peril", "cover"]) (sc := defScope (top 38)) (by decide +kernel)) (by decide) (i_seq (d_var 3)) (fun _ _ _ _ _ => (g_tup rfl (gs_cons (g_name 4 hN) (gs_cons (g_name 5 hN) gs_nil)))) (fun _ _ _ _ _ => (ts_one (dt_cmp1 c_gt (d_callB call_lenA ca_len b.len bt_len (da_cons (d_lc [("cover", 6)] rfl hN (blkOk_by (by kernel_rfl)) (by decide) (i_seq (d_var 0)) (fun _ _ _ _ _ => (g_name 6 hN)) (fun _ _ _ _ _ => (ts_one (dt_tru (d_call h_is_on hr p0 (as_cons (d_var 6) (as_cons (d_var 5) (as_cons (d_var 4) as_nil))))))) (fun _ _ _ _ _ => d_int)) da_nil)) d_int))) (fun _ _ _ _ _ => (d_tuple (da_cons (d_var 4) (da_cons (d_var 5) da_nil)))))))))
theorem n_twice_covered {f : Addr} {fd : FuncData} (F : FunD K "twice_covered" "twice_covered" (defArgs (top 38)) (defBody (top 38)) (defScope (top 38)) [] [] f fd) : L2.Binds K fd ["covers", "perils", "legs"] [] :=
  F.bindsN fun _ _ _ _ _ _ us hl => match us, hl with | [_, _, _], _ => rfl
/-! _law_pick -/
def m_law_pick : M Fl := (mRet (m2 dIx (mVar 1) (mCall F_law_take (mASlot 0 (mACons (mCa fLen (mCons (mVar 1) mNil)) mANil)))))
def F_law_pick : FD := runF 2 false m_law_pick
theorem sc_law_pick : FnScope ["draw", "items"] ["draw", "items"] (defScope (top 43)) := ⟨rfl, rfl, rfl, by decide +kernel, rfl, by decide +kernel, by decide +kernel⟩
theorem k_law_pick {f : Addr} {fd : FuncData} (b : B K mg) (cf : CFacts K 6) (h_law_take : Callee P w K mg base CX0 2 "_law_take" 2 F_law_take) (F : FunD K "_law_pick" "_law_pick" (defArgs (top 43)) (defBody (top 43)) (defScope (top 43)) [] [] f fd) : FnOk P w K mg base CX0 3 f fd ["draw", "items"] (spF K 2 F_law_pick) :=
  have hN : List.Nodup (α := Str) ["draw", "items"] := sc_law_pick.nd
  fn_ok F sc_law_pick fun cdv A outer s H E hr =>
  (s_one (s_ret (d_item (d_var 1) (d_call h_law_take hr p0 (as_slot 0 (as_cons (d_callB call_lenA ca_len b.len bt_len (da_cons (d_var 1) da_nil)) as_nil))))))
theorem n_law_pick {f : Addr} {fd : FuncData} (F : FunD K "_law_pick" "_law_pick" (defArgs (top 43)) (defBody (top 43)) (defScope (top 43)) [] [] f fd) : L2.Binds K fd ["draw", "items"] [] :=
  F.bindsN fun _ _ _ _ _ _ us hl => match us, hl with | [_, _], _ => rfl
/-! check_loss -/
def m_check_loss : M Fl := (mSeq (mIf (mOrT (mNotT (mTru (mIs (isTy .tuple) (mVar 0)))) (mOrT (mTest (m2 dNe (mCa fLen (mCons (mVar 0) mNil)) (mC (.int 3)))) (mNotT (mTru (mCall F_is_name (mACons (m2 dIx (mVar 0) (mC (.int 0))) mANil)))))) mNever
  mSkip)
  (mIf (mOrT (mNotT (mTru (mCall F_is_number (mACons (m2 dIx (mVar 0) (mC (.int 1))) (mACons (mC (.int 0)) (mACons (m2 dSub (mC c_MOST_LEGS) (mC (.int 1))) mANil)))))) (mNotT (mTru (mCall F_is_number (mACons (m2 dIx (mVar 0) (mC (.int 2))) (mACons (mC (.int 1)) (mACons (mC (.int 9999)) mANil))))))) mNever
  mSkip))
def F_check_loss : FD := runF 1 false m_check_loss
theorem sc_check_loss : FnScope ["loss"] ["loss"] (defScope (top 29)) := ⟨rfl, rfl, rfl, by decide +kernel, rfl, by decide +kernel, by decide +kernel⟩
theorem k_check_loss {f : Addr} {fd : FuncData} (b : B K mg) (cf : CFacts K 6) (h_is_name : Callee P w K mg base CX0 1 "is_name" 1 F_is_name) (h_is_number : Callee P w K mg base CX0 2 "is_number" 3 F_is_number) (F : FunD K "check_loss" "check_loss" (defArgs (top 29)) (defBody (top 29)) (defScope (top 29)) [] [] f fd) : FnOk P w K mg base CX0 3 f fd ["loss"] (spF K 1 F_check_loss) :=
  have hN : List.Nodup (α := Str) ["loss"] := sc_check_loss.nd
  fn_ok F sc_check_loss fun cdv A outer s H E hr =>
  (s_cons (s_if (dw_or (dt_not (dt_tru (d_isTy .tuple (d_var 0) b.isinstance b.t_tuple bt_tuple))) (dw_or (dt_cmp1 (c_ne hr) (d_callB call_lenA ca_len b.len bt_len (da_cons (d_var 0) da_nil)) d_int) (dw_or1 (dt_not (dt_tru (d_call h_is_name hr p0 (as_cons (d_item (d_var 0) d_int) as_nil))))))).pt (s_one s_never)
  s_nil)
  (s_one (s_if (dw_or (dt_not (dt_tru (d_call h_is_number hr p0 (as_cons (d_item (d_var 0) d_int) (as_cons d_int (as_cons (d_sub (d_glob (by rfl) b.c_MOST_LEGS.choose_spec.1 b.c_MOST_LEGS.choose_spec.2.1 b.c_MOST_LEGS.choose_spec.2.2) d_int) as_nil)))))) (dw_or1 (dt_not (dt_tru (d_call h_is_number hr p0 (as_cons (d_item (d_var 0) d_int) (as_cons d_int (as_cons d_int as_nil)))))))).pt (s_one s_never)
  s_nil)))
theorem n_check_loss {f : Addr} {fd : FuncData} (F : FunD K "check_loss" "check_loss" (defArgs (top 29)) (defBody (top 29)) (defScope (top 29)) [] [] f fd) : L2.Binds K fd ["loss"] [] :=
  F.bindsN fun _ _ _ _ _ _ us hl => match us, hl with | [_], _ => rfl
/-! pays -/
def m_pays : M Fl := (mSeq (mIf (mNotT (mTru (mIs (isCl 6 3) (mVar 0)))) mNever
  mSkip)
  (mSeq (mDo (mCall F_check_loss (mACons (mVar 1) mANil)))
  (mSeq (mIf (mOrT (mNotT (mTru (mCall F_is_on (mACons (mVar 0) (mACons (m2 dIx (mVar 1) (mC (.int 0))) (mACons (m2 dIx (mVar 1) (mC (.int 1))) mANil)))))) (mTest (m2 dLt (m2 dIx (mVar 1) (mC (.int 2))) (m1 (dFld [(3, 4)]) (mVar 0))))) (mRet (mC (.int 0)))
  mSkip)
  (mSeq (mSet 2 (mCa fMin (mCons (m2 dIx (mVar 1) (mC (.int 2))) (mCons (m1 (dFld [(3, 1)]) (mVar 0)) mNil))))
  (mRet (mIfE (mTest (m2 dGe (m1 (dFld [(0, 0), (3, 0)]) (mVar 0)) (m1 (dFld [(3, 1)]) (mVar 0)))) (mVar 2) (m2 dFdiv (m2 dMul (mVar 2) (m1 (dFld [(0, 0), (3, 0)]) (mVar 0))) (m1 (dFld [(3, 1)]) (mVar 0)))))))))
def F_pays : FD := runF 3 false m_pays
theorem sc_pays : FnScope ["cover", "loss", "whole"] ["cover", "loss"] (defScope (top 31)) := ⟨rfl, rfl, rfl, by decide +kernel, rfl, by decide +kernel, by decide +kernel⟩
theorem k_pays {f : Addr} {fd : FuncData} (b : B K mg) (cf : CFacts K 6) (h_check_loss : Callee P w K mg base CX0 3 "check_loss" 1 F_check_loss) (h_is_on : Callee P w K mg base CX0 1 "is_on" 3 F_is_on) (F : FunD K "pays" "pays" (defArgs (top 31)) (defBody (top 31)) (defScope (top 31)) [] [] f fd) : FnOk P w K mg base CX0 4 f fd ["cover", "loss"] (spF K 2 F_pays) :=
  have hN : List.Nodup (α := Str) ["cover", "loss", "whole"] := sc_pays.nd
  fn_ok F sc_pays fun cdv A outer s H E hr =>
  (s_cons (s_if (dt_not (dt_tru (d_isCl cf 3 (by decide) rfl (d_var 0) b.isinstance b.g_Cover))) (s_one s_never)
  s_nil)
  (s_cons (s_expr (d_call h_check_loss hr p0 (as_cons (d_var 1) as_nil)))
  (s_cons (s_if (dw_or (dt_not (dt_tru (d_call h_is_on hr p0 (as_cons (d_var 0) (as_cons (d_item (d_var 1) d_int) (as_cons (d_item (d_var 1) d_int) as_nil)))))) (dw_or1 (dt_cmp1 c_lt (d_item (d_var 1) d_int) (d_fld cf [(3, 4)] (d_var 0))))).pt (s_one (s_ret d_int))
  s_nil)
  (s_cons (s_set 2 hN (d_callB (call_minA rfl) ca_min b.min bt_min (da_cons (d_item (d_var 1) d_int) (da_cons (d_fld cf [(3, 1)] (d_var 0)) da_nil))))
  (s_one (s_ret (d_ifexp (dt_cmp1 c_ge (d_fld cf [(0, 0), (3, 0)] (d_var 0)) (d_fld cf [(3, 1)] (d_var 0))) (d_var 2) (d_fdiv (d_mul (d_var 2) (d_fld cf [(0, 0), (3, 0)] (d_var 0))) (d_fld cf [(3, 1)] (d_var 0))))))))))
theorem n_pays {f : Addr} {fd : FuncData} (F : FunD K "pays" "pays" (defArgs (top 31)) (defBody (top 31)) (defScope (top 31)) [] [] f fd) : L2.Binds K fd ["cover", "loss"] [] :=
  F.bindsN fun _ _ _ _ _ _ us hl => match us, hl with | [_, _], _ => rfl
/-! shares -/
def e_shares_1 (ρ : DL.Env) : DL.Res D := (mCall F_pays (mACons (mVar 8) (mACons (mVar 1) mANil))) ρ
def e_shares_2 (ρ : DL.Env) : DL.Res D := (m2 dFdiv (m2 dMul (mVar 7) (m2 dIx (mVar 1) (mC (.int 2)))) (mVar 3)) ρ
def b_shares_1 (ρ : DL.Env) : DL.Res Fl := (mIf (mAndT (mTest (m2 dGt (mVar 7) (mC (.int 0)))) (mTest (m2 dGt (mVar 5) (mC (.int 0))))) (mAsgX (mXI 4 (mVar 6) (mXN 5 mTNil)) (mTup (mCons (m2 dAdd (mOwnIx 4 (mVar 6)) (mC (.int 1))) (mCons (m2 dSub (mVar 5) (mC (.int 1))) mNil))))
  mSkip) ρ
def m_shares : M Fl := (mSeq (mDo (mCall F_check_covers (mACons (mVar 0) mANil)))
  (mSeq (mDo (mCall F_check_loss (mACons (mVar 1) mANil)))
  (mSeq (mSet 2 (mLcD (mComp [8] (mItLT (mVar 0)) (mTN 8) mTrue e_shares_1)))
  (mSeq (mSet 3 (mCa fSum (mCons (mVar 2) mNil)))
  (mSeq (mIf (mTest (m2 dLe (mVar 3) (m2 dIx (mVar 1) (mC (.int 2))))) (mRet (mVar 2))
  mSkip)
  (mSeq (mSetO 4 (oLc (mComp [7] (mItLT (mVar 2)) (mTN 7) mTrue e_shares_2)))
  (mSeq (mSet 5 (m2 dSub (m2 dIx (mVar 1) (mC (.int 2))) (mLook (mCa fSum (mCons (mVar 4) mNil)))))
  (mSeq (mFor (mEnum (mVar 2)) (mTT (mTCons (mTN 6) (mTCons (mTN 7) mTNil))) b_shares_1)
  (mFrz 4 (mRet (mVar 4)))))))))))
def F_shares : FD := runF 9 false m_shares
theorem sc_shares : FnScope ["covers", "loss", "rows", "whole", "found", "left", "place", "row", "cover"] ["covers", "loss"] (defScope (top 32)) := ⟨rfl, rfl, rfl, by decide +kernel, rfl, by decide +kernel, by decide +kernel⟩
theorem k_shares {f : Addr} {fd : FuncData} (b : B K mg) (cf : CFacts K 6) (h_check_covers : Callee P w K mg base CX0 2 "check_covers" 1 F_check_covers) (h_check_loss : Callee P w K mg base CX0 3 "check_loss" 1 F_check_loss) (h_pays : Callee P w K mg base CX0 4 "pays" 2 F_pays) (F : FunD K "shares" "shares" (defArgs (top 32)) (defBody (top 32)) (defScope (top 32)) [] [] f fd) : FnOk P w K mg base CX0 5 f fd ["covers", "loss"] (spF K 2 F_shares) :=
  have hN : List.Nodup (α := Str) ["covers", "loss", "rows", "whole", "found", "left", "place", "row", "cover"] := sc_shares.nd
  fn_ok F sc_shares fun cdv A outer s H E hr =>
  (s_cons (s_expr (d_call h_check_covers hr p0 (as_cons (d_var 0) as_nil)))
  (s_cons (s_expr (d_call h_check_loss hr p0 (as_cons (d_var 1) as_nil)))
  (s_cons (s_setLc 2 [("cover", 8)] rfl hN (blkOk_by (N := ["covers", "loss", "rows", "whole", "found", "left", "place", "row", "cover"]) (sc := defScope (top 32)) (by decide +kernel)) (by decide) (i_seq (d_var 0)) (fun _ _ _ _ _ => (g_name 8 hN)) (fun _ _ _ _ _ => ts_nil) (fun _ _ _ _ _ => (d_call h_pays hr p0 (as_cons (d_var 8) (as_cons (d_var 1) as_nil)))))
  (s_cons (s_set 3 hN (d_callB (cr_sum rfl) ca_sum b.sum bt_sum (da_cons (d_var 2) da_nil)))
  (s_cons (s_if (dt_cmp1 c_le (d_var 3) (d_item (d_var 1) d_int)) (s_one (s_ret (d_var 2)))
  s_nil)
  (s_cons (s_setLcO 4 [("row", 7)] rfl hN (blkOk_by (N := ["covers", "loss", "rows", "whole", "found", "left", "place", "row", "cover"]) (sc := defScope (top 32)) (by decide +kernel)) (by decide) (i_seq (d_var 2)) (fun _ _ _ _ _ => (g_name 7 hN)) (fun _ _ _ _ _ => ts_nil) (fun _ _ _ _ _ => (d_fdiv (d_mul (d_var 7) (d_item (d_var 1) d_int)) (d_var 3))))
  (s_cons (s_set 5 hN (d_sub (d_item (d_var 1) d_int) (d_look (d_callB (cr_sum rfl) ca_sum b.sum bt_sum (da_cons (d_var 4) da_nil)))))
  (s_cons (s_for PassesOwn.never rfl (i_enum (d_var 2) b.enumerate) (g_tup rfl (gs_cons (g_name 6 hN) (gs_cons (g_name 7 hN) gs_nil))) (s_one (s_if (dw_and (dt_cmp1 c_gt (d_var 7) d_int) (dw_and1 (dt_cmp1 c_gt (d_var 5) d_int))).pt (s_one (s_asgX rfl (d_tuple (da_cons (d_add (d_ownIx 4 (d_var 6)) d_int) (da_cons (d_sub (d_var 5) d_int) da_nil))) (gx_ix (E := DL.E0) 4 (d_var 6) (gx_name 5 hN gx_nil))))
  s_nil)))
  (s_one (s_frz 4 (s_ret (d_var 4))))))))))))
theorem n_shares {f : Addr} {fd : FuncData} (F : FunD K "shares" "shares" (defArgs (top 32)) (defBody (top 32)) (defScope (top 32)) [] [] f fd) : L2.Binds K fd ["covers", "loss"] [] :=
  F.bindsN fun _ _ _ _ _ _ us hl => match us, hl with | [_, _], _ => rfl
/-! borne -/
def m_borne : M Fl := (mRet (m2 dSub (m2 dIx (mVar 1) (mC (.int 2))) (mCa fSum (mCons (mCall F_shares (mACons (mVar 0) (mACons (mVar 1) mANil))) mNil))))
def F_borne : FD := runF 2 false m_borne
theorem sc_borne : FnScope ["covers", "loss"] ["covers", "loss"] (defScope (top 33)) := ⟨rfl, rfl, rfl, by decide +kernel, rfl, by decide +kernel, by decide +kernel⟩
theorem k_borne {f : Addr} {fd : FuncData} (b : B K mg) (cf : CFacts K 6) (h_shares : Callee P w K mg base CX0 5 "shares" 2 F_shares) (F : FunD K "borne" "borne" (defArgs (top 33)) (defBody (top 33)) (defScope (top 33)) [] [] f fd) : FnOk P w K mg base CX0 6 f fd ["covers", "loss"] (spF K 2 F_borne) :=
  have hN : List.Nodup (α := Str) ["covers", "loss"] := sc_borne.nd
  fn_ok F sc_borne fun cdv A outer s H E hr =>
  (s_one (s_ret (d_sub (d_item (d_var 1) d_int) (d_callB (cr_sum rfl) ca_sum b.sum bt_sum (da_cons (d_call h_shares hr p0 (as_cons (d_var 0) (as_cons (d_var 1) as_nil))) da_nil)))))
theorem n_borne {f : Addr} {fd : FuncData} (F : FunD K "borne" "borne" (defArgs (top 33)) (defBody (top 33)) (defScope (top 33)) [] [] f fd) : L2.Binds K fd ["covers", "loss"] [] :=
  F.bindsN fun _ _ _ _ _ _ us hl => match us, hl with | [_, _], _ => rfl
/-! needless_covers -/
def t_needless_covers_1 (ρ : DL.Env) : DL.Res Bool := (mTest (m2 dEq (mCall F_gaps (mACons (m2 dAdd (mSl (mVar 4) none (some (mVar 5))) (mSl (mVar 4) (some (m2 dAdd (mVar 5) (mC (.int 1)))) none)) (mACons (mVar 1) (mACons (mVar 2) mANil)))) (mVar 3))) ρ
def m_needless_covers : M Fl := (mSeq (mAsg (mTT (mTCons (mTN 3) (mTCons (mTN 4) mTNil))) (mTup (mCons (mCall F_gaps (mACons (mVar 0) (mACons (mVar 1) (mACons (mVar 2) mANil)))) (mCons (mCa fLst (mCons (mVar 0) mNil)) mNil))))
  (mRet (mCa fTup (mCons (mLcD (mComp [5] (mRng1 (mCa fLen (mCons (mVar 4) mNil))) (mTN 5) t_needless_covers_1 (mVar 5))) mNil))))
def F_needless_covers : FD := runF 6 false m_needless_covers
theorem sc_needless_covers : FnScope ["covers", "perils", "legs", "found", "rows", "at"] ["covers", "perils", "legs"] (defScope (top 39)) := ⟨rfl, rfl, rfl, by decide +kernel, rfl, by decide +kernel, by decide +kernel⟩
theorem k_needless_covers {f : Addr} {fd : FuncData} (b : B K mg) (cf : CFacts K 6) (h_gaps : Callee P w K mg base CX0 4 "gaps" 3 F_gaps) (F : FunD K "needless_covers" "needless_covers" (defArgs (top 39)) (defBody (top 39)) (defScope (top 39)) [] [] f fd) : FnOk P w K mg base CX0 5 f fd ["covers", "perils", "legs"] (spF K 3 F_needless_covers) :=
  have hN : List.Nodup (α := Str) ["covers", "perils", "legs", "found", "rows", "at"] := sc_needless_covers.nd
  fn_ok F sc_needless_covers fun cdv A outer s H E hr =>
  (s_cons (s_asg (d_tuple (da_cons (d_call h_gaps hr p0 (as_cons (d_var 0) (as_cons (d_var 1) (as_cons (d_var 2) as_nil)))) (da_cons (d_callTy call_list_of ca_lst b.t_list bt_list (da_cons (d_var 0) da_nil)) da_nil))) (g_tup rfl (gs_cons (g_name 3 hN) (gs_cons (g_name 4 hN) gs_nil))))
  (s_one (s_ret (d_callTy call_tuple_of ca_tup b.t_tuple bt_tuple (da_cons (d_lc [("at", 5)] rfl hN (blkOk_by (N := ["covers", "perils", "legs", "found", "rows", "at"]) (sc := defScope (top 39)) (by decide +kernel)) (by decide) (i_rng1 (d_callB call_lenA ca_len b.len bt_len (da_cons (d_var 4) da_nil)) b.range) (fun _ _ _ _ _ => (g_name 5 hN)) (fun _ _ _ _ _ => (ts_one (dt_cmp1 (c_eq hr) (d_call h_gaps hr p0 (as_cons (d_add (d_slice (d_var 4) do_none (do_some (d_var 5))) (d_slice (d_var 4) (do_some (d_add (d_var 5) d_int)) do_none)) (as_cons (d_var 1) (as_cons (d_var 2) as_nil)))) (d_var 3)))) (fun _ _ _ _ _ => (d_var 5))) da_nil)))))
theorem n_needless_covers {f : Addr} {fd : FuncData} (F : FunD K "needless_covers" "needless_covers" (defArgs (top 39)) (defBody (top 39)) (defScope (top 39)) [] [] f fd) : L2.Binds K fd ["covers", "perils", "legs"] [] :=
  F.bindsN fun _ _ _ _ _ _ us hl => match us, hl with | [_, _, _], _ => rfl
/-! law -/
def t_law_1 (ρ : DL.Env) : DL.Res Bool := (mTest (m2 dEq (mCall F_law_take (mASlot 1 (mACons (mC (.int 3)) mANil))) (mC (.int 0)))) ρ
def t_law_2 (ρ : DL.Env) : DL.Res Bool := (mAndT (mTest (m2 dNotIn (mVar 23) (mVar 8))) (mTest (m2 dEq (mCall F_law_take (mASlot 1 (mACons (mC (.int 2)) mANil))) (mC (.int 0))))) ρ
def e_law_1 (ρ : DL.Env) : DL.Res D := (m2 dItem (mVar 2) (mVar 23)) ρ
def e_law_2 (ρ : DL.Env) : DL.Res D := (m2 dItem (mVar 2) (mVar 23)) ρ
def e_law_3 (ρ : DL.Env) : DL.Res D := (mTup (mCons (m2 dItem (mVar 2) (mVar 26)) (mCons (m2 dItem (mVar 2) (mVar 27)) mNil))) ρ
def e_law_4 (ρ : DL.Env) : DL.Res D := (m2 dNotIn (mVar 26) (mCall F_asked_back (mACons (mVar 7) (mACons (mVar 4) (mACons (mVar 27) mANil))))) ρ
def e_law_5 (ρ : DL.Env) : DL.Res D := (m2 dGt (mCall F_worth (mACons (mVar 7) (mACons (mVar 28) (mACons (mC (.int 3)) mANil)))) (mCall F_worth (mACons (mVar 7) (mACons (m2 dAdd (mVar 28) (mC (.int 1))) (mACons (mC (.int 3)) mANil))))) ρ
def e_law_6 (ρ : DL.Env) : DL.Res D := (mCall F_law_cover (mASlot 1 mANil)) ρ
def e_law_7 (ρ : DL.Env) : DL.Res D := (mCall F_law_cover_built (mACons (mVar 25) mANil)) ρ
def e_law_8 (ρ : DL.Env) : DL.Res D := (m2 dNotIn (mVar 29) (mCall F_gaps (mACons (mVar 15) (mACons (mVar 16) (mACons (mVar 17) mANil))))) ρ
def e_law_9 (ρ : DL.Env) : DL.Res D := (m2 dIn (mVar 30) (mCall F_gaps (mACons (mVar 15) (mACons (mVar 16) (mACons (mVar 17) mANil))))) ρ
def s_law_1 (ρ : DL.Env) : DL.Res Fl := (mAsg (mTT (mTCons (mTN 4) (mTCons (mTN 5) (mTCons (mTN 6) mTNil)))) (mTup (mCons (mSl (mLst (mCons (mC (.str "ann")) (mCons (mC (.str "bob")) (mCons (mC (.str "cy")) mNil)))) none (some (mCall F_law_take (mASlot 1 (mACons (mC (.int 4)) mANil))))) (mCons (m2 dAdd (mC (.int 1)) (mCall F_law_take (mASlot 1 (mACons (mC (.int 900)) mANil)))) (mCons (m2 dEq (mCall F_law_take (mASlot 1 (mACons (mC (.int 2)) mANil))) (mC (.int 0))) mNil))))) ρ
def s_law_2 (ρ : DL.Env) : DL.Res Fl := (mSet 7 (mNew 0 F_Draft_init (mACons (mVar 5) (mACons (mC (.str "dora")) (mACons (mC (.str "paul")) (mACons (mCall F_law_take (mASlot 1 (mACons (mC (.int 60)) mANil))) (mACons (mVar 6) mANil))))))) ρ
def s_law_3 (ρ : DL.Env) : DL.Res Fl := (mSet 8 (mLcD (mComp [23] (mItLT (m2 dAdd (mVar 4) (mLst (mCons (mC (.str "dora")) (mCons (mC (.str "paul")) mNil))))) (mTN 23) t_law_1 (mVar 23)))) ρ
def s_law_4 (ρ : DL.Env) : DL.Res Fl := (mSet 9 (m2 dAdd (mVar 8) (mLcD (mComp [23] (mItLT (mVar 4)) (mTN 23) t_law_2 (mVar 23))))) ρ
def s_law_5 (ρ : DL.Env) : DL.Res Fl := (mPar 10 11 (mCons (mCall F_judge_draft (mACons (mVar 7) (mACons (mVar 4) (mACons (mVar 8) mANil)))) (mCons (mCall F_judge_draft (mACons (mVar 7) (mACons (mVar 4) (mACons (mVar 9) mANil)))) mNil))) ρ
def s_law_6 (ρ : DL.Env) : DL.Res Fl := (mSet 12 (m2 dAdd (mLst (mCons (mC (.str "dora")) mNil)) (mVar 4))) ρ
def s_law_7 (ρ : DL.Env) : DL.Res Fl := (mIf (mOrT (mTest (m2 dNe (mCa (fBoolO bs) (mCons (mVar 10) mNil)) (mCa (fBoolO bs) (mCons (mVar 11) mNil)))) (mAndT (mNotT (mTruO bs (mVar 10))) (mTest (m2 dLt (mIndex (mVar 12) (m1 (dFld [(1, 0), (2, 0)]) (mVar 11))) (mIndex (mVar 12) (m1 (dFld [(1, 0), (2, 0)]) (mVar 10))))))) (mRet (mC (.bl false)))
  mSkip) ρ
def s_law_8 (ρ : DL.Env) : DL.Res Fl := (mSet 13 (mCall F_judge_draft (mACons (mNew 0 F_Draft_init (mACons (mVar 5) (mACons (mC (.str "eve")) (mACons (mC (.str "pia")) (mACons (m1 (dFld [(0, 3)]) (mVar 7)) (mACons (mVar 6) mANil)))))) (mACons (mLcD (mComp [23] (mItLT (mVar 4)) (mTN 23) mTrue e_law_2)) (mACons (mLcD (mComp [23] (mItLT (mVar 8)) (mTN 23) mTrue e_law_1)) mANil))))) ρ
def s_law_9 (ρ : DL.Env) : DL.Res Fl := (mIf (mOrT (mTest (m2 dNe (m1 (dFld [(1, 0), (2, 0)]) (mVar 13)) (m2 dItem (mVar 2) (m1 (dFld [(1, 0), (2, 0)]) (mVar 10))))) (mAndT (mNotT (mTruO bs (mVar 10))) (mTest (m2 dNe (mCa fTup (mCons (m1 (dFld [(2, 1)]) (mVar 13)) mNil)) (mCa fTup (mCons (mLcD (mComp [26, 27] (mItLT (m1 (dFld [(2, 1)]) (mVar 10))) (mTT (mTCons (mTN 26) (mTCons (mTN 27) mTNil))) mTrue e_law_3)) mNil)))))) (mRet (mC (.bl false)))
  mSkip) ρ
def s_law_10 (ρ : DL.Env) : DL.Res Fl := (mIf (mNotT (mTruO bs (mVar 10))) (mSeq (mSet 22 (m2 dAdd (mLst (mCons (mCall F_holder_of (mACons (mVar 7) (mACons (mVar 4) mANil))) mNil)) (mLcD (mComp [26, 27] (mItLT (m1 (dFld [(2, 1)]) (mVar 10))) (mTT (mTCons (mTN 26) (mTCons (mTN 27) mTNil))) mTrue (mVar 26)))))
  (mIf (mOrT (mTest (m2 dNe (mLcD (mComp [26, 27] (mItLT (m1 (dFld [(2, 1)]) (mVar 10))) (mTT (mTCons (mTN 26) (mTCons (mTN 27) mTNil))) mTrue (mVar 27))) (mSl (mVar 22) none (some (m1 dNeg (mC (.int 1))))))) (mOrT (mTest (m2 dNe (m1 (dFld [(1, 0), (2, 0)]) (mVar 10)) (m2 dIx (mVar 22) (m1 dNeg (mC (.int 1)))))) (mTru (mCa fAny (mCons (mLcD (mComp [26, 27] (mItLT (m1 (dFld [(2, 1)]) (mVar 10))) (mTT (mTCons (mTN 26) (mTCons (mTN 27) mTNil))) mTrue e_law_4)) mNil))))) (mRet (mC (.bl false)))
  mSkip))
  mSkip) ρ
def s_law_11 (ρ : DL.Env) : DL.Res Fl := (mSet 14 (mCall F_losses (mACons (mVar 7) (mACons (mVar 4) (mACons (mVar 8) mANil))))) ρ
def s_law_12 (ρ : DL.Env) : DL.Res Fl := (mIf (mOrT (mTest (m2 dNe (mCa fSum (mCons (m1 dValsL (mVar 14)) mNil)) (mIfE (mTruO bs (mVar 10)) (mC (.int 0)) (mVar 5)))) (mOrT (mTest (m2 dNe (m2 dAdd (mCa fLen (mCons (mCall F_safe_hands (mACons (mVar 7) (mACons (mVar 4) (mACons (mVar 8) mANil)))) mNil)) (mCa fLen (mCons (mVar 14) mNil))) (mCa fLen (mCons (mVar 12) mNil)))) (mTru (mCa fAny (mCons (mLcD (mComp [28] (mRng1 (mC (.int 60))) (mTN 28) mTrue e_law_5)) mNil))))) (mRet (mC (.bl false)))
  mSkip) ρ
def s_law_13 (ρ : DL.Env) : DL.Res Fl := (mSet 12 (mLcD (mComp [24] (mRng1 (mCall F_law_take (mASlot 1 (mACons (mC (.int 5)) mANil)))) (mTN 24) mTrue e_law_6))) ρ
def s_law_14 (ρ : DL.Env) : DL.Res Fl := (mSet 15 (mLcD (mComp [25] (mItLT (mVar 12)) (mTN 25) mTrue e_law_7))) ρ
def s_law_15 (ρ : DL.Env) : DL.Res Fl := (mAsg (mTT (mTCons (mTN 16) (mTCons (mTN 17) (mTCons (mTN 18) mTNil)))) (mTup (mCons (mLst (mCons (mC (.str "storm")) (mCons (mC (.str "fire")) mNil))) (mCons (m2 dAdd (mC (.int 1)) (mCall F_law_take (mASlot 1 (mACons (mC (.int 5)) mANil)))) (mCons (mCall F_law_cover_built (mACons (mCall F_law_cover (mASlot 1 mANil)) mANil)) mNil))))) ρ
def s_law_16 (ρ : DL.Env) : DL.Res Fl := (mIf (mOrT (mTru (mCa fAny (mCons (mLcD (mComp [29] (mItLT (mCall F_gaps (mACons (m2 dAdd (mVar 15) (mLst (mCons (mVar 18) mNil))) (mACons (mVar 16) (mACons (mVar 17) mANil))))) (mTN 29) mTrue e_law_8)) mNil))) (mOrT (mAndT (mTruO bs (mCall F_judge_covers (mACons (mVar 15) (mACons (mVar 16) (mACons (mVar 17) mANil))))) (mNotT (mTruO bs (mCall F_judge_covers (mACons (m2 dAdd (mVar 15) (mLst (mCons (mVar 18) mNil))) (mACons (mVar 16) (mACons (mVar 17) mANil))))))) (mTru (mCa fAny (mCons (mLcD (mComp [30] (mItLT (mCall F_twice_covered (mACons (mVar 15) (mACons (mVar 16) (mACons (mVar 17) mANil))))) (mTN 30) mTrue e_law_9)) mNil))))) (mRet (mC (.bl false)))
  mSkip) ρ
def s_law_17 (ρ : DL.Env) : DL.Res Fl := (mSet 19 (mTup (mCons (mCall F_law_pick (mASlot 1 (mACons (mVar 16) mANil))) (mCons (mCall F_law_take (mASlot 1 (mACons (mVar 17) mANil))) (mCons (m2 dAdd (mC (.int 1)) (mCall F_law_take (mASlot 1 (mACons (mC (.int 90)) mANil)))) mNil))))) ρ
def s_law_18 (ρ : DL.Env) : DL.Res Fl := (mSet 20 (mCall F_shares (mACons (mVar 15) (mACons (mVar 19) mANil)))) ρ
def s_law_19 (ρ : DL.Env) : DL.Res Fl := (mIf (mOrT (mTest (m2 dGt (mCa fSum (mCons (mVar 20) mNil)) (m2 dIx (mVar 19) (mC (.int 2))))) (mOrT (mTest (m2 dLt (mCall F_borne (mACons (mVar 15) (mACons (mVar 19) mANil))) (mC (.int 0)))) (mOrT (mTest (m2 dNe (mCall F_borne (mACons (mVar 15) (mACons (mVar 19) mANil))) (m2 dSub (m2 dIx (mVar 19) (mC (.int 2))) (mCa fSum (mCons (mVar 20) mNil))))) (mOrT (mTest (m2 dGt (mCall F_borne (mACons (m2 dAdd (mVar 15) (mLst (mCons (mVar 18) mNil))) (mACons (mVar 19) mANil))) (mCall F_borne (mACons (mVar 15) (mACons (mVar 19) mANil))))) (mTest (m2 dNe (mCa fSum (mCons (mCall F_shares (mACons (m1 dRev (mVar 15)) (mACons (mVar 19) mANil))) mNil)) (mCa fSum (mCons (mVar 20) mNil)))))))) (mRet (mC (.bl false)))
  mSkip) ρ
def s_law_20 (ρ : DL.Env) : DL.Res Fl := (mSet 21 (mNew 3 F_Cover_init (mACons (mC (.int 900)) (mACons (mC (.int 900)) (mACons (mVar 16) (mACons (mTup (mCons (mC (.int 0)) (mCons (mC (.int 9)) mNil))) (mACons (mC (.int 0)) mANil))))))) ρ
def s_law_21 (ρ : DL.Env) : DL.Res Fl := (mIf (mOrT (mNotT (mTruO bs (mCall F_judge_covers (mACons (m2 dAdd (mVar 15) (mLst (mCons (mVar 21) mNil))) (mACons (mVar 16) (mACons (mVar 17) mANil)))))) (mOrT (mTest (m2 dNe (mCall F_borne (mACons (m2 dAdd (mVar 15) (mLst (mCons (mVar 21) mNil))) (mACons (mVar 19) mANil))) (mC (.int 0)))) (mAndT (mTest (m2 dGt (mCa fLen (mCons (mVar 15) mNil)) (mC (.int 0)))) (mAndT (mTest (m2 dNe (mCa fTup (mCons (mCall F_needless_covers (mACons (m2 dAdd (mLst (mCons (mVar 21) mNil)) (mVar 15)) (mACons (mVar 16) (mACons (mVar 17) mANil)))) mNil)) (mTupRng2 (mC (.int 1)) (m2 dAdd (mCa fLen (mCons (mVar 15) mNil)) (mC (.int 1)))))) (mNotT (mTruO bs (mCall F_judge_covers (mACons (mVar 15) (mACons (mVar 16) (mACons (mVar 17) mANil)))))))))) (mRet (mC (.bl false)))
  mSkip) ρ
def b_law_1 (ρ : DL.Env) : DL.Res Fl := (mSeq s_law_1
  (mSeq s_law_2
  (mSeq s_law_3
  (mSeq s_law_4
  (mSeq s_law_5
  (mSeq s_law_6
  (mSeq s_law_7
  (mSeq s_law_8
  (mSeq s_law_9
  (mSeq s_law_10
  (mSeq s_law_11
  (mSeq s_law_12
  (mSeq s_law_13
  (mSeq s_law_14
  (mSeq s_law_15
  (mSeq s_law_16
  (mSeq s_law_17
  (mSeq s_law_18
  (mSeq s_law_19
  (mSeq s_law_20
  s_law_21)))))))))))))))))))) ρ
def s_law_22 (ρ : DL.Env) : DL.Res Fl := (mSetO 1 (oLst (mCons (mVar 0) (mCons (mC (.int 0)) mNil)))) ρ
def s_law_23 (ρ : DL.Env) : DL.Res Fl := (mSet 2 (mDisp [((mC (.str "ann")), (mC (.str "bob"))), ((mC (.str "bob")), (mC (.str "cy"))), ((mC (.str "cy")), (mC (.str "ann"))), ((mC (.str "dora")), (mC (.str "eve"))), ((mC (.str "paul")), (mC (.str "pia")))])) ρ
def s_law_24 (ρ : DL.Env) : DL.Res Fl := (mFor (mRng1 (mC (.int 8))) (mTN 3) b_law_1) ρ
def s_law_25 (ρ : DL.Env) : DL.Res Fl := (mRet (mC (.bl true))) ρ
def m_law : M Fl := (mSeq s_law_22
  (mSeq s_law_23
  (mSeq s_law_24
  s_law_25)))
def F_law : FD := runF 31 false m_law
theorem sc_law : FnScope ["script", "draw", "names", "turn", "hands", "money", "is_taken", "draft", "failing", "more", "one", "other", "rows", "late", "lost", "covers", "perils", "legs", "new", "loss", "paid", "full", "ends", "hand", "again", "told", "left", "right", "day", "gap", "pair"] ["script"] (defScope (top 46)) := ⟨rfl, rfl, rfl, by decide +kernel, rfl, by decide +kernel, by decide +kernel⟩
theorem k_law {f : Addr} {fd : FuncData} (b : B K mg) (cf : CFacts K 6) (hbs : ∀ q ∈ bs, Booler P w K mg base CX0 1 q.1 q.2) (h_law_cover : Callee P w K mg base CX0 3 "_law_cover" 1 F_law_cover) (h_law_cover_built : Callee P w K mg base CX0 6 "_law_cover_built" 1 F_law_cover_built) (h_law_pick : Callee P w K mg base CX0 3 "_law_pick" 2 F_law_pick) (h_law_take : Callee P w K mg base CX0 2 "_law_take" 2 F_law_take) (h_asked_back : Callee P w K mg base CX0 3 "asked_back" 3 F_asked_back) (h_borne : Callee P w K mg base CX0 6 "borne" 2 F_borne) (h_gaps : Callee P w K mg base CX0 4 "gaps" 3 F_gaps) (h_holder_of : Callee P w K mg base CX0 3 "holder_of" 2 F_holder_of) (h_judge_covers : Callee P w K mg base CX0 5 "judge_covers" 3 F_judge_covers) (h_judge_draft : Callee P w K mg base CX0 4 "judge_draft" 3 F_judge_draft) (h_losses : Callee P w K mg base CX0 5 "losses" 3 F_losses) (h_needless_covers : Callee P w K mg base CX0 5 "needless_covers" 3 F_needless_covers) (h_safe_hands : Callee P w K mg base CX0 6 "safe_hands" 3 F_safe_hands) (h_shares : Callee P w K mg base CX0 5 "shares" 2 F_shares) (h_twice_covered : Callee P w K mg base CX0 5 "twice_covered" 3 F_twice_covered) (h_worth : Callee P w K mg base CX0 4 "worth" 3 F_worth) (h_Cover_init : Maker P w K mg base CX0 4 "Cover" 5 3 F_Cover_init) (h_Draft_init : Maker P w K mg base CX0 4 "Draft" 5 0 F_Draft_init) (F : FunD K "law" "law" (defArgs (top 46)) (defBody (top 46)) (defScope (top 46)) [] [] f fd) : FnOk P w K mg base CX0 7 f fd ["script"] (spF K 1 F_law) :=
  have hN : List.Nodup (α := Str) ["script", "draw", "names", "turn", "hands", "money", "is_taken", "draft", "failing", "more", "one", "other", "rows", "late", "lost", "covers", "perils", "legs", "new", "loss", "paid", "full", "ends", "hand", "again", "told", "left", "right", "day", "gap", "pair"] := sc_law.nd
  fn_ok F sc_law fun cdv A outer s H E hr =>
  (s_cons (s_setO 1 hN (o_list (da_cons (d_var 0) (da_cons d_int da_nil))))
  (s_cons (s_set 2 hN (d_disp [((mC (.str "ann")), (mC (.str "bob"))), ((mC (.str "bob")), (mC (.str "cy"))), ((mC (.str "cy")), (mC (.str "ann"))), ((mC (.str "dora")), (mC (.str "eve"))), ((mC (.str "paul")), (mC (.str "pia")))] (pps_cons d_str d_str (pps_cons d_str d_str (pps_cons d_str d_str (pps_cons d_str d_str (pps_cons d_str d_str pps_nil)))))))
  (s_cons (s_for PassesOwn.never rfl (i_rng1 d_int b.range) (g_name 3 hN) (s_cons (s_asg (d_tuple (da_cons (d_slice (d_list (da_cons d_str (da_cons d_str (da_cons d_str da_nil)))) do_none (do_some (d_call h_law_take hr p0 (as_slot 1 (as_cons d_int as_nil))))) (da_cons (d_add d_int (d_call h_law_take hr p0 (as_slot 1 (as_cons d_int as_nil)))) (da_cons (d_cmp1 (c_eq hr) (d_call h_law_take hr p0 (as_slot 1 (as_cons d_int as_nil))) d_int) da_nil)))) (g_tup rfl (gs_cons (g_name 4 hN) (gs_cons (g_name 5 hN) (gs_cons (g_name 6 hN) gs_nil)))))
  (s_cons (s_set 7 hN (d_new h_Draft_init hr p0 (as_cons (d_var 5) (as_cons d_str (as_cons d_str (as_cons (d_call h_law_take hr p0 (as_slot 1 (as_cons d_int as_nil))) (as_cons (d_var 6) as_nil)))))))
  (s_cons (s_set 8 hN (d_lc [("hand", 23)] rfl hN (blkOk_by (N := ["script", "draw", "names", "turn", "hands", "money", "is_taken", "draft", "failing", "more", "one", "other", "rows", "late", "lost", "covers", "perils", "legs", "new", "loss", "paid", "full", "ends", "hand", "again", "told", "left", "right", "day", "gap", "pair"]) (sc := defScope (top 46)) (by decide +kernel)) (by decide) (i_seq (d_add (d_var 4) (d_list (da_cons d_str (da_cons d_str da_nil))))) (fun _ _ _ _ _ => (g_name 23 hN)) (fun _ _ _ _ _ => (ts_one (dt_cmp1 (c_eq hr) (d_call h_law_take hr p0 (as_slot 1 (as_cons d_int as_nil))) d_int))) (fun _ _ _ _ _ => (d_var 23))))
  (s_cons (s_set 9 hN (d_add (d_var 8) (d_lc [("hand", 23)] rfl hN (blkOk_by (N := ["script", "draw", "names", "turn", "hands", "money", "is_taken", "draft", "failing", "more", "one", "other", "rows", "late", "lost", "covers", "perils", "legs", "new", "loss", "paid", "full", "ends", "hand", "again", "told", "left", "right", "day", "gap", "pair"]) (sc := defScope (top 46)) (by decide +kernel)) (by decide) (i_seq (d_var 4)) (fun _ _ _ _ _ => (g_name 23 hN)) (fun _ _ _ _ _ => (ts_one (dw_and (dt_cmp1 (c_notin hr) (d_var 23) (d_var 8)) (dw_and1 (dt_cmp1 (c_eq hr) (d_call h_law_take hr p0 (as_slot 1 (as_cons d_int as_nil))) d_int))).pt)) (fun _ _ _ _ _ => (d_var 23)))))
  (s_cons (s_par 10 11 rfl hN (da_cons (d_call h_judge_draft hr p0 (as_cons (d_var 7) (as_cons (d_var 4) (as_cons (d_var 8) as_nil)))) (da_cons (d_call h_judge_draft hr p0 (as_cons (d_var 7) (as_cons (d_var 4) (as_cons (d_var 9) as_nil)))) da_nil)))
  (s_cons (s_set 12 hN (d_add (d_list (da_cons d_str da_nil)) (d_var 4)))
  (s_cons (s_if (dw_or (dt_cmp1 (c_ne hr) (d_callTy ((call_boolOs (bs := bs) (k := 1) hbs p0 (hr.mono (by decide))).or call_bool1) (ca_boolO (E := DL.E0)) b.t_bool bt_bool (da_cons (d_var 10) da_nil)) (d_callTy ((call_boolOs (bs := bs) (k := 1) hbs p0 (hr.mono (by decide))).or call_bool1) (ca_boolO (E := DL.E0)) b.t_bool bt_bool (da_cons (d_var 11) da_nil))) (dw_or1 (dw_and (dt_not (dt_truO bs hbs p0 hr (d_var 10))) (dw_and1 (dt_cmp1 c_lt (d_index hr (d_var 12) (d_fld cf [(1, 0), (2, 0)] (d_var 11))) (d_index hr (d_var 12) (d_fld cf [(1, 0), (2, 0)] (d_var 10)))))).pt)).pt (s_one (s_ret d_bl))
  s_nil)
  (s_cons (s_set 13 hN (d_call h_judge_draft hr p0 (as_cons (d_new h_Draft_init hr p0 (as_cons (d_var 5) (as_cons d_str (as_cons d_str (as_cons (d_fld cf [(0, 3)] (d_var 7)) (as_cons (d_var 6) as_nil)))))) (as_cons (d_lc [("hand", 23)] rfl hN (blkOk_by (N := ["script", "draw", "names", "turn", "hands", "money", "is_taken", "draft", "failing", "more", "one", "other", "rows", "late", "lost", "covers", "perils", "legs", "new", "loss", "paid", "full", "ends", "hand", "again", "told", "left", "right", "day", "gap", "pair"]) (sc := defScope (top 46)) (by decide +kernel)) (by decide) (i_seq (d_var 4)) (fun _ _ _ _ _ => (g_name 23 hN)) (fun _ _ _ _ _ => ts_nil) (fun _ _ _ _ _ => (d_sub_ hr (d_var 2) (d_var 23)))) (as_cons (d_lc [("hand", 23)] rfl hN (blkOk_by (N := ["script", "draw", "names", "turn", "hands", "money", "is_taken", "draft", "failing", "more", "one", "other", "rows", "late", "lost", "covers", "perils", "legs", "new", "loss", "paid", "full", "ends", "hand", "again", "told", "left", "right", "day", "gap", "pair"]) (sc := defScope (top 46)) (by decide +kernel)) (by decide) (i_seq (d_var 8)) (fun _ _ _ _ _ => (g_name 23 hN)) (fun _ _ _ _ _ => ts_nil) (fun _ _ _ _ _ => (d_sub_ hr (d_var 2) (d_var 23)))) as_nil)))))
  (s_cons (s_if (dw_or (dt_cmp1 (c_ne hr) (d_fld cf [(1, 0), (2, 0)] (d_var 13)) (d_sub_ hr (d_var 2) (d_fld cf [(1, 0), (2, 0)] (d_var 10)))) (dw_or1 (dw_and (dt_not (dt_truO bs hbs p0 hr (d_var 10))) (dw_and1 (dt_cmp1 (c_ne hr) (d_callTy call_tuple_of ca_tup b.t_tuple bt_tuple (da_cons (d_fld cf [(2, 1)] (d_var 13)) da_nil)) (d_callTy call_tuple_of ca_tup b.t_tuple bt_tuple (da_cons (d_lc [("left", 26), ("right", 27)] rfl hN (blkOk_by (N := ["script", "draw", "names", "turn", "hands", "money", "is_taken", "draft", "failing", "more", "one", "other", "rows", "late", "lost", "covers", "perils", "legs", "new", "loss", "paid", "full", "ends", "hand", "again", "told", "left", "right", "day", "gap", "pair"]) (sc := defScope (top 46)) (by decide +kernel)) (by decide) (i_seq (d_fld cf [(2, 1)] (d_var 10))) (fun _ _ _ _ _ => (g_tup rfl (gs_cons (g_name 26 hN) (gs_cons (g_name 27 hN) gs_nil)))) (fun _ _ _ _ _ => ts_nil) (fun _ _ _ _ _ => (d_tuple (da_cons (d_sub_ hr (d_var 2) (d_var 26)) (da_cons (d_sub_ hr (d_var 2) (d_var 27)) da_nil))))) da_nil))))).pt)).pt (s_one (s_ret d_bl))
  s_nil)
  (s_cons (s_if (dt_not (dt_truO bs hbs p0 hr (d_var 10))) (s_cons (s_set 22 hN (d_add (d_list (da_cons (d_call h_holder_of hr p0 (as_cons (d_var 7) (as_cons (d_var 4) as_nil))) da_nil)) (d_lc [("left", 26), ("right", 27)] rfl hN (blkOk_by (N := ["script", "draw", "names", "turn", "hands", "money", "is_taken", "draft", "failing", "more", "one", "other", "rows", "late", "lost", "covers", "perils", "legs", "new", "loss", "paid", "full", "ends", "hand", "again", "told", "left", "right", "day", "gap", "pair"]) (sc := defScope (top 46)) (by decide +kernel)) (by decide) (i_seq (d_fld cf [(2, 1)] (d_var 10))) (fun _ _ _ _ _ => (g_tup rfl (gs_cons (g_name 26 hN) (gs_cons (g_name 27 hN) gs_nil)))) (fun _ _ _ _ _ => ts_nil) (fun _ _ _ _ _ => (d_var 26)))))
  (s_one (s_if (dw_or (dt_cmp1 (c_ne hr) (d_lc [("left", 26), ("right", 27)] rfl hN (blkOk_by (N := ["script", "draw", "names", "turn", "hands", "money", "is_taken", "draft", "failing", "more", "one", "other", "rows", "late", "lost", "covers", "perils", "legs", "new", "loss", "paid", "full", "ends", "hand", "again", "told", "left", "right", "day", "gap", "pair"]) (sc := defScope (top 46)) (by decide +kernel)) (by decide) (i_seq (d_fld cf [(2, 1)] (d_var 10))) (fun _ _ _ _ _ => (g_tup rfl (gs_cons (g_name 26 hN) (gs_cons (g_name 27 hN) gs_nil)))) (fun _ _ _ _ _ => ts_nil) (fun _ _ _ _ _ => (d_var 27))) (d_slice (d_var 22) do_none (do_some (d_neg d_int)))) (dw_or (dt_cmp1 (c_ne hr) (d_fld cf [(1, 0), (2, 0)] (d_var 10)) (d_item (d_var 22) (d_neg d_int))) (dw_or1 (dt_tru (d_callB (cr_any rfl) ca_any b.any bt_any (da_cons (d_lc [("left", 26), ("right", 27)] rfl hN (blkOk_by (N := ["script", "draw", "names", "turn", "hands", "money", "is_taken", "draft", "failing", "more", "one", "other", "rows", "late", "lost", "covers", "perils", "legs", "new", "loss", "paid", "full", "ends", "hand", "again", "told", "left", "right", "day", "gap", "pair"]) (sc := defScope (top 46)) (by decide +kernel)) (by decide) (i_seq (d_fld cf [(2, 1)] (d_var 10))) (fun _ _ _ _ _ => (g_tup rfl (gs_cons (g_name 26 hN) (gs_cons (g_name 27 hN) gs_nil)))) (fun _ _ _ _ _ => ts_nil) (fun _ _ _ _ _ => (d_cmp1 (c_notin hr) (d_var 26) (d_call h_asked_back hr p0 (as_cons (d_var 7) (as_cons (d_var 4) (as_cons (d_var 27) as_nil))))))) da_nil)))))).pt (s_one (s_ret d_bl))
  s_nil)))
  s_nil)
  (s_cons (s_set 14 hN (d_call h_losses hr p0 (as_cons (d_var 7) (as_cons (d_var 4) (as_cons (d_var 8) as_nil)))))
  (s_cons (s_if (dw_or (dt_cmp1 (c_ne hr) (d_callB (cr_sum rfl) ca_sum b.sum bt_sum (da_cons (d_lstVals (d_var 14) b.t_list) da_nil)) (d_ifexp (dt_truO bs hbs p0 hr (d_var 10)) d_int (d_var 5))) (dw_or (dt_cmp1 (c_ne hr) (d_add (d_callB call_lenA ca_len b.len bt_len (da_cons (d_call h_safe_hands hr p0 (as_cons (d_var 7) (as_cons (d_var 4) (as_cons (d_var 8) as_nil)))) da_nil)) (d_callB call_lenA ca_len b.len bt_len (da_cons (d_var 14) da_nil))) (d_callB call_lenA ca_len b.len bt_len (da_cons (d_var 12) da_nil))) (dw_or1 (dt_tru (d_callB (cr_any rfl) ca_any b.any bt_any (da_cons (d_lc [("day", 28)] rfl hN (blkOk_by (N := ["script", "draw", "names", "turn", "hands", "money", "is_taken", "draft", "failing", "more", "one", "other", "rows", "late", "lost", "covers", "perils", "legs", "new", "loss", "paid", "full", "ends", "hand", "again", "told", "left", "right", "day", "gap", "pair"]) (sc := defScope (top 46)) (by decide +kernel)) (by decide) (i_rng1 d_int b.range) (fun _ _ _ _ _ => (g_name 28 hN)) (fun _ _ _ _ _ => ts_nil) (fun _ _ _ _ _ => (d_cmp1 c_gt (d_call h_worth hr p0 (as_cons (d_var 7) (as_cons (d_var 28) (as_cons d_int as_nil)))) (d_call h_worth hr p0 (as_cons (d_var 7) (as_cons (d_add (d_var 28) d_int) (as_cons d_int as_nil))))))) da_nil)))))).pt (s_one (s_ret d_bl))
  s_nil)
  (s_cons (s_setLc 12 [("again", 24)] rfl hN (blkOk_by (N := ["script", "draw", "names", "turn", "hands", "money", "is_taken", "draft", "failing", "more", "one", "other", "rows", "late", "lost", "covers", "perils", "legs", "new", "loss", "paid", "full", "ends", "hand", "again", "told", "left", "right", "day", "gap", "pair"]) (sc := defScope (top 46)) (by decide +kernel)) (by decide) (i_rng1 (d_call h_law_take hr p0 (as_slot 1 (as_cons d_int as_nil))) b.range) (fun _ _ _ _ _ => (g_name 24 hN)) (fun _ _ _ _ _ => ts_nil) (fun _ _ _ _ _ => (d_call h_law_cover hr p0 (as_slot 1 as_nil))))
  (s_cons (s_set 15 hN (d_lc [("told", 25)] rfl hN (blkOk_by (N := ["script", "draw", "names", "turn", "hands", "money", "is_taken", "draft", "failing", "more", "one", "other", "rows", "late", "lost", "covers", "perils", "legs", "new", "loss", "paid", "full", "ends", "hand", "again", "told", "left", "right", "day", "gap", "pair"]) (sc := defScope (top 46)) (by decide +kernel)) (by decide) (i_seq (d_var 12)) (fun _ _ _ _ _ => (g_name 25 hN)) (fun _ _ _ _ _ => ts_nil) (fun _ _ _ _ _ => (d_call h_law_cover_built hr p0 (as_cons (d_var 25) as_nil)))))
  (s_cons (s_asg (d_tuple (da_cons (d_list (da_cons d_str (da_cons d_str da_nil))) (da_cons (d_add d_int (d_call h_law_take hr p0 (as_slot 1 (as_cons d_int as_nil)))) (da_cons (d_call h_law_cover_built hr p0 (as_cons (d_call h_law_cover hr p0 (as_slot 1 as_nil)) as_nil)) da_nil)))) (g_tup rfl (gs_cons (g_name 16 hN) (gs_cons (g_name 17 hN) (gs_cons (g_name 18 hN) gs_nil)))))
  (s_cons (s_if (dw_or (dt_tru (d_callB (cr_any rfl) ca_any b.any bt_any (da_cons (d_lc [("gap", 29)] rfl hN (blkOk_by (N := ["script", "draw", "names", "turn", "hands", "money", "is_taken", "draft", "failing", "more", "one", "other", "rows", "late", "lost", "covers", "perils", "legs", "new", "loss", "paid", "full", "ends", "hand", "again", "told", "left", "right", "day", "gap", "pair"]) (sc := defScope (top 46)) (by decide +kernel)) (by decide) (i_seq (d_call h_gaps hr p0 (as_cons (d_add (d_var 15) (d_list (da_cons (d_var 18) da_nil))) (as_cons (d_var 16) (as_cons (d_var 17) as_nil))))) (fun _ _ _ _ _ => (g_name 29 hN)) (fun _ _ _ _ _ => ts_nil) (fun _ _ _ _ _ => (d_cmp1 (c_notin hr) (d_var 29) (d_call h_gaps hr p0 (as_cons (d_var 15) (as_cons (d_var 16) (as_cons (d_var 17) as_nil))))))) da_nil))) (dw_or (dw_and (dt_truO bs hbs p0 hr (d_call h_judge_covers hr p0 (as_cons (d_var 15) (as_cons (d_var 16) (as_cons (d_var 17) as_nil))))) (dw_and1 (dt_not (dt_truO bs hbs p0 hr (d_call h_judge_covers hr p0 (as_cons (d_add (d_var 15) (d_list (da_cons (d_var 18) da_nil))) (as_cons (d_var 16) (as_cons (d_var 17) as_nil)))))))).pt (dw_or1 (dt_tru (d_callB (cr_any rfl) ca_any b.any bt_any (da_cons (d_lc [("pair", 30)] rfl hN (blkOk_by (N := ["script", "draw", "names", "turn", "hands", "money", "is_taken", "draft", "failing", "more", "one", "other", "rows", "late", "lost", "covers", "perils", "legs", "new", "loss", "paid", "full", "ends", "hand", "again", "told", "left", "right", "day", "gap", "pair"]) (sc := defScope (top 46)) (by decide +kernel)) (by decide) (i_seq (d_call h_twice_covered hr p0 (as_cons (d_var 15) (as_cons (d_var 16) (as_cons (d_var 17) as_nil))))) (fun _ _ _ _ _ => (g_name 30 hN)) (fun _ _ _ _ _ => ts_nil) (fun _ _ _ _ _ => (d_cmp1 (c_in hr) (d_var 30) (d_call h_gaps hr p0 (as_cons (d_var 15) (as_cons (d_var 16) (as_cons (d_var 17) as_nil))))))) da_nil)))))).pt (s_one (s_ret d_bl))
  s_nil)
  (s_cons (s_set 19 hN (d_tuple (da_cons (d_call h_law_pick hr p0 (as_slot 1 (as_cons (d_var 16) as_nil))) (da_cons (d_call h_law_take hr p0 (as_slot 1 (as_cons (d_var 17) as_nil))) (da_cons (d_add d_int (d_call h_law_take hr p0 (as_slot 1 (as_cons d_int as_nil)))) da_nil)))))
  (s_cons (s_set 20 hN (d_call h_shares hr p0 (as_cons (d_var 15) (as_cons (d_var 19) as_nil))))
  (s_cons (s_if (dw_or (dt_cmp1 c_gt (d_callB (cr_sum rfl) ca_sum b.sum bt_sum (da_cons (d_var 20) da_nil)) (d_item (d_var 19) d_int)) (dw_or (dt_cmp1 c_lt (d_call h_borne hr p0 (as_cons (d_var 15) (as_cons (d_var 19) as_nil))) d_int) (dw_or (dt_cmp1 (c_ne hr) (d_call h_borne hr p0 (as_cons (d_var 15) (as_cons (d_var 19) as_nil))) (d_sub (d_item (d_var 19) d_int) (d_callB (cr_sum rfl) ca_sum b.sum bt_sum (da_cons (d_var 20) da_nil)))) (dw_or (dt_cmp1 c_gt (d_call h_borne hr p0 (as_cons (d_add (d_var 15) (d_list (da_cons (d_var 18) da_nil))) (as_cons (d_var 19) as_nil))) (d_call h_borne hr p0 (as_cons (d_var 15) (as_cons (d_var 19) as_nil)))) (dw_or1 (dt_cmp1 (c_ne hr) (d_callB (cr_sum rfl) ca_sum b.sum bt_sum (da_cons (d_call h_shares hr p0 (as_cons (d_rev (d_var 15)) (as_cons (d_var 19) as_nil))) da_nil)) (d_callB (cr_sum rfl) ca_sum b.sum bt_sum (da_cons (d_var 20) da_nil)))))))).pt (s_one (s_ret d_bl))
  s_nil)
  (s_cons (s_set 21 hN (d_new h_Cover_init hr p0 (as_cons d_int (as_cons d_int (as_cons (d_var 16) (as_cons (d_tuple (da_cons d_int (da_cons d_int da_nil))) (as_cons d_int as_nil)))))))
  (s_one (s_if (dw_or (dt_not (dt_truO bs hbs p0 hr (d_call h_judge_covers hr p0 (as_cons (d_add (d_var 15) (d_list (da_cons (d_var 21) da_nil))) (as_cons (d_var 16) (as_cons (d_var 17) as_nil)))))) (dw_or (dt_cmp1 (c_ne hr) (d_call h_borne hr p0 (as_cons (d_add (d_var 15) (d_list (da_cons (d_var 21) da_nil))) (as_cons (d_var 19) as_nil))) d_int) (dw_or1 (dw_and (dt_cmp1 c_gt (d_callB call_lenA ca_len b.len bt_len (da_cons (d_var 15) da_nil)) d_int) (dw_and (dt_cmp1 (c_ne hr) (d_callTy call_tuple_of ca_tup b.t_tuple bt_tuple (da_cons (d_call h_needless_covers hr p0 (as_cons (d_add (d_list (da_cons (d_var 21) da_nil)) (d_var 15)) (as_cons (d_var 16) (as_cons (d_var 17) as_nil)))) da_nil)) (d_tupRng2 d_int (d_add (d_callB call_lenA ca_len b.len bt_len (da_cons (d_var 15) da_nil)) d_int) b.t_tuple b.range)) (dw_and1 (dt_not (dt_truO bs hbs p0 hr (d_call h_judge_covers hr p0 (as_cons (d_var 15) (as_cons (d_var 16) (as_cons (d_var 17) as_nil))))))))).pt))).pt (s_one (s_ret d_bl))
  s_nil)))))))))))))))))))))))
  (s_one (s_ret d_bl)))))
theorem n_law {f : Addr} {fd : FuncData} (F : FunD K "law" "law" (defArgs (top 46)) (defBody (top 46)) (defScope (top 46)) [] [] f fd) : L2.Binds K fd ["script"] [] :=
  F.bindsN fun _ _ _ _ _ _ us hl => match us, hl with | [_], _ => rfl
end
end T37
set_option Elab.async false
set_option linter.all false
set_option maxRecDepth 100000
set_option maxHeartbeats 0
namespace T37
open PySem PySem.Spec PyProof.Rows L2 DL
theorem line2 : (2 : Nat) ≤ sizeLine := by decide
theorem ne00 : dNe (.rol []) (.lst []) = some (.bl false) := rfl
theorem ints_map_isE (ns : List Int) : eqB (.rol (ns.map D.int)) (.lst []) = some ns.isEmpty := by
  cases ns with
  | nil => rfl
  | cons n ns =>
    have h1 : ∀ ns : List Int, toPys (ns.map D.int) = some (ns.map PyData.int) := by
      intro ns
      induction ns with
      | nil => rfl
      | cons a r ih => simp [toPys, toPy, ih]
    have h2 : ∀ ns : List Int, PyData.canLayAll0 (ns.map PyData.int) = true := by
      intro ns
      induction ns with
      | nil => rfl
      | cons a r ih => simp [PyData.canLayAll0, PyData.canLay0, ih]
    have h3 : ∀ ns : List Int, PyData.depthAll (ns.map PyData.int) = 0 := by
      intro ns
      induction ns with
      | nil => rfl
      | cons a r ih => simp [PyData.depthAll, PyData.depth, ih]
    have e1 : toPy (.rol ((n :: ns).map D.int)) = some (.list ((n :: ns).map PyData.int)) := by
      simp only [toPy, h1, Option.map_some]
    have e2 : toPy (.lst []) = some (.list []) := rfl
    unfold eqB
    simp only [D.sc]
    unfold eqDeep
    rw [e1, e2]
    simp only
    have s1 : SeqAt.shaped (.list ((n :: ns).map PyData.int)) = true := by
      simp only [SeqAt.shaped, PyData.canLay0, PyData.depth, h2, h3]
      decide
    have s2 : SeqAt.shaped (.list []) = true := by decide
    rw [s1, s2]
    rfl
theorem atI_some {α : Type} (ns : List α) (i : Int) (h0 : 0 ≤ i) (h1 : i < ns.length) : ∃ c, L2.atI ns i = some c := by
  unfold L2.atI ixN
  rw [if_pos h0, if_pos h1]
  have h2 : i.toNat < ns.length := by omega
  exact ⟨ns[i.toNat], by simp [h2]⟩
theorem mul_blend (x : Int) : dMul (.int (x % 2147483647)) (.int (x % 2147483647)) = some (.int (x % 2147483647 * (x % 2147483647))) := by
  have h0 := Int.emod_nonneg x (show (2147483647 : Int) ≠ 0 by decide)
  have h1 := Int.emod_lt_of_pos x (show (0 : Int) < 2147483647 by decide)
  have h : lim64 (x % 2147483647) = true := by
    unfold lim64
    exact decide_eq_true (by omega)
  simp [dMul, h]
theorem mul_r (i : Int) {j : Int} (h : lim64 j = true) : dMul (.int i) (.int j) = some (.int (i * j)) := by simp [dMul, h]
theorem mul_l {i : Int} (j : Int) (h : lim64 i = true) : dMul (.int i) (.int j) = some (.int (i * j)) := by simp [dMul, h]
theorem m977 (i : Int) : dMul (.int 977) (.int i) = some (.int (977 * i)) := mul_l i (by decide)
theorem m40503 (i : Int) : dMul (.int 40503) (.int i) = some (.int (40503 * i)) := mul_l i (by decide)
theorem m31 (i : Int) : dMul (.int 31) (.int i) = some (.int (31 * i)) := mul_l i (by decide)
theorem m48271 (i : Int) : dMul (.int i) (.int 48271) = some (.int (i * 48271)) := mul_r i (by decide)
theorem m69621 (i : Int) : dMul (.int i) (.int 69621) = some (.int (i * 69621)) := mul_r i (by decide)
theorem lnloop {a b c d f : Option W} : ∀ (ds : List D) (r : Int) (e : Option W), ∃ (r' : Int) (e' : Option W), forGo (mTN 5) b_law_number_1 ds [a, b, c, d, some (.val (.int r)), e, f] = .ok .nx [a, b, c, d, some (.val (.int r')), e', f]
  | [], r, e => ⟨r, e, rfl⟩
  | x :: ds, r, e => by
    obtain ⟨r', e', h⟩ := lnloop (a := a) (b := b) (c := c) (d := d) (f := f) ds (r / 1009) (some (.val x))
    exact ⟨r', e', by simp [forGo, b_law_number_1, dFdiv, h]⟩
theorem lawnum (ns : List Int) (hl : ns.length ≤ 63) (i : Int) : ∃ v, F_law_number [.val (.rol (ns.map D.int)), .val (.int i)] = .ok (.int v) [] := by
  by_cases hns : ns = []
  · subst hns
    simp [F_law_number, m_law_number, ev_runF, startE, ne00, line2, dAdd, dSub, dFdiv, dMod, dPow, dLt, dGt, fInt, fLen, finE, outsE, mFor, lim62, rngD, forGo, mul_blend, m977, m40503, m31, m48271, m69621]
  · have hp : 0 < ns.length := List.length_pos_iff.mpr hns
    have hp' : (0 : Int) < (ns.length : Int) := by omega
    have hp2 : (ns.length : Int) < 1073741824 := by omega
    obtain ⟨c, hc⟩ := atI_some ns (i % (ns.length : Int)) (Int.emod_nonneg i (by omega)) (Int.emod_lt_of_pos i hp')
    have hne : dNe (.rol (ns.map D.int)) (.lst []) = some (.bl true) := by
      unfold dNe
      rw [ints_map_isE]
      cases ns with
      | nil => exact absurd rfl hns
      | cons _ _ => rfl
    have hm := Int.emod_nonneg (i / (ns.length : Int)) (show (60 : Int) ≠ 0 by decide)
    have hm2 := Int.emod_lt_of_pos (i / (ns.length : Int)) (show (0 : Int) < 60 by decide)
    have hlim : lim62 (i / (ns.length : Int) % 60) = true := by
      unfold lim62
      exact decide_eq_true (by omega)
    have hix : dIx (.rol (ns.map D.int)) (.int (i % (ns.length : Int))) = some (.int c) := by
      show (L2.atI (ns.map D.int) (i % (ns.length : Int))) = _
      rw [atI_map, hc]
      rfl
    by_cases ht : i / (ns.length : Int) < 60
    · obtain ⟨r', e', hloop⟩ := lnloop (a := some (.val (.rol (ns.map D.int)))) (b := some (.val (.int i))) (c := some (.val (.int c))) (d := some (.val (.int (i / (ns.length : Int))))) (f := none) (rngD 0 (i / (ns.length : Int) % 60).toNat) (c - 10 ^ 18) none
      have hloop' : forGo (mTN 5) b_law_number_1 (rngD 0 (i / (ns.length : Int) % 60).toNat) [some (.val (.rol (ns.map D.int))), some (.val (.int i)), some (.val (.int c)), some (.val (.int (i / (ns.length : Int)))), some (.val (.int (c - 1000000000000000000))), none, none] = _ := hloop
      by_cases hr : 0 < r'
      · simp [F_law_number, m_law_number, ev_runF, startE, hne, line2, dAdd, dSub, dFdiv, dMod, dPow, dLt, dGt, fInt, fLen, finE, outsE, mFor, hlim, hix, ht, hp, hp', hp2, hloop', hr]
      · simp [F_law_number, m_law_number, ev_runF, startE, hne, line2, dAdd, dSub, dFdiv, dMod, dPow, dLt, dGt, fInt, fLen, finE, outsE, mFor, hlim, hix, ht, hp, hp', hp2, hloop', hr, mul_blend, m977, m40503, m31, m48271, m69621]
    · obtain ⟨r', e', hloop⟩ := lnloop (a := some (.val (.rol (ns.map D.int)))) (b := some (.val (.int i))) (c := some (.val (.int c))) (d := some (.val (.int (i / (ns.length : Int))))) (f := none) (rngD 0 (i / (ns.length : Int) % 60).toNat) 0 none
      by_cases hr : 0 < r'
      · simp [F_law_number, m_law_number, ev_runF, startE, hne, line2, dAdd, dSub, dFdiv, dMod, dPow, dLt, dGt, fInt, fLen, finE, outsE, mFor, hlim, hix, ht, hp, hp', hp2, hloop, hr]
      · simp [F_law_number, m_law_number, ev_runF, startE, hne, line2, dAdd, dSub, dFdiv, dMod, dPow, dLt, dGt, fInt, fLen, finE, outsE, mFor, hlim, hix, ht, hp, hp', hp2, hloop, hr, mul_blend, m977, m40503, m31, m48271, m69621]
theorem lawtake (ns : List Int) (hl : ns.length ≤ 63) (n many : Int) (hm : 0 < many) : ∃ r, F_law_take [.inn (.lst [.rol (ns.map D.int), .int n]), .val (.int many)] = .ok (.int r) [.lst [.rol (ns.map D.int), .int (n + 1)]] ∧ 0 ≤ r ∧ r < many := by
  obtain ⟨v, hv⟩ := lawnum ns hl (n + 1)
  refine ⟨v % many, ?_, Int.emod_nonneg _ (by omega), Int.emod_lt_of_pos _ hm⟩
  simp [F_law_take, m_law_take, ev_runF, startE, holds, L2.atI, L2.ixN, dAddI, cSetAt, W.put, fInt, toWs, hv, dMod, hm, finE, outsE]
theorem lawpick {α : Type} (ns : List Int) (hl : ns.length ≤ 63) (n : Int) (e : α → D) (l : List α) (h0 : l ≠ []) (h1 : l.length ≤ 1000) : ∃ x ∈ l, F_law_pick [.inn (.lst [.rol (ns.map D.int), .int n]), .val (.lst (l.map e))] = .ok (e x) [.lst [.rol (ns.map D.int), .int (n + 1)]] := by
  have hp : 0 < l.length := List.length_pos_iff.mpr h0
  obtain ⟨r, hr, r0, r1⟩ := lawtake ns hl n (l.length : Int) (by omega)
  have hlt : r.toNat < l.length := by omega
  refine ⟨l[r.toNat], List.getElem_mem hlt, ?_⟩
  have hix : dIx (.lst (l.map e)) (.int r) = some (e l[r.toNat]) := by
    show L2.atI (l.map e) r = _
    rw [atI_map]
    unfold L2.atI ixN
    rw [if_pos r0, if_pos r1]
    simp [hlt]
  simp [F_law_pick, m_law_pick, ev_runF, startE, holds, fLen, toWs, hr, W.put, hix, finE, outsE]
end T37
set_option Elab.async false
set_option linter.all false
set_option maxRecDepth 100000
set_option maxHeartbeats 1000000
namespace T37.D1
open PySem PySem.Spec PyProof.Rows L2 DL
def NM : List Str := ["ann", "bob", "cy", "dora", "paul", "eve", "pia"]
theorem isnm : ∀ x ∈ NM, F_is_name [.val (.str x)] = .ok (.bl true) [] := by
  intro x hx
  simp only [NM, List.mem_cons, List.not_mem_nil, or_false] at hx
  rcases hx with rfl | rfl | rfl | rfl | rfl | rfl | rfl <;> rfl
theorem ckname (p : D) (x : Str) (hx : x ∈ NM) : F_check_name [.val p, .val (.str x)] = .ok .non [] := by
  simp [F_check_name, m_check_name, ev_runF, startE, toWs, isnm x hx, dTru, finE, outsE]
theorem cknum (p : D) (x lo hi : Int) (h1 : lo ≤ x) (h2 : x ≤ hi) : F_check_number [.val p, .val (.int x), .val (.int lo), .val (.int hi)] = .ok .non [] := by
  simp [F_check_number, m_check_number, F_is_number, m_is_number, F_is_integer, m_is_integer, ev_runF, startE, toWs, dTru, finE, outsE, isTy, D.ty, Ty.sub, dLe, h1, h2]
abbrev dr (m due : Int) (tk : Bool) : D := .ob 0 [.int m, .str "dora", .str "paul", .int due, .bl tk]
theorem newdr (m due : Int) (tk : Bool) (h1 : 1 ≤ m) (h2 : m ≤ 9999) (h3 : 0 ≤ due) (h4 : due ≤ 999) : F_Draft_init [.inn (.ob 0 []), .val (.int m), .val (.str "dora"), .val (.str "paul"), .val (.int due), .val (.bl tk)] = .ok .non [.ob 0 [.int m, .str "dora", .str "paul", .int due, .bl tk]] := by
  have a1 := ckname (.str "drawer") "dora" (by decide)
  have a2 := ckname (.str "payer") "paul" (by decide)
  have a3 := cknum (.str "money") m 1 9999 h1 h2
  have a4 := cknum (.str "due") due 0 999 h3 h4
  have a5 : ¬ (("dora" : Str) = "paul") := by decide
  simp [a5, F_Draft_init, m_Draft_init, ev_runF, startE, toWs, a1, a2, a3, a4, dEq, isTy, D.ty, Ty.sub, dTru, finE, outsE, holds, cFld, W.put]
/-- hands that may pass a draft -/
structure Hd (hs : List Str) : Prop where
  nm : ∀ x ∈ hs, x ∈ NM
  nd : (("dora" : Str) :: ("paul" : Str) :: hs).Nodup
  few : hs.length ≤ 11
theorem Hd.nod {hs : List Str} (h : Hd hs) {x : Str} (hx : x ∈ hs) : ¬ x = "dora" ∧ ¬ x = "paul" := by
  obtain ⟨h1, h2⟩ := List.nodup_cons.mp h.nd
  obtain ⟨h3, h4⟩ := List.nodup_cons.mp h2
  exact ⟨fun e => h1 (by rw [← e]; simp [hx]), fun e => h3 (by rw [← e]; exact hx)⟩
theorem Hd.ndh {hs : List Str} (h : Hd hs) : hs.Nodup := (List.nodup_cons.mp (List.nodup_cons.mp h.nd).2).2
theorem sIx0 (n : Nat) : HT.sIx n 0 none = 0 := rfl
theorem sIxN (n : Nat) : HT.sIx n n none = n := rfl
theorem cut_to (hs : List Str) (k : Nat) : cutD (hs.map D.str) none (some (k : Int)) = (hs.take k).map D.str := by
  rw [cutD_map, HT.sIx_nat]
  simp [sIx0, List.take_eq_take_iff]
theorem two_in (x : Str) (h1 : ¬ x = "dora") (h2 : ¬ x = "paul") : dIn (.str x) (.tup [.str "dora", .str "paul"]) = some (.bl false) := by
  have := in_strsT x ["dora", "paul"]
  simp only [List.map_cons, List.map_nil] at this
  rw [this]
  simp [h1, h2]
theorem line11 {n : Nat} (h : n ≤ 40) : n ≤ sizeLine := Nat.le_trans h (by decide)
theorem cploop (m due : Int) (tk : Bool) (f : D) (hs : List Str) (H : Hd hs) : ∀ (suf pre : List Str), hs = pre ++ suf → ∀ a b : Option D, ∃ a' b' : Option D, forGo (mTT (mTCons (mTN 3) (mTCons (mTN 4) mTNil))) b_check_passed_1 ((suf.zipIdx pre.length).map fun q => .tup [.int (q.2 : Nat), D.str q.1]) [some (.val (dr m due tk)), some (.val (.lst (hs.map D.str))), some (.val f), a.map .val, b.map .val] = .ok .nx [some (.val (dr m due tk)), some (.val (.lst (hs.map D.str))), some (.val f), a'.map .val, b'.map .val]
  | [], pre, e, a, b => ⟨a, b, rfl⟩
  | x :: suf, pre, e, a, b => by
    obtain ⟨a', b', ih⟩ := cploop m due tk f hs H suf (pre ++ [x]) (by simp [e]) (some (.int (pre.length : Nat))) (some (.str x))
    have hx : x ∈ hs := by simp [e]
    obtain ⟨h1, h2⟩ := H.nod hx
    have h3 : x ∉ pre := by
      have := H.ndh
      rw [e] at this
      exact fun z => (List.nodup_append.mp this).2.2 x z x (by simp) rfl
    have h4 : hs.take pre.length = pre := by simp [e]
    have h5 := isnm x (H.nm x hx)
    have h6 : (2 : Nat) ≤ sizeLine := by decide
    refine ⟨a', b', ?_⟩
    rw [show (pre ++ [x]).length = pre.length + 1 by simp] at ih
    simp only [Option.map_some] at ih
    simp [forGo, b_check_passed_1, toWs, h5, dTru, dFld, List.lookup, two_in x h1 h2, fLst, dCut, cut_to, h4, h3, h6, ih]
theorem ckpassed (m due : Int) (tk : Bool) (hs fs : List Str) (H : Hd hs) (hf : ∀ x ∈ fs, x ∈ NM) (hl : fs.length ≤ 40) : F_check_passed [.val (dr m due tk), .val (.lst (hs.map D.str)), .val (.lst (fs.map D.str))] = .ok .non [] := by
  obtain ⟨a', b', h⟩ := cploop m due tk (.lst (fs.map D.str)) hs H hs [] rfl none none
  have h2 : lcs (lcIt [4] (mTN 4) mTrue e_check_passed_1) (fs.map D.str) [some (.val (dr m due tk)), some (.val (.lst (hs.map D.str))), some (.val (.lst (fs.map D.str))), a'.map .val, b'.map .val] = .ok (List.replicate fs.length (D.bl true)) [some (.val (dr m due tk)), some (.val (.lst (hs.map D.str))), some (.val (.lst (fs.map D.str))), a'.map .val, b'.map .val] := by
    refine lcs_tru D.str fs fun x hx => ?_
    simp [lcIt, e_check_passed_1, wipeE, restore, mTN, mTrue, toWs, isnm x (hf x hx)]
  have e1 := enumD_map D.str hs 0
  simp at h
  simp [F_check_passed, m_check_passed, ev_runF, startE, isCl, dTru, toWs, F_is_row, m_is_row, isTys, D.ty, Ty.sub, finE, outsE, D.lis, D.seq, e1, h, notOwn_eq, line11 hl, h2, all_rep]
theorem hd_nil : ∀ x ∈ ([] : List Str), x ∈ NM := fun x h => by cases h
theorem ckp0 (m due : Int) (tk : Bool) (hs : List Str) (H : Hd hs) : F_check_passed [.val (dr m due tk), .val (.lst (hs.map D.str)), .val (.lst [])] = .ok .non [] :=
  ckpassed m due tk hs [] H hd_nil (by decide)
/-- the rows: the drawer, the hands -/
abbrev rows (hs : List Str) : List Str := ("dora" : Str) :: hs
abbrev lastR (hs : List Str) : Str := (rows hs).getLast (by simp)
theorem atI_neg1 (hs : List Str) (h : hs ≠ []) : L2.atI hs (-1) = some (hs.getLast h) := by
  have e := L2.atI_last hs.dropLast (hs.getLast h)
  rwa [List.dropLast_concat_getLast h] at e
theorem holder (m due : Int) (tk : Bool) (hs : List Str) (H : Hd hs) : F_holder_of [.val (dr m due tk), .val (.lst (hs.map D.str))] = .ok (.str (lastR hs)) [] := by
  have h0 := ckp0 m due tk hs H
  cases hs with
  | nil =>
    simp only [List.map_nil] at h0 ⊢
    simp [F_holder_of, m_holder_of, ev_runF, startE, toWs, h0, fLen, dGt, dFld, List.lookup, finE, outsE, lastR]
  | cons x r =>
    have h1 := atI_neg1 (x :: r) (by simp)
    have h2 : dIx (.lst (.str x :: r.map D.str)) (.int (-1)) = some (.str (lastR (x :: r))) := by
      show L2.atI ((x :: r).map D.str) (-1) = _
      rw [DL.atI_map, h1]
      simp [lastR]
    have h3 : (0 : Int) < (r.length : Int) + 1 := by omega
    simp only [List.map_cons] at h0 ⊢
    simp [F_holder_of, m_holder_of, ev_runF, startE, toWs, h0, fLen, dGt, fLst, dNeg, h2, h3, finE, outsE]
theorem asked (m due : Int) (tk : Bool) (hs : List Str) (H : Hd hs) (x : Str) (hx : x ∈ rows hs) : F_asked_back [.val (dr m due tk), .val (.lst (hs.map D.str)), .val (.str x)] = .ok (.lst (((rows hs).take ((rows hs).idxOf x)).reverse.map D.str)) [] := by
  have h0 := ckp0 m due tk hs H
  have h1 := index_strs hx
  have h2 := nin_strs x (rows hs)
  have h3 := cut_to (rows hs) ((rows hs).idxOf x)
  have h4 : hs.length + 1 ≤ sizeLine := line11 (by have := H.few; omega)
  simp only [rows, List.map_cons] at h1 h2 h3
  have hx' : x = "dora" ∨ x ∈ hs := by simpa using hx
  simp [F_asked_back, m_asked_back, ev_runF, startE, toWs, h0, dFld, List.lookup, D.seq, h4, h2, hx', h1, D.lis, dCut, h3, dRev, finE, outsE]
/-- the sound ones above x, the nearest first -/
def above (R fs : List Str) (x : Str) : List Str := ((R.take (R.idxOf x)).filter fun a => !decide (a ∈ fs)).reverse
def up : Str → List Str → List (Str × Str) × Str
  | x, [] => ([], x)
  | x, y :: l => ((y, x) :: (up y l).1, (up y l).2)
theorem above_next {R fs L : List Str} {x y : Str} (nd : R.Nodup) (h : above R fs x = y :: L) : y ∈ R ∧ above R fs y = L ∧ y ∉ fs := by
  unfold above at h
  have h1 : (R.take (R.idxOf x)).filter (fun a => !decide (a ∈ fs)) = L.reverse ++ [y] := by
    have := congrArg List.reverse h
    simpa using this
  obtain ⟨A, B, e1, e2, e3⟩ := List.filter_eq_append_iff.mp h1
  obtain ⟨B1, B2, f1, f2, f3, f4⟩ := List.filter_eq_cons_iff.mp e3
  have hR : R = (A ++ B1) ++ y :: (B2 ++ R.drop (R.idxOf x)) := by
    have := (List.take_append_drop (R.idxOf x) R).symm
    rw [e1, f1] at this
    simpa using this
  have hy : y ∉ A ++ B1 := by
    rw [hR] at nd
    exact fun z => (List.nodup_append.mp nd).2.2 y z y (by simp) rfl
  have hi : R.idxOf y = (A ++ B1).length := by
    rw [hR, List.idxOf_append, if_neg hy]
    simp
  refine ⟨by rw [hR]; simp, ?_, by simpa using f3⟩
  unfold above
  rw [hi]
  have ht : R.take (A ++ B1).length = A ++ B1 := by
    have h9 : ((A ++ B1) ++ y :: (B2 ++ R.drop (R.idxOf x))).take (A ++ B1).length = A ++ B1 := List.take_left
    rwa [← hR] at h9
  rw [ht, List.filter_append, e2, List.filter_eq_nil_iff.mpr f2]
  simp
abbrev pr (q : Str × Str) : D := .tup [.str q.1, .str q.2]
theorem nm_ok : ∀ x ∈ NM, PyData.strOk x = true := by decide +kernel
theorem rows_nm {hs : List Str} (H : Hd hs) : ∀ x ∈ rows hs, x ∈ NM := fun x hx => by
  rcases List.mem_cons.mp hx with e | h
  · rw [e]; decide
  · exact H.nm x h
theorem rows_nd {hs : List Str} (H : Hd hs) : (rows hs).Nodup := by
  obtain ⟨h1, h2⟩ := List.nodup_cons.mp H.nd
  exact List.nodup_cons.mpr ⟨fun z => h1 (List.mem_cons_of_mem _ z), H.ndh⟩
theorem comp_above (tt : DL.M Bool) (htt : tt = t_judge_draft_1 ∨ tt = t_judge_draft_2) (m due : Int) (tk : Bool) (hs fs : List Str) (H : Hd hs) (x : Str) (hx : x ∈ rows hs) (a4 a5 : Option W) :
    mComp [6] (mItLT (mCall F_asked_back (mACons (mVar 0) (mACons (mVar 1) (mACons (mVar 3) mANil))))) (mTN 6) tt (mVar 6) [some (.val (dr m due tk)), some (.val (.lst (hs.map D.str))), some (.val (.lst (fs.map D.str))), some (.val (.str x)), a4, a5, none] =
      .ok ((above (rows hs) fs x).map D.str) [some (.val (dr m due tk)), some (.val (.lst (hs.map D.str))), some (.val (.lst (fs.map D.str))), some (.val (.str x)), a4, a5, none] := by
  have tt0 : ∀ ρ, tt ρ = mTest (m2 dNotIn (mVar 6) (mVar 2)) ρ := fun ρ => by rcases htt with e | e <;> rw [e] <;> rfl
  have h1 := asked m due tk hs H x hx
  have h2 : ((rows hs).take ((rows hs).idxOf x)).reverse.length ≤ sizeLine := line11 (by
    have := H.few
    simp only [List.length_reverse, List.length_take, rows, List.length_cons]
    omega)
  have h3 := lcs_enc (f := lcIt [6] (mTN 6) tt (mVar 6)) (ρ := [some (.val (dr m due tk)), some (.val (.lst (hs.map D.str))), some (.val (.lst (fs.map D.str))), some (.val (.str x)), a4, a5, none]) D.str D.str (fun a => if a ∈ fs then none else some a) ((rows hs).take ((rows hs).idxOf x)).reverse (fun a ha => by
    by_cases h : a ∈ fs
    · simp [lcIt, tt0, wipeE, restore, mTN, h]
    · simp [lcIt, tt0, wipeE, restore, mTN, h])
  have h4 : ∀ l : List Str, l.filterMap (fun a => if a ∈ fs then none else some a) = l.filter fun a => !decide (a ∈ fs) := by
    intro l
    induction l with
    | nil => rfl
    | cons a l ih => by_cases h : a ∈ fs <;> simp [h, ih]
  rw [h4] at h3
  have h5 : (above (rows hs) fs x) = (((rows hs).take ((rows hs).idxOf x)).reverse.filter fun a => !decide (a ∈ fs)) := by
    unfold above
    rw [List.filter_reverse]
  rw [h5]
  generalize hg : ((rows hs).take ((rows hs).idxOf x)).reverse = R at h1 h2 h3
  simp [toWs, h1, D.seq, h2, notOwn, h3]
theorem ne_nil (l : List Str) (h : ∀ x ∈ l, x ∈ NM) : dNe (.lst (l.map D.str)) (.lst []) = some (.bl (!decide (l = []))) := by
  have := eq_lst eStr (l := l) (r := []) (fun a ha => nm_ok a (h a ha)) (fun a ha => by cases ha) (by decide)
  unfold dNe
  rw [show (D.lst (l.map D.str)) = .lst (l.map eStr.d) from rfl, show (D.lst []) = .lst (([] : List Str).map eStr.d) from rfl, this]
  rfl
theorem above_nm {R fs : List Str} {x : Str} (h : ∀ x ∈ R, x ∈ NM) : ∀ y ∈ above R fs x, y ∈ NM := fun y hy => by
  unfold above at hy
  simp only [List.mem_reverse, List.mem_filter] at hy
  exact h y (List.mem_of_mem_take hy.1)
theorem jloop (m due : Int) (tk : Bool) (hs fs : List Str) (H : Hd hs) : ∀ (L : List Str) (x : Str) (w : List (Str × Str)) (n : Nat) (a5 : Option D), x ∈ rows hs → above (rows hs) fs x = L → L.length < n → w.length + L.length ≤ 40 →
    ∃ a5' : Option D, whileGo w_judge_draft_1 b_judge_draft_1 n [some (.val (dr m due tk)), some (.val (.lst (hs.map D.str))), some (.val (.lst (fs.map D.str))), some (.val (.str x)), some (.own (.lst (w.map pr))), a5.map .val, none] =
      .ok .nx [some (.val (dr m due tk)), some (.val (.lst (hs.map D.str))), some (.val (.lst (fs.map D.str))), some (.val (.str (up x L).2)), some (.own (.lst ((w ++ (up x L).1).map pr))), a5'.map .val, none]
  | L, x, w, 0, a5, hx, hL, hn, hw => absurd hn (Nat.not_lt_zero _)
  | [], x, w, n + 1, a5, hx, hL, hn, hw => by
    have h1 := comp_above t_judge_draft_1 (.inl rfl) m due tk hs fs H x hx (some (.own (.lst (w.map pr)))) (a5.map .val)
    rw [hL] at h1
    have h2 : dNe (.lst []) (.lst []) = some (.bl false) := rfl
    refine ⟨a5, ?_⟩
    unfold whileGo w_judge_draft_1
    simp only [List.map_nil] at h1
    simp only [ev_mTest, ev_m2, ev_mLcD, h1, bindR_ok, ev_mLst, ev_mNil]
    simp [h2, up]
  | y :: L, x, w, n + 1, a5, hx, hL, hn, hw => by
    have h1 := comp_above t_judge_draft_1 (.inl rfl) m due tk hs fs H x hx (some (.own (.lst (w.map pr)))) (a5.map .val)
    have h1' := comp_above t_judge_draft_2 (.inr rfl) m due tk hs fs H x hx (some (.own (.lst (w.map pr)))) (a5.map .val)
    rw [hL] at h1 h1'
    obtain ⟨hy, hL', _⟩ := above_next (rows_nd H) hL
    obtain ⟨a5', ih⟩ := jloop m due tk hs fs H L y (w ++ [(y, x)]) n (some (.str y)) hy hL' (by simpa using hn) (by simp at hw ⊢; omega)
    have h2 := ne_nil (y :: L) (by rw [← hL]; exact above_nm (rows_nm H))
    have h3 : dIx (.lst ((y :: L).map D.str)) (.int 0) = some (.str y) := by
      have : (0 : Int) < (L.length : Int) + 1 := by omega
      simp [dIx, D.seq, L2.atI, L2.ixN, this]
    have h4 : w.length < sizeLine := Nat.lt_of_lt_of_le (show w.length < 50 by simp at hw; omega) (by decide)
    have h5 : (2 : Nat) ≤ sizeLine := by decide
    refine ⟨a5', ?_⟩
    unfold whileGo
    have ht : w_judge_draft_1 [some (.val (dr m due tk)), some (.val (.lst (hs.map D.str))), some (.val (.lst (fs.map D.str))), some (.val (.str x)), some (.own (.lst (w.map pr))), a5.map .val, none] = .ok true [some (.val (dr m due tk)), some (.val (.lst (hs.map D.str))), some (.val (.lst (fs.map D.str))), some (.val (.str x)), some (.own (.lst (w.map pr))), a5.map .val, none] := by
      unfold w_judge_draft_1
      simp only [ev_mTest, ev_m2, ev_mLcD, h1, bindR_ok, ev_mLst, ev_mNil]
      simp only [List.map_cons] at h2 ⊢
      simp [h2]
    rw [ht]
    have hb : b_judge_draft_1 [some (.val (dr m due tk)), some (.val (.lst (hs.map D.str))), some (.val (.lst (fs.map D.str))), some (.val (.str x)), some (.own (.lst (w.map pr))), a5.map .val, none] = .ok .nx [some (.val (dr m due tk)), some (.val (.lst (hs.map D.str))), some (.val (.lst (fs.map D.str))), some (.val (.str y)), some (.own (.lst ((w ++ [(y, x)]).map pr))), some (.val (.str y)), none] := by
      unfold b_judge_draft_1
      simp only [ev_mSeq, ev_mSet, ev_m2, ev_mLcD, h1', bindR_ok, ev_mC, h3, liftO_some, seqR_nx]
      simp [holds, cApp, h4, h5, W.put]
    simp only [bindR_ok, if_true, hb]
    simp only [Option.map_some] at ih
    rw [ih]
    simp [up]
def pays (tk : Bool) (fs : List Str) : Bool := tk && !decide (("paul" : Str) ∈ fs)
def jres (tk : Bool) (hs fs : List Str) : D := if pays tk fs = true then .ob 1 [.str (lastR hs)] else .ob 2 [.str (up (lastR hs) (above (rows hs) fs (lastR hs))).2, .tup ((up (lastR hs) (above (rows hs) fs (lastR hs))).1.map pr)]
theorem up_len (x : Str) : ∀ L : List Str, (up x L).1.length = L.length := by
  intro L
  induction L generalizing x with
  | nil => rfl
  | cons y L ih => simp [up, ih]
theorem above_len (R fs : List Str) (x : Str) : (above R fs x).length ≤ R.length := by
  unfold above
  rw [List.length_reverse]
  exact Nat.le_trans (List.length_filter_le _ _) (by simp; omega)
theorem judge (m due : Int) (tk : Bool) (hs fs : List Str) (H : Hd hs) (hf : ∀ x ∈ fs, x ∈ NM) (hl : fs.length ≤ 40) : F_judge_draft [.val (dr m due tk), .val (.lst (hs.map D.str)), .val (.lst (fs.map D.str))] = .ok (jres tk hs fs) [] := by
  have h0 := ckpassed m due tk hs fs H hf hl
  have h1 := holder m due tk hs H
  have hx : lastR hs ∈ rows hs := List.getLast_mem _
  have hL := above_len (rows hs) fs (lastR hs)
  have hrl : (rows hs).length ≤ 12 := by have := H.few; simp only [rows, List.length_cons]; omega
  obtain ⟨a5, h2⟩ := jloop m due tk hs fs H (above (rows hs) fs (lastR hs)) (lastR hs) [] 20 none hx rfl (by omega) (by simp; omega)
  simp only [List.map_nil, Option.map_none, List.nil_append] at h2
  have h3 := nin_strs "paul" fs
  cases tk with
  | true =>
    by_cases hp : ("paul" : Str) ∈ fs
    · simp [F_judge_draft, m_judge_draft, ev_runF, startE, toWs, h0, h1, oLst, dFld, List.lookup, dTru, h3, hp, h2, jres, pays, F_Bears_init, m_Bears_init, F_is_row, m_is_row, isTys, D.ty, Ty.sub, fTup, holds, cFld, W.put, finE, outsE, Ct.toD]
    · simp [F_judge_draft, m_judge_draft, ev_runF, startE, toWs, h0, h1, oLst, dFld, List.lookup, dTru, h3, hp, jres, pays, F_Paid_init, m_Paid_init, holds, cFld, W.put, finE, outsE]
  | false =>
    simp [F_judge_draft, m_judge_draft, ev_runF, startE, toWs, h0, h1, oLst, dFld, List.lookup, dTru, h2, jres, pays, F_Bears_init, m_Bears_init, F_is_row, m_is_row, isTys, D.ty, Ty.sub, fTup, holds, cFld, W.put, finE, outsE, Ct.toD]
/-- who holds or bears -/
def hnd (tk : Bool) (hs fs : List Str) : Str := if pays tk fs = true then lastR hs else (up (lastR hs) (above (rows hs) fs (lastR hs))).2
theorem fld_hand (tk : Bool) (hs fs : List Str) : dFld [(1, 0), (2, 0)] (jres tk hs fs) = some (.str (hnd tk hs fs)) := by
  unfold jres hnd
  split <;> rfl
theorem fld_way (tk : Bool) (hs fs : List Str) (h : pays tk fs = false) : dFld [(2, 1)] (jres tk hs fs) = some (.tup ((up (lastR hs) (above (rows hs) fs (lastR hs))).1.map pr)) := by
  unfold jres
  rw [h]
  rfl
theorem tru_j (tk : Bool) (hs fs : List Str) : obTru bs (jres tk hs fs) = some (pays tk fs) := by
  unfold jres
  cases h : pays tk fs <;> rfl
theorem bool_j (tk : Bool) (hs fs : List Str) : fBoolO bs [jres tk hs fs] = some (.bl (pays tk fs)) := by
  have := tru_j tk hs fs
  unfold jres at this ⊢
  cases h : pays tk fs <;> simp [fBoolO, h] at this ⊢ <;> rw [this]
/-- what is lost -/
def lostD (m : Int) (tk : Bool) (hs fs : List Str) : D := if pays tk fs = true then .dct [] [] else .dct [.inr (hnd tk hs fs)] [.int m]
theorem losses (m due : Int) (tk : Bool) (hs fs : List Str) (H : Hd hs) (hf : ∀ x ∈ fs, x ∈ NM) (hl : fs.length ≤ 40) : F_losses [.val (dr m due tk), .val (.lst (hs.map D.str)), .val (.lst (fs.map D.str))] = .ok (lostD m tk hs fs) [] := by
  have h0 := judge m due tk hs fs H hf hl
  have h1 := tru_j tk hs fs
  have h2 := fld_hand tk hs fs
  have h3 : dFld [(0, 0), (3, 0)] (dr m due tk) = some (.int m) := rfl
  unfold lostD
  cases h : pays tk fs with
  | true => simp [F_losses, m_losses, ev_runF, startE, toWs, h0, h1, h, finE, outsE]
  | false => simp [F_losses, m_losses, ev_runF, startE, toWs, h0, h1, h, h2, h3, mergeD, putD, D.key, hasK, finE, outsE]
def safeL (tk : Bool) (hs fs : List Str) : List Str := (rows hs).filter fun a => pays tk fs || !decide (a = hnd tk hs fs)
theorem nin_lost (m : Int) (tk : Bool) (hs fs : List Str) (x : Str) : dNotIn (.str x) (lostD m tk hs fs) = some (.bl (pays tk fs || !decide (x = hnd tk hs fs))) := by
  unfold lostD
  cases h : pays tk fs with
  | true => rfl
  | false =>
    by_cases e : x = hnd tk hs fs
    · simp [dNotIn, inB, D.key, hasK, e]
    · have e2 : ¬ hnd tk hs fs = x := fun z => e z.symm
      simp [dNotIn, inB, D.key, hasK, e, e2]
theorem filterMap_if (p : Str → Bool) (l : List Str) : l.filterMap (fun a => if p a = true then some a else none) = l.filter p := by
  induction l with
  | nil => rfl
  | cons a l ih => cases h : p a <;> simp [h, ih]
theorem safe (m due : Int) (tk : Bool) (hs fs : List Str) (H : Hd hs) (hf : ∀ x ∈ fs, x ∈ NM) (hl : fs.length ≤ 40) : F_safe_hands [.val (dr m due tk), .val (.lst (hs.map D.str)), .val (.lst (fs.map D.str))] = .ok (.tup ((safeL tk hs fs).map D.str)) [] := by
  have h0 := losses m due tk hs fs H hf hl
  have h4 : hs.length + 1 ≤ sizeLine := line11 (by have := H.few; omega)
  have h3 := lcs_enc (f := lcIt [4] (mTN 4) t_safe_hands_1 (mVar 4)) (ρ := [some (.val (dr m due tk)), some (.val (.lst (hs.map D.str))), some (.val (.lst (fs.map D.str))), some (.val (lostD m tk hs fs)), none]) D.str D.str (fun a => if (pays tk fs || !decide (a = hnd tk hs fs)) = true then some a else none) (rows hs) (fun a ha => by
    have h5 := nin_lost m tk hs fs a
    cases h : (pays tk fs || !decide (a = hnd tk hs fs))
    · rw [h] at h5
      simp [lcIt, t_safe_hands_1, wipeE, restore, mTN, h5]
    · rw [h] at h5
      simp [lcIt, t_safe_hands_1, wipeE, restore, mTN, h5])
  rw [filterMap_if] at h3
  simp only [rows, List.map_cons] at h3
  simp [F_safe_hands, m_safe_hands, ev_runF, startE, toWs, h0, dFld, List.lookup, D.seq, h4, notOwn, h3, fTup, finE, outsE, safeL]
end T37.D1
set_option Elab.async false
set_option linter.all false
set_option maxRecDepth 100000
set_option maxHeartbeats 1000000
namespace T37.D2
open PySem PySem.Spec PyProof.Rows L2 DL
def NM : List Str := ["ann", "bob", "cy", "dora", "paul", "eve", "pia"]
theorem isnm : ∀ x ∈ NM, F_is_name [.val (.str x)] = .ok (.bl true) [] := by
  intro x hx
  simp only [NM, List.mem_cons, List.not_mem_nil, or_false] at hx
  rcases hx with rfl | rfl | rfl | rfl | rfl | rfl | rfl <;> rfl
theorem ckname (p : D) (x : Str) (hx : x ∈ NM) : F_check_name [.val p, .val (.str x)] = .ok .non [] := by
  simp [F_check_name, m_check_name, ev_runF, startE, toWs, isnm x hx, dTru, finE, outsE]
theorem cknum (p : D) (x lo hi : Int) (h1 : lo ≤ x) (h2 : x ≤ hi) : F_check_number [.val p, .val (.int x), .val (.int lo), .val (.int hi)] = .ok .non [] := by
  simp [F_check_number, m_check_number, F_is_number, m_is_number, F_is_integer, m_is_integer, ev_runF, startE, toWs, dTru, finE, outsE, isTy, D.ty, Ty.sub, dLe, h1, h2]
abbrev dr (m due : Int) (tk : Bool) : D := .ob 0 [.int m, .str "eve", .str "pia", .int due, .bl tk]
theorem newdr (m due : Int) (tk : Bool) (h1 : 1 ≤ m) (h2 : m ≤ 9999) (h3 : 0 ≤ due) (h4 : due ≤ 999) : F_Draft_init [.inn (.ob 0 []), .val (.int m), .val (.str "eve"), .val (.str "pia"), .val (.int due), .val (.bl tk)] = .ok .non [.ob 0 [.int m, .str "eve", .str "pia", .int due, .bl tk]] := by
  have a1 := ckname (.str "drawer") "eve" (by decide)
  have a2 := ckname (.str "payer") "pia" (by decide)
  have a3 := cknum (.str "money") m 1 9999 h1 h2
  have a4 := cknum (.str "due") due 0 999 h3 h4
  have a5 : ¬ (("eve" : Str) = "pia") := by decide
  simp [a5, F_Draft_init, m_Draft_init, ev_runF, startE, toWs, a1, a2, a3, a4, dEq, isTy, D.ty, Ty.sub, dTru, finE, outsE, holds, cFld, W.put]
/-- hands that may pass a draft -/
structure Hd (hs : List Str) : Prop where
  nm : ∀ x ∈ hs, x ∈ NM
  nd : (("eve" : Str) :: ("pia" : Str) :: hs).Nodup
  few : hs.length ≤ 11
theorem Hd.nod {hs : List Str} (h : Hd hs) {x : Str} (hx : x ∈ hs) : ¬ x = "eve" ∧ ¬ x = "pia" := by
  obtain ⟨h1, h2⟩ := List.nodup_cons.mp h.nd
  obtain ⟨h3, h4⟩ := List.nodup_cons.mp h2
  exact ⟨fun e => h1 (by rw [← e]; simp [hx]), fun e => h3 (by rw [← e]; exact hx)⟩
theorem Hd.ndh {hs : List Str} (h : Hd hs) : hs.Nodup := (List.nodup_cons.mp (List.nodup_cons.mp h.nd).2).2
theorem sIx0 (n : Nat) : HT.sIx n 0 none = 0 := rfl
theorem sIxN (n : Nat) : HT.sIx n n none = n := rfl
theorem cut_to (hs : List Str) (k : Nat) : cutD (hs.map D.str) none (some (k : Int)) = (hs.take k).map D.str := by
  rw [cutD_map, HT.sIx_nat]
  simp [sIx0, List.take_eq_take_iff]
theorem two_in (x : Str) (h1 : ¬ x = "eve") (h2 : ¬ x = "pia") : dIn (.str x) (.tup [.str "eve", .str "pia"]) = some (.bl false) := by
  have := in_strsT x ["eve", "pia"]
  simp only [List.map_cons, List.map_nil] at this
  rw [this]
  simp [h1, h2]
theorem line11 {n : Nat} (h : n ≤ 40) : n ≤ sizeLine := Nat.le_trans h (by decide)
theorem cploop (m due : Int) (tk : Bool) (f : D) (hs : List Str) (H : Hd hs) : ∀ (suf pre : List Str), hs = pre ++ suf → ∀ a b : Option D, ∃ a' b' : Option D, forGo (mTT (mTCons (mTN 3) (mTCons (mTN 4) mTNil))) b_check_passed_1 ((suf.zipIdx pre.length).map fun q => .tup [.int (q.2 : Nat), D.str q.1]) [some (.val (dr m due tk)), some (.val (.lst (hs.map D.str))), some (.val f), a.map .val, b.map .val] = .ok .nx [some (.val (dr m due tk)), some (.val (.lst (hs.map D.str))), some (.val f), a'.map .val, b'.map .val]
  | [], pre, e, a, b => ⟨a, b, rfl⟩
  | x :: suf, pre, e, a, b => by
    obtain ⟨a', b', ih⟩ := cploop m due tk f hs H suf (pre ++ [x]) (by simp [e]) (some (.int (pre.length : Nat))) (some (.str x))
    have hx : x ∈ hs := by simp [e]
    obtain ⟨h1, h2⟩ := H.nod hx
    have h3 : x ∉ pre := by
      have := H.ndh
      rw [e] at this
      exact fun z => (List.nodup_append.mp this).2.2 x z x (by simp) rfl
    have h4 : hs.take pre.length = pre := by simp [e]
    have h5 := isnm x (H.nm x hx)
    have h6 : (2 : Nat) ≤ sizeLine := by decide
    refine ⟨a', b', ?_⟩
    rw [show (pre ++ [x]).length = pre.length + 1 by simp] at ih
    simp only [Option.map_some] at ih
    simp [forGo, b_check_passed_1, toWs, h5, dTru, dFld, List.lookup, two_in x h1 h2, fLst, dCut, cut_to, h4, h3, h6, ih]
theorem ckpassed (m due : Int) (tk : Bool) (hs fs : List Str) (H : Hd hs) (hf : ∀ x ∈ fs, x ∈ NM) (hl : fs.length ≤ 40) : F_check_passed [.val (dr m due tk), .val (.lst (hs.map D.str)), .val (.lst (fs.map D.str))] = .ok .non [] := by
  obtain ⟨a', b', h⟩ := cploop m due tk (.lst (fs.map D.str)) hs H hs [] rfl none none
  have h2 : lcs (lcIt [4] (mTN 4) mTrue e_check_passed_1) (fs.map D.str) [some (.val (dr m due tk)), some (.val (.lst (hs.map D.str))), some (.val (.lst (fs.map D.str))), a'.map .val, b'.map .val] = .ok (List.replicate fs.length (D.bl true)) [some (.val (dr m due tk)), some (.val (.lst (hs.map D.str))), some (.val (.lst (fs.map D.str))), a'.map .val, b'.map .val] := by
    refine lcs_tru D.str fs fun x hx => ?_
    simp [lcIt, e_check_passed_1, wipeE, restore, mTN, mTrue, toWs, isnm x (hf x hx)]
  have e1 := enumD_map D.str hs 0
  simp at h
  simp [F_check_passed, m_check_passed, ev_runF, startE, isCl, dTru, toWs, F_is_row, m_is_row, isTys, D.ty, Ty.sub, finE, outsE, D.lis, D.seq, e1, h, notOwn_eq, line11 hl, h2, all_rep]
theorem hd_nil : ∀ x ∈ ([] : List Str), x ∈ NM := fun x h => by cases h
theorem ckp0 (m due : Int) (tk : Bool) (hs : List Str) (H : Hd hs) : F_check_passed [.val (dr m due tk), .val (.lst (hs.map D.str)), .val (.lst [])] = .ok .non [] :=
  ckpassed m due tk hs [] H hd_nil (by decide)
/-- the rows: the drawer, the hands -/
abbrev rows (hs : List Str) : List Str := ("eve" : Str) :: hs
abbrev lastR (hs : List Str) : Str := (rows hs).getLast (by simp)
theorem atI_neg1 (hs : List Str) (h : hs ≠ []) : L2.atI hs (-1) = some (hs.getLast h) := by
  have e := L2.atI_last hs.dropLast (hs.getLast h)
  rwa [List.dropLast_concat_getLast h] at e
theorem holder (m due : Int) (tk : Bool) (hs : List Str) (H : Hd hs) : F_holder_of [.val (dr m due tk), .val (.lst (hs.map D.str))] = .ok (.str (lastR hs)) [] := by
  have h0 := ckp0 m due tk hs H
  cases hs with
  | nil =>
    simp only [List.map_nil] at h0 ⊢
    simp [F_holder_of, m_holder_of, ev_runF, startE, toWs, h0, fLen, dGt, dFld, List.lookup, finE, outsE, lastR]
  | cons x r =>
    have h1 := atI_neg1 (x :: r) (by simp)
    have h2 : dIx (.lst (.str x :: r.map D.str)) (.int (-1)) = some (.str (lastR (x :: r))) := by
      show L2.atI ((x :: r).map D.str) (-1) = _
      rw [DL.atI_map, h1]
      simp [lastR]
    have h3 : (0 : Int) < (r.length : Int) + 1 := by omega
    simp only [List.map_cons] at h0 ⊢
    simp [F_holder_of, m_holder_of, ev_runF, startE, toWs, h0, fLen, dGt, fLst, dNeg, h2, h3, finE, outsE]
theorem asked (m due : Int) (tk : Bool) (hs : List Str) (H : Hd hs) (x : Str) (hx : x ∈ rows hs) : F_asked_back [.val (dr m due tk), .val (.lst (hs.map D.str)), .val (.str x)] = .ok (.lst (((rows hs).take ((rows hs).idxOf x)).reverse.map D.str)) [] := by
  have h0 := ckp0 m due tk hs H
  have h1 := index_strs hx
  have h2 := nin_strs x (rows hs)
  have h3 := cut_to (rows hs) ((rows hs).idxOf x)
  have h4 : hs.length + 1 ≤ sizeLine := line11 (by have := H.few; omega)
  simp only [rows, List.map_cons] at h1 h2 h3
  have hx' : x = "eve" ∨ x ∈ hs := by simpa using hx
  simp [F_asked_back, m_asked_back, ev_runF, startE, toWs, h0, dFld, List.lookup, D.seq, h4, h2, hx', h1, D.lis, dCut, h3, dRev, finE, outsE]
/-- the sound ones above x, the nearest first -/
def above (R fs : List Str) (x : Str) : List Str := ((R.take (R.idxOf x)).filter fun a => !decide (a ∈ fs)).reverse
def up : Str → List Str → List (Str × Str) × Str
  | x, [] => ([], x)
  | x, y :: l => ((y, x) :: (up y l).1, (up y l).2)
theorem above_next {R fs L : List Str} {x y : Str} (nd : R.Nodup) (h : above R fs x = y :: L) : y ∈ R ∧ above R fs y = L ∧ y ∉ fs := by
  unfold above at h
  have h1 : (R.take (R.idxOf x)).filter (fun a => !decide (a ∈ fs)) = L.reverse ++ [y] := by
    have := congrArg List.reverse h
    simpa using this
  obtain ⟨A, B, e1, e2, e3⟩ := List.filter_eq_append_iff.mp h1
  obtain ⟨B1, B2, f1, f2, f3, f4⟩ := List.filter_eq_cons_iff.mp e3
  have hR : R = (A ++ B1) ++ y :: (B2 ++ R.drop (R.idxOf x)) := by
    have := (List.take_append_drop (R.idxOf x) R).symm
    rw [e1, f1] at this
    simpa using this
  have hy : y ∉ A ++ B1 := by
    rw [hR] at nd
    exact fun z => (List.nodup_append.mp nd).2.2 y z y (by simp) rfl
  have hi : R.idxOf y = (A ++ B1).length := by
    rw [hR, List.idxOf_append, if_neg hy]
    simp
  refine ⟨by rw [hR]; simp, ?_, by simpa using f3⟩
  unfold above
  rw [hi]
  have ht : R.take (A ++ B1).length = A ++ B1 := by
    have h9 : ((A ++ B1) ++ y :: (B2 ++ R.drop (R.idxOf x))).take (A ++ B1).length = A ++ B1 := List.take_left
    rwa [← hR] at h9
  rw [ht, List.filter_append, e2, List.filter_eq_nil_iff.mpr f2]
  simp
abbrev pr (q : Str × Str) : D := .tup [.str q.1, .str q.2]
theorem nm_ok : ∀ x ∈ NM, PyData.strOk x = true := by decide +kernel
theorem rows_nm {hs : List Str} (H : Hd hs) : ∀ x ∈ rows hs, x ∈ NM := fun x hx => by
  rcases List.mem_cons.mp hx with e | h
  · rw [e]; decide
  · exact H.nm x h
theorem rows_nd {hs : List Str} (H : Hd hs) : (rows hs).Nodup := by
  obtain ⟨h1, h2⟩ := List.nodup_cons.mp H.nd
  exact List.nodup_cons.mpr ⟨fun z => h1 (List.mem_cons_of_mem _ z), H.ndh⟩
theorem comp_above (tt : DL.M Bool) (htt : tt = t_judge_draft_1 ∨ tt = t_judge_draft_2) (m due : Int) (tk : Bool) (hs fs : List Str) (H : Hd hs) (x : Str) (hx : x ∈ rows hs) (a4 a5 : Option W) :
    mComp [6] (mItLT (mCall F_asked_back (mACons (mVar 0) (mACons (mVar 1) (mACons (mVar 3) mANil))))) (mTN 6) tt (mVar 6) [some (.val (dr m due tk)), some (.val (.lst (hs.map D.str))), some (.val (.lst (fs.map D.str))), some (.val (.str x)), a4, a5, none] =
      .ok ((above (rows hs) fs x).map D.str) [some (.val (dr m due tk)), some (.val (.lst (hs.map D.str))), some (.val (.lst (fs.map D.str))), some (.val (.str x)), a4, a5, none] := by
  have tt0 : ∀ ρ, tt ρ = mTest (m2 dNotIn (mVar 6) (mVar 2)) ρ := fun ρ => by rcases htt with e | e <;> rw [e] <;> rfl
  have h1 := asked m due tk hs H x hx
  have h2 : ((rows hs).take ((rows hs).idxOf x)).reverse.length ≤ sizeLine := line11 (by
    have := H.few
    simp only [List.length_reverse, List.length_take, rows, List.length_cons]
    omega)
  have h3 := lcs_enc (f := lcIt [6] (mTN 6) tt (mVar 6)) (ρ := [some (.val (dr m due tk)), some (.val (.lst (hs.map D.str))), some (.val (.lst (fs.map D.str))), some (.val (.str x)), a4, a5, none]) D.str D.str (fun a => if a ∈ fs then none else some a) ((rows hs).take ((rows hs).idxOf x)).reverse (fun a ha => by
    by_cases h : a ∈ fs
    · simp [lcIt, tt0, wipeE, restore, mTN, h]
    · simp [lcIt, tt0, wipeE, restore, mTN, h])
  have h4 : ∀ l : List Str, l.filterMap (fun a => if a ∈ fs then none else some a) = l.filter fun a => !decide (a ∈ fs) := by
    intro l
    induction l with
    | nil => rfl
    | cons a l ih => by_cases h : a ∈ fs <;> simp [h, ih]
  rw [h4] at h3
  have h5 : (above (rows hs) fs x) = (((rows hs).take ((rows hs).idxOf x)).reverse.filter fun a => !decide (a ∈ fs)) := by
    unfold above
    rw [List.filter_reverse]
  rw [h5]
  generalize hg : ((rows hs).take ((rows hs).idxOf x)).reverse = R at h1 h2 h3
  simp [toWs, h1, D.seq, h2, notOwn, h3]
theorem ne_nil (l : List Str) (h : ∀ x ∈ l, x ∈ NM) : dNe (.lst (l.map D.str)) (.lst []) = some (.bl (!decide (l = []))) := by
  have := eq_lst eStr (l := l) (r := []) (fun a ha => nm_ok a (h a ha)) (fun a ha => by cases ha) (by decide)
  unfold dNe
  rw [show (D.lst (l.map D.str)) = .lst (l.map eStr.d) from rfl, show (D.lst []) = .lst (([] : List Str).map eStr.d) from rfl, this]
  rfl
theorem above_nm {R fs : List Str} {x : Str} (h : ∀ x ∈ R, x ∈ NM) : ∀ y ∈ above R fs x, y ∈ NM := fun y hy => by
  unfold above at hy
  simp only [List.mem_reverse, List.mem_filter] at hy
  exact h y (List.mem_of_mem_take hy.1)
theorem jloop (m due : Int) (tk : Bool) (hs fs : List Str) (H : Hd hs) : ∀ (L : List Str) (x : Str) (w : List (Str × Str)) (n : Nat) (a5 : Option D), x ∈ rows hs → above (rows hs) fs x = L → L.length < n → w.length + L.length ≤ 40 →
    ∃ a5' : Option D, whileGo w_judge_draft_1 b_judge_draft_1 n [some (.val (dr m due tk)), some (.val (.lst (hs.map D.str))), some (.val (.lst (fs.map D.str))), some (.val (.str x)), some (.own (.lst (w.map pr))), a5.map .val, none] =
      .ok .nx [some (.val (dr m due tk)), some (.val (.lst (hs.map D.str))), some (.val (.lst (fs.map D.str))), some (.val (.str (up x L).2)), some (.own (.lst ((w ++ (up x L).1).map pr))), a5'.map .val, none]
  | L, x, w, 0, a5, hx, hL, hn, hw => absurd hn (Nat.not_lt_zero _)
  | [], x, w, n + 1, a5, hx, hL, hn, hw => by
    have h1 := comp_above t_judge_draft_1 (.inl rfl) m due tk hs fs H x hx (some (.own (.lst (w.map pr)))) (a5.map .val)
    rw [hL] at h1
    have h2 : dNe (.lst []) (.lst []) = some (.bl false) := rfl
    refine ⟨a5, ?_⟩
    unfold whileGo w_judge_draft_1
    simp only [List.map_nil] at h1
    simp only [ev_mTest, ev_m2, ev_mLcD, h1, bindR_ok, ev_mLst, ev_mNil]
    simp [h2, up]
  | y :: L, x, w, n + 1, a5, hx, hL, hn, hw => by
    have h1 := comp_above t_judge_draft_1 (.inl rfl) m due tk hs fs H x hx (some (.own (.lst (w.map pr)))) (a5.map .val)
    have h1' := comp_above t_judge_draft_2 (.inr rfl) m due tk hs fs H x hx (some (.own (.lst (w.map pr)))) (a5.map .val)
    rw [hL] at h1 h1'
    obtain ⟨hy, hL', _⟩ := above_next (rows_nd H) hL
    obtain ⟨a5', ih⟩ := jloop m due tk hs fs H L y (w ++ [(y, x)]) n (some (.str y)) hy hL' (by simpa using hn) (by simp at hw ⊢; omega)
    have h2 := ne_nil (y :: L) (by rw [← hL]; exact above_nm (rows_nm H))
    have h3 : dIx (.lst ((y :: L).map D.str)) (.int 0) = some (.str y) := by
      have : (0 : Int) < (L.length : Int) + 1 := by omega
      simp [dIx, D.seq, L2.atI, L2.ixN, this]
    have h4 : w.length < sizeLine := Nat.lt_of_lt_of_le (show w.length < 50 by simp at hw; omega) (by decide)
    have h5 : (2 : Nat) ≤ sizeLine := by decide
    refine ⟨a5', ?_⟩
    unfold whileGo
    have ht : w_judge_draft_1 [some (.val (dr m due tk)), some (.val (.lst (hs.map D.str))), some (.val (.lst (fs.map D.str))), some (.val (.str x)), some (.own (.lst (w.map pr))), a5.map .val, none] = .ok true [some (.val (dr m due tk)), some (.val (.lst (hs.map D.str))), some (.val (.lst (fs.map D.str))), some (.val (.str x)), some (.own (.lst (w.map pr))), a5.map .val, none] := by
      unfold w_judge_draft_1
      simp only [ev_mTest, ev_m2, ev_mLcD, h1, bindR_ok, ev_mLst, ev_mNil]
      simp only [List.map_cons] at h2 ⊢
      simp [h2]
    rw [ht]
    have hb : b_judge_draft_1 [some (.val (dr m due tk)), some (.val (.lst (hs.map D.str))), some (.val (.lst (fs.map D.str))), some (.val (.str x)), some (.own (.lst (w.map pr))), a5.map .val, none] = .ok .nx [some (.val (dr m due tk)), some (.val (.lst (hs.map D.str))), some (.val (.lst (fs.map D.str))), some (.val (.str y)), some (.own (.lst ((w ++ [(y, x)]).map pr))), some (.val (.str y)), none] := by
      unfold b_judge_draft_1
      simp only [ev_mSeq, ev_mSet, ev_m2, ev_mLcD, h1', bindR_ok, ev_mC, h3, liftO_some, seqR_nx]
      simp [holds, cApp, h4, h5, W.put]
    simp only [bindR_ok, if_true, hb]
    simp only [Option.map_some] at ih
    rw [ih]
    simp [up]
def pays (tk : Bool) (fs : List Str) : Bool := tk && !decide (("pia" : Str) ∈ fs)
def jres (tk : Bool) (hs fs : List Str) : D := if pays tk fs = true then .ob 1 [.str (lastR hs)] else .ob 2 [.str (up (lastR hs) (above (rows hs) fs (lastR hs))).2, .tup ((up (lastR hs) (above (rows hs) fs (lastR hs))).1.map pr)]
theorem up_len (x : Str) : ∀ L : List Str, (up x L).1.length = L.length := by
  intro L
  induction L generalizing x with
  | nil => rfl
  | cons y L ih => simp [up, ih]
theorem above_len (R fs : List Str) (x : Str) : (above R fs x).length ≤ R.length := by
  unfold above
  rw [List.length_reverse]
  exact Nat.le_trans (List.length_filter_le _ _) (by simp; omega)
theorem judge (m due : Int) (tk : Bool) (hs fs : List Str) (H : Hd hs) (hf : ∀ x ∈ fs, x ∈ NM) (hl : fs.length ≤ 40) : F_judge_draft [.val (dr m due tk), .val (.lst (hs.map D.str)), .val (.lst (fs.map D.str))] = .ok (jres tk hs fs) [] := by
  have h0 := ckpassed m due tk hs fs H hf hl
  have h1 := holder m due tk hs H
  have hx : lastR hs ∈ rows hs := List.getLast_mem _
  have hL := above_len (rows hs) fs (lastR hs)
  have hrl : (rows hs).length ≤ 12 := by have := H.few; simp only [rows, List.length_cons]; omega
  obtain ⟨a5, h2⟩ := jloop m due tk hs fs H (above (rows hs) fs (lastR hs)) (lastR hs) [] 20 none hx rfl (by omega) (by simp; omega)
  simp only [List.map_nil, Option.map_none, List.nil_append] at h2
  have h3 := nin_strs "pia" fs
  cases tk with
  | true =>
    by_cases hp : ("pia" : Str) ∈ fs
    · simp [F_judge_draft, m_judge_draft, ev_runF, startE, toWs, h0, h1, oLst, dFld, List.lookup, dTru, h3, hp, h2, jres, pays, F_Bears_init, m_Bears_init, F_is_row, m_is_row, isTys, D.ty, Ty.sub, fTup, holds, cFld, W.put, finE, outsE, Ct.toD]
    · simp [F_judge_draft, m_judge_draft, ev_runF, startE, toWs, h0, h1, oLst, dFld, List.lookup, dTru, h3, hp, jres, pays, F_Paid_init, m_Paid_init, holds, cFld, W.put, finE, outsE]
  | false =>
    simp [F_judge_draft, m_judge_draft, ev_runF, startE, toWs, h0, h1, oLst, dFld, List.lookup, dTru, h2, jres, pays, F_Bears_init, m_Bears_init, F_is_row, m_is_row, isTys, D.ty, Ty.sub, fTup, holds, cFld, W.put, finE, outsE, Ct.toD]
/-- who holds or bears -/
def hnd (tk : Bool) (hs fs : List Str) : Str := if pays tk fs = true then lastR hs else (up (lastR hs) (above (rows hs) fs (lastR hs))).2
theorem fld_hand (tk : Bool) (hs fs : List Str) : dFld [(1, 0), (2, 0)] (jres tk hs fs) = some (.str (hnd tk hs fs)) := by
  unfold jres hnd
  split <;> rfl
theorem fld_way (tk : Bool) (hs fs : List Str) (h : pays tk fs = false) : dFld [(2, 1)] (jres tk hs fs) = some (.tup ((up (lastR hs) (above (rows hs) fs (lastR hs))).1.map pr)) := by
  unfold jres
  rw [h]
  rfl
theorem tru_j (tk : Bool) (hs fs : List Str) : obTru bs (jres tk hs fs) = some (pays tk fs) := by
  unfold jres
  cases h : pays tk fs <;> rfl
theorem bool_j (tk : Bool) (hs fs : List Str) : fBoolO bs [jres tk hs fs] = some (.bl (pays tk fs)) := by
  have := tru_j tk hs fs
  unfold jres at this ⊢
  cases h : pays tk fs <;> simp [fBoolO, h] at this ⊢ <;> rw [this]
/-- what is lost -/
def lostD (m : Int) (tk : Bool) (hs fs : List Str) : D := if pays tk fs = true then .dct [] [] else .dct [.inr (hnd tk hs fs)] [.int m]
theorem losses (m due : Int) (tk : Bool) (hs fs : List Str) (H : Hd hs) (hf : ∀ x ∈ fs, x ∈ NM) (hl : fs.length ≤ 40) : F_losses [.val (dr m due tk), .val (.lst (hs.map D.str)), .val (.lst (fs.map D.str))] = .ok (lostD m tk hs fs) [] := by
  have h0 := judge m due tk hs fs H hf hl
  have h1 := tru_j tk hs fs
  have h2 := fld_hand tk hs fs
  have h3 : dFld [(0, 0), (3, 0)] (dr m due tk) = some (.int m) := rfl
  unfold lostD
  cases h : pays tk fs with
  | true => simp [F_losses, m_losses, ev_runF, startE, toWs, h0, h1, h, finE, outsE]
  | false => simp [F_losses, m_losses, ev_runF, startE, toWs, h0, h1, h, h2, h3, mergeD, putD, D.key, hasK, finE, outsE]
def safeL (tk : Bool) (hs fs : List Str) : List Str := (rows hs).filter fun a => pays tk fs || !decide (a = hnd tk hs fs)
theorem nin_lost (m : Int) (tk : Bool) (hs fs : List Str) (x : Str) : dNotIn (.str x) (lostD m tk hs fs) = some (.bl (pays tk fs || !decide (x = hnd tk hs fs))) := by
  unfold lostD
  cases h : pays tk fs with
  | true => rfl
  | false =>
    by_cases e : x = hnd tk hs fs
    · simp [dNotIn, inB, D.key, hasK, e]
    · have e2 : ¬ hnd tk hs fs = x := fun z => e z.symm
      simp [dNotIn, inB, D.key, hasK, e, e2]
theorem filterMap_if (p : Str → Bool) (l : List Str) : l.filterMap (fun a => if p a = true then some a else none) = l.filter p := by
  induction l with
  | nil => rfl
  | cons a l ih => cases h : p a <;> simp [h, ih]
theorem safe (m due : Int) (tk : Bool) (hs fs : List Str) (H : Hd hs) (hf : ∀ x ∈ fs, x ∈ NM) (hl : fs.length ≤ 40) : F_safe_hands [.val (dr m due tk), .val (.lst (hs.map D.str)), .val (.lst (fs.map D.str))] = .ok (.tup ((safeL tk hs fs).map D.str)) [] := by
  have h0 := losses m due tk hs fs H hf hl
  have h4 : hs.length + 1 ≤ sizeLine := line11 (by have := H.few; omega)
  have h3 := lcs_enc (f := lcIt [4] (mTN 4) t_safe_hands_1 (mVar 4)) (ρ := [some (.val (dr m due tk)), some (.val (.lst (hs.map D.str))), some (.val (.lst (fs.map D.str))), some (.val (lostD m tk hs fs)), none]) D.str D.str (fun a => if (pays tk fs || !decide (a = hnd tk hs fs)) = true then some a else none) (rows hs) (fun a ha => by
    have h5 := nin_lost m tk hs fs a
    cases h : (pays tk fs || !decide (a = hnd tk hs fs))
    · rw [h] at h5
      simp [lcIt, t_safe_hands_1, wipeE, restore, mTN, h5]
    · rw [h] at h5
      simp [lcIt, t_safe_hands_1, wipeE, restore, mTN, h5])
  rw [filterMap_if] at h3
  simp only [rows, List.map_cons] at h3
  simp [F_safe_hands, m_safe_hands, ev_runF, startE, toWs, h0, dFld, List.lookup, D.seq, h4, notOwn, h3, fTup, finE, outsE, safeL]
end T37.D2
set_option Elab.async false
set_option linter.all false
set_option maxRecDepth 100000
set_option maxHeartbeats 1000000
namespace T37
open PySem PySem.Spec PyProof.Rows L2 DL
def PN : List Str := ["storm", "fire", "theft"]
structure PsOk (ps : List Str) : Prop where
  nm : ∀ p ∈ ps, p ∈ PN
  ne : ps ≠ []
  nd : ps.Nodup
  few : ps.length ≤ 3
abbrev strD (l : List Str) : List D := l.map D.str
abbrev covD (c : Cov.C Str) : D := .ob 3 [.int c.m, .int c.v, .tup (strD c.ps), .tup [.int c.lo, .int c.hi], .int c.le]
abbrev tolD (c : Cov.C Str) : D := .tup [.int c.m, .int c.v, .lst (strD c.ps), .tup [.int c.lo, .int c.hi], .int c.le]
abbrev losD (p : Str) (g a : Int) : D := .tup [.str p, .int g, .int a]
theorem isnmP : ∀ x ∈ PN, F_is_name [.val (.str x)] = .ok (.bl true) [] := by
  intro x hx
  simp only [PN, List.mem_cons, List.not_mem_nil, or_false] at hx
  rcases hx with rfl | rfl | rfl <;> rfl
theorem isnum (x lo hi : Int) : F_is_number [.val (.int x), .val (.int lo), .val (.int hi)] = .ok (.bl (decide (lo ≤ x) && decide (x ≤ hi))) [] := by
  by_cases h1 : lo ≤ x <;> simp [F_is_number, m_is_number, F_is_integer, m_is_integer, ev_runF, startE, toWs, dTru, finE, outsE, isTy, D.ty, Ty.sub, dLe, h1]
theorem cknum (p : D) (x lo hi : Int) (h1 : lo ≤ x) (h2 : x ≤ hi) : F_check_number [.val p, .val (.int x), .val (.int lo), .val (.int hi)] = .ok .non [] := by
  simp [F_check_number, m_check_number, ev_runF, startE, toWs, isnum, dTru, finE, outsE, h1, h2]
theorem isrowL (l : List D) : F_is_row [.val (.lst l)] = .ok (.bl true) [] := by
  simp [F_is_row, m_is_row, ev_runF, startE, isTys, D.ty, Ty.sub, finE, outsE]
theorem isrowT (l : List D) : F_is_row [.val (.tup l)] = .ok (.bl true) [] := by
  simp [F_is_row, m_is_row, ev_runF, startE, isTys, D.ty, Ty.sub, finE, outsE]
theorem ckperL (p : D) (ps : List Str) (h : PsOk ps) : F_check_perils [.val p, .val (.lst (strD ps))] = .ok .non [] := by
  have h2 : lcs (lcIt [2] (mTN 2) mTrue e_check_perils_1) (ps.map D.str) [some (.val p), some (.val (.lst (ps.map D.str))), none] = .ok (List.replicate ps.length (D.bl true)) [some (.val p), some (.val (.lst (ps.map D.str))), none] :=
    lcs_tru D.str ps fun x hx => by simp [lcIt, e_check_perils_1, wipeE, restore, mTN, mTrue, toWs, isnmP x (h.nm x hx)]
  have h3 := lenSet_lst h.nd (by have := h.few; omega)
  have h4 : ps.length ≤ sizeLine := sizeL (by have := h.few; omega)
  have h5 : ¬ ps = [] := h.ne
  simp [strD, F_check_perils, m_check_perils, ev_runF, startE, toWs, isrowL, dTru, fLen, dEq, D.seq, h4, notOwn, h2, all_rep, h3, dLt, finE, outsE, h5]
theorem ckperT (p : D) (ps : List Str) (h : PsOk ps) : F_check_perils [.val p, .val (.tup (strD ps))] = .ok .non [] := by
  have h2 : lcs (lcIt [2] (mTN 2) mTrue e_check_perils_1) (ps.map D.str) [some (.val p), some (.val (.tup (ps.map D.str))), none] = .ok (List.replicate ps.length (D.bl true)) [some (.val p), some (.val (.tup (ps.map D.str))), none] :=
    lcs_tru D.str ps fun x hx => by simp [lcIt, e_check_perils_1, wipeE, restore, mTN, mTrue, toWs, isnmP x (h.nm x hx)]
  have h3 := lenSet_tup h.nd (by have := h.few; omega)
  have h4 : ps.length ≤ sizeLine := sizeL (by have := h.few; omega)
  have h5 : ¬ ps = [] := h.ne
  simp [strD, F_check_perils, m_check_perils, ev_runF, startE, toWs, isrowT, dTru, fLen, dEq, D.seq, h4, notOwn, h2, all_rep, h3, dLt, finE, outsE, h5]
/-- a cover that may be -/
structure COk (c : Cov.C Str) : Prop where
  m1 : 1 ≤ c.m
  m2 : c.m ≤ 9999
  v1 : 1 ≤ c.v
  v2 : c.v ≤ 9999
  ps : PsOk c.ps
  l1 : 0 ≤ c.lo
  l2 : c.lo < c.hi
  l3 : c.hi ≤ 9
  e1 : 0 ≤ c.le
  e2 : c.le ≤ 9999
theorem newcov (c : Cov.C Str) (h : COk c) (qs : List Str) (q : D) (hp : ∀ p, F_check_perils [.val p, .val q] = .ok .non []) (hs : fSortedX [q] = some (.lst (strD qs))) : F_Cover_init [.inn (.ob 3 []), .val (.int c.m), .val (.int c.v), .val q, .val (.tup [.int c.lo, .int c.hi]), .val (.int c.le)] = .ok .non [.ob 3 [.int c.m, .int c.v, .tup (strD qs), .tup [.int c.lo, .int c.hi], .int c.le]] := by
  obtain ⟨m1, m2, v1, v2, ps, l1, l2, l3, e1, e2⟩ := h
  have a1 := cknum (.str "money") c.m 1 9999 m1 m2
  have a2 := cknum (.str "value") c.v 1 9999 v1 v2
  have a3 := cknum (.str "least") c.le 0 9999 e1 e2
  have b1 : c.lo ≤ 8 := by omega
  have b2 : c.lo + 1 ≤ c.hi := by omega
  simp [F_Cover_init, m_Cover_init, ev_runF, startE, toWs, a1, a2, a3, hp, isTy, D.ty, Ty.sub, dTru, fLen, dNe, dIx, D.seq, L2.atI, L2.ixN, dSub, dAdd, c_MOST_LEGS, isnum, l1, b1, b2, l3, hs, fTup, cFld, holds, W.put, finE, outsE]
/-- perils in the order of their letters -/
structure Srt (ps : List Str) : Prop where
  l : fSortedX [.lst (strD ps)] = some (.lst (strD ps))
  t : fSortedX [.tup (strD ps)] = some (.lst (strD ps))
theorem built (c : Cov.C Str) (h : COk c) (s : Srt c.ps) : F_law_cover_built [.val (tolD c)] = .ok (covD c) [] := by
  have h1 := newcov c h c.ps (.lst (strD c.ps)) (fun p => ckperL p c.ps h.ps) s.l
  simp [F_law_cover_built, m_law_cover_built, ev_runF, startE, toWs, dIx, D.seq, L2.atI, L2.ixN, h1, finE, outsE]
theorem ison (c : Cov.C Str) (p : Str) (g : Int) : F_is_on [.val (covD c), .val (.str p), .val (.int g)] = .ok (.bl (Cov.on c p g)) [] := by
  unfold Cov.on
  by_cases h1 : p ∈ c.ps <;> by_cases h2 : c.lo ≤ g <;> simp [strD, F_is_on, m_is_on, ev_runF, startE, dFld, List.lookup, dIx, D.seq, L2.atI, L2.ixN, dLe, dLt, h1, h2, finE, outsE]
theorem ckloss (p : Str) (g a : Int) (hp : p ∈ PN) (g1 : 0 ≤ g) (g2 : g ≤ 8) (a1 : 1 ≤ a) (a2 : a ≤ 9999) : F_check_loss [.val (losD p g a)] = .ok .non [] := by
  simp [F_check_loss, m_check_loss, ev_runF, startE, toWs, isTy, D.ty, Ty.sub, dTru, fLen, dNe, dIx, D.seq, L2.atI, L2.ixN, dSub, c_MOST_LEGS, isnmP p hp, isnum, g1, g2, a1, a2, finE, outsE]
structure LOk (p : Str) (g a : Int) : Prop where
  p : p ∈ PN
  g1 : 0 ≤ g
  g2 : g ≤ 8
  a1 : 1 ≤ a
  a2 : a ≤ 9999
theorem pays (c : Cov.C Str) (h : COk c) (p : Str) (g a : Int) (l : LOk p g a) : F_pays [.val (covD c), .val (losD p g a)] = .ok (.int (Cov.pay c p g a)) [] := by
  have h1 := ckloss p g a l.p l.g1 l.g2 l.a1 l.a2
  have h2 := ison c p g
  have h3 : lim64 c.m = true := by have := h.m1; have := h.m2; unfold lim64; exact decide_eq_true (by omega)
  have h4 : 0 < c.v := by have := h.v1; omega
  have h5 : c.v < 1073741824 := by have := h.v2; omega
  have h6 : (if c.v < a then c.v else a) = min a c.v := by omega
  unfold Cov.pay
  cases ho : Cov.on c p g with
  | false => simp [F_pays, m_pays, ev_runF, startE, isCl, dTru, toWs, h1, h2, ho, dIx, D.seq, L2.atI, L2.ixN, finE, outsE]
  | true =>
    by_cases hl : a < c.le
    · simp [F_pays, m_pays, ev_runF, startE, isCl, dTru, toWs, h1, h2, ho, dIx, D.seq, L2.atI, L2.ixN, dFld, List.lookup, dLt, hl, finE, outsE]
    · unfold Cov.part
      by_cases hv : c.v ≤ c.m <;>
        simp [F_pays, m_pays, ev_runF, startE, isCl, dTru, toWs, h1, h2, ho, dIx, D.seq, L2.atI, L2.ixN, dFld, List.lookup, dLt, dGe, hl, fMin, h6, hv, dMul, h3, dFdiv, h4, h5, finE, outsE]
end T37
set_option Elab.async false
set_option linter.all false
set_option maxRecDepth 100000
set_option maxHeartbeats 1000000
namespace T37
open PySem PySem.Spec PyProof.Rows L2 DL
abbrev covL (cs : List (Cov.C Str)) : D := .lst (cs.map covD)
theorem ckcov (cs : List (Cov.C Str)) : F_check_covers [.val (covL cs)] = .ok .non [] := by
  obtain ⟨ρ', h1, a, b, rfl⟩ := for_keep (g := mTT (mTCons (mTN 1) (mTCons (mTN 2) mTNil))) (b := b_check_covers_1) (fun ρ => ∃ a b : Option D, ρ = [some (.val (covL cs)), a.map .val, b.map .val]) (enumD 0 (cs.map covD)) (fun d hd ρ ⟨a, b, hr⟩ => by
      obtain ⟨i, c, _, rfl⟩ := enumD_mem covD cs 0 d hd
      subst hr
      refine ⟨_, _, rfl, ?_, some (.int (i : Nat)), some (covD c), rfl⟩
      simp [b_check_covers_1, isCl, dTru]) [some (.val (covL cs)), none, none] ⟨none, none, rfl⟩
  simp [F_check_covers, m_check_covers, ev_runF, startE, toWs, isrowL, dTru, D.lis, h1, finE, outsE]
structure CsOk (cs : List (Cov.C Str)) : Prop where
  ok : ∀ c ∈ cs, COk c
  few : cs.length ≤ 100
abbrev payL (cs : List (Cov.C Str)) (p : Str) (g a : Int) : List Int := cs.map fun c => Cov.pay c p g a
theorem sum_le (n : Int) : ∀ l : List Int, (∀ x ∈ l, x ≤ n) → l.sum ≤ n * l.length
  | [], _ => by simp
  | a :: l, h => by
    have h1 := sum_le n l fun x hx => h x (by simp [hx])
    have h2 := h a (by simp)
    rw [List.sum_cons, List.length_cons]
    have : n * ((l.length + 1 : Nat) : Int) = n * l.length + n := by rw [Int.natCast_add, Int.mul_add]; simp
    omega
theorem payL_nn {cs : List (Cov.C Str)} (h : CsOk cs) {p : Str} {g a : Int} (l : LOk p g a) : ∀ r ∈ payL cs p g a, 0 ≤ r := by
  intro r hr
  obtain ⟨c, hc, rfl⟩ := List.mem_map.mp hr
  have o := h.ok c hc
  exact Cov.pay_nn (by have := l.a1; omega) (by have := o.m1; omega) o.v1
theorem payL_lt {cs : List (Cov.C Str)} (h : CsOk cs) {p : Str} {g a : Int} (l : LOk p g a) : (payL cs p g a).sum < 1073741824 := by
  have := sum_le a (payL cs p g a) (fun r hr => by
    obtain ⟨c, hc, rfl⟩ := List.mem_map.mp hr
    have o := h.ok c hc
    exact (Cov.pay_le (by have := l.a1; omega) (by have := o.m1; omega) o.v1).1)
  have h1 := h.few
  have h2 := l.a2
  have h3 : a * ((payL cs p g a).length : Int) ≤ 9999 * 100 := by
    refine Int.le_trans (Int.mul_le_mul_of_nonneg_right h2 (by omega)) ?_
    have : ((payL cs p g a).length : Int) ≤ 100 := by simp; omega
    omega
  omega
/-- the loop that lays what is left -/
def dstep (s : List Int × Int) (q : Int × Nat) : List Int × Int := if q.1 > 0 ∧ s.2 > 0 then (s.1.set q.2 (s.1.getD q.2 0 + 1), s.2 - 1) else s
theorem dfold : ∀ (rs fs done : List Int) (l : Int), rs.length = fs.length → ((rs.zipIdx done.length).foldl dstep (done ++ fs, l)).1 = done ++ Cov.dist rs fs l
  | [], [], done, l, _ => by simp [Cov.dist]
  | r :: rs, f :: fs, done, l, h => by
    have hl : rs.length = fs.length := by simpa using h
    rw [List.zipIdx_cons, List.foldl_cons]
    unfold Cov.dist dstep
    simp only
    by_cases c : r > 0 ∧ l > 0
    · rw [if_pos c, if_pos c]
      have := dfold rs fs (done ++ [f + 1]) (l - 1) hl
      rw [List.length_append] at this
      have e : (done ++ f :: fs).set done.length ((done ++ f :: fs).getD done.length 0 + 1) = (done ++ [f + 1]) ++ fs := by simp
      rw [e, show done.length + 1 = done.length + [f + 1].length from rfl]
      unfold dstep at this
      rw [this]
      simp
    · rw [if_neg c, if_neg c]
      have := dfold rs fs (done ++ [f]) l hl
      rw [List.length_append] at this
      have e : done ++ f :: fs = (done ++ [f]) ++ fs := by simp
      rw [e, show done.length + 1 = done.length + [f].length from rfl]
      unfold dstep at this
      rw [this]
      simp
theorem dlen (q : List (Int × Nat)) (s : List Int × Int) : (q.foldl dstep s).1.length = s.1.length := by
  induction q generalizing s with
  | nil => rfl
  | cons a q ih =>
    rw [List.foldl_cons, ih]
    unfold dstep
    split <;> simp
theorem shares (cs : List (Cov.C Str)) (h : CsOk cs) (p : Str) (g a : Int) (l : LOk p g a) : F_shares [.val (covL cs), .val (losD p g a)] = .ok (.lst ((Cov.shr (payL cs p g a) a).map D.int)) [] := by
  have h1 := ckcov cs
  have h2 := ckloss p g a l.p l.g1 l.g2 l.a1 l.a2
  have h3 : lcs (lcIt [8] (mTN 8) mTrue e_shares_1) (cs.map covD) [some (.val (covL cs)), some (.val (losD p g a)), none, none, none, none, none, none, none] = .ok ((payL cs p g a).map D.int) [some (.val (covL cs)), some (.val (losD p g a)), none, none, none, none, none, none, none] :=
    lcs_map covD D.int (fun c => Cov.pay c p g a) cs fun c hc => by simp [lcIt, e_shares_1, wipeE, restore, toWs, pays c (h.ok c hc) p g a l]
  have h4 : cs.length ≤ sizeLine := sizeL (by have := h.few; omega)
  have hnn := payL_nn h l
  have hlt := payL_lt h l
  have hlen : (payL cs p g a).length ≤ sizeLine := by simpa using h4
  generalize payL cs p g a = rows at h3 hnn hlt hlen ⊢
  have h6 : lim64 a = true := by have := l.a1; have := l.a2; unfold lim64; exact decide_eq_true (by omega)
  unfold Cov.shr
  by_cases hw : rows.sum ≤ a
  · rw [if_pos hw]
    simp [F_shares, m_shares, ev_runF, startE, toWs, h1, h2, D.seq, notOwn, h4, h3, dLe, dIx, L2.atI, L2.ixN, hw, finE, outsE]
  · rw [if_neg hw]
    have hp : 0 < rows.sum := by have := l.a1; omega
    have h7 : lcs (lcIt [7] (mTN 7) mTrue e_shares_2) (rows.map D.int) [some (.val (covL cs)), some (.val (losD p g a)), some (.val (.lst (rows.map D.int))), some (.val (.int rows.sum)), none, none, none, none, none] = .ok ((rows.map fun r => r * a / rows.sum).map D.int) [some (.val (covL cs)), some (.val (losD p g a)), some (.val (.lst (rows.map D.int))), some (.val (.int rows.sum)), none, none, none, none, none] :=
      lcs_map D.int D.int (fun r => r * a / rows.sum) rows fun r hr => by simp [lcIt, e_shares_2, wipeE, restore, dIx, D.seq, L2.atI, L2.ixN, dMul, h6, dFdiv, hp, hlt]
    have hfl : (rows.map fun r => r * a / rows.sum).length = rows.length := by simp
    generalize hf : (rows.map fun r => r * a / rows.sum) = f at h7 hfl ⊢
    have h8 : enumD 0 (rows.map D.int) = (rows.zipIdx 0).map fun q => .tup [.int (q.2 : Nat), D.int q.1] := enumD_map D.int rows 0
    obtain ⟨ρ', h9, hl9, x, y, e9⟩ := for_rel (g := mTT (mTCons (mTN 6) (mTCons (mTN 7) mTNil))) (b := b_shares_1) (fun (s : List Int × Int) ρ => s.1.length = rows.length ∧ ∃ x y : Option D, ρ = [some (.val (covL cs)), some (.val (losD p g a)), some (.val (.lst (rows.map D.int))), some (.val (.int rows.sum)), some (.own (.lst (s.1.map D.int))), some (.val (.int s.2)), x.map .val, y.map .val, none]) dstep (fun q : Int × Nat => .tup [.int (q.2 : Nat), D.int q.1]) (rows.zipIdx 0) (fun q hq s ρ ⟨hl, x, y, hr⟩ => by
        obtain ⟨F, l⟩ := s
        obtain ⟨r, k⟩ := q
        subst hr
        have hk : k < F.length := by
          have := (List.mem_zipIdx hq).2.1
          simp only at hl
          omega
        have hix : L2.atI (F.map D.int) (k : Int) = some (.int (F.getD k 0)) := by
          rw [atI_map]
          unfold L2.atI ixN
          rw [if_pos (by omega), if_pos (by omega)]
          simp [hk]
        have hsx : ixN F.length (k : Int) = some k := by
          unfold ixN
          rw [if_pos (by omega), if_pos (by omega)]
          simp
        have h5 : (2 : Nat) ≤ sizeLine := by decide
        unfold dstep
        by_cases c : r > 0 ∧ l > 0
        · refine ⟨_, _, rfl, ?_, by simpa [c] using hl, some (.int (k : Nat)), some (.int r), rfl⟩
          obtain ⟨c1, c2⟩ := c
          simp [b_shares_1, dGt, c1, c2, holds, hix, dAdd, dSub, h5, cSetAt, hsx, W.put, List.map_set]
        · refine ⟨_, _, rfl, ?_, by simpa [c] using hl, some (.int (k : Nat)), some (.int r), rfl⟩
          by_cases c1 : r > 0
          · have c2 : ¬ l > 0 := fun z => c ⟨c1, z⟩
            simp [b_shares_1, dGt, c1, c2]
          · simp [b_shares_1, dGt, c1]) (f, a - f.sum) _ ⟨hfl, none, none, rfl⟩
    have h10 := dfold rows f [] (a - f.sum) hfl.symm
    simp only [List.length_nil, List.nil_append] at h10
    rw [h10] at e9
    subst e9
    rw [h8.symm] at h9
    dsimp only [Option.map_none] at h9
    simp [F_shares, m_shares, ev_runF, startE, toWs, h1, h2, D.seq, notOwn, h4, h3, dLe, dIx, L2.atI, L2.ixN, hw, hlen, h7, D.sc, dSub, Ct.toD, D.lis, h9, finE, outsE]
end T37
set_option Elab.async false
set_option linter.all false
set_option maxRecDepth 100000
set_option maxHeartbeats 1000000
namespace T37
open PySem PySem.Spec PyProof.Rows L2 DL
theorem shr_tot {cs : List (Cov.C Str)} (h : CsOk cs) {p : Str} {g a : Int} (l : LOk p g a) : (Cov.shr (payL cs p g a) a).sum = min (Cov.tot cs p g a) a := by
  have := l.a1
  rw [Cov.shr_sum (payL_nn h l) (by omega)]
  rfl
theorem borne (cs : List (Cov.C Str)) (h : CsOk cs) (p : Str) (g a : Int) (l : LOk p g a) : F_borne [.val (covL cs), .val (losD p g a)] = .ok (.int (Cov.bor cs p g a)) [] := by
  have h1 := shares cs h p g a l
  have h2 := shr_tot h l
  unfold Cov.bor
  rw [← h2]
  generalize Cov.shr (payL cs p g a) a = s at h1 ⊢
  simp [F_borne, m_borne, ev_runF, startE, toWs, h1, dIx, D.seq, L2.atI, L2.ixN, dSub, finE, outsE]
abbrev prD (q : Int × Str) : D := .tup [.int q.1, .str q.2]
theorem rng0 (n : Nat) : rngD 0 n = (Cov.rng n).map D.int := by
  unfold rngD Cov.rng
  rw [List.map_map]
  apply List.map_congr_left
  intro i _
  simp
theorem prs_len (ps : List Str) (n : Nat) : (Cov.prs ps n).length = n * ps.length := by
  unfold Cov.prs Cov.rng
  rw [List.flatMap_map]
  have : ∀ l : List Nat, (l.flatMap fun i : Nat => ps.map fun p => ((i : Int), p)).length = l.length * ps.length := by
    intro l
    induction l with
    | nil => simp
    | cons a l ih => rw [List.flatMap_cons, List.length_append, ih, List.length_map, List.length_cons, Nat.add_mul, Nat.one_mul, Nat.add_comm]
  rw [this, List.length_range]
theorem gaps_rows (cs : List (Cov.C Str)) (ps : List Str) (hp : PsOk ps) (n : Nat) : lcs2 (lcIt2 [4, 5] (mTN 4) mTrue [5] (mItLT (mVar 1)) (mTN 5) mTrue e_gaps_1) ((Cov.rng n).map D.int) [some (.val (covL cs)), some (.val (.lst (strD ps))), some (.val (.int (n : Nat))), none, none, none, none] = .ok ((Cov.prs ps n).map prD) [some (.val (covL cs)), some (.val (.lst (strD ps))), some (.val (.int (n : Nat))), none, none, none, none] := by
  have t2 : (2 : Nat) ≤ sizeLine := by decide
  unfold Cov.prs
  generalize covL cs = CS
  generalize D.int (n : Nat) = N
  refine lcs2_map D.int prD (fun g => ps.map fun p => (g, p)) (Cov.rng n) fun g hg => ?_
  have := lcs_map (f := lcIt [5] (mTN 5) mTrue e_gaps_1) (ρ := [some (.val CS), some (.val (.lst (strD ps))), some (.val N), none, some (.val (.int g)), none, none]) D.str prD (fun p => (g, p)) ps fun p hp => by simp [lcIt, e_gaps_1, wipeE, restore, t2]
  simp [lcIt2, wipeE, restore, D.seq, notOwn, this]
theorem gaps_any (cs : List (Cov.C Str)) (g : Int) (p : Str) (P N PP : D) : lcs (lcIt [6] (mTN 6) mTrue e_gaps_2) (cs.map covD) [some (.val (covL cs)), some (.val P), some (.val N), some (.val PP), some (.val (.int g)), some (.val (.str p)), none] = .ok ((cs.map fun c => Cov.on c p g).map D.bl) [some (.val (covL cs)), some (.val P), some (.val N), some (.val PP), some (.val (.int g)), some (.val (.str p)), none] := by
  generalize covL cs = CS
  exact lcs_map covD D.bl (fun c => Cov.on c p g) cs fun c hc => by simp [lcIt, e_gaps_2, wipeE, restore, toWs, ison]
theorem gaps_one (cs : List (Cov.C Str)) (h4 : cs.length ≤ sizeLine) (g : Int) (p : Str) (P N PP : D) : lcIt [4, 5] (mTT (mTCons (mTN 4) (mTCons (mTN 5) mTNil))) t_gaps_1 e_gaps_3 (prD (g, p)) [some (.val (covL cs)), some (.val P), some (.val N), some (.val PP), none, none, none] = .ok (if (!cs.any fun c => Cov.on c p g) = true then some (prD (g, p)) else none) [some (.val (covL cs)), some (.val P), some (.val N), some (.val PP), none, none, none] := by
  have t2 : (2 : Nat) ≤ sizeLine := by decide
  have ha := gaps_any cs g p P N PP
  have hb := any_map (cs.map fun c => Cov.on c p g)
  have hc : (cs.map fun c => Cov.on c p g).any id = cs.any fun c => Cov.on c p g := by simp
  rw [hc] at hb
  generalize (List.map D.bl (cs.map fun c => Cov.on c p g)) = B at ha hb
  generalize (cs.any fun c => Cov.on c p g) = k at hb ⊢
  have h5 : (cs.map covD).length ≤ sizeLine := by simpa using h4
  unfold covL at ha ⊢
  generalize cs.map covD = L at ha h5 ⊢
  cases k <;> simp [lcIt, t_gaps_1, e_gaps_3, wipeE, restore, D.seq, notOwn, h5, ha, hb, dTru, t2]
theorem gaps_flt (cs : List (Cov.C Str)) (h4 : cs.length ≤ sizeLine) (ps : List Str) (n : Nat) (P N PP : D) : lcs (lcIt [4, 5] (mTT (mTCons (mTN 4) (mTCons (mTN 5) mTNil))) t_gaps_1 e_gaps_3) ((Cov.prs ps n).map prD) [some (.val (covL cs)), some (.val P), some (.val N), some (.val PP), none, none, none] = .ok ((Cov.gaps cs ps n).map prD) [some (.val (covL cs)), some (.val P), some (.val N), some (.val PP), none, none, none] := by
  have h := lcs_filter (f := lcIt [4, 5] (mTT (mTCons (mTN 4) (mTCons (mTN 5) mTNil))) t_gaps_1 e_gaps_3) (ρ := [some (.val (covL cs)), some (.val P), some (.val N), some (.val PP), none, none, none]) prD prD (fun q => !cs.any fun c => Cov.on c q.2 q.1) id (Cov.prs ps n) (fun q hq => by
    obtain ⟨g, p⟩ := q
    exact gaps_one cs h4 g p P N PP)
  rw [List.map_id] at h
  exact h
theorem gaps_run (CS PS : D) (N : Int) (n : Nat) (PP G : List D) (h1 : F_check_covers [.val CS] = .ok .non []) (h2 : F_check_perils [.val (.str "perils"), .val PS] = .ok .non []) (h3 : F_check_number [.val (.str "legs"), .val (.int N), .val (.int 1), .val (.int 9)] = .ok .non []) (e9 : N.toNat = n) (hl : lim62 N = true) (hlen : PP.length ≤ sizeLine)
    (hr : lcs2 (lcIt2 [4, 5] (mTN 4) mTrue [5] (mItLT (mVar 1)) (mTN 5) mTrue e_gaps_1) (rngD 0 n) [some (.val CS), some (.val PS), some (.val (.int N)), none, none, none, none] = .ok PP [some (.val CS), some (.val PS), some (.val (.int N)), none, none, none, none])
    (hf : lcs (lcIt [4, 5] (mTT (mTCons (mTN 4) (mTCons (mTN 5) mTNil))) t_gaps_1 e_gaps_3) PP [some (.val CS), some (.val PS), some (.val (.int N)), some (.val (.lst PP)), none, none, none] = .ok G [some (.val CS), some (.val PS), some (.val (.int N)), some (.val (.lst PP)), none, none, none]) :
    F_gaps [.val CS, .val PS, .val (.int N)] = .ok (.lst G) [] := by
  simp [F_gaps, m_gaps, ev_runF, startE, toWs, h1, h2, c_MOST_LEGS, h3, hl, e9, hr, notOwn, hlen, D.seq, hf, finE, outsE]
theorem gapsF (cs : List (Cov.C Str)) (h : CsOk cs) (ps : List Str) (hp : PsOk ps) (n : Nat) (n1 : 1 ≤ n) (n2 : n ≤ 9) : F_gaps [.val (covL cs), .val (.lst (strD ps)), .val (.int (n : Nat))] = .ok (.lst ((Cov.gaps cs ps n).map prD)) [] := by
  have h3 := cknum (.str "legs") (n : Nat) 1 9 (by omega) (by omega)
  have hl : lim62 (n : Int) = true := by unfold lim62; exact decide_eq_true (by omega)
  have h4 : cs.length ≤ sizeLine := sizeL (by have := h.few; omega)
  have hlen : ((Cov.prs ps n).map prD).length ≤ sizeLine := sizeL (by
    rw [List.length_map, prs_len]
    have := Nat.mul_le_mul n2 hp.few
    omega)
  have hr := gaps_rows cs ps hp n
  rw [← rng0] at hr
  exact gaps_run _ _ _ n _ _ (ckcov cs) (ckperL (.str "perils") ps hp) h3 (Int.toNat_natCast n) hl hlen hr (gaps_flt cs h4 ps n _ _ _)
theorem psPN : PsOk PN := ⟨by decide +kernel, by decide, by decide +kernel, by decide⟩
abbrev okS (x : Str) : Prop := PyData.strOk x = true
theorem pn_ok : ∀ x ∈ PN, okS x := by decide +kernel
theorem gaps_mem {cs : List (Cov.C Str)} {ps : List Str} {n : Nat} {q : Int × Str} (h : q ∈ Cov.gaps cs ps n) : (0 ≤ q.1 ∧ q.1 < n) ∧ q.2 ∈ ps := by
  unfold Cov.gaps at h
  have := (List.mem_filter.mp h).1
  obtain ⟨g, p⟩ := q
  exact Cov.mem_prs.mp this
theorem eq_prs {l r : List (Int × Str)} (h1 : ∀ q ∈ l, q.2 ∈ PN) (h2 : ∀ q ∈ r, q.2 ∈ PN) : eqB (.lst (l.map prD)) (.lst (r.map prD)) = some (decide (l = r)) :=
  eq_lst (ePr eInt eStr) (fun q hq => ⟨trivial, pn_ok _ (h1 q hq)⟩) (fun q hq => ⟨trivial, pn_ok _ (h2 q hq)⟩) (by decide)
/-- the outcome -/
def jD (G : List (Int × Str)) : D := match G with
  | [] => .ob 4 []
  | (g, p) :: _ => .ob 5 [.int g, .str p]
theorem jgap (g : Int) (p : Str) : F_Gap_init [.inn (.ob 5 []), .val (.int g), .val (.str p)] = .ok .non [.ob 5 [.int g, .str p]] := by
  simp [F_Gap_init, m_Gap_init, ev_runF, startE, cFld, holds, W.put, finE, outsE]
theorem judge (cs : List (Cov.C Str)) (h : CsOk cs) (ps : List Str) (hp : PsOk ps) (n : Nat) (n1 : 1 ≤ n) (n2 : n ≤ 9) : F_judge_covers [.val (covL cs), .val (.lst (strD ps)), .val (.int (n : Nat))] = .ok (jD (Cov.gaps cs ps n)) [] := by
  have h1 := gapsF cs h ps hp n n1 n2
  have h2 := eq_prs (l := Cov.gaps cs ps n) (r := []) (fun q hq => hp.nm _ (gaps_mem hq).2) (by simp)
  generalize Cov.gaps cs ps n = G at h1 h2 ⊢
  simp only [List.map_nil] at h2
  cases G with
  | nil => simp at h1 h2; simp [F_judge_covers, m_judge_covers, ev_runF, startE, toWs, h1, dEq, h2, jD, finE, outsE]
  | cons q G =>
    obtain ⟨g, p⟩ := q
    have h3 : (0 : Int) < (G.length : Int) + 1 := by omega
    simp only [List.map_cons] at h1 h2
    simp at h2
    simp [F_judge_covers, m_judge_covers, ev_runF, startE, toWs, h1, dEq, h2, dIx, D.seq, L2.atI, L2.ixN, h3, jgap, jD, finE, outsE]
theorem bsW : bs.lookup 4 = some F_Whole_bool := rfl
theorem bsG : bs.lookup 5 = some F_Gap_bool := rfl
theorem jtru (G : List (Int × Str)) : obTru bs (jD G) = some (decide (G = [])) := by
  cases G with
  | nil => rfl
  | cons q G => obtain ⟨g, p⟩ := q; simp [jD, obTru, bsG, F_Gap_bool, m_Gap_bool, ev_runF, startE, finE, outsE]
theorem jboolO (G : List (Int × Str)) : fBoolO bs [jD G] = some (.bl (decide (G = []))) := by
  have h := jtru G
  cases G with
  | nil => rfl
  | cons q G => obtain ⟨g, p⟩ := q; unfold fBoolO jD; unfold jD at h; simp only [h]; rfl
end T37
set_option Elab.async false
set_option linter.all false
set_option maxRecDepth 100000
set_option maxHeartbeats 1000000
namespace T37
open PySem PySem.Spec PyProof.Rows L2 DL
/-- the drawing thing -/
abbrev drw (ns : List Int) (n : Int) : Ct := .lst [.rol (ns.map D.int), .int n]
/-- a cover as drawn -/
structure TOk (c : Cov.C Str) : Prop where
  ok : COk c
  srt : Srt c.ps
  hi : c.hi ≤ 6
  m : c.m ≤ 60
  v : c.v ≤ 60
  le : c.le ≤ 19
  sub : c.ps.Sublist ["fire", "storm", "theft"]
theorem ps_all (ps : List Str) (h : ps.Sublist ["fire", "storm", "theft"]) (hn : ps ≠ []) : PsOk ps ∧ Srt ps := by
  have e := mem_subs h
  simp only [subs, List.map_cons, List.map_nil, List.cons_append, List.nil_append, List.mem_cons, List.not_mem_nil, or_false] at e
  rcases e with rfl | rfl | rfl | rfl | rfl | rfl | rfl | rfl
  · exact absurd rfl hn
  all_goals exact ⟨⟨by decide +kernel, by simp, by decide +kernel, by decide⟩, ⟨by rfl, by rfl⟩⟩
theorem lawcov_ps (ns : List Int) (hl : ns.length ≤ 63) (n lo : Int) : ∃ (ps : List Str) (n' : Int), ps.Sublist ["fire", "storm", "theft"] ∧ ps ≠ [] ∧ mOrG (mLcD (mComp [3] (mItLT (mTup (mCons (mC (.str "fire")) (mCons (mC (.str "storm")) (mCons (mC (.str "theft")) mNil))))) (mTN 3) t_law_cover_1 (mVar 3))) (mLst (mCons (mC (.str "fire")) mNil)) [some (.inn (drw ns n)), some (.val (.int lo)), none, none] = .ok (.lst (strD ps)) [some (.inn (drw ns n')), some (.val (.int lo)), none, none] := by
  obtain ⟨ps, ρ', h1, h2, n', rfl⟩ := lcs_some (f := lcIt [3] (mTN 3) t_law_cover_1 (mVar 3)) (fun ρ => ∃ n : Int, ρ = [some (.inn (drw ns n)), some (.val (.int lo)), none, none]) D.str id ["fire", "storm", "theft"] (fun x hx ρ ⟨n, hr⟩ => by
    subst hr
    obtain ⟨r, hr, r0, r1⟩ := lawtake ns hl n 2 (by decide)
    refine ⟨_, ?_, n + 1, rfl⟩
    by_cases h : r = 0
    · right
      simp [lcIt, t_law_cover_1, wipeE, restore, holds, toWs, hr, W.put, dEq, h]
    · left
      simp [lcIt, t_law_cover_1, wipeE, restore, holds, toWs, hr, W.put, dEq, h]) _ ⟨n, rfl⟩
  have t3 : (3 : Nat) ≤ sizeLine := by decide
  have t1 : (1 : Nat) ≤ sizeLine := by decide
  simp only [List.map_cons, List.map_nil] at h1
  by_cases hp : ps = []
  · subst hp
    exact ⟨["fire"], n', by decide +kernel, by simp, by simp [t3, D.seq, notOwn, h1, dTru, t1, strD]⟩
  · refine ⟨ps, n', h2, hp, ?_⟩
    have h3 : dTru (.lst (strD ps)) = some true := by cases ps with
      | nil => exact absurd rfl hp
      | cons a l => rfl
    unfold strD at h3 ⊢
    generalize ps.map D.str = P at h1 h3 ⊢
    simp [t3, D.seq, notOwn, h1, h3]
theorem lawcov (ns : List Int) (hl : ns.length ≤ 63) (n : Int) : ∃ (c : Cov.C Str) (n' : Int), TOk c ∧ F_law_cover [.inn (drw ns n)] = .ok (tolD c) [drw ns n'] := by
  obtain ⟨lo, hlo, l0, l1⟩ := lawtake ns hl n 4 (by decide)
  obtain ⟨ps, n2, hs, hne, hps⟩ := lawcov_ps ns hl (n + 1) lo
  obtain ⟨m, hm, m0, m1⟩ := lawtake ns hl n2 60 (by decide)
  obtain ⟨v, hv, v0, v1⟩ := lawtake ns hl (n2 + 1) 60 (by decide)
  obtain ⟨k, hk, k0, k1⟩ := lawtake ns hl (n2 + 1 + 1) 3 (by decide)
  obtain ⟨e, he, e0, e1⟩ := lawtake ns hl (n2 + 1 + 1 + 1) 20 (by decide)
  obtain ⟨f, hf, f0, f1⟩ := lawtake ns hl (n2 + 1 + 1 + 1 + 1) 2 (by decide)
  obtain ⟨p1, p2⟩ := ps_all ps hs hne
  have b1 : 0 ≤ e * f := Int.mul_nonneg e0 f0
  have b2 : e * f ≤ 19 := by
    have : f = 0 ∨ f = 1 := by omega
    rcases this with h | h <;> subst h <;> omega
  have b3 : lim64 e = true := by unfold lim64; exact decide_eq_true (by omega)
  have t5 : (5 : Nat) ≤ sizeLine := by decide
  have t2 : (2 : Nat) ≤ sizeLine := by decide
  refine ⟨⟨1 + m, 1 + v, ps, lo, lo + 1 + k, e * f⟩, n2 + 1 + 1 + 1 + 1 + 1, ⟨⟨by simp only; omega, by simp only; omega, by simp only; omega, by simp only; omega, p1, by simp only; omega, by simp only; omega, by simp only; omega, b1, by simp only; omega⟩, p2, by simp only; omega, by simp only; omega, by simp only; omega, b2, hs⟩, ?_⟩
  unfold F_law_cover
  rw [ev_runF]
  unfold m_law_cover
  rw [seq_nx (ρ1 := [some (.inn (drw ns (n + 1))), some (.val (.int lo)), none, none]) (by simp [startE, toWs, holds, hlo, W.put]) rfl]
  rw [seq_nx (ρ1 := [some (.inn (drw ns n2)), some (.val (.int lo)), some (.val (.lst (strD ps))), none]) (by rw [ev_mSet, hps]; rfl) rfl]
  simp [toWs, holds, W.put, hm, hv, hk, he, hf, dAdd, dMul, b3, t5, t2, finE, outsE]
end T37
set_option Elab.async false
set_option linter.all false
set_option maxRecDepth 100000
set_option maxHeartbeats 1000000
namespace T37
open PySem PySem.Spec PyProof.Rows L2 DL
/-- what a draft is worth -/
def wrth (m due day rate : Int) : Int := m * (1000 - (if (if due - day > 0 then due - day else 0) * rate < 1000 then (if due - day > 0 then due - day else 0) * rate else 1000)) / 1000
theorem worth (m due : Int) (tk : Bool) (day rate : Int) (m1 : 1 ≤ m) (m2 : m ≤ 9999) (d1 : 0 ≤ day) (d2 : day ≤ 999) (r1 : 0 ≤ rate) (r2 : rate ≤ 10) : F_worth [.val (D1.dr m due tk), .val (.int day), .val (.int rate)] = .ok (.int (wrth m due day rate)) [] := by
  have h0 := D1.ckp0 m due tk [] ⟨D1.hd_nil, by decide, by decide⟩
  simp only [List.map_nil] at h0
  have h1 := cknum (.str "day") day 0 999 d1 d2
  have h2 := cknum (.str "rate") rate 0 10 r1 r2
  have l1 : ∀ x : Int, dMul (.int m) (.int x) = some (.int (m * x)) := fun x => by
    have : lim64 m = true := by unfold lim64; exact decide_eq_true (by omega)
    simp [dMul, this]
  have l2 : ∀ x : Int, dMul (.int x) (.int rate) = some (.int (x * rate)) := fun x => by
    have : lim64 rate = true := by unfold lim64; exact decide_eq_true (by omega)
    simp [dMul, this]
  have f0 : dFld [(0, 0), (3, 0)] (D1.dr m due tk) = some (.int m) := rfl
  have f3 : dFld [(0, 3)] (D1.dr m due tk) = some (.int due) := rfl
  have t0 : (0 : Nat) ≤ sizeLine := by decide
  unfold D1.dr at *
  generalize D.ob 0 [.int m, .str "dora", .str "paul", .int due, .bl tk] = DR at h0 f0 f3 ⊢
  simp [F_worth, m_worth, ev_runF, startE, toWs, h0, h1, h2, t0, f0, f3, fMax, fMin, dSub, l1, l2, dFdiv, finE, outsE, wrth]
theorem wrth_up (m due day : Int) (h : 0 ≤ m) : wrth m due day 3 ≤ wrth m due (day + 1) 3 := by
  unfold wrth
  refine Int.ediv_le_ediv (by decide) (Int.mul_le_mul_of_nonneg_left ?_ h)
  repeat' split
  all_goals omega
/-- the pairs that two covers or more cover -/
def twc (cs : List (Cov.C Str)) (ps : List Str) (n : Nat) : List (Int × Str) := (Cov.prs ps n).filter fun q => decide (1 < (cs.filter fun c => Cov.on c q.2 q.1).length)
theorem e1_eq : e_twice_covered_1 = e_gaps_1 := rfl
theorem twc_on (cs : List (Cov.C Str)) (g : Int) (p : Str) (P N PP : D) : lcs (lcIt [6] (mTN 6) t_twice_covered_1 e_twice_covered_2) (cs.map covD) [some (.val (covL cs)), some (.val P), some (.val N), some (.val PP), some (.val (.int g)), some (.val (.str p)), none] = .ok (((cs.filter fun c => Cov.on c p g).map fun _ => (0 : Int)).map D.int) [some (.val (covL cs)), some (.val P), some (.val N), some (.val PP), some (.val (.int g)), some (.val (.str p)), none] := by
  generalize covL cs = CS
  exact lcs_filter covD D.int (fun c => Cov.on c p g) (fun _ => (0 : Int)) cs fun c hc => by
    have := ison c p g
    cases h : Cov.on c p g <;> rw [h] at this <;> simp [lcIt, t_twice_covered_1, e_twice_covered_2, wipeE, restore, toWs, this, dTru]
theorem twc_one (cs : List (Cov.C Str)) (h4 : cs.length ≤ sizeLine) (g : Int) (p : Str) (P N PP : D) : lcIt [4, 5] (mTT (mTCons (mTN 4) (mTCons (mTN 5) mTNil))) t_twice_covered_2 e_twice_covered_3 (prD (g, p)) [some (.val (covL cs)), some (.val P), some (.val N), some (.val PP), none, none, none] = .ok (if decide (1 < (cs.filter fun c => Cov.on c p g).length) = true then some (prD (g, p)) else none) [some (.val (covL cs)), some (.val P), some (.val N), some (.val PP), none, none, none] := by
  have t2 : (2 : Nat) ≤ sizeLine := by decide
  have ha := twc_on cs g p P N PP
  have h5 : (cs.map covD).length ≤ sizeLine := by simpa using h4
  have h6 : (List.map D.int ((cs.filter fun c => Cov.on c p g).map fun _ => (0 : Int))).length = (cs.filter fun c => Cov.on c p g).length := by simp
  generalize (List.map D.int ((cs.filter fun c => Cov.on c p g).map fun _ => (0 : Int))) = B at ha h6
  rw [← h6]
  unfold covL at ha ⊢
  generalize cs.map covD = L at ha h5 ⊢
  by_cases hk : 1 < B.length
  · have hk' : (1 : Int) < (B.length : Int) := by omega
    simp [lcIt, t_twice_covered_2, e_twice_covered_3, wipeE, restore, D.seq, notOwn, h5, ha, fLen, dGt, t2, hk, hk']
  · have hk' : ¬ (1 : Int) < (B.length : Int) := by omega
    simp [lcIt, t_twice_covered_2, e_twice_covered_3, wipeE, restore, D.seq, notOwn, h5, ha, fLen, dGt, t2, hk, hk']
theorem twc_flt (cs : List (Cov.C Str)) (h4 : cs.length ≤ sizeLine) (ps : List Str) (n : Nat) (P N PP : D) : lcs (lcIt [4, 5] (mTT (mTCons (mTN 4) (mTCons (mTN 5) mTNil))) t_twice_covered_2 e_twice_covered_3) ((Cov.prs ps n).map prD) [some (.val (covL cs)), some (.val P), some (.val N), some (.val PP), none, none, none] = .ok ((twc cs ps n).map prD) [some (.val (covL cs)), some (.val P), some (.val N), some (.val PP), none, none, none] := by
  have h := lcs_filter (f := lcIt [4, 5] (mTT (mTCons (mTN 4) (mTCons (mTN 5) mTNil))) t_twice_covered_2 e_twice_covered_3) (ρ := [some (.val (covL cs)), some (.val P), some (.val N), some (.val PP), none, none, none]) prD prD (fun q => decide (1 < (cs.filter fun c => Cov.on c q.2 q.1).length)) id (Cov.prs ps n) (fun q hq => by
    obtain ⟨g, p⟩ := q
    exact twc_one cs h4 g p P N PP)
  rw [List.map_id] at h
  exact h
theorem twc_run (CS PS : D) (N : Int) (n : Nat) (PP G : List D) (g0 : D) (h1 : F_gaps [.val CS, .val PS, .val (.int N)] = .ok g0 []) (e9 : N.toNat = n) (hl : lim62 N = true) (hlen : PP.length ≤ sizeLine)
    (hr : lcs2 (lcIt2 [4, 5] (mTN 4) mTrue [5] (mItLT (mVar 1)) (mTN 5) mTrue e_twice_covered_1) (rngD 0 n) [some (.val CS), some (.val PS), some (.val (.int N)), none, none, none, none] = .ok PP [some (.val CS), some (.val PS), some (.val (.int N)), none, none, none, none])
    (hf : lcs (lcIt [4, 5] (mTT (mTCons (mTN 4) (mTCons (mTN 5) mTNil))) t_twice_covered_2 e_twice_covered_3) PP [some (.val CS), some (.val PS), some (.val (.int N)), some (.val (.lst PP)), none, none, none] = .ok G [some (.val CS), some (.val PS), some (.val (.int N)), some (.val (.lst PP)), none, none, none]) :
    F_twice_covered [.val CS, .val PS, .val (.int N)] = .ok (.lst G) [] := by
  simp [F_twice_covered, m_twice_covered, ev_runF, startE, toWs, h1, hl, e9, hr, notOwn, hlen, D.seq, hf, finE, outsE]
theorem twiceF (cs : List (Cov.C Str)) (h : CsOk cs) (ps : List Str) (hp : PsOk ps) (n : Nat) (n1 : 1 ≤ n) (n2 : n ≤ 9) : F_twice_covered [.val (covL cs), .val (.lst (strD ps)), .val (.int (n : Nat))] = .ok (.lst ((twc cs ps n).map prD)) [] := by
  have hl : lim62 (n : Int) = true := by unfold lim62; exact decide_eq_true (by omega)
  have h4 : cs.length ≤ sizeLine := sizeL (by have := h.few; omega)
  have hlen : ((Cov.prs ps n).map prD).length ≤ sizeLine := sizeL (by
    rw [List.length_map, prs_len]
    have := Nat.mul_le_mul n2 hp.few
    omega)
  have hr := gaps_rows cs ps hp n
  rw [← rng0, ← e1_eq] at hr
  exact twc_run _ _ _ n _ _ _ (gapsF cs h ps hp n n1 n2) (Int.toNat_natCast n) hl hlen hr (twc_flt cs h4 ps n _ _ _)
theorem cutTo {α : Type} (e : α → D) (l : List α) (k : Nat) : cutD (l.map e) none (some (k : Int)) = (l.take k).map e := by
  rw [cutD_map, HT.sIx_nat]
  simp [D1.sIx0, List.take_eq_take_iff]
theorem cutFr {α : Type} (e : α → D) (l : List α) (k : Nat) : cutD (l.map e) (some (k : Int)) none = (l.drop k).map e := by
  rw [cutD_map, HT.sIx_nat]
  have : HT.sIx l.length l.length none = l.length := rfl
  rw [this]
  by_cases h : k ≤ l.length
  · rw [Nat.min_eq_left h, List.take_of_length_le (by simp)]
  · rw [Nat.min_eq_right (by omega)]
    rw [List.drop_eq_nil_of_le (show l.length ≤ k by omega)]
    simp
def ndl (cs : List (Cov.C Str)) (ps : List Str) (n : Nat) : List Int := (Cov.rng cs.length).filter fun i => decide (Cov.gaps (cs.take i.toNat ++ cs.drop (i.toNat + 1)) ps n = Cov.gaps cs ps n)
theorem ndl_one (CS PS N : D) (L A B G F : List D) (k : Nat) (t : Bool) (h1 : cutD L none (some (k : Int)) = A) (h2 : cutD L (some (((k + 1 : Nat) : Int))) none = B) (h3 : A.length + B.length ≤ sizeLine) (hL : L.length ≤ sizeLine) (h4 : F_gaps [.val (.lst (A ++ B)), .val PS, .val N] = .ok (.lst G) []) (h5 : eqB (.lst G) (.lst F) = some t) :
    lcIt [5] (mTN 5) t_needless_covers_1 (mVar 5) (.int (k : Nat)) [some (.val CS), some (.val PS), some (.val N), some (.val (.lst F)), some (.val (.lst L)), none] = .ok (if t = true then some (.int (k : Nat)) else none) [some (.val CS), some (.val PS), some (.val N), some (.val (.lst F)), some (.val (.lst L)), none] := by
  have h2' : cutD L (some ((k : Int) + 1)) none = B := h2
  cases t <;> simp [lcIt, t_needless_covers_1, wipeE, restore, dCut, h1, dAdd, h2', h3, toWs, h4, dEq, h5]
theorem needF (cs : List (Cov.C Str)) (h : CsOk cs) (ps : List Str) (hp : PsOk ps) (n : Nat) (n1 : 1 ≤ n) (n2 : n ≤ 9) : F_needless_covers [.val (covL cs), .val (.lst (strD ps)), .val (.int (n : Nat))] = .ok (.tup ((ndl cs ps n).map D.int)) [] := by
  have g0 := gapsF cs h ps hp n n1 n2
  have hc := lcs_filter (f := lcIt [5] (mTN 5) t_needless_covers_1 (mVar 5)) (ρ := [some (.val (covL cs)), some (.val (.lst (strD ps))), some (.val (.int (n : Nat))), some (.val (.lst ((Cov.gaps cs ps n).map prD))), some (.val (.lst (cs.map covD))), none]) D.int D.int (fun i => decide (Cov.gaps (cs.take i.toNat ++ cs.drop (i.toNat + 1)) ps n = Cov.gaps cs ps n)) id (Cov.rng cs.length) (fun i hi => by
    have hi2 : ∃ k : Nat, i = (k : Int) := by
      unfold Cov.rng at hi
      obtain ⟨k, _, e⟩ := List.mem_map.mp hi
      exact ⟨k, e.symm⟩
    obtain ⟨k, rfl⟩ := hi2
    rw [Int.toNat_natCast]
    have hcs : CsOk (cs.take k ++ cs.drop (k + 1)) := ⟨fun c hc => h.ok c ((List.mem_append.mp hc).elim List.mem_of_mem_take List.mem_of_mem_drop), by
      have := h.few
      simp only [List.length_append, List.length_take, List.length_drop]
      omega⟩
    have h4 := gapsF _ hcs ps hp n n1 n2
    unfold covL at h4
    rw [List.map_append] at h4
    have h5 := eq_prs (l := Cov.gaps (cs.take k ++ cs.drop (k + 1)) ps n) (r := Cov.gaps cs ps n) (fun q hq => hp.nm _ (gaps_mem hq).2) (fun q hq => hp.nm _ (gaps_mem hq).2)
    exact ndl_one _ _ _ _ _ _ _ _ k _ (cutTo covD cs k) (cutFr covD cs (k + 1)) (sizeL (by have := h.few; simp only [List.length_map, List.length_take, List.length_drop]; omega)) (sizeL (by have := h.few; simp; omega)) h4 h5)
  rw [List.map_id, ← rng0] at hc
  have hl : lim62 (cs.length : Int) = true := by unfold lim62; exact decide_eq_true (by have := h.few; omega)
  have e0 : fLen [.lst (cs.map covD)] = some (.int (cs.length : Nat)) := by simp [fLen]
  have hL : (cs.map covD).length ≤ sizeLine := sizeL (by have := h.few; simp; omega)
  change lcs (lcIt [5] (mTN 5) t_needless_covers_1 (mVar 5)) _ _ = .ok ((ndl cs ps n).map D.int) _ at hc
  unfold covL at g0 hc ⊢
  generalize cs.map covD = L at g0 hc e0 hL ⊢
  generalize (ndl cs ps n).map D.int = R at hc ⊢
  generalize (Cov.gaps cs ps n).map prD = G at g0 hc
  have tk : (cs.length : Int).toNat = cs.length := Int.toNat_natCast _
  have hfew := h.few
  generalize cs.length = k at hl e0 tk hc hfew
  have t2 : (2 : Nat) ≤ sizeLine := by decide
  have hrl : (rngD 0 k).length ≤ sizeLine := sizeL (by simp [rngD]; omega)
  simp [F_needless_covers, m_needless_covers, ev_runF, startE, toWs, g0, fLst, D.seq, hL, t2, e0, hl, tk, hc, fTup, finE, outsE, notOwn_eq, hrl]
end T37
set_option Elab.async false
set_option linter.all false
set_option maxRecDepth 100000
set_option maxHeartbeats 1000000
namespace T37
open PySem PySem.Spec PyProof.Rows L2 DL
def HSL : List (List Str) := [[], ["ann"], ["ann", "bob"], ["ann", "bob", "cy"]]
def R5 : List Str := ["ann", "bob", "cy", "dora", "paul"]
def nmap (x : Str) : Str := if x = "ann" then "bob" else if x = "bob" then "cy" else if x = "cy" then "ann" else if x = "dora" then "eve" else "pia"
def way1 (hs fs : List Str) : List (Str × Str) := (D1.up (D1.lastR hs) (D1.above (D1.rows hs) fs (D1.lastR hs))).1
def way2 (hs fs : List Str) : List (Str × Str) := (D2.up (D2.lastR hs) (D2.above (D2.rows hs) fs (D2.lastR hs))).1
def nm2 (q : Str × Str) : Str × Str := (nmap q.1, nmap q.2)
abbrev FS (hs : List Str) : List (List Str) := subs (hs ++ [("dora" : Str), ("paul" : Str)])
theorem f_1 : ∀ hs ∈ HSL, ∀ fs ∈ FS hs, ∀ tk : Bool, D1.hnd tk hs fs ∈ D1.rows hs ∧ D1.hnd tk hs fs ∈ R5 := by decide +kernel
theorem f_2 : ∀ hs ∈ HSL, ∀ fs ∈ FS hs, ∀ tk : Bool, D2.pays tk (fs.map nmap) = D1.pays tk fs ∧ D2.hnd tk (hs.map nmap) (fs.map nmap) = nmap (D1.hnd tk hs fs) ∧ way2 (hs.map nmap) (fs.map nmap) = (way1 hs fs).map nm2 := by decide +kernel
theorem f_5 : ∀ hs ∈ HSL, ∀ fs ∈ FS hs, (way1 hs fs).map (·.2) = (D1.lastR hs :: (way1 hs fs).map (·.1)).dropLast := by decide +kernel
theorem f_5b : ∀ hs ∈ HSL, ∀ fs ∈ FS hs, ∀ tk : Bool, D1.pays tk fs = false → some (D1.hnd tk hs fs) = (D1.lastR hs :: (way1 hs fs).map (·.1)).getLast? := by decide +kernel
theorem f_6 : ∀ hs ∈ HSL, ∀ fs ∈ FS hs, ∀ q ∈ way1 hs fs, (q.2 ∈ D1.rows hs ∧ q.1 ∈ (D1.rows hs).take ((D1.rows hs).idxOf q.2)) ∧ q.1 ∈ R5 ∧ q.2 ∈ R5 := by decide +kernel
theorem f_6b : ∀ hs ∈ HSL, ∀ fs ∈ FS hs, (way1 hs fs).length ≤ 4 := by decide +kernel
theorem f_8 : ∀ hs ∈ HSL, ∀ fs ∈ FS hs, ∀ tk : Bool, (D1.safeL tk hs fs).length + (if D1.pays tk fs = true then 0 else 1) = hs.length + 1 := by decide +kernel
theorem f_9 : ∀ hs ∈ HSL, ∀ fs ∈ FS hs, (∀ x ∈ fs, x ∈ D1.NM ∧ x ∈ R5) ∧ (∀ x ∈ fs.map nmap, x ∈ D2.NM) ∧ fs.length ≤ 5 := by decide +kernel
theorem f_10 : ∀ hs ∈ HSL, ∀ r ∈ subs hs, (∀ x ∈ r, x ∈ D1.NM) ∧ r.length ≤ 3 := by decide +kernel
theorem f_7 : ∀ hs ∈ HSL, ∀ fs ∈ FS hs, ∀ r ∈ subs hs, ∀ tk : Bool, D1.pays tk (fs ++ r) = D1.pays tk fs ∧ (D1.pays tk fs = false → (D1.rows hs).idxOf (D1.hnd tk hs fs) ≤ (D1.rows hs).idxOf (D1.hnd tk hs (fs ++ r)) ∧ D1.hnd tk hs (fs ++ r) ∈ D1.rows hs) := by decide +kernel
theorem f_h : ∀ hs ∈ HSL, hs.length ≤ 3 ∧ ∀ x ∈ hs, x ∈ R5 := by decide +kernel
theorem hd1 : ∀ hs ∈ HSL, D1.Hd hs := by
  intro hs h
  simp only [HSL, List.mem_cons, List.not_mem_nil, or_false] at h
  rcases h with rfl | rfl | rfl | rfl <;> exact ⟨by decide +kernel, by decide +kernel, by decide +kernel⟩
theorem hd2 : ∀ hs ∈ HSL, D2.Hd (hs.map nmap) := by
  intro hs h
  simp only [HSL, List.mem_cons, List.not_mem_nil, or_false] at h
  rcases h with rfl | rfl | rfl | rfl <;> exact ⟨by decide +kernel, by decide +kernel, by decide +kernel⟩
/-- the other names -/
abbrev ND : D := .dct [.inr "ann", .inr "bob", .inr "cy", .inr "dora", .inr "paul"] [.str "bob", .str "cy", .str "ann", .str "eve", .str "pia"]
theorem nd_at : ∀ x ∈ R5, dItem ND (.str x) = some (.str (nmap x)) := by
  intro x hx
  simp only [R5, List.mem_cons, List.not_mem_nil, or_false] at hx
  rcases hx with rfl | rfl | rfl | rfl | rfl <;> rfl
theorem r5_ok : ∀ x ∈ R5, PyData.strOk x = true := by decide +kernel
theorem nm_ok5 : ∀ x ∈ R5, PyData.strOk (nmap x) = true := by decide +kernel
theorem cut_neg1 (l : List D) : DL.cutD l none (some (-1)) = l.dropLast := by
  unfold DL.cutD
  rw [show HT.sIx l.length 0 none = 0 from rfl, show HT.sIx l.length l.length (some (-1)) = (-1 + (l.length : Int)).toNat from rfl]
  rw [List.drop_zero, Nat.sub_zero, show (-1 + (l.length : Int)).toNat = l.length - 1 by omega, List.dropLast_eq_take]
theorem at_last (l : List D) (x : D) (h : l.getLast? = some x) : L2.atI l (-1) = some x := by
  have hn : l ≠ [] := fun e => by rw [e] at h; cases h
  have e := L2.atI_last l.dropLast (l.getLast hn)
  rw [List.dropLast_concat_getLast hn] at e
  rw [e, ← h]
  cases l with
  | nil => cases hn rfl
  | cons a l => rfl
end T37
set_option Elab.async false
set_option linter.all false
set_option maxRecDepth 100000
set_option maxHeartbeats 1000000
namespace T37
open PySem PySem.Spec PyProof.Rows L2 DL
abbrev EV (ns : List Int) (n : Int) (l : DL.Env) : DL.Env := some (.val (.rol (ns.map D.int))) :: some (.own (drw ns n)) :: l
theorem first_of (r : Int) (r0 : 0 ≤ r) (r1 : r < 4) : ∃ hs ∈ HSL, DL.cutD [D.str "ann", D.str "bob", D.str "cy"] none (some r) = hs.map D.str := by
  have : r = 0 ∨ r = 1 ∨ r = 2 ∨ r = 3 := by omega
  rcases this with rfl | rfl | rfl | rfl
  · exact ⟨[], by simp [HSL], rfl⟩
  · exact ⟨["ann"], by simp [HSL], rfl⟩
  · exact ⟨["ann", "bob"], by simp [HSL], rfl⟩
  · exact ⟨["ann", "bob", "cy"], by simp [HSL], rfl⟩
theorem s1 (ns : List Int) (hl : ns.length ≤ 63) (n : Int) {o2 o3 o4 o5 o6 o7 o8 o9 o10 o11 o12 o13 o14 o15 o16 o17 o18 o19 o20 o21 o22 : Option D} : ∃ hs ∈ HSL, ∃ (m : Int) (tk : Bool), (1 ≤ m ∧ m ≤ 900) ∧ s_law_1 (EV ns n [o2.map .val, o3.map .val, o4.map .val, o5.map .val, o6.map .val, o7.map .val, o8.map .val, o9.map .val, o10.map .val, o11.map .val, o12.map .val, o13.map .val, o14.map .val, o15.map .val, o16.map .val, o17.map .val, o18.map .val, o19.map .val, o20.map .val, o21.map .val, o22.map .val, none, none, none, none, none, none, none, none]) = .ok .nx (EV ns (n + 1 + 1 + 1) [o2.map .val, o3.map .val, some (.val (.lst (hs.map D.str))), some (.val (.int m)), some (.val (.bl tk)), o7.map .val, o8.map .val, o9.map .val, o10.map .val, o11.map .val, o12.map .val, o13.map .val, o14.map .val, o15.map .val, o16.map .val, o17.map .val, o18.map .val, o19.map .val, o20.map .val, o21.map .val, o22.map .val, none, none, none, none, none, none, none, none]) := by
  obtain ⟨r, hr, r0, r1⟩ := lawtake ns hl n 4 (by decide)
  obtain ⟨m, hm, m0, m1⟩ := lawtake ns hl (n + 1) 900 (by decide)
  obtain ⟨t, ht, t0, t1⟩ := lawtake ns hl (n + 1 + 1) 2 (by decide)
  obtain ⟨hs, hh, hc⟩ := first_of r r0 r1
  have t3 : (3 : Nat) ≤ sizeLine := by decide
  refine ⟨hs, hh, 1 + m, decide (t = 0), ⟨by omega, by omega⟩, ?_⟩
  generalize hs.map D.str = HD at hc ⊢
  simp [s_law_1, holds, toWs, hr, hm, ht, W.put, dAdd, dEq, t3, dCut, hc]
theorem s2 (ns : List Int) (hl : ns.length ≤ 63) (n m : Int) (tk : Bool) (m1 : 1 ≤ m) (m2 : m ≤ 900) {o2 o3 o4 o5 o6 o7 o8 o9 o10 o11 o12 o13 o14 o15 o16 o17 o18 o19 o20 o21 o22 : Option D} : ∃ due : Int, 0 ≤ due ∧ due < 60 ∧ s_law_2 (EV ns n [o2.map .val, o3.map .val, o4.map .val, some (.val (.int m)), some (.val (.bl tk)), o7.map .val, o8.map .val, o9.map .val, o10.map .val, o11.map .val, o12.map .val, o13.map .val, o14.map .val, o15.map .val, o16.map .val, o17.map .val, o18.map .val, o19.map .val, o20.map .val, o21.map .val, o22.map .val, none, none, none, none, none, none, none, none]) = .ok .nx (EV ns (n + 1) [o2.map .val, o3.map .val, o4.map .val, some (.val (.int m)), some (.val (.bl tk)), some (.val (D1.dr m due tk)), o8.map .val, o9.map .val, o10.map .val, o11.map .val, o12.map .val, o13.map .val, o14.map .val, o15.map .val, o16.map .val, o17.map .val, o18.map .val, o19.map .val, o20.map .val, o21.map .val, o22.map .val, none, none, none, none, none, none, none, none]) := by
  obtain ⟨r, hr, r0, r1⟩ := lawtake ns hl n 60 (by decide)
  refine ⟨r, r0, r1, ?_⟩
  have h1 := D1.newdr m r tk m1 (by omega) r0 (by omega)
  simp [s_law_2, holds, toWs, hr, W.put, h1]
theorem fs_len (hs : List Str) (hh : hs ∈ HSL) : (hs ++ [("dora" : Str), ("paul" : Str)]).length ≤ 5 := by
  have := (f_h hs hh).1
  simp
  omega
theorem s3 (ns : List Int) (hl : ns.length ≤ 63) (n : Int) (hs : List Str) (hh : hs ∈ HSL) {o2 o3 o4 o5 o6 o7 o8 o9 o10 o11 o12 o13 o14 o15 o16 o17 o18 o19 o20 o21 o22 : Option D} : ∃ fs ∈ FS hs, ∃ n' : Int, s_law_3 (EV ns n [o2.map .val, o3.map .val, some (.val (.lst (hs.map D.str))), o5.map .val, o6.map .val, o7.map .val, o8.map .val, o9.map .val, o10.map .val, o11.map .val, o12.map .val, o13.map .val, o14.map .val, o15.map .val, o16.map .val, o17.map .val, o18.map .val, o19.map .val, o20.map .val, o21.map .val, o22.map .val, none, none, none, none, none, none, none, none]) = .ok .nx (EV ns n' [o2.map .val, o3.map .val, some (.val (.lst (hs.map D.str))), o5.map .val, o6.map .val, o7.map .val, some (.val (.lst (fs.map D.str))), o9.map .val, o10.map .val, o11.map .val, o12.map .val, o13.map .val, o14.map .val, o15.map .val, o16.map .val, o17.map .val, o18.map .val, o19.map .val, o20.map .val, o21.map .val, o22.map .val, none, none, none, none, none, none, none, none]) := by
  obtain ⟨fs, ρ', h1, h2, n', rfl⟩ := lcs_some (f := lcIt [23] (mTN 23) t_law_1 (mVar 23)) (fun ρ => ∃ n : Int, ρ = (EV ns n [o2.map .val, o3.map .val, some (.val (.lst (hs.map D.str))), o5.map .val, o6.map .val, o7.map .val, o8.map .val, o9.map .val, o10.map .val, o11.map .val, o12.map .val, o13.map .val, o14.map .val, o15.map .val, o16.map .val, o17.map .val, o18.map .val, o19.map .val, o20.map .val, o21.map .val, o22.map .val, none, none, none, none, none, none, none, none])) D.str id (hs ++ [("dora" : Str), ("paul" : Str)]) (fun x hx ρ ⟨n, hr⟩ => by
    subst hr
    obtain ⟨r, hr, r0, r1⟩ := lawtake ns hl n 3 (by decide)
    refine ⟨_, ?_, n + 1, rfl⟩
    by_cases h : r = 0
    · right
      simp [lcIt, t_law_1, wipeE, restore, holds, toWs, hr, W.put, dEq, h]
    · left
      simp [lcIt, t_law_1, wipeE, restore, holds, toWs, hr, W.put, dEq, h]) _ ⟨n, rfl⟩
  refine ⟨fs, mem_subs h2, n', ?_⟩
  have t2 : (2 : Nat) ≤ sizeLine := by decide
  have t4 : hs.length + 2 ≤ sizeLine := sizeL (by have := fs_len hs hh; simp at this; omega)
  rw [List.map_append] at h1
  simp only [List.map_cons, List.map_nil] at h1
  generalize fs.map D.str = FD at h1 ⊢
  simp [s_law_3, dAdd, t2, t4, D.seq, notOwn_eq, h1]
theorem s4 (ns : List Int) (hl : ns.length ≤ 63) (n : Int) (hs : List Str) (hh : hs ∈ HSL) (fs : List Str) (hf : fs ∈ FS hs) {o2 o3 o4 o5 o6 o7 o8 o9 o10 o11 o12 o13 o14 o15 o16 o17 o18 o19 o20 o21 o22 : Option D} : ∃ r ∈ subs hs, ∃ n' : Int, s_law_4 (EV ns n [o2.map .val, o3.map .val, some (.val (.lst (hs.map D.str))), o5.map .val, o6.map .val, o7.map .val, some (.val (.lst (fs.map D.str))), o9.map .val, o10.map .val, o11.map .val, o12.map .val, o13.map .val, o14.map .val, o15.map .val, o16.map .val, o17.map .val, o18.map .val, o19.map .val, o20.map .val, o21.map .val, o22.map .val, none, none, none, none, none, none, none, none]) = .ok .nx (EV ns n' [o2.map .val, o3.map .val, some (.val (.lst (hs.map D.str))), o5.map .val, o6.map .val, o7.map .val, some (.val (.lst (fs.map D.str))), some (.val (.lst ((fs ++ r).map D.str))), o10.map .val, o11.map .val, o12.map .val, o13.map .val, o14.map .val, o15.map .val, o16.map .val, o17.map .val, o18.map .val, o19.map .val, o20.map .val, o21.map .val, o22.map .val, none, none, none, none, none, none, none, none]) := by
  obtain ⟨r, ρ', h1, h2, n', rfl⟩ := lcs_some (f := lcIt [23] (mTN 23) t_law_2 (mVar 23)) (fun ρ => ∃ n : Int, ρ = (EV ns n [o2.map .val, o3.map .val, some (.val (.lst (hs.map D.str))), o5.map .val, o6.map .val, o7.map .val, some (.val (.lst (fs.map D.str))), o9.map .val, o10.map .val, o11.map .val, o12.map .val, o13.map .val, o14.map .val, o15.map .val, o16.map .val, o17.map .val, o18.map .val, o19.map .val, o20.map .val, o21.map .val, o22.map .val, none, none, none, none, none, none, none, none])) D.str id hs (fun x hx ρ ⟨n, hr⟩ => by
    subst hr
    obtain ⟨r, hr, r0, r1⟩ := lawtake ns hl n 2 (by decide)
    by_cases hx : x ∈ fs
    · refine ⟨_, .inl ?_, n, rfl⟩
      simp [lcIt, t_law_2, wipeE, restore, hx]
    · refine ⟨_, ?_, n + 1, rfl⟩
      by_cases h : r = 0
      · right
        simp [lcIt, t_law_2, wipeE, restore, hx, holds, toWs, hr, W.put, dEq, h]
      · left
        simp [lcIt, t_law_2, wipeE, restore, hx, holds, toWs, hr, W.put, dEq, h]) _ ⟨n, rfl⟩
  have hr := mem_subs h2
  refine ⟨r, hr, n', ?_⟩
  have a := (f_10 hs hh r hr).2
  have b := (f_9 hs hh fs hf).2.2
  have c := (f_h hs hh).1
  have t4 : (fs.map D.str).length + (r.map D.str).length ≤ sizeLine := sizeL (by simp; omega)
  have t5 : (hs.map D.str).length ≤ sizeLine := sizeL (by simp; omega)
  rw [List.map_append]
  generalize fs.map D.str = FD at h1 t4 ⊢
  generalize r.map D.str = RD at h1 t4 ⊢
  generalize hs.map D.str = HD at h1 t5 ⊢
  simp [s_law_4, D.seq, notOwn_eq, t5, h1, dAdd, t4]
theorem gs_ok {hs fs r : List Str} (hh : hs ∈ HSL) (hf : fs ∈ FS hs) (hr : r ∈ subs hs) : (∀ x ∈ fs ++ r, x ∈ D1.NM) ∧ (fs ++ r).length ≤ 40 := by
  have a := f_10 hs hh r hr
  have b := f_9 hs hh fs hf
  refine ⟨fun x hx => (List.mem_append.mp hx).elim (fun z => (b.1 x z).1) (a.1 x), ?_⟩
  rw [List.length_append]
  omega
theorem fs_ok {hs fs : List Str} (hh : hs ∈ HSL) (hf : fs ∈ FS hs) : (∀ x ∈ fs, x ∈ D1.NM) ∧ fs.length ≤ 40 := by
  have b := f_9 hs hh fs hf
  exact ⟨fun x z => (b.1 x z).1, by omega⟩
theorem s5 (ns : List Int) (n m due : Int) (tk : Bool) (hs : List Str) (hh : hs ∈ HSL) (fs : List Str) (hf : fs ∈ FS hs) (r : List Str) (hr : r ∈ subs hs) {o2 o3 o4 o5 o6 o7 o8 o9 o10 o11 o12 o13 o14 o15 o16 o17 o18 o19 o20 o21 o22 : Option D} : s_law_5 (EV ns n [o2.map .val, o3.map .val, some (.val (.lst (hs.map D.str))), o5.map .val, o6.map .val, some (.val (D1.dr m due tk)), some (.val (.lst (fs.map D.str))), some (.val (.lst ((fs ++ r).map D.str))), o10.map .val, o11.map .val, o12.map .val, o13.map .val, o14.map .val, o15.map .val, o16.map .val, o17.map .val, o18.map .val, o19.map .val, o20.map .val, o21.map .val, o22.map .val, none, none, none, none, none, none, none, none]) = .ok .nx (EV ns n [o2.map .val, o3.map .val, some (.val (.lst (hs.map D.str))), o5.map .val, o6.map .val, some (.val (D1.dr m due tk)), some (.val (.lst (fs.map D.str))), some (.val (.lst ((fs ++ r).map D.str))), some (.val (D1.jres tk hs fs)), some (.val (D1.jres tk hs (fs ++ r))), o12.map .val, o13.map .val, o14.map .val, o15.map .val, o16.map .val, o17.map .val, o18.map .val, o19.map .val, o20.map .val, o21.map .val, o22.map .val, none, none, none, none, none, none, none, none]) := by
  have q1 := D1.judge m due tk hs fs (hd1 hs hh) (fs_ok hh hf).1 (fs_ok hh hf).2
  have q2 := D1.judge m due tk hs (fs ++ r) (hd1 hs hh) (gs_ok hh hf hr).1 (gs_ok hh hf hr).2
  have t2 : (2 : Nat) ≤ sizeLine := by decide
  unfold D1.dr at *
  generalize D.ob 0 [.int m, .str "dora", .str "paul", .int due, .bl tk] = DR at q1 q2 ⊢
  generalize (fs ++ r).map D.str = GD at q2 ⊢
  generalize fs.map D.str = FD at q1 ⊢
  generalize hs.map D.str = HD at q1 q2 ⊢
  simp [s_law_5, toWs, q1, q2, t2]
theorem s6 (ns : List Int) (n : Int) (hs : List Str) (hh : hs ∈ HSL) {o2 o3 o4 o5 o6 o7 o8 o9 o10 o11 o12 o13 o14 o15 o16 o17 o18 o19 o20 o21 o22 : Option D} : s_law_6 (EV ns n [o2.map .val, o3.map .val, some (.val (.lst (hs.map D.str))), o5.map .val, o6.map .val, o7.map .val, o8.map .val, o9.map .val, o10.map .val, o11.map .val, o12.map .val, o13.map .val, o14.map .val, o15.map .val, o16.map .val, o17.map .val, o18.map .val, o19.map .val, o20.map .val, o21.map .val, o22.map .val, none, none, none, none, none, none, none, none]) = .ok .nx (EV ns n [o2.map .val, o3.map .val, some (.val (.lst (hs.map D.str))), o5.map .val, o6.map .val, o7.map .val, o8.map .val, o9.map .val, o10.map .val, o11.map .val, some (.val (.lst ((D1.rows hs).map D.str))), o13.map .val, o14.map .val, o15.map .val, o16.map .val, o17.map .val, o18.map .val, o19.map .val, o20.map .val, o21.map .val, o22.map .val, none, none, none, none, none, none, none, none]) := by
  have t1 : (1 : Nat) ≤ sizeLine := by decide
  have t4 : 1 + hs.length ≤ sizeLine := sizeL (by have := (f_h hs hh).1; omega)
  simp [s_law_6, dAdd, t1, t4]
theorem ne_bl (a b : Bool) : dNe (.bl a) (.bl b) = some (.bl (!decide (a = b))) := by
  cases a <;> cases b <;> rfl
theorem s7 (ns : List Int) (n : Int) (tk : Bool) (hs : List Str) (hh : hs ∈ HSL) (fs : List Str) (hf : fs ∈ FS hs) (r : List Str) (hr : r ∈ subs hs) {o2 o3 o4 o5 o6 o7 o8 o9 o10 o11 o12 o13 o14 o15 o16 o17 o18 o19 o20 o21 o22 : Option D} : s_law_7 (EV ns n [o2.map .val, o3.map .val, o4.map .val, o5.map .val, o6.map .val, o7.map .val, o8.map .val, o9.map .val, some (.val (D1.jres tk hs fs)), some (.val (D1.jres tk hs (fs ++ r))), some (.val (.lst ((D1.rows hs).map D.str))), o13.map .val, o14.map .val, o15.map .val, o16.map .val, o17.map .val, o18.map .val, o19.map .val, o20.map .val, o21.map .val, o22.map .val, none, none, none, none, none, none, none, none]) = .ok .nx (EV ns n [o2.map .val, o3.map .val, o4.map .val, o5.map .val, o6.map .val, o7.map .val, o8.map .val, o9.map .val, some (.val (D1.jres tk hs fs)), some (.val (D1.jres tk hs (fs ++ r))), some (.val (.lst ((D1.rows hs).map D.str))), o13.map .val, o14.map .val, o15.map .val, o16.map .val, o17.map .val, o18.map .val, o19.map .val, o20.map .val, o21.map .val, o22.map .val, none, none, none, none, none, none, none, none]) := by
  have b1 := D1.bool_j tk hs fs
  have b2 := D1.bool_j tk hs (fs ++ r)
  have t1 := D1.tru_j tk hs fs
  have h1 := D1.fld_hand tk hs fs
  have h2 := D1.fld_hand tk hs (fs ++ r)
  obtain ⟨e, k⟩ := f_7 hs hh fs hf r hr tk
  have i1 := index_strs (f_1 hs hh fs hf tk).1
  rw [e] at b2
  have nb := ne_bl (D1.pays tk fs) (D1.pays tk fs)
  have ls : (D.lst ((D1.rows hs).map D.str)).lis.isSome = true := rfl
  generalize D1.jres tk hs fs = J1 at b1 t1 h1 ⊢
  generalize D1.jres tk hs (fs ++ r) = J2 at b2 h2 ⊢
  cases hp : D1.pays tk fs with
  | true =>
    rw [hp] at b1 b2 t1 nb
    generalize D.lst ((D1.rows hs).map D.str) = RD at ls ⊢
    simp [s_law_7, b1, b2, nb, t1]
  | false =>
    obtain ⟨k1, k2⟩ := k hp
    have i2 := index_strs k2
    have k3 : ¬ ((((D1.rows hs).idxOf (D1.hnd tk hs (fs ++ r)) : Nat) : Int) < (((D1.rows hs).idxOf (D1.hnd tk hs fs) : Nat) : Int)) := by omega
    rw [hp] at b1 b2 t1 nb
    generalize (D1.rows hs).idxOf (D1.hnd tk hs (fs ++ r)) = I2 at i2 k3
    generalize (D1.rows hs).idxOf (D1.hnd tk hs fs) = I1 at i1 k3
    generalize D.lst ((D1.rows hs).map D.str) = RD at ls i1 i2 ⊢
    simp [s_law_7, b1, b2, nb, t1, h1, h2, ls, i1, i2, dLt, k3]
theorem named (l : List Str) (h : ∀ x ∈ l, x ∈ R5) (ρ : DL.Env) (h2 : ρ[2]? = some (some (.val ND))) (h23 : ρ[23]? = some none) (k : 23 < ρ.length) (tt : DL.M D) (htt : tt = e_law_1 ∨ tt = e_law_2) : lcs (lcIt [23] (mTN 23) mTrue tt) (l.map D.str) ρ = .ok ((l.map nmap).map D.str) ρ := by
  refine lcs_map (f := lcIt [23] (mTN 23) mTrue tt) D.str D.str nmap l fun x hx => ?_
  have q := nd_at x (h x hx)
  have e0 : (ρ.set 23 none) = ρ := by
    have := List.set_getElem_self (as := ρ) (i := 23) k
    have e : ρ[23] = none := by
      have := h23
      rw [List.getElem?_eq_getElem k] at this
      exact Option.some.inj this
    rwa [e] at this
  generalize hND : ND = nd at q h2
  rcases htt with e | e <;> subst e <;> simp [lcIt, e_law_1, e_law_2, wipeE, restore, h2, q, k, h23, e0, mTN, mTrue]
theorem s8 (ns : List Int) (n m due : Int) (tk : Bool) (hs : List Str) (hh : hs ∈ HSL) (fs : List Str) (hf : fs ∈ FS hs) (m1 : 1 ≤ m) (m2 : m ≤ 900) (d1 : 0 ≤ due) (d2 : due < 60) {o2 o3 o4 o5 o6 o7 o8 o9 o10 o11 o12 o13 o14 o15 o16 o17 o18 o19 o20 o21 o22 : Option D} : s_law_8 (EV ns n [some (.val (ND)), o3.map .val, some (.val (.lst (hs.map D.str))), some (.val (.int m)), some (.val (.bl tk)), some (.val (D1.dr m due tk)), some (.val (.lst (fs.map D.str))), o9.map .val, o10.map .val, o11.map .val, o12.map .val, o13.map .val, o14.map .val, o15.map .val, o16.map .val, o17.map .val, o18.map .val, o19.map .val, o20.map .val, o21.map .val, o22.map .val, none, none, none, none, none, none, none, none]) = .ok .nx (EV ns n [some (.val (ND)), o3.map .val, some (.val (.lst (hs.map D.str))), some (.val (.int m)), some (.val (.bl tk)), some (.val (D1.dr m due tk)), some (.val (.lst (fs.map D.str))), o9.map .val, o10.map .val, o11.map .val, o12.map .val, some (.val (D2.jres tk (hs.map nmap) (fs.map nmap))), o14.map .val, o15.map .val, o16.map .val, o17.map .val, o18.map .val, o19.map .val, o20.map .val, o21.map .val, o22.map .val, none, none, none, none, none, none, none, none]) := by
  have f9 := f_9 hs hh fs hf
  have q1 := D2.judge m due tk (hs.map nmap) (fs.map nmap) (hd2 hs hh) f9.2.1 (by rw [List.length_map]; omega)
  have q2 := D2.newdr m due tk m1 (by omega) d1 (by omega)
  have n1 := named hs (f_h hs hh).2 (EV ns n [some (.val (ND)), o3.map .val, some (.val (.lst (hs.map D.str))), some (.val (.int m)), some (.val (.bl tk)), some (.val (D1.dr m due tk)), some (.val (.lst (fs.map D.str))), o9.map .val, o10.map .val, o11.map .val, o12.map .val, o13.map .val, o14.map .val, o15.map .val, o16.map .val, o17.map .val, o18.map .val, o19.map .val, o20.map .val, o21.map .val, o22.map .val, none, none, none, none, none, none, none, none]) rfl rfl (by simp) _ (.inr rfl)
  have n2 := named fs (fun x hx => (f9.1 x hx).2) (EV ns n [some (.val (ND)), o3.map .val, some (.val (.lst (hs.map D.str))), some (.val (.int m)), some (.val (.bl tk)), some (.val (D1.dr m due tk)), some (.val (.lst (fs.map D.str))), o9.map .val, o10.map .val, o11.map .val, o12.map .val, o13.map .val, o14.map .val, o15.map .val, o16.map .val, o17.map .val, o18.map .val, o19.map .val, o20.map .val, o21.map .val, o22.map .val, none, none, none, none, none, none, none, none]) rfl rfl (by simp) _ (.inl rfl)
  have t1 : (hs.map D.str).length ≤ sizeLine := sizeL (by have := (f_h hs hh).1; simp; omega)
  have t2 : (fs.map D.str).length ≤ sizeLine := sizeL (by simp; omega)
  have f3 : dFld [(0, 3)] (D1.dr m due tk) = some (.int due) := rfl
  unfold D2.dr at *
  unfold D1.dr at *
  generalize D.ob 0 [.int m, .str "dora", .str "paul", .int due, .bl tk] = DR at *
  generalize D2.jres tk (hs.map nmap) (fs.map nmap) = J at *
  generalize (hs.map nmap).map D.str = H2 at *
  generalize (fs.map nmap).map D.str = F2 at *
  generalize hs.map D.str = HD at *
  generalize fs.map D.str = FD at *
  generalize ND = nd at *
  simp [s_law_8, toWs, f3, q2, holds, W.put, D.seq, notOwn_eq, t1, t2, n1, n2, q1]
theorem ne_str (a b : Str) : dNe (.str a) (.str b) = some (.bl (!decide (a = b))) := by
  simp [dNe, eqB, D.sc, scal]
theorem pays_f {tk : Bool} {fs : List Str} (h : D2.pays tk fs = D1.pays tk fs) (hp : D1.pays tk fs = false) : D2.pays tk fs = false := by rw [h, hp]
theorem named2 (l : List (Str × Str)) (h : ∀ q ∈ l, q.1 ∈ R5 ∧ q.2 ∈ R5) (ns : List Int) (n : Int) (O1 O2 : D) {o2 o3 o4 o5 o6 o7 o8 o9 o10 o11 o12 o13 o14 o15 o16 o17 o18 o19 o20 o21 o22 : Option D} : lcs (lcIt [26, 27] (mTT (mTCons (mTN 26) (mTCons (mTN 27) mTNil))) mTrue e_law_3) (l.map D1.pr) (EV ns n [some (.val (ND)), o3.map .val, o4.map .val, o5.map .val, o6.map .val, o7.map .val, o8.map .val, o9.map .val, some (.val (O1)), o11.map .val, o12.map .val, some (.val (O2)), o14.map .val, o15.map .val, o16.map .val, o17.map .val, o18.map .val, o19.map .val, o20.map .val, o21.map .val, o22.map .val, none, none, none, none, none, none, none, none]) = .ok ((l.map nm2).map D1.pr) (EV ns n [some (.val (ND)), o3.map .val, o4.map .val, o5.map .val, o6.map .val, o7.map .val, o8.map .val, o9.map .val, some (.val (O1)), o11.map .val, o12.map .val, some (.val (O2)), o14.map .val, o15.map .val, o16.map .val, o17.map .val, o18.map .val, o19.map .val, o20.map .val, o21.map .val, o22.map .val, none, none, none, none, none, none, none, none]) := by
  have t2 : (2 : Nat) ≤ sizeLine := by decide
  refine lcs_map (f := lcIt [26, 27] (mTT (mTCons (mTN 26) (mTCons (mTN 27) mTNil))) mTrue e_law_3) D1.pr D1.pr nm2 l fun x hx => ?_
  have q1 := nd_at x.1 (h x hx).1
  have q2 := nd_at x.2 (h x hx).2
  generalize hND : ND = nd at q1 q2 ⊢
  simp [lcIt, e_law_3, wipeE, restore, q1, q2, t2, nm2]
theorem s9 (ns : List Int) (n : Int) (tk : Bool) (hs : List Str) (hh : hs ∈ HSL) (fs : List Str) (hf : fs ∈ FS hs) {o2 o3 o4 o5 o6 o7 o8 o9 o10 o11 o12 o13 o14 o15 o16 o17 o18 o19 o20 o21 o22 : Option D} : s_law_9 (EV ns n [some (.val (ND)), o3.map .val, o4.map .val, o5.map .val, o6.map .val, o7.map .val, o8.map .val, o9.map .val, some (.val (D1.jres tk hs fs)), o11.map .val, o12.map .val, some (.val (D2.jres tk (hs.map nmap) (fs.map nmap))), o14.map .val, o15.map .val, o16.map .val, o17.map .val, o18.map .val, o19.map .val, o20.map .val, o21.map .val, o22.map .val, none, none, none, none, none, none, none, none]) = .ok .nx (EV ns n [some (.val (ND)), o3.map .val, o4.map .val, o5.map .val, o6.map .val, o7.map .val, o8.map .val, o9.map .val, some (.val (D1.jres tk hs fs)), o11.map .val, o12.map .val, some (.val (D2.jres tk (hs.map nmap) (fs.map nmap))), o14.map .val, o15.map .val, o16.map .val, o17.map .val, o18.map .val, o19.map .val, o20.map .val, o21.map .val, o22.map .val, none, none, none, none, none, none, none, none]) := by
  obtain ⟨e1, e2, e3⟩ := f_2 hs hh fs hf tk
  have t1 := D1.tru_j tk hs fs
  have h1 := D1.fld_hand tk hs fs
  have h2 := D2.fld_hand tk (hs.map nmap) (fs.map nmap)
  rw [e2] at h2
  have q := nd_at _ (f_1 hs hh fs hf tk).2
  have ne := ne_str (nmap (D1.hnd tk hs fs)) (nmap (D1.hnd tk hs fs))
  cases hp : D1.pays tk fs with
  | true =>
    rw [hp] at t1
    generalize D1.jres tk hs fs = J1 at *
    generalize D2.jres tk (hs.map nmap) (fs.map nmap) = J2 at *
    generalize ND = nd at *
    simp [s_law_9, h1, h2, q, ne, t1]
  | false =>
    have w1 := D1.fld_way tk hs fs hp
    have w2 := D2.fld_way tk (hs.map nmap) (fs.map nmap) (by rw [e1, hp])
    change _ = some (D.tup ((way1 hs fs).map D1.pr)) at w1
    change _ = some (D.tup ((way2 (hs.map nmap) (fs.map nmap)).map D1.pr)) at w2
    rw [e3] at w2
    have lc := named2 (way1 hs fs) (fun q hq => (f_6 hs hh fs hf q hq).2) ns n (D1.jres tk hs fs) (D2.jres tk (hs.map nmap) (fs.map nmap)) (o2 := o2) (o3 := o3) (o4 := o4) (o5 := o5) (o6 := o6) (o7 := o7) (o8 := o8) (o9 := o9) (o10 := o10) (o11 := o11) (o12 := o12) (o13 := o13) (o14 := o14) (o15 := o15) (o16 := o16) (o17 := o17) (o18 := o18) (o19 := o19) (o20 := o20) (o21 := o21) (o22 := o22)
    have t4 : ((way1 hs fs).map D1.pr).length ≤ sizeLine := sizeL (by have := f_6b hs hh fs hf; simp; omega)
    have eq := eq_tup (ePr eStr eStr) (l := (way1 hs fs).map nm2) (r := (way1 hs fs).map nm2) (fun a ha => by
      obtain ⟨b, hb, rfl⟩ := List.mem_map.mp ha
      exact ⟨nm_ok5 _ (f_6 hs hh fs hf b hb).2.1, nm_ok5 _ (f_6 hs hh fs hf b hb).2.2⟩) (fun a ha => by
      obtain ⟨b, hb, rfl⟩ := List.mem_map.mp ha
      exact ⟨nm_ok5 _ (f_6 hs hh fs hf b hb).2.1, nm_ok5 _ (f_6 hs hh fs hf b hb).2.2⟩) (by decide)
    change eqB (.tup (((way1 hs fs).map nm2).map D1.pr)) (.tup (((way1 hs fs).map nm2).map D1.pr)) = _ at eq
    rw [hp] at t1
    generalize D1.jres tk hs fs = J1 at *
    generalize D2.jres tk (hs.map nmap) (fs.map nmap) = J2 at *
    generalize ((way1 hs fs).map nm2).map D1.pr = W2 at *
    generalize (way1 hs fs).map D1.pr = W1 at *
    generalize ND = nd at *
    simp [s_law_9, h1, h2, q, ne, t1, w1, w2, fTup, D.seq, notOwn_eq, t4, lc, dNe, eq]
theorem s10a (l : List (Str × Str)) (ns : List Int) (n : Int) (A B C : D) {o2 o3 o4 o5 o6 o7 o8 o9 o10 o11 o12 o13 o14 o15 o16 o17 o18 o19 o20 o21 o22 : Option D} : lcs (lcIt [26, 27] (mTT (mTCons (mTN 26) (mTCons (mTN 27) mTNil))) mTrue (mVar 26)) (l.map D1.pr) (EV ns n [o2.map .val, o3.map .val, some (.val (A)), o5.map .val, o6.map .val, some (.val (B)), o8.map .val, o9.map .val, some (.val (C)), o11.map .val, o12.map .val, o13.map .val, o14.map .val, o15.map .val, o16.map .val, o17.map .val, o18.map .val, o19.map .val, o20.map .val, o21.map .val, o22.map .val, none, none, none, none, none, none, none, none]) = .ok ((l.map (·.1)).map D.str) (EV ns n [o2.map .val, o3.map .val, some (.val (A)), o5.map .val, o6.map .val, some (.val (B)), o8.map .val, o9.map .val, some (.val (C)), o11.map .val, o12.map .val, o13.map .val, o14.map .val, o15.map .val, o16.map .val, o17.map .val, o18.map .val, o19.map .val, o20.map .val, o21.map .val, o22.map .val, none, none, none, none, none, none, none, none]) :=
  lcs_map (f := lcIt [26, 27] (mTT (mTCons (mTN 26) (mTCons (mTN 27) mTNil))) mTrue (mVar 26)) D1.pr D.str (·.1) l fun x hx => by
    simp [lcIt, wipeE, restore]
theorem s10b (l : List (Str × Str)) (ns : List Int) (n : Int) (A B C E : D) {o2 o3 o4 o5 o6 o7 o8 o9 o10 o11 o12 o13 o14 o15 o16 o17 o18 o19 o20 o21 o22 : Option D} : lcs (lcIt [26, 27] (mTT (mTCons (mTN 26) (mTCons (mTN 27) mTNil))) mTrue (mVar 27)) (l.map D1.pr) (EV ns n [o2.map .val, o3.map .val, some (.val (A)), o5.map .val, o6.map .val, some (.val (B)), o8.map .val, o9.map .val, some (.val (C)), o11.map .val, o12.map .val, o13.map .val, o14.map .val, o15.map .val, o16.map .val, o17.map .val, o18.map .val, o19.map .val, o20.map .val, o21.map .val, some (.val (E)), none, none, none, none, none, none, none, none]) = .ok ((l.map (·.2)).map D.str) (EV ns n [o2.map .val, o3.map .val, some (.val (A)), o5.map .val, o6.map .val, some (.val (B)), o8.map .val, o9.map .val, some (.val (C)), o11.map .val, o12.map .val, o13.map .val, o14.map .val, o15.map .val, o16.map .val, o17.map .val, o18.map .val, o19.map .val, o20.map .val, o21.map .val, some (.val (E)), none, none, none, none, none, none, none, none]) :=
  lcs_map (f := lcIt [26, 27] (mTT (mTCons (mTN 26) (mTCons (mTN 27) mTNil))) mTrue (mVar 27)) D1.pr D.str (·.2) l fun x hx => by
    simp [lcIt, wipeE, restore]
theorem s10c (l : List (Str × Str)) (ns : List Int) (n m due : Int) (tk : Bool) (hs : List Str) (hh : hs ∈ HSL) (h : ∀ q ∈ l, q.2 ∈ D1.rows hs ∧ q.1 ∈ (D1.rows hs).take ((D1.rows hs).idxOf q.2)) (C E : D) {o2 o3 o4 o5 o6 o7 o8 o9 o10 o11 o12 o13 o14 o15 o16 o17 o18 o19 o20 o21 o22 : Option D} : lcs (lcIt [26, 27] (mTT (mTCons (mTN 26) (mTCons (mTN 27) mTNil))) mTrue e_law_4) (l.map D1.pr) (EV ns n [o2.map .val, o3.map .val, some (.val (.lst (hs.map D.str))), o5.map .val, o6.map .val, some (.val (D1.dr m due tk)), o8.map .val, o9.map .val, some (.val (C)), o11.map .val, o12.map .val, o13.map .val, o14.map .val, o15.map .val, o16.map .val, o17.map .val, o18.map .val, o19.map .val, o20.map .val, o21.map .val, some (.val (E)), none, none, none, none, none, none, none, none]) = .ok ((l.map fun _ => false).map D.bl) (EV ns n [o2.map .val, o3.map .val, some (.val (.lst (hs.map D.str))), o5.map .val, o6.map .val, some (.val (D1.dr m due tk)), o8.map .val, o9.map .val, some (.val (C)), o11.map .val, o12.map .val, o13.map .val, o14.map .val, o15.map .val, o16.map .val, o17.map .val, o18.map .val, o19.map .val, o20.map .val, o21.map .val, some (.val (E)), none, none, none, none, none, none, none, none]) :=
  lcs_map (f := lcIt [26, 27] (mTT (mTCons (mTN 26) (mTCons (mTN 27) mTNil))) mTrue e_law_4) D1.pr D.bl (fun _ => false) l fun x hx => by
    obtain ⟨h1, h2⟩ := h x hx
    have q := D1.asked m due tk hs (hd1 hs hh) x.2 h1
    have p := nin_strs x.1 ((D1.rows hs).take ((D1.rows hs).idxOf x.2)).reverse
    have p2 : x.1 ∈ ((D1.rows hs).take ((D1.rows hs).idxOf x.2)).reverse := List.mem_reverse.mpr h2
    generalize ((D1.rows hs).take ((D1.rows hs).idxOf x.2)).reverse = R at *
    unfold D1.dr at *
    generalize D.ob 0 [.int m, .str "dora", .str "paul", .int due, .bl tk] = DR at *
    generalize hs.map D.str = HD at *
    simp [lcIt, e_law_4, wipeE, restore, toWs, q, p, p2]
theorem s10 (ns : List Int) (n m due : Int) (tk : Bool) (hs : List Str) (hh : hs ∈ HSL) (fs : List Str) (hf : fs ∈ FS hs) {o2 o3 o4 o5 o6 o7 o8 o9 o10 o11 o12 o13 o14 o15 o16 o17 o18 o19 o20 o21 o22 : Option D} : ∃ o22' : Option D, s_law_10 (EV ns n [o2.map .val, o3.map .val, some (.val (.lst (hs.map D.str))), o5.map .val, o6.map .val, some (.val (D1.dr m due tk)), o8.map .val, o9.map .val, some (.val (D1.jres tk hs fs)), o11.map .val, o12.map .val, o13.map .val, o14.map .val, o15.map .val, o16.map .val, o17.map .val, o18.map .val, o19.map .val, o20.map .val, o21.map .val, o22.map .val, none, none, none, none, none, none, none, none]) = .ok .nx (EV ns n [o2.map .val, o3.map .val, some (.val (.lst (hs.map D.str))), o5.map .val, o6.map .val, some (.val (D1.dr m due tk)), o8.map .val, o9.map .val, some (.val (D1.jres tk hs fs)), o11.map .val, o12.map .val, o13.map .val, o14.map .val, o15.map .val, o16.map .val, o17.map .val, o18.map .val, o19.map .val, o20.map .val, o21.map .val, o22'.map .val, none, none, none, none, none, none, none, none]) := by
  have t1 := D1.tru_j tk hs fs
  have h1 := D1.fld_hand tk hs fs
  cases hp : D1.pays tk fs with
  | true =>
    rw [hp] at t1
    refine ⟨o22, ?_⟩
    unfold D1.dr at *
    generalize D.ob 0 [.int m, .str "dora", .str "paul", .int due, .bl tk] = DR at *
    generalize D1.jres tk hs fs = J1 at *
    simp [s_law_10, t1]
  | false =>
    rw [hp] at t1
    have w1 := D1.fld_way tk hs fs hp
    change _ = some (D.tup ((way1 hs fs).map D1.pr)) at w1
    have q1 := D1.holder m due tk hs (hd1 hs hh)
    have g5 := f_5 hs hh fs hf
    have g5b := f_5b hs hh fs hf tk hp
    have g6 := f_6 hs hh fs hf
    have g6b := f_6b hs hh fs hf
    have a := s10a (way1 hs fs) ns n (.lst (hs.map D.str)) (D1.dr m due tk) (D1.jres tk hs fs) (o2 := o2) (o3 := o3) (o4 := o4) (o5 := o5) (o6 := o6) (o7 := o7) (o8 := o8) (o9 := o9) (o10 := o10) (o11 := o11) (o12 := o12) (o13 := o13) (o14 := o14) (o15 := o15) (o16 := o16) (o17 := o17) (o18 := o18) (o19 := o19) (o20 := o20) (o21 := o21) (o22 := o22)
    have b := s10b (way1 hs fs) ns n (.lst (hs.map D.str)) (D1.dr m due tk) (D1.jres tk hs fs) (.lst ((D1.lastR hs :: (way1 hs fs).map (·.1)).map D.str)) (o2 := o2) (o3 := o3) (o4 := o4) (o5 := o5) (o6 := o6) (o7 := o7) (o8 := o8) (o9 := o9) (o10 := o10) (o11 := o11) (o12 := o12) (o13 := o13) (o14 := o14) (o15 := o15) (o16 := o16) (o17 := o17) (o18 := o18) (o19 := o19) (o20 := o20) (o21 := o21) (o22 := o22)
    have c := s10c (way1 hs fs) ns n m due tk hs hh (fun q hq => (g6 q hq).1) (D1.jres tk hs fs) (.lst ((D1.lastR hs :: (way1 hs fs).map (·.1)).map D.str)) (o2 := o2) (o3 := o3) (o4 := o4) (o5 := o5) (o6 := o6) (o7 := o7) (o8 := o8) (o9 := o9) (o10 := o10) (o11 := o11) (o12 := o12) (o13 := o13) (o14 := o14) (o15 := o15) (o16 := o16) (o17 := o17) (o18 := o18) (o19 := o19) (o20 := o20) (o21 := o21) (o22 := o22)
    have anyf := any_map ((way1 hs fs).map fun _ => false)
    have anyf2 : ((way1 hs fs).map fun _ => false).any id = false := by simp
    rw [anyf2] at anyf
    have cut := cut_neg1 ((D1.lastR hs :: (way1 hs fs).map (·.1)).map D.str)
    rw [← List.map_dropLast, ← g5] at cut
    have lst : L2.atI ((D1.lastR hs :: (way1 hs fs).map (·.1)).map D.str) (-1) = some (.str (D1.hnd tk hs fs)) := at_last _ _ (by rw [List.getLast?_map, ← g5b]; rfl)
    have s5 : ∀ x ∈ (way1 hs fs).map (·.2), PyData.strOk x = true := fun x hx => by
      obtain ⟨q, hq, rfl⟩ := List.mem_map.mp hx
      exact r5_ok _ (g6 q hq).2.2
    have eq := eq_lst eStr s5 s5 (by decide)
    change eqB (.lst (((way1 hs fs).map (·.2)).map D.str)) (.lst (((way1 hs fs).map (·.2)).map D.str)) = _ at eq
    have ne := ne_str (D1.hnd tk hs fs) (D1.hnd tk hs fs)
    have t4 : ((way1 hs fs).map D1.pr).length ≤ sizeLine := sizeL (by simp; omega)
    have t5 : 1 + (((way1 hs fs).map (·.1)).map D.str).length ≤ sizeLine := sizeL (by simp; omega)
    have t6 : (1 : Nat) ≤ sizeLine := by decide
    refine ⟨some (.lst ((D1.lastR hs :: (way1 hs fs).map (·.1)).map D.str)), ?_⟩
    rw [List.map_cons] at *
    simp only [Option.map_some]
    unfold D1.dr at *
    generalize D.ob 0 [.int m, .str "dora", .str "paul", .int due, .bl tk] = DR at *
    generalize D1.jres tk hs fs = J1 at *
    generalize ((way1 hs fs).map fun _ => false).map D.bl = BD at *
    generalize ((way1 hs fs).map (·.2)).map D.str = W2 at *
    generalize ((way1 hs fs).map (·.1)).map D.str = W1 at *
    generalize (way1 hs fs).map D1.pr = WD at *
    generalize hs.map D.str = HD at *
    simp [s_law_10, t1, toWs, q1, t6, w1, D.seq, notOwn_eq, t4, a, dAdd, t5, b, dCut, dNeg, cut, dNe, eq, h1, dIx, lst, c, anyf, dTru]
theorem s11 (ns : List Int) (n m due : Int) (tk : Bool) (hs : List Str) (hh : hs ∈ HSL) (fs : List Str) (hf : fs ∈ FS hs) {o2 o3 o4 o5 o6 o7 o8 o9 o10 o11 o12 o13 o14 o15 o16 o17 o18 o19 o20 o21 o22 : Option D} : s_law_11 (EV ns n [o2.map .val, o3.map .val, some (.val (.lst (hs.map D.str))), o5.map .val, o6.map .val, some (.val (D1.dr m due tk)), some (.val (.lst (fs.map D.str))), o9.map .val, o10.map .val, o11.map .val, o12.map .val, o13.map .val, o14.map .val, o15.map .val, o16.map .val, o17.map .val, o18.map .val, o19.map .val, o20.map .val, o21.map .val, o22.map .val, none, none, none, none, none, none, none, none]) = .ok .nx (EV ns n [o2.map .val, o3.map .val, some (.val (.lst (hs.map D.str))), o5.map .val, o6.map .val, some (.val (D1.dr m due tk)), some (.val (.lst (fs.map D.str))), o9.map .val, o10.map .val, o11.map .val, o12.map .val, o13.map .val, some (.val (D1.lostD m tk hs fs)), o15.map .val, o16.map .val, o17.map .val, o18.map .val, o19.map .val, o20.map .val, o21.map .val, o22.map .val, none, none, none, none, none, none, none, none]) := by
  have q1 := D1.losses m due tk hs fs (hd1 hs hh) (fs_ok hh hf).1 (fs_ok hh hf).2
  unfold D1.dr at *
  generalize D.ob 0 [.int m, .str "dora", .str "paul", .int due, .bl tk] = DR at *
  generalize fs.map D.str = FD at *
  generalize hs.map D.str = HD at *
  simp [s_law_11, toWs, q1]
theorem s12c (ns : List Int) (n m due : Int) (tk : Bool) (m1 : 1 ≤ m) (m2 : m ≤ 900) (A B C D' E F : D) {o2 o3 o4 o5 o6 o7 o8 o9 o10 o11 o12 o13 o14 o15 o16 o17 o18 o19 o20 o21 o22 : Option D} : lcs (lcIt [28] (mTN 28) mTrue e_law_5) (rngD 0 60) (EV ns n [o2.map .val, o3.map .val, some (.val (A)), some (.val (B)), o6.map .val, some (.val (D1.dr m due tk)), some (.val (C)), o9.map .val, some (.val (D')), o11.map .val, some (.val (E)), o13.map .val, some (.val (F)), o15.map .val, o16.map .val, o17.map .val, o18.map .val, o19.map .val, o20.map .val, o21.map .val, o22.map .val, none, none, none, none, none, none, none, none]) = .ok ((List.replicate 60 false).map D.bl) (EV ns n [o2.map .val, o3.map .val, some (.val (A)), some (.val (B)), o6.map .val, some (.val (D1.dr m due tk)), some (.val (C)), o9.map .val, some (.val (D')), o11.map .val, some (.val (E)), o13.map .val, some (.val (F)), o15.map .val, o16.map .val, o17.map .val, o18.map .val, o19.map .val, o20.map .val, o21.map .val, o22.map .val, none, none, none, none, none, none, none, none]) := by
  have h := lcs_map (f := lcIt [28] (mTN 28) mTrue e_law_5) (ρ := (EV ns n [o2.map .val, o3.map .val, some (.val (A)), some (.val (B)), o6.map .val, some (.val (D1.dr m due tk)), some (.val (C)), o9.map .val, some (.val (D')), o11.map .val, some (.val (E)), o13.map .val, some (.val (F)), o15.map .val, o16.map .val, o17.map .val, o18.map .val, o19.map .val, o20.map .val, o21.map .val, o22.map .val, none, none, none, none, none, none, none, none])) D.int D.bl (fun _ => false) (Cov.rng 60) (fun i hi => by
    have hi2 : 0 ≤ i ∧ i < 60 := by
      unfold Cov.rng at hi
      obtain ⟨k, hk, e⟩ := List.mem_map.mp hi
      have := List.mem_range.mp hk
      omega
    have q1 := worth m due tk i 3 m1 (by omega) hi2.1 (by omega) (by decide) (by decide)
    have q2 := worth m due tk (i + 1) 3 m1 (by omega) (by omega) (by omega) (by decide) (by decide)
    have le := wrth_up m due i (by omega)
    have le2 : ¬ wrth m due (i + 1) 3 < wrth m due i 3 := by omega
    unfold D1.dr at *
    generalize D.ob 0 [.int m, .str "dora", .str "paul", .int due, .bl tk] = DR at *
    simp [lcIt, e_law_5, wipeE, restore, toWs, q1, dAdd, q2, dGt, le2])
  rw [← rng0] at h
  have e : (Cov.rng 60).map (fun _ => false) = List.replicate 60 false := rfl
  rw [e] at h
  exact h
theorem ne_int (a b : Int) : dNe (.int a) (.int b) = some (.bl (!decide (a = b))) := by
  simp [dNe, eqB, D.sc, scal]
theorem s12 (ns : List Int) (n m due : Int) (tk : Bool) (hs : List Str) (hh : hs ∈ HSL) (fs : List Str) (hf : fs ∈ FS hs) (m1 : 1 ≤ m) (m2 : m ≤ 900) {o2 o3 o4 o5 o6 o7 o8 o9 o10 o11 o12 o13 o14 o15 o16 o17 o18 o19 o20 o21 o22 : Option D} : s_law_12 (EV ns n [o2.map .val, o3.map .val, some (.val (.lst (hs.map D.str))), some (.val (.int m)), o6.map .val, some (.val (D1.dr m due tk)), some (.val (.lst (fs.map D.str))), o9.map .val, some (.val (D1.jres tk hs fs)), o11.map .val, some (.val (.lst ((D1.rows hs).map D.str))), o13.map .val, some (.val (D1.lostD m tk hs fs)), o15.map .val, o16.map .val, o17.map .val, o18.map .val, o19.map .val, o20.map .val, o21.map .val, o22.map .val, none, none, none, none, none, none, none, none]) = .ok .nx (EV ns n [o2.map .val, o3.map .val, some (.val (.lst (hs.map D.str))), some (.val (.int m)), o6.map .val, some (.val (D1.dr m due tk)), some (.val (.lst (fs.map D.str))), o9.map .val, some (.val (D1.jres tk hs fs)), o11.map .val, some (.val (.lst ((D1.rows hs).map D.str))), o13.map .val, some (.val (D1.lostD m tk hs fs)), o15.map .val, o16.map .val, o17.map .val, o18.map .val, o19.map .val, o20.map .val, o21.map .val, o22.map .val, none, none, none, none, none, none, none, none]) := by
  have t1 := D1.tru_j tk hs fs
  have g8 := f_8 hs hh fs hf tk
  have q1 := D1.safe m due tk hs fs (hd1 hs hh) (fs_ok hh hf).1 (fs_ok hh hf).2
  have c := s12c ns n m due tk m1 m2 (.lst (hs.map D.str)) (.int m) (.lst (fs.map D.str)) (D1.jres tk hs fs) (.lst ((D1.rows hs).map D.str)) (D1.lostD m tk hs fs) (o2 := o2) (o3 := o3) (o4 := o4) (o5 := o5) (o6 := o6) (o7 := o7) (o8 := o8) (o9 := o9) (o10 := o10) (o11 := o11) (o12 := o12) (o13 := o13) (o14 := o14) (o15 := o15) (o16 := o16) (o17 := o17) (o18 := o18) (o19 := o19) (o20 := o20) (o21 := o21) (o22 := o22)
  have anyf := any_map (List.replicate 60 false)
  have anyf2 : (List.replicate 60 false).any id = false := rfl
  rw [anyf2] at anyf
  have e8 : (60 : Int).toNat = 60 := rfl
  have l6 : lim62 60 = true := by decide
  have rl : (rngD 0 60).length ≤ sizeLine := sizeL (by simp [rngD])
  have fl1 : fLen [.tup ((D1.safeL tk hs fs).map D.str)] = some (.int ((D1.safeL tk hs fs).length : Nat)) := by simp [fLen]
  have fl2 : fLen [.lst ((D1.rows hs).map D.str)] = some (.int (hs.length + 1 : Nat)) := by simp [fLen]
  have fl3 : fLen [D1.lostD m tk hs fs] = some (.int (if D1.pays tk fs = true then 0 else 1)) := by
    unfold D1.lostD
    split <;> rfl
  have vl : dValsL (D1.lostD m tk hs fs) = some (.lst (if D1.pays tk fs = true then [] else [.int m])) := by
    unfold D1.lostD
    split <;> rfl
  have sm : fSum [.lst (if D1.pays tk fs = true then [] else [.int m])] = some (.int (if D1.pays tk fs = true then 0 else m)) := by
    split
    · rfl
    · simp [fSum, D.lis, dInts]
  generalize D1.lostD m tk hs fs = LD at *
  have ne2 := ne_int (hs.length + 1 : Nat) (hs.length + 1 : Nat)
  have nem := ne_int m m
  have ne0 := ne_int 0 0
  generalize (List.replicate 60 false).map D.bl = BD at *
  generalize hR60 : rngD 0 60 = RD at *
  cases hp : D1.pays tk fs with
  | true =>
    rw [hp] at t1 g8 fl3 vl sm
    simp only [if_true] at g8 fl3 vl sm
    have e9 : (((D1.safeL tk hs fs).length : Nat) : Int) + 0 = ((hs.length + 1 : Nat) : Int) := by omega
    generalize (((D1.safeL tk hs fs).length : Nat) : Int) = SN at *
    generalize (((hs.length + 1 : Nat)) : Int) = HN at *
    unfold D1.dr at *
    generalize D.ob 0 [.int m, .str "dora", .str "paul", .int due, .bl tk] = DR at *
    generalize D1.jres tk hs fs = J1 at *
    generalize (D1.safeL tk hs fs).map D.str = SD at *
    generalize (D1.rows hs).map D.str = RR at *
    generalize hs.map D.str = HD at *
    generalize fs.map D.str = FD at *
    simp [s_law_12, vl, sm, t1, ne0, toWs, q1, fl1, fl2, fl3, dAdd, e9, ne2, l6, e8, hR60, notOwn_eq, rl, c, anyf, dTru]
  | false =>
    rw [hp] at t1 g8 fl3 vl sm
    simp only [Bool.false_eq_true, if_false] at g8 fl3 vl sm
    have e9 : (((D1.safeL tk hs fs).length : Nat) : Int) + 1 = ((hs.length + 1 : Nat) : Int) := by omega
    generalize (((D1.safeL tk hs fs).length : Nat) : Int) = SN at *
    generalize (((hs.length + 1 : Nat)) : Int) = HN at *
    unfold D1.dr at *
    generalize D.ob 0 [.int m, .str "dora", .str "paul", .int due, .bl tk] = DR at *
    generalize D1.jres tk hs fs = J1 at *
    generalize (D1.safeL tk hs fs).map D.str = SD at *
    generalize (D1.rows hs).map D.str = RR at *
    generalize hs.map D.str = HD at *
    generalize fs.map D.str = FD at *
    simp [s_law_12, vl, sm, t1, nem, toWs, q1, fl1, fl2, fl3, dAdd, e9, ne2, l6, e8, hR60, notOwn_eq, rl, c, anyf, dTru]
end T37
set_option Elab.async false
set_option linter.all false
set_option maxRecDepth 100000
set_option maxHeartbeats 1000000
namespace T37
open PySem PySem.Spec PyProof.Rows L2 DL
def P2 : List Str := ["storm", "fire"]
theorem psP2 : PsOk P2 := ⟨by decide +kernel, by decide, by decide +kernel, by decide⟩
theorem psFS : PsOk ["fire", "storm"] := ⟨by decide +kernel, by decide, by decide +kernel, by decide⟩
theorem in_prs {l : List (Int × Str)} {q : Int × Str} (h1 : ∀ x ∈ l, x.2 ∈ PN) (h2 : q.2 ∈ PN) : inB (prD q) (.lst (l.map prD)) = some (decide (q ∈ l)) := by
  have e1 : toPy (prD q) = some ((ePr eInt eStr).p q) := (ePr eInt eStr).py q
  have e2 : toPys (l.map prD) = some (l.map (ePr eInt eStr).p) := (ePr eInt eStr).pys l
  have k1 : SeqAt.shaped ((ePr eInt eStr).p q) = true := (ePr eInt eStr).shaped ⟨trivial, pn_ok _ h2⟩ (by decide)
  have k2 : SeqAt.shaped (.list (l.map (ePr eInt eStr).p)) = true := (eLst (ePr eInt eStr)).shaped (a := l) (fun x hx => ⟨trivial, pn_ok _ (h1 x hx)⟩) (by decide)
  unfold inB
  simp only [D.seq, D.sc, D.lis, e1, e2, k1, k2, Bool.and_self, if_true]
  rw [List.any_map]
  congr 1
  rw [Bool.eq_iff_iff]
  simp only [List.any_eq_true, Function.comp, decide_eq_true_eq]
  constructor
  · rintro ⟨x, hx, e⟩
    have := ((ePr eInt eStr).eqv x q).mp e
    rwa [this] at hx
  · exact fun h => ⟨q, h, ((ePr eInt eStr).eqv q q).mpr rfl⟩
structure Ts (T : List (Cov.C Str)) : Prop where
  ok : ∀ c ∈ T, TOk c
  few : T.length ≤ 4
theorem Ts.cs {T : List (Cov.C Str)} (h : Ts T) : CsOk T := ⟨fun c hc => (h.ok c hc).ok, by have := h.few; omega⟩
theorem Ts.add {T : List (Cov.C Str)} (h : Ts T) {c : Cov.C Str} (hc : COk c) : CsOk (T ++ [c]) := ⟨fun d hd => (List.mem_append.mp hd).elim (fun z => (h.ok d z).ok) (fun z => by rw [List.mem_singleton] at z; rw [z]; exact hc), by have := h.few; simp; omega⟩
theorem Ts.cons {T : List (Cov.C Str)} (h : Ts T) {c : Cov.C Str} (hc : COk c) : CsOk (c :: T) := ⟨fun d hd => (List.mem_cons.mp hd).elim (fun z => by rw [z]; exact hc) (fun z => (h.ok d z).ok), by have := h.few; simp; omega⟩
theorem Ts.rev {T : List (Cov.C Str)} (h : Ts T) : CsOk T.reverse := ⟨fun d hd => (h.ok d (List.mem_reverse.mp hd)).ok, by have := h.few; simp; omega⟩
theorem s13 (ns : List Int) (hl : ns.length ≤ 63) (n : Int) {o2 o3 o4 o5 o6 o7 o8 o9 o10 o11 o12 o13 o14 o15 o16 o17 o18 o19 o20 o21 o22 : Option D} : ∃ (T : List (Cov.C Str)) (n' : Int), Ts T ∧ s_law_13 (EV ns n [o2.map .val, o3.map .val, o4.map .val, o5.map .val, o6.map .val, o7.map .val, o8.map .val, o9.map .val, o10.map .val, o11.map .val, o12.map .val, o13.map .val, o14.map .val, o15.map .val, o16.map .val, o17.map .val, o18.map .val, o19.map .val, o20.map .val, o21.map .val, o22.map .val, none, none, none, none, none, none, none, none]) = .ok .nx (EV ns n' [o2.map .val, o3.map .val, o4.map .val, o5.map .val, o6.map .val, o7.map .val, o8.map .val, o9.map .val, o10.map .val, o11.map .val, some (.val (.lst (T.map tolD))), o13.map .val, o14.map .val, o15.map .val, o16.map .val, o17.map .val, o18.map .val, o19.map .val, o20.map .val, o21.map .val, o22.map .val, none, none, none, none, none, none, none, none]) := by
  obtain ⟨r, hr, r0, r1⟩ := lawtake ns hl n 5 (by decide)
  obtain ⟨T, ρ', h1, h2, h3, n', rfl⟩ := lcs_draw (f := lcIt [24] (mTN 24) mTrue e_law_6) (fun ρ => ∃ n : Int, ρ = (EV ns n [o2.map .val, o3.map .val, o4.map .val, o5.map .val, o6.map .val, o7.map .val, o8.map .val, o9.map .val, o10.map .val, o11.map .val, o12.map .val, o13.map .val, o14.map .val, o15.map .val, o16.map .val, o17.map .val, o18.map .val, o19.map .val, o20.map .val, o21.map .val, o22.map .val, none, none, none, none, none, none, none, none])) tolD TOk (rngD 0 r.toNat) (fun d hd ρ ⟨n, hn⟩ => by
    subst hn
    obtain ⟨c, n', hc, h⟩ := lawcov ns hl n
    refine ⟨c, _, ?_, hc, n', rfl⟩
    simp [lcIt, e_law_6, wipeE, restore, holds, toWs, h, W.put]) _ ⟨n + 1, rfl⟩
  have hlen : (rngD 0 r.toNat).length = r.toNat := by simp [rngD]
  have h4 : (rngD 0 r.toNat).length ≤ sizeLine := sizeL (by omega)
  have h5 : lim62 r = true := by unfold lim62; exact decide_eq_true (by omega)
  refine ⟨T, n', ⟨h3, by omega⟩, ?_⟩
  generalize hR : rngD 0 r.toNat = R at h1 h4
  simp [s_law_13, holds, toWs, hr, W.put, h5, hR, notOwn_eq, h4, h1]
theorem s14 (ns : List Int) (n : Int) (T : List (Cov.C Str)) (hT : Ts T) {o2 o3 o4 o5 o6 o7 o8 o9 o10 o11 o12 o13 o14 o15 o16 o17 o18 o19 o20 o21 o22 : Option D} : s_law_14 (EV ns n [o2.map .val, o3.map .val, o4.map .val, o5.map .val, o6.map .val, o7.map .val, o8.map .val, o9.map .val, o10.map .val, o11.map .val, some (.val (.lst (T.map tolD))), o13.map .val, o14.map .val, o15.map .val, o16.map .val, o17.map .val, o18.map .val, o19.map .val, o20.map .val, o21.map .val, o22.map .val, none, none, none, none, none, none, none, none]) = .ok .nx (EV ns n [o2.map .val, o3.map .val, o4.map .val, o5.map .val, o6.map .val, o7.map .val, o8.map .val, o9.map .val, o10.map .val, o11.map .val, some (.val (.lst (T.map tolD))), o13.map .val, o14.map .val, some (.val (covL T)), o16.map .val, o17.map .val, o18.map .val, o19.map .val, o20.map .val, o21.map .val, o22.map .val, none, none, none, none, none, none, none, none]) := by
  have h1 := lcs_map (f := lcIt [25] (mTN 25) mTrue e_law_7) (ρ := (EV ns n [o2.map .val, o3.map .val, o4.map .val, o5.map .val, o6.map .val, o7.map .val, o8.map .val, o9.map .val, o10.map .val, o11.map .val, some (.val (.lst (T.map tolD))), o13.map .val, o14.map .val, o15.map .val, o16.map .val, o17.map .val, o18.map .val, o19.map .val, o20.map .val, o21.map .val, o22.map .val, none, none, none, none, none, none, none, none])) tolD covD id T fun c hc => by
    have := built c (hT.ok c hc).ok (hT.ok c hc).srt
    simp [lcIt, e_law_7, wipeE, restore, toWs, this]
  rw [List.map_id] at h1
  have h2 : (T.map tolD).length ≤ sizeLine := sizeL (by have := hT.few; simp; omega)
  unfold covL
  generalize T.map covD = C at h1 ⊢
  generalize T.map tolD = L at h1 h2 ⊢
  simp [s_law_14, D.seq, notOwn_eq, h2, h1]
theorem s15 (ns : List Int) (hl : ns.length ≤ 63) (n : Int) {o2 o3 o4 o5 o6 o7 o8 o9 o10 o11 o12 o13 o14 o15 o16 o17 o18 o19 o20 o21 o22 : Option D} : ∃ (k : Nat) (c : Cov.C Str) (n' : Int), (1 ≤ k ∧ k ≤ 5) ∧ TOk c ∧ s_law_15 (EV ns n [o2.map .val, o3.map .val, o4.map .val, o5.map .val, o6.map .val, o7.map .val, o8.map .val, o9.map .val, o10.map .val, o11.map .val, o12.map .val, o13.map .val, o14.map .val, o15.map .val, o16.map .val, o17.map .val, o18.map .val, o19.map .val, o20.map .val, o21.map .val, o22.map .val, none, none, none, none, none, none, none, none]) = .ok .nx (EV ns n' [o2.map .val, o3.map .val, o4.map .val, o5.map .val, o6.map .val, o7.map .val, o8.map .val, o9.map .val, o10.map .val, o11.map .val, o12.map .val, o13.map .val, o14.map .val, o15.map .val, some (.val (.lst (strD P2))), some (.val (.int (k : Nat))), some (.val (covD c)), o19.map .val, o20.map .val, o21.map .val, o22.map .val, none, none, none, none, none, none, none, none]) := by
  obtain ⟨r, hr, r0, r1⟩ := lawtake ns hl n 5 (by decide)
  obtain ⟨c, n', hc, h⟩ := lawcov ns hl (n + 1)
  have b := built c hc.ok hc.srt
  have hk : 1 + r = (((1 + r).toNat : Nat) : Int) := by omega
  refine ⟨(1 + r).toNat, c, n', by omega, hc, ?_⟩
  rw [← hk]
  have t3 : (3 : Nat) ≤ sizeLine := by decide
  have t2 : (2 : Nat) ≤ sizeLine := by decide
  generalize tolD c = TD at h b
  generalize covD c = CD at b ⊢
  simp [s_law_15, holds, toWs, hr, W.put, dAdd, h, b, t3, t2, strD, P2]
theorem s16a (ns : List Int) (n : Int) (T : List (Cov.C Str)) (hT : Ts T) (k : Nat) (k1 : 1 ≤ k) (k2 : k ≤ 5) (L : List (Int × Str)) (h2 : ∀ q ∈ L, q.2 ∈ PN) (h : ∀ q ∈ L, q ∈ Cov.gaps T P2 k) (X : D) {o2 o3 o4 o5 o6 o7 o8 o9 o10 o11 o12 o13 o14 o15 o16 o17 o18 o19 o20 o21 o22 : Option D} : lcs (lcIt [29] (mTN 29) mTrue e_law_8) (L.map prD) (EV ns n [o2.map .val, o3.map .val, o4.map .val, o5.map .val, o6.map .val, o7.map .val, o8.map .val, o9.map .val, o10.map .val, o11.map .val, o12.map .val, o13.map .val, o14.map .val, some (.val (covL T)), some (.val (.lst (strD P2))), some (.val (.int (k : Nat))), some (.val (X)), o19.map .val, o20.map .val, o21.map .val, o22.map .val, none, none, none, none, none, none, none, none]) = .ok ((L.map fun _ => false).map D.bl) (EV ns n [o2.map .val, o3.map .val, o4.map .val, o5.map .val, o6.map .val, o7.map .val, o8.map .val, o9.map .val, o10.map .val, o11.map .val, o12.map .val, o13.map .val, o14.map .val, some (.val (covL T)), some (.val (.lst (strD P2))), some (.val (.int (k : Nat))), some (.val (X)), o19.map .val, o20.map .val, o21.map .val, o22.map .val, none, none, none, none, none, none, none, none]) := by
  refine lcs_map (f := lcIt [29] (mTN 29) mTrue e_law_8) prD D.bl (fun _ => false) L fun q hq => ?_
  have g0 := gapsF T hT.cs P2 psP2 k k1 (by omega)
  have i0 := in_prs (l := Cov.gaps T P2 k) (q := q) (fun q hq => psP2.nm _ (gaps_mem hq).2) (h2 q hq)
  have hh := h q hq
  generalize (Cov.gaps T P2 k).map prD = GD at g0 i0
  unfold covL at *
  generalize T.map covD = CT at *
  simp [lcIt, e_law_8, wipeE, restore, toWs, g0, dNotIn, dIn, i0, hh]
theorem s16b (ns : List Int) (n : Int) (T : List (Cov.C Str)) (hT : Ts T) (k : Nat) (k1 : 1 ≤ k) (k2 : k ≤ 5) (L : List (Int × Str)) (h2 : ∀ q ∈ L, q.2 ∈ PN) (h : ∀ q ∈ L, q ∉ Cov.gaps T P2 k) (X : D) {o2 o3 o4 o5 o6 o7 o8 o9 o10 o11 o12 o13 o14 o15 o16 o17 o18 o19 o20 o21 o22 : Option D} : lcs (lcIt [30] (mTN 30) mTrue e_law_9) (L.map prD) (EV ns n [o2.map .val, o3.map .val, o4.map .val, o5.map .val, o6.map .val, o7.map .val, o8.map .val, o9.map .val, o10.map .val, o11.map .val, o12.map .val, o13.map .val, o14.map .val, some (.val (covL T)), some (.val (.lst (strD P2))), some (.val (.int (k : Nat))), some (.val (X)), o19.map .val, o20.map .val, o21.map .val, o22.map .val, none, none, none, none, none, none, none, none]) = .ok ((L.map fun _ => false).map D.bl) (EV ns n [o2.map .val, o3.map .val, o4.map .val, o5.map .val, o6.map .val, o7.map .val, o8.map .val, o9.map .val, o10.map .val, o11.map .val, o12.map .val, o13.map .val, o14.map .val, some (.val (covL T)), some (.val (.lst (strD P2))), some (.val (.int (k : Nat))), some (.val (X)), o19.map .val, o20.map .val, o21.map .val, o22.map .val, none, none, none, none, none, none, none, none]) := by
  refine lcs_map (f := lcIt [30] (mTN 30) mTrue e_law_9) prD D.bl (fun _ => false) L fun q hq => ?_
  have g0 := gapsF T hT.cs P2 psP2 k k1 (by omega)
  have i0 := in_prs (l := Cov.gaps T P2 k) (q := q) (fun q hq => psP2.nm _ (gaps_mem hq).2) (h2 q hq)
  have hh := h q hq
  generalize (Cov.gaps T P2 k).map prD = GD at g0 i0
  unfold covL at *
  generalize T.map covD = CT at *
  simp [lcIt, e_law_9, wipeE, restore, toWs, g0, dNotIn, dIn, i0, hh]
theorem s16_run (ns : List Int) (n : Int) (CT G1 TW B1 B2 : List D) (PS K X J0 J1 : D) (b0 b1 : Bool) {o2 o3 o4 o5 o6 o7 o8 o9 o10 o11 o12 o13 o14 o15 o16 o17 o18 o19 o20 o21 o22 : Option D} (t : CT.length + 1 ≤ sizeLine) (tg : G1.length ≤ sizeLine) (tw : TW.length ≤ sizeLine)
    (g1 : F_gaps [.val (.lst (CT ++ [X])), .val PS, .val K] = .ok (.lst G1) []) (c1 : lcs (lcIt [29] (mTN 29) mTrue e_law_8) G1 (EV ns n [o2.map .val, o3.map .val, o4.map .val, o5.map .val, o6.map .val, o7.map .val, o8.map .val, o9.map .val, o10.map .val, o11.map .val, o12.map .val, o13.map .val, o14.map .val, some (.val (.lst CT)), some (.val (PS)), some (.val (K)), some (.val (X)), o19.map .val, o20.map .val, o21.map .val, o22.map .val, none, none, none, none, none, none, none, none]) = .ok (B1.map id) (EV ns n [o2.map .val, o3.map .val, o4.map .val, o5.map .val, o6.map .val, o7.map .val, o8.map .val, o9.map .val, o10.map .val, o11.map .val, o12.map .val, o13.map .val, o14.map .val, some (.val (.lst CT)), some (.val (PS)), some (.val (K)), some (.val (X)), o19.map .val, o20.map .val, o21.map .val, o22.map .val, none, none, none, none, none, none, none, none])) (a1 : fAny [.lst B1] = some (.bl false))
    (j0 : F_judge_covers [.val (.lst CT), .val PS, .val K] = .ok J0 []) (u0 : obTru bs J0 = some b0) (j1 : F_judge_covers [.val (.lst (CT ++ [X])), .val PS, .val K] = .ok J1 []) (u1 : obTru bs J1 = some b1) (im : b0 = true → b1 = true)
    (w1 : F_twice_covered [.val (.lst CT), .val PS, .val K] = .ok (.lst TW) []) (c2 : lcs (lcIt [30] (mTN 30) mTrue e_law_9) TW (EV ns n [o2.map .val, o3.map .val, o4.map .val, o5.map .val, o6.map .val, o7.map .val, o8.map .val, o9.map .val, o10.map .val, o11.map .val, o12.map .val, o13.map .val, o14.map .val, some (.val (.lst CT)), some (.val (PS)), some (.val (K)), some (.val (X)), o19.map .val, o20.map .val, o21.map .val, o22.map .val, none, none, none, none, none, none, none, none]) = .ok (B2.map id) (EV ns n [o2.map .val, o3.map .val, o4.map .val, o5.map .val, o6.map .val, o7.map .val, o8.map .val, o9.map .val, o10.map .val, o11.map .val, o12.map .val, o13.map .val, o14.map .val, some (.val (.lst CT)), some (.val (PS)), some (.val (K)), some (.val (X)), o19.map .val, o20.map .val, o21.map .val, o22.map .val, none, none, none, none, none, none, none, none])) (a2 : fAny [.lst B2] = some (.bl false)) :
    s_law_16 (EV ns n [o2.map .val, o3.map .val, o4.map .val, o5.map .val, o6.map .val, o7.map .val, o8.map .val, o9.map .val, o10.map .val, o11.map .val, o12.map .val, o13.map .val, o14.map .val, some (.val (.lst CT)), some (.val (PS)), some (.val (K)), some (.val (X)), o19.map .val, o20.map .val, o21.map .val, o22.map .val, none, none, none, none, none, none, none, none]) = .ok .nx (EV ns n [o2.map .val, o3.map .val, o4.map .val, o5.map .val, o6.map .val, o7.map .val, o8.map .val, o9.map .val, o10.map .val, o11.map .val, o12.map .val, o13.map .val, o14.map .val, some (.val (.lst CT)), some (.val (PS)), some (.val (K)), some (.val (X)), o19.map .val, o20.map .val, o21.map .val, o22.map .val, none, none, none, none, none, none, none, none]) := by
  have t1 : (1 : Nat) ≤ sizeLine := by decide
  rw [List.map_id] at c1 c2
  cases b0 with
  | true =>
    rw [im rfl] at u1
    simp [s_law_16, t1, dAdd, t, toWs, g1, D.seq, notOwn_eq, tg, c1, a1, dTru, j0, u0, j1, u1, w1, tw, c2, a2]
  | false => simp [s_law_16, t1, dAdd, t, toWs, g1, D.seq, notOwn_eq, tg, c1, a1, dTru, j0, u0, w1, tw, c2, a2]
theorem gaps_len (T : List (Cov.C Str)) (k : Nat) (k2 : k ≤ 5) : (Cov.gaps T P2 k).length ≤ 100 := by
  have := List.length_filter_le (fun q : Int × Str => !T.any fun c => Cov.on c q.2 q.1) (Cov.prs P2 k)
  rw [prs_len] at this
  unfold Cov.gaps
  have e : P2.length = 2 := rfl
  rw [e] at this
  omega
theorem twc_len (T : List (Cov.C Str)) (k : Nat) (k2 : k ≤ 5) : (twc T P2 k).length ≤ 100 := by
  have := List.length_filter_le (fun q : Int × Str => decide (1 < (T.filter fun c => Cov.on c q.2 q.1).length)) (Cov.prs P2 k)
  rw [prs_len] at this
  unfold twc
  have e : P2.length = 2 := rfl
  rw [e] at this
  omega
theorem gaps_sub {T U : List (Cov.C Str)} (h : ∀ c ∈ T, c ∈ U) {ps : List Str} {k : Nat} {q : Int × Str} (hq : q ∈ Cov.gaps U ps k) : q ∈ Cov.gaps T ps k := by
  unfold Cov.gaps at *
  obtain ⟨h1, h2⟩ := List.mem_filter.mp hq
  refine List.mem_filter.mpr ⟨h1, ?_⟩
  rw [Bool.not_eq_true', List.any_eq_false] at h2 ⊢
  exact fun c hc => h2 c (h c hc)
theorem twc_not {T : List (Cov.C Str)} {ps : List Str} {k : Nat} {q : Int × Str} (hq : q ∈ twc T ps k) : q ∉ Cov.gaps T ps k := by
  intro z
  unfold twc at hq
  unfold Cov.gaps at z
  have h1 := of_decide_eq_true (List.mem_filter.mp hq).2
  have h2 := (List.mem_filter.mp z).2
  rw [Bool.not_eq_true', List.any_eq_false] at h2
  have : (T.filter fun c => Cov.on c q.2 q.1) = [] := List.filter_eq_nil_iff.mpr h2
  rw [this] at h1
  exact absurd h1 (by decide)
theorem no_bl (L : List (Int × Str)) : fAny [.lst ((L.map fun _ => false).map D.bl)] = some (.bl false) := by
  have h := any_map (L.map fun _ => false)
  have h2 : (L.map fun _ => false).any id = false := by
    induction L with
    | nil => rfl
    | cons a l ih => simp
  rwa [h2] at h
theorem twc_mem {T : List (Cov.C Str)} {ps : List Str} {k : Nat} {q : Int × Str} (h : q ∈ twc T ps k) : q.2 ∈ ps := by
  unfold twc at h
  have := (List.mem_filter.mp h).1
  obtain ⟨g, p⟩ := q
  exact (Cov.mem_prs.mp this).2
theorem s16 (ns : List Int) (n : Int) (T : List (Cov.C Str)) (hT : Ts T) (k : Nat) (k1 : 1 ≤ k) (k2 : k ≤ 5) (c : Cov.C Str) (hc : TOk c) {o2 o3 o4 o5 o6 o7 o8 o9 o10 o11 o12 o13 o14 o15 o16 o17 o18 o19 o20 o21 o22 : Option D} : s_law_16 (EV ns n [o2.map .val, o3.map .val, o4.map .val, o5.map .val, o6.map .val, o7.map .val, o8.map .val, o9.map .val, o10.map .val, o11.map .val, o12.map .val, o13.map .val, o14.map .val, some (.val (covL T)), some (.val (.lst (strD P2))), some (.val (.int (k : Nat))), some (.val (covD c)), o19.map .val, o20.map .val, o21.map .val, o22.map .val, none, none, none, none, none, none, none, none]) = .ok .nx (EV ns n [o2.map .val, o3.map .val, o4.map .val, o5.map .val, o6.map .val, o7.map .val, o8.map .val, o9.map .val, o10.map .val, o11.map .val, o12.map .val, o13.map .val, o14.map .val, some (.val (covL T)), some (.val (.lst (strD P2))), some (.val (.int (k : Nat))), some (.val (covD c)), o19.map .val, o20.map .val, o21.map .val, o22.map .val, none, none, none, none, none, none, none, none]) := by
  have cA := hT.add hc.ok
  have g1 := gapsF (T ++ [c]) cA P2 psP2 k k1 (by omega)
  have j0 := judge T hT.cs P2 psP2 k k1 (by omega)
  have j1 := judge (T ++ [c]) cA P2 psP2 k k1 (by omega)
  have w1 := twiceF T hT.cs P2 psP2 k k1 (by omega)
  have c1 := s16a ns n T hT k k1 k2 (Cov.gaps (T ++ [c]) P2 k) (fun q hq => psP2.nm _ (gaps_mem hq).2) (fun q hq => gaps_sub (fun d hd => List.mem_append_left _ hd) hq) (covD c) (o2 := o2) (o3 := o3) (o4 := o4) (o5 := o5) (o6 := o6) (o7 := o7) (o8 := o8) (o9 := o9) (o10 := o10) (o11 := o11) (o12 := o12) (o13 := o13) (o14 := o14) (o15 := o15) (o16 := o16) (o17 := o17) (o18 := o18) (o19 := o19) (o20 := o20) (o21 := o21) (o22 := o22)
  have c2 := s16b ns n T hT k k1 k2 (twc T P2 k) (fun q hq => psP2.nm _ (twc_mem hq)) (fun q hq => twc_not hq) (covD c) (o2 := o2) (o3 := o3) (o4 := o4) (o5 := o5) (o6 := o6) (o7 := o7) (o8 := o8) (o9 := o9) (o10 := o10) (o11 := o11) (o12 := o12) (o13 := o13) (o14 := o14) (o15 := o15) (o16 := o16) (o17 := o17) (o18 := o18) (o19 := o19) (o20 := o20) (o21 := o21) (o22 := o22)
  have im : decide (Cov.gaps T P2 k = []) = true → decide (Cov.gaps (T ++ [c]) P2 k = []) = true := fun z => decide_eq_true (Cov.gaps_mono (fun d hd => List.mem_append_left _ hd) (of_decide_eq_true z))
  unfold covL at *
  rw [List.map_append] at g1 j1
  exact s16_run ns n (o15 := none) (o16 := none) (o17 := none) (o18 := none) (T.map covD) _ _ _ _ _ _ _ _ _ _ _ (sizeL (by have := hT.few; simp; omega)) (sizeL (by have := gaps_len (T ++ [c]) k k2; simp; omega)) (sizeL (by have := twc_len T k k2; simp; omega)) g1 (by rw [List.map_id]; exact c1) (no_bl _) j0 (jtru _) j1 (jtru _) im w1 (by rw [List.map_id]; exact c2) (no_bl _)
theorem s17 (ns : List Int) (hl : ns.length ≤ 63) (n : Int) (k : Nat) (k1 : 1 ≤ k) (k2 : k ≤ 5) {o2 o3 o4 o5 o6 o7 o8 o9 o10 o11 o12 o13 o14 o15 o16 o17 o18 o19 o20 o21 o22 : Option D} : ∃ (p : Str) (g a : Int), LOk p g a ∧ p ∈ P2 ∧ a ≤ 90 ∧ s_law_17 (EV ns n [o2.map .val, o3.map .val, o4.map .val, o5.map .val, o6.map .val, o7.map .val, o8.map .val, o9.map .val, o10.map .val, o11.map .val, o12.map .val, o13.map .val, o14.map .val, o15.map .val, some (.val (.lst (strD P2))), some (.val (.int (k : Nat))), o18.map .val, o19.map .val, o20.map .val, o21.map .val, o22.map .val, none, none, none, none, none, none, none, none]) = .ok .nx (EV ns (n + 1 + 1 + 1) [o2.map .val, o3.map .val, o4.map .val, o5.map .val, o6.map .val, o7.map .val, o8.map .val, o9.map .val, o10.map .val, o11.map .val, o12.map .val, o13.map .val, o14.map .val, o15.map .val, some (.val (.lst (strD P2))), some (.val (.int (k : Nat))), o18.map .val, some (.val (losD p g a)), o20.map .val, o21.map .val, o22.map .val, none, none, none, none, none, none, none, none]) := by
  obtain ⟨p, hp, h1⟩ := lawpick ns hl n D.str P2 (by simp [P2]) (by simp [P2])
  obtain ⟨g, hg, g0, g1⟩ := lawtake ns hl (n + 1) k (by omega)
  obtain ⟨r, hr, r0, r1⟩ := lawtake ns hl (n + 1 + 1) 90 (by decide)
  have t3 : (3 : Nat) ≤ sizeLine := by decide
  refine ⟨p, g, 1 + r, ⟨psP2.nm _ hp, g0, by omega, by omega, by omega⟩, hp, by omega, ?_⟩
  unfold strD
  generalize P2.map D.str = L at h1 ⊢
  simp [s_law_17, holds, toWs, h1, hg, hr, W.put, dAdd, t3]
theorem s18 (ns : List Int) (n : Int) (T : List (Cov.C Str)) (hT : Ts T) (p : Str) (g a : Int) (l : LOk p g a) {o2 o3 o4 o5 o6 o7 o8 o9 o10 o11 o12 o13 o14 o15 o16 o17 o18 o19 o20 o21 o22 : Option D} : s_law_18 (EV ns n [o2.map .val, o3.map .val, o4.map .val, o5.map .val, o6.map .val, o7.map .val, o8.map .val, o9.map .val, o10.map .val, o11.map .val, o12.map .val, o13.map .val, o14.map .val, some (.val (covL T)), o16.map .val, o17.map .val, o18.map .val, some (.val (losD p g a)), o20.map .val, o21.map .val, o22.map .val, none, none, none, none, none, none, none, none]) = .ok .nx (EV ns n [o2.map .val, o3.map .val, o4.map .val, o5.map .val, o6.map .val, o7.map .val, o8.map .val, o9.map .val, o10.map .val, o11.map .val, o12.map .val, o13.map .val, o14.map .val, some (.val (covL T)), o16.map .val, o17.map .val, o18.map .val, some (.val (losD p g a)), some (.val (.lst ((Cov.shr (payL T p g a) a).map D.int))), o21.map .val, o22.map .val, none, none, none, none, none, none, none, none]) := by
  have q := shares T hT.cs p g a l
  unfold covL at *
  generalize T.map covD = CT at *
  generalize (Cov.shr (payL T p g a) a).map D.int = SD at *
  simp [s_law_18, toWs, q]
theorem s19_run (ns : List Int) (n : Int) (CT SD SR : List D) (X : D) (p : Str) (g a S B' : Int) {o2 o3 o4 o5 o6 o7 o8 o9 o10 o11 o12 o13 o14 o15 o16 o17 o18 o19 o20 o21 o22 : Option D} (t : CT.length + 1 ≤ sizeLine) (sm : fSum [.lst SD] = some (.int S)) (sr : fSum [.lst SR] = some (.int S)) (le : S ≤ a)
    (q0 : F_borne [.val (.lst CT), .val (losD p g a)] = .ok (.int (a - S)) []) (q1 : F_borne [.val (.lst (CT ++ [X])), .val (losD p g a)] = .ok (.int B') []) (le2 : B' ≤ a - S) (q2 : F_shares [.val (.lst CT.reverse), .val (losD p g a)] = .ok (.lst SR) []) :
    s_law_19 (EV ns n [o2.map .val, o3.map .val, o4.map .val, o5.map .val, o6.map .val, o7.map .val, o8.map .val, o9.map .val, o10.map .val, o11.map .val, o12.map .val, o13.map .val, o14.map .val, some (.val (.lst CT)), o16.map .val, o17.map .val, some (.val (X)), some (.val (losD p g a)), some (.val (.lst SD)), o21.map .val, o22.map .val, none, none, none, none, none, none, none, none]) = .ok .nx (EV ns n [o2.map .val, o3.map .val, o4.map .val, o5.map .val, o6.map .val, o7.map .val, o8.map .val, o9.map .val, o10.map .val, o11.map .val, o12.map .val, o13.map .val, o14.map .val, some (.val (.lst CT)), o16.map .val, o17.map .val, some (.val (X)), some (.val (losD p g a)), some (.val (.lst SD)), o21.map .val, o22.map .val, none, none, none, none, none, none, none, none]) := by
  have t1 : (1 : Nat) ≤ sizeLine := by decide
  have n1 : ¬ a < S := by omega
  have n2 : ¬ a - S < 0 := by omega
  have n3 : ¬ a - S < B' := by omega
  have e1 := ne_int (a - S) (a - S)
  have e2 := ne_int S S
  have ix : dIx (losD p g a) (.int 2) = some (.int a) := rfl
  unfold losD at *
  generalize D.tup [.str p, .int g, .int a] = LD at *
  simp [s_law_19, sm, ix, dGt, n1, toWs, q0, dLt, n2, dSub, e1, t1, dAdd, t, q1, n3, dRev, q2, sr, e2]
theorem sum_rev : ∀ l : List Int, l.reverse.sum = l.sum
  | [] => rfl
  | a :: l => by rw [List.reverse_cons, List.sum_append, sum_rev l, List.sum_cons, List.sum_cons, List.sum_nil]; omega
theorem shr_s {cs : List (Cov.C Str)} (h : CsOk cs) {p : Str} {g a : Int} (l : LOk p g a) : fSum [.lst ((Cov.shr (payL cs p g a) a).map D.int)] = some (.int (min (Cov.tot cs p g a) a)) := by
  simp only [fSum, D.lis, Option.bind_some, dInts_map, Option.map_some, shr_tot h l]
theorem tot_rev (T : List (Cov.C Str)) (p : Str) (g a : Int) : Cov.tot T.reverse p g a = Cov.tot T p g a := by
  unfold Cov.tot
  rw [List.map_reverse, sum_rev]
theorem tot_add (T : List (Cov.C Str)) (c : Cov.C Str) (p : Str) (g a : Int) : Cov.tot (T ++ [c]) p g a = Cov.tot T p g a + Cov.pay c p g a := by
  unfold Cov.tot
  rw [List.map_append, List.sum_append]
  simp
theorem s19 (ns : List Int) (n : Int) (T : List (Cov.C Str)) (hT : Ts T) (c : Cov.C Str) (hc : TOk c) (p : Str) (g a : Int) (l : LOk p g a) {o2 o3 o4 o5 o6 o7 o8 o9 o10 o11 o12 o13 o14 o15 o16 o17 o18 o19 o20 o21 o22 : Option D} : s_law_19 (EV ns n [o2.map .val, o3.map .val, o4.map .val, o5.map .val, o6.map .val, o7.map .val, o8.map .val, o9.map .val, o10.map .val, o11.map .val, o12.map .val, o13.map .val, o14.map .val, some (.val (covL T)), o16.map .val, o17.map .val, some (.val (covD c)), some (.val (losD p g a)), some (.val (.lst ((Cov.shr (payL T p g a) a).map D.int))), o21.map .val, o22.map .val, none, none, none, none, none, none, none, none]) = .ok .nx (EV ns n [o2.map .val, o3.map .val, o4.map .val, o5.map .val, o6.map .val, o7.map .val, o8.map .val, o9.map .val, o10.map .val, o11.map .val, o12.map .val, o13.map .val, o14.map .val, some (.val (covL T)), o16.map .val, o17.map .val, some (.val (covD c)), some (.val (losD p g a)), some (.val (.lst ((Cov.shr (payL T p g a) a).map D.int))), o21.map .val, o22.map .val, none, none, none, none, none, none, none, none]) := by
  have q0 := borne T hT.cs p g a l
  have q1 := borne (T ++ [c]) (hT.add hc.ok) p g a l
  have q2 := shares T.reverse hT.rev p g a l
  have sr := shr_s hT.rev l
  rw [tot_rev] at sr
  have sm := shr_s hT.cs l
  have ta := tot_add T c p g a
  have nn := Cov.pay_nn (c := c) (p := p) (g := g) (a := a) (by have := l.a1; omega) (by have := hc.ok.m1; omega) hc.ok.v1
  unfold covL at *
  rw [List.map_append] at q1
  rw [List.map_reverse] at q2
  refine s19_run ns n (o15 := none) (o18 := none) (o19 := none) (o20 := none) (T.map covD) _ _ _ p g a (min (Cov.tot T p g a) a) _ (sizeL (by have := hT.few; simp; omega)) sm sr (by omega) q0 q1 ?_ q2
  unfold Cov.bor
  rw [ta]
  omega
def FC : Cov.C Str := ⟨900, 900, ["fire", "storm"], 0, 9, 0⟩
theorem fcok : COk FC := ⟨by decide, by decide, by decide, by decide, psFS, by decide, by decide, by decide, by decide, by decide⟩
theorem s20 (ns : List Int) (n : Int) {o2 o3 o4 o5 o6 o7 o8 o9 o10 o11 o12 o13 o14 o15 o16 o17 o18 o19 o20 o21 o22 : Option D} : s_law_20 (EV ns n [o2.map .val, o3.map .val, o4.map .val, o5.map .val, o6.map .val, o7.map .val, o8.map .val, o9.map .val, o10.map .val, o11.map .val, o12.map .val, o13.map .val, o14.map .val, o15.map .val, some (.val (.lst (strD P2))), o17.map .val, o18.map .val, o19.map .val, o20.map .val, o21.map .val, o22.map .val, none, none, none, none, none, none, none, none]) = .ok .nx (EV ns n [o2.map .val, o3.map .val, o4.map .val, o5.map .val, o6.map .val, o7.map .val, o8.map .val, o9.map .val, o10.map .val, o11.map .val, o12.map .val, o13.map .val, o14.map .val, o15.map .val, some (.val (.lst (strD P2))), o17.map .val, o18.map .val, o19.map .val, o20.map .val, some (.val (covD FC)), o22.map .val, none, none, none, none, none, none, none, none]) := by
  have q := newcov FC fcok ["fire", "storm"] (.lst (strD P2)) (fun p => ckperL p P2 psP2) (by rfl)
  have t2 : (2 : Nat) ≤ sizeLine := by decide
  change F_Cover_init [.inn (.ob 3 []), .val (.int 900), .val (.int 900), .val (.lst (strD P2)), .val (.tup [.int 0, .int 9]), .val (.int 0)] = .ok .non [.ob 3 [.int 900, .int 900, .tup (strD ["fire", "storm"]), .tup [.int 0, .int 9], .int 0]] at q
  rw [show covD FC = .ob 3 [.int 900, .int 900, .tup (strD ["fire", "storm"]), .tup [.int 0, .int 9], .int 0] from rfl]
  generalize strD P2 = PD at *
  generalize strD ["fire", "storm"] = QD at *
  simp [s_law_20, t2, toWs, q, holds, W.put]
theorem fc_on {g : Int} {p : Str} (hp : p ∈ P2) (g0 : 0 ≤ g) (g1 : g < 9) : Cov.on FC p g = true := by
  have : p ∈ (["fire", "storm"] : List Str) := by
    simp only [P2, List.mem_cons, List.not_mem_nil, or_false] at hp ⊢
    exact hp.symm
  unfold Cov.on
  simp [FC] at this ⊢
  exact ⟨this, decide_eq_true g0, decide_eq_true g1⟩
theorem fc_gaps {U : List (Cov.C Str)} (h : FC ∈ U) {k : Nat} (k2 : k ≤ 5) : Cov.gaps U P2 k = [] := by
  unfold Cov.gaps
  refine List.filter_eq_nil_iff.mpr fun q hq => ?_
  obtain ⟨g, p⟩ := q
  obtain ⟨⟨g0, g1⟩, hp⟩ := Cov.mem_prs.mp hq
  have := fc_on hp g0 (by omega)
  have : U.any (fun c => Cov.on c p g) = true := List.any_eq_true.mpr ⟨FC, h, this⟩
  simp only [this]
  decide
theorem fc_pay {p : Str} {g a : Int} (l : LOk p g a) (hp : p ∈ P2) (a90 : a ≤ 90) : Cov.pay FC p g a = a := by
  have l1 := l.a1
  have h1 := fc_on hp l.g1 (by have := l.g2; omega)
  have h2 : ¬ a < FC.le := by show ¬ a < 0; omega
  have e1 : FC.m = 900 := rfl
  have e2 : FC.v = 900 := rfl
  unfold Cov.pay Cov.part
  rw [h1, decide_eq_false h2, e1, e2]
  simp
  omega
theorem tot_nn {T : List (Cov.C Str)} (hT : Ts T) {p : Str} {g a : Int} (l : LOk p g a) : 0 ≤ Cov.tot T p g a := by
  have := payL_nn hT.cs l
  unfold Cov.tot
  change ∀ r ∈ (T.map fun c => Cov.pay c p g a), 0 ≤ r at this
  generalize (T.map fun c => Cov.pay c p g a) = L at this ⊢
  clear l hT
  induction L with
  | nil => simp
  | cons x L ih =>
    rw [List.sum_cons]
    have h1 := this x (by simp)
    have h2 := ih (fun r hr => this r (by simp [hr]))
    omega
theorem rng1 (m : Nat) : rngD 1 m = ((Cov.rng m).map (· + 1)).map D.int := by
  unfold rngD Cov.rng
  rw [List.map_map, List.map_map]
  apply List.map_congr_left
  intro i _
  simp [Int.add_comm]
theorem ndl_fc (T : List (Cov.C Str)) (k : Nat) (k2 : k ≤ 5) (h : Cov.gaps T P2 k ≠ []) : ndl (FC :: T) P2 k = (Cov.rng T.length).map (· + 1) := by
  unfold ndl
  rw [List.length_cons, Cov.rng_succ, List.filter_cons]
  have g0 : Cov.gaps (FC :: T) P2 k = [] := fc_gaps (by simp) k2
  rw [g0]
  have h0 : Cov.gaps ((FC :: T).take (0 : Int).toNat ++ (FC :: T).drop ((0 : Int).toNat + 1)) P2 k = Cov.gaps T P2 k := rfl
  rw [h0, decide_eq_false h, if_neg (by decide)]
  refine List.filter_eq_self.mpr fun i hi => decide_eq_true (fc_gaps ?_ k2)
  obtain ⟨j, hj, rfl⟩ := List.mem_map.mp hi
  have j0 : 0 ≤ j := by
    unfold Cov.rng at hj
    obtain ⟨m, _, rfl⟩ := List.mem_map.mp hj
    omega
  have e : (j + 1).toNat = j.toNat + 1 := by omega
  rw [e, List.take_succ_cons]
  simp
theorem s21_run (ns : List Int) (n : Int) (CT ND' RD : List D) (X PS K LD J0 J1 : D) (m : Nat) (b0 ne : Bool) {o2 o3 o4 o5 o6 o7 o8 o9 o10 o11 o12 o13 o14 o15 o16 o17 o18 o19 o20 o21 o22 : Option D} (hm : CT.length = m) (t : CT.length + 1 ≤ sizeLine) (t' : 1 + CT.length ≤ sizeLine)
    (j1 : F_judge_covers [.val (.lst (CT ++ [X])), .val PS, .val K] = .ok J1 []) (u1 : obTru bs J1 = some true) (q1 : F_borne [.val (.lst (CT ++ [X])), .val LD] = .ok (.int 0) [])
    (d1 : F_needless_covers [.val (.lst (X :: CT)), .val PS, .val K] = .ok (.tup ND') []) (l1 : lim4 1 = true) (l2 : lim4 (m + 1) = true) (rd : rngD 1 ((m : Int) + 1 - 1).toNat = RD) (hn : dNe (.tup ND') (.tup RD) = some (.bl ne)) (j0 : F_judge_covers [.val (.lst CT), .val PS, .val K] = .ok J0 []) (u0 : obTru bs J0 = some b0) (im : b0 = false → ne = false) :
    s_law_21 (EV ns n [o2.map .val, o3.map .val, o4.map .val, o5.map .val, o6.map .val, o7.map .val, o8.map .val, o9.map .val, o10.map .val, o11.map .val, o12.map .val, o13.map .val, o14.map .val, some (.val (.lst CT)), some (.val (PS)), some (.val (K)), o18.map .val, some (.val (LD)), o20.map .val, some (.val (X)), o22.map .val, none, none, none, none, none, none, none, none]) = .ok .nx (EV ns n [o2.map .val, o3.map .val, o4.map .val, o5.map .val, o6.map .val, o7.map .val, o8.map .val, o9.map .val, o10.map .val, o11.map .val, o12.map .val, o13.map .val, o14.map .val, some (.val (.lst CT)), some (.val (PS)), some (.val (K)), o18.map .val, some (.val (LD)), o20.map .val, some (.val (X)), o22.map .val, none, none, none, none, none, none, none, none]) := by
  have t1 : (1 : Nat) ≤ sizeLine := by decide
  have e0 := ne_int 0 0
  have fl : fLen [.lst CT] = some (.int (m : Nat)) := by rw [← hm]; simp [fLen]
  have rd2 : rngD 1 m = RD := by rw [← rd]; congr 1; omega
  have m0 : 0 < m ∨ m = 0 := by omega
  rcases m0 with m0 | m0
  · cases b0 with
    | true => cases ne <;> simp [s_law_21, t1, dAdd, t, t', toWs, j1, u1, q1, e0, fl, dGt, m0, d1, fTup, mTupRng2, l1, l2, rd2, hn, j0, u0]
    | false =>
      rw [im rfl] at hn
      simp [s_law_21, t1, dAdd, t, t', toWs, j1, u1, q1, e0, fl, dGt, m0, d1, fTup, mTupRng2, l1, l2, rd2, hn]
  · have m1 : ¬ 0 < m := by omega
    simp [s_law_21, t1, dAdd, t, t', toWs, j1, u1, q1, e0, fl, dGt, m1]
theorem s21 (ns : List Int) (n : Int) (T : List (Cov.C Str)) (hT : Ts T) (k : Nat) (k1 : 1 ≤ k) (k2 : k ≤ 5) (p : Str) (g a : Int) (l : LOk p g a) (hp : p ∈ P2) (a90 : a ≤ 90) {o2 o3 o4 o5 o6 o7 o8 o9 o10 o11 o12 o13 o14 o15 o16 o17 o18 o19 o20 o21 o22 : Option D} : s_law_21 (EV ns n [o2.map .val, o3.map .val, o4.map .val, o5.map .val, o6.map .val, o7.map .val, o8.map .val, o9.map .val, o10.map .val, o11.map .val, o12.map .val, o13.map .val, o14.map .val, some (.val (covL T)), some (.val (.lst (strD P2))), some (.val (.int (k : Nat))), o18.map .val, some (.val (losD p g a)), o20.map .val, some (.val (covD FC)), o22.map .val, none, none, none, none, none, none, none, none]) = .ok .nx (EV ns n [o2.map .val, o3.map .val, o4.map .val, o5.map .val, o6.map .val, o7.map .val, o8.map .val, o9.map .val, o10.map .val, o11.map .val, o12.map .val, o13.map .val, o14.map .val, some (.val (covL T)), some (.val (.lst (strD P2))), some (.val (.int (k : Nat))), o18.map .val, some (.val (losD p g a)), o20.map .val, some (.val (covD FC)), o22.map .val, none, none, none, none, none, none, none, none]) := by
  have j1 := judge (T ++ [FC]) (hT.add fcok) P2 psP2 k k1 (by omega)
  have j0 := judge T hT.cs P2 psP2 k k1 (by omega)
  have q1 := borne (T ++ [FC]) (hT.add fcok) p g a l
  have d1 := needF (FC :: T) (hT.cons fcok) P2 psP2 k k1 (by omega)
  have u1 := jtru (Cov.gaps (T ++ [FC]) P2 k)
  rw [decide_eq_true (fc_gaps (U := T ++ [FC]) (by simp) k2)] at u1
  have b0 : Cov.bor (T ++ [FC]) p g a = 0 := by
    unfold Cov.bor
    rw [tot_add, fc_pay l hp a90]
    have := tot_nn hT l
    omega
  rw [b0] at q1
  have tl := hT.few
  have rd : rngD 1 ((T.length : Int) + 1 - 1).toNat = ((Cov.rng T.length).map (· + 1)).map D.int := by
    rw [show ((T.length : Int) + 1 - 1).toNat = T.length by omega]
    exact rng1 _
  have eq := eq_tup eInt (l := ndl (FC :: T) P2 k) (r := (Cov.rng T.length).map (· + 1)) (fun _ _ => trivial) (fun _ _ => trivial) (by decide)
  have hn : dNe (.tup ((ndl (FC :: T) P2 k).map D.int)) (.tup (((Cov.rng T.length).map (· + 1)).map D.int)) = some (.bl (!decide (ndl (FC :: T) P2 k = (Cov.rng T.length).map (· + 1)))) := by
    unfold dNe
    rw [show eqB (.tup ((ndl (FC :: T) P2 k).map D.int)) (.tup (((Cov.rng T.length).map (· + 1)).map D.int)) = _ from eq]
    rfl
  unfold covL at *
  rw [List.map_append] at j1 q1
  refine s21_run ns n (o15 := none) (o16 := none) (o17 := none) (o19 := none) (o21 := none) (T.map covD) _ _ _ _ _ _ _ _ T.length _ _ (by simp) (sizeL (by simp; omega)) (sizeL (by simp; omega)) j1 u1 q1 d1 (by decide) (by unfold lim4; exact decide_eq_true (by omega)) rd hn j0 (jtru _) fun z => ?_
  rw [ndl_fc T k k2 (of_decide_eq_false z)]
  simp
end T37
set_option Elab.async false
set_option linter.all false
set_option maxRecDepth 100000
set_option maxHeartbeats 1000000
namespace T37
open PySem PySem.Spec PyProof.Rows L2 DL
theorem turn (ns : List Int) (hl : ns.length ≤ 63) (n : Int) {o3 o4 o5 o6 o7 o8 o9 o10 o11 o12 o13 o14 o15 o16 o17 o18 o19 o20 o21 o22 : Option D} : ∃ (n' : Int) (q3 q4 q5 q6 q7 q8 q9 q10 q11 q12 q13 q14 q15 q16 q17 q18 q19 q20 q21 q22 : Option D), b_law_1 (EV ns n [some (.val ND), o3.map .val, o4.map .val, o5.map .val, o6.map .val, o7.map .val, o8.map .val, o9.map .val, o10.map .val, o11.map .val, o12.map .val, o13.map .val, o14.map .val, o15.map .val, o16.map .val, o17.map .val, o18.map .val, o19.map .val, o20.map .val, o21.map .val, o22.map .val, none, none, none, none, none, none, none, none]) = .ok .nx (EV ns n' [some (.val ND), q3.map .val, q4.map .val, q5.map .val, q6.map .val, q7.map .val, q8.map .val, q9.map .val, q10.map .val, q11.map .val, q12.map .val, q13.map .val, q14.map .val, q15.map .val, q16.map .val, q17.map .val, q18.map .val, q19.map .val, q20.map .val, q21.map .val, q22.map .val, none, none, none, none, none, none, none, none]) := by
  obtain ⟨hs, hh, m, tk, ⟨m1, m2⟩, h1⟩ := s1 ns hl n (o2 := some ND) (o3 := o3) (o4 := o4) (o5 := o5) (o6 := o6) (o7 := o7) (o8 := o8) (o9 := o9) (o10 := o10) (o11 := o11) (o12 := o12) (o13 := o13) (o14 := o14) (o15 := o15) (o16 := o16) (o17 := o17) (o18 := o18) (o19 := o19) (o20 := o20) (o21 := o21) (o22 := o22)
  obtain ⟨due, d1, d2, h2⟩ := s2 ns hl (n + 1 + 1 + 1) m tk m1 m2 (o2 := some ND) (o3 := o3) (o4 := some (.lst (hs.map D.str))) (o5 := none) (o6 := none) (o7 := o7) (o8 := o8) (o9 := o9) (o10 := o10) (o11 := o11) (o12 := o12) (o13 := o13) (o14 := o14) (o15 := o15) (o16 := o16) (o17 := o17) (o18 := o18) (o19 := o19) (o20 := o20) (o21 := o21) (o22 := o22)
  obtain ⟨fs, hf, n3, h3⟩ := s3 ns hl (n + 1 + 1 + 1 + 1) hs hh (o2 := some ND) (o3 := o3) (o4 := none) (o5 := some (.int m)) (o6 := some (.bl tk)) (o7 := some (D1.dr m due tk)) (o8 := o8) (o9 := o9) (o10 := o10) (o11 := o11) (o12 := o12) (o13 := o13) (o14 := o14) (o15 := o15) (o16 := o16) (o17 := o17) (o18 := o18) (o19 := o19) (o20 := o20) (o21 := o21) (o22 := o22)
  obtain ⟨r, hr, n4, h4⟩ := s4 ns hl n3 hs hh fs hf (o2 := some ND) (o3 := o3) (o4 := none) (o5 := some (.int m)) (o6 := some (.bl tk)) (o7 := some (D1.dr m due tk)) (o8 := none) (o9 := o9) (o10 := o10) (o11 := o11) (o12 := o12) (o13 := o13) (o14 := o14) (o15 := o15) (o16 := o16) (o17 := o17) (o18 := o18) (o19 := o19) (o20 := o20) (o21 := o21) (o22 := o22)
  have h5 := s5 ns n4 m due tk hs hh fs hf r hr (o2 := some ND) (o3 := o3) (o4 := none) (o5 := some (.int m)) (o6 := some (.bl tk)) (o7 := none) (o8 := none) (o9 := none) (o10 := o10) (o11 := o11) (o12 := o12) (o13 := o13) (o14 := o14) (o15 := o15) (o16 := o16) (o17 := o17) (o18 := o18) (o19 := o19) (o20 := o20) (o21 := o21) (o22 := o22)
  have h6 := s6 ns n4 hs hh (o2 := some ND) (o3 := o3) (o4 := none) (o5 := some (.int m)) (o6 := some (.bl tk)) (o7 := some (D1.dr m due tk)) (o8 := some (.lst (fs.map D.str))) (o9 := some (.lst ((fs ++ r).map D.str))) (o10 := some (D1.jres tk hs fs)) (o11 := some (D1.jres tk hs (fs ++ r))) (o12 := o12) (o13 := o13) (o14 := o14) (o15 := o15) (o16 := o16) (o17 := o17) (o18 := o18) (o19 := o19) (o20 := o20) (o21 := o21) (o22 := o22)
  have h7 := s7 ns n4 tk hs hh fs hf r hr (o2 := some ND) (o3 := o3) (o4 := some (.lst (hs.map D.str))) (o5 := some (.int m)) (o6 := some (.bl tk)) (o7 := some (D1.dr m due tk)) (o8 := some (.lst (fs.map D.str))) (o9 := some (.lst ((fs ++ r).map D.str))) (o10 := none) (o11 := none) (o12 := none) (o13 := o13) (o14 := o14) (o15 := o15) (o16 := o16) (o17 := o17) (o18 := o18) (o19 := o19) (o20 := o20) (o21 := o21) (o22 := o22)
  have h8 := s8 ns n4 m due tk hs hh fs hf m1 m2 d1 d2 (o2 := none) (o3 := o3) (o4 := none) (o5 := none) (o6 := none) (o7 := none) (o8 := none) (o9 := some (.lst ((fs ++ r).map D.str))) (o10 := some (D1.jres tk hs fs)) (o11 := some (D1.jres tk hs (fs ++ r))) (o12 := some (.lst ((D1.rows hs).map D.str))) (o13 := o13) (o14 := o14) (o15 := o15) (o16 := o16) (o17 := o17) (o18 := o18) (o19 := o19) (o20 := o20) (o21 := o21) (o22 := o22)
  have h9 := s9 ns n4 tk hs hh fs hf (o2 := none) (o3 := o3) (o4 := some (.lst (hs.map D.str))) (o5 := some (.int m)) (o6 := some (.bl tk)) (o7 := some (D1.dr m due tk)) (o8 := some (.lst (fs.map D.str))) (o9 := some (.lst ((fs ++ r).map D.str))) (o10 := none) (o11 := some (D1.jres tk hs (fs ++ r))) (o12 := some (.lst ((D1.rows hs).map D.str))) (o13 := none) (o14 := o14) (o15 := o15) (o16 := o16) (o17 := o17) (o18 := o18) (o19 := o19) (o20 := o20) (o21 := o21) (o22 := o22)
  obtain ⟨p22, h10⟩ := s10 ns n4 m due tk hs hh fs hf (o2 := some ND) (o3 := o3) (o4 := none) (o5 := some (.int m)) (o6 := some (.bl tk)) (o7 := none) (o8 := some (.lst (fs.map D.str))) (o9 := some (.lst ((fs ++ r).map D.str))) (o10 := none) (o11 := some (D1.jres tk hs (fs ++ r))) (o12 := some (.lst ((D1.rows hs).map D.str))) (o13 := some (D2.jres tk (hs.map nmap) (fs.map nmap))) (o14 := o14) (o15 := o15) (o16 := o16) (o17 := o17) (o18 := o18) (o19 := o19) (o20 := o20) (o21 := o21) (o22 := o22)
  have h11 := s11 ns n4 m due tk hs hh fs hf (o2 := some ND) (o3 := o3) (o4 := none) (o5 := some (.int m)) (o6 := some (.bl tk)) (o7 := none) (o8 := none) (o9 := some (.lst ((fs ++ r).map D.str))) (o10 := some (D1.jres tk hs fs)) (o11 := some (D1.jres tk hs (fs ++ r))) (o12 := some (.lst ((D1.rows hs).map D.str))) (o13 := some (D2.jres tk (hs.map nmap) (fs.map nmap))) (o14 := o14) (o15 := o15) (o16 := o16) (o17 := o17) (o18 := o18) (o19 := o19) (o20 := o20) (o21 := o21) (o22 := p22)
  have h12 := s12 ns n4 m due tk hs hh fs hf m1 m2 (o2 := some ND) (o3 := o3) (o4 := none) (o5 := none) (o6 := some (.bl tk)) (o7 := none) (o8 := none) (o9 := some (.lst ((fs ++ r).map D.str))) (o10 := none) (o11 := some (D1.jres tk hs (fs ++ r))) (o12 := none) (o13 := some (D2.jres tk (hs.map nmap) (fs.map nmap))) (o14 := none) (o15 := o15) (o16 := o16) (o17 := o17) (o18 := o18) (o19 := o19) (o20 := o20) (o21 := o21) (o22 := p22)
  obtain ⟨T, n5, hT, h13⟩ := s13 ns hl n4 (o2 := some ND) (o3 := o3) (o4 := some (.lst (hs.map D.str))) (o5 := some (.int m)) (o6 := some (.bl tk)) (o7 := some (D1.dr m due tk)) (o8 := some (.lst (fs.map D.str))) (o9 := some (.lst ((fs ++ r).map D.str))) (o10 := some (D1.jres tk hs fs)) (o11 := some (D1.jres tk hs (fs ++ r))) (o12 := some (.lst ((D1.rows hs).map D.str))) (o13 := some (D2.jres tk (hs.map nmap) (fs.map nmap))) (o14 := some (D1.lostD m tk hs fs)) (o15 := o15) (o16 := o16) (o17 := o17) (o18 := o18) (o19 := o19) (o20 := o20) (o21 := o21) (o22 := p22)
  have h14 := s14 ns n5 T hT (o2 := some ND) (o3 := o3) (o4 := some (.lst (hs.map D.str))) (o5 := some (.int m)) (o6 := some (.bl tk)) (o7 := some (D1.dr m due tk)) (o8 := some (.lst (fs.map D.str))) (o9 := some (.lst ((fs ++ r).map D.str))) (o10 := some (D1.jres tk hs fs)) (o11 := some (D1.jres tk hs (fs ++ r))) (o12 := none) (o13 := some (D2.jres tk (hs.map nmap) (fs.map nmap))) (o14 := some (D1.lostD m tk hs fs)) (o15 := o15) (o16 := o16) (o17 := o17) (o18 := o18) (o19 := o19) (o20 := o20) (o21 := o21) (o22 := p22)
  obtain ⟨k, c, n6, ⟨k1, k2⟩, hc, h15⟩ := s15 ns hl n5 (o2 := some ND) (o3 := o3) (o4 := some (.lst (hs.map D.str))) (o5 := some (.int m)) (o6 := some (.bl tk)) (o7 := some (D1.dr m due tk)) (o8 := some (.lst (fs.map D.str))) (o9 := some (.lst ((fs ++ r).map D.str))) (o10 := some (D1.jres tk hs fs)) (o11 := some (D1.jres tk hs (fs ++ r))) (o12 := some (.lst (T.map tolD))) (o13 := some (D2.jres tk (hs.map nmap) (fs.map nmap))) (o14 := some (D1.lostD m tk hs fs)) (o15 := some (covL T)) (o16 := o16) (o17 := o17) (o18 := o18) (o19 := o19) (o20 := o20) (o21 := o21) (o22 := p22)
  have h16 := s16 ns n6 T hT k k1 k2 c hc (o2 := some ND) (o3 := o3) (o4 := some (.lst (hs.map D.str))) (o5 := some (.int m)) (o6 := some (.bl tk)) (o7 := some (D1.dr m due tk)) (o8 := some (.lst (fs.map D.str))) (o9 := some (.lst ((fs ++ r).map D.str))) (o10 := some (D1.jres tk hs fs)) (o11 := some (D1.jres tk hs (fs ++ r))) (o12 := some (.lst (T.map tolD))) (o13 := some (D2.jres tk (hs.map nmap) (fs.map nmap))) (o14 := some (D1.lostD m tk hs fs)) (o15 := none) (o16 := none) (o17 := none) (o18 := none) (o19 := o19) (o20 := o20) (o21 := o21) (o22 := p22)
  obtain ⟨p, g, a, l, hp, a90, h17⟩ := s17 ns hl n6 k k1 k2 (o2 := some ND) (o3 := o3) (o4 := some (.lst (hs.map D.str))) (o5 := some (.int m)) (o6 := some (.bl tk)) (o7 := some (D1.dr m due tk)) (o8 := some (.lst (fs.map D.str))) (o9 := some (.lst ((fs ++ r).map D.str))) (o10 := some (D1.jres tk hs fs)) (o11 := some (D1.jres tk hs (fs ++ r))) (o12 := some (.lst (T.map tolD))) (o13 := some (D2.jres tk (hs.map nmap) (fs.map nmap))) (o14 := some (D1.lostD m tk hs fs)) (o15 := some (covL T)) (o16 := none) (o17 := none) (o18 := some (covD c)) (o19 := o19) (o20 := o20) (o21 := o21) (o22 := p22)
  have h18 := s18 ns (n6 + 1 + 1 + 1) T hT p g a l (o2 := some ND) (o3 := o3) (o4 := some (.lst (hs.map D.str))) (o5 := some (.int m)) (o6 := some (.bl tk)) (o7 := some (D1.dr m due tk)) (o8 := some (.lst (fs.map D.str))) (o9 := some (.lst ((fs ++ r).map D.str))) (o10 := some (D1.jres tk hs fs)) (o11 := some (D1.jres tk hs (fs ++ r))) (o12 := some (.lst (T.map tolD))) (o13 := some (D2.jres tk (hs.map nmap) (fs.map nmap))) (o14 := some (D1.lostD m tk hs fs)) (o15 := none) (o16 := some (.lst (strD P2))) (o17 := some (.int (k : Nat))) (o18 := some (covD c)) (o19 := none) (o20 := o20) (o21 := o21) (o22 := p22)
  have h19 := s19 ns (n6 + 1 + 1 + 1) T hT c hc p g a l (o2 := some ND) (o3 := o3) (o4 := some (.lst (hs.map D.str))) (o5 := some (.int m)) (o6 := some (.bl tk)) (o7 := some (D1.dr m due tk)) (o8 := some (.lst (fs.map D.str))) (o9 := some (.lst ((fs ++ r).map D.str))) (o10 := some (D1.jres tk hs fs)) (o11 := some (D1.jres tk hs (fs ++ r))) (o12 := some (.lst (T.map tolD))) (o13 := some (D2.jres tk (hs.map nmap) (fs.map nmap))) (o14 := some (D1.lostD m tk hs fs)) (o15 := none) (o16 := some (.lst (strD P2))) (o17 := some (.int (k : Nat))) (o18 := none) (o19 := none) (o20 := none) (o21 := o21) (o22 := p22)
  have h20 := s20 ns (n6 + 1 + 1 + 1) (o2 := some ND) (o3 := o3) (o4 := some (.lst (hs.map D.str))) (o5 := some (.int m)) (o6 := some (.bl tk)) (o7 := some (D1.dr m due tk)) (o8 := some (.lst (fs.map D.str))) (o9 := some (.lst ((fs ++ r).map D.str))) (o10 := some (D1.jres tk hs fs)) (o11 := some (D1.jres tk hs (fs ++ r))) (o12 := some (.lst (T.map tolD))) (o13 := some (D2.jres tk (hs.map nmap) (fs.map nmap))) (o14 := some (D1.lostD m tk hs fs)) (o15 := some (covL T)) (o16 := none) (o17 := some (.int (k : Nat))) (o18 := some (covD c)) (o19 := some (losD p g a)) (o20 := some (.lst ((Cov.shr (payL T p g a) a).map D.int))) (o21 := o21) (o22 := p22)
  have h21 := s21 ns (n6 + 1 + 1 + 1) T hT k k1 k2 p g a l hp a90 (o2 := some ND) (o3 := o3) (o4 := some (.lst (hs.map D.str))) (o5 := some (.int m)) (o6 := some (.bl tk)) (o7 := some (D1.dr m due tk)) (o8 := some (.lst (fs.map D.str))) (o9 := some (.lst ((fs ++ r).map D.str))) (o10 := some (D1.jres tk hs fs)) (o11 := some (D1.jres tk hs (fs ++ r))) (o12 := some (.lst (T.map tolD))) (o13 := some (D2.jres tk (hs.map nmap) (fs.map nmap))) (o14 := some (D1.lostD m tk hs fs)) (o15 := none) (o16 := none) (o17 := none) (o18 := some (covD c)) (o19 := none) (o20 := some (.lst ((Cov.shr (payL T p g a) a).map D.int))) (o21 := none) (o22 := p22)
  refine ⟨n6 + 1 + 1 + 1, o3, some (.lst (hs.map D.str)), some (.int m), some (.bl tk), some (D1.dr m due tk), some (.lst (fs.map D.str)), some (.lst ((fs ++ r).map D.str)), some (D1.jres tk hs fs), some (D1.jres tk hs (fs ++ r)), some (.lst (T.map tolD)), some (D2.jres tk (hs.map nmap) (fs.map nmap)), some (D1.lostD m tk hs fs), some (covL T), some (.lst (strD P2)), some (.int (k : Nat)), some (covD c), some (losD p g a), some (.lst ((Cov.shr (payL T p g a) a).map D.int)), some (covD FC), p22, ?_⟩
  unfold b_law_1
  exact seq_nx h1 (seq_nx h2 (seq_nx h3 (seq_nx h4 (seq_nx h5 (seq_nx h6 (seq_nx h7 (seq_nx h8 (seq_nx h9 (seq_nx h10 (seq_nx h11 (seq_nx h12 (seq_nx h13 (seq_nx h14 (seq_nx h15 (seq_nx h16 (seq_nx h17 (seq_nx h18 (seq_nx h19 (seq_nx h20 h21)))))))))))))))))))
theorem plain (ns : List Int) (h : ns.length ≤ 63) : F_law [.val (.rol (ns.map D.int))] = .ok (.bl true) [] := by
  obtain ⟨ρ', h1, n', q3, q4, q5, q6, q7, q8, q9, q10, q11, q12, q13, q14, q15, q16, q17, q18, q19, q20, q21, q22, rfl⟩ := for_keep (g := mTN 3) (b := b_law_1) (fun ρ => ∃ (n : Int) (q3 q4 q5 q6 q7 q8 q9 q10 q11 q12 q13 q14 q15 q16 q17 q18 q19 q20 q21 q22 : Option D), ρ = EV ns n [some (.val ND), q3.map .val, q4.map .val, q5.map .val, q6.map .val, q7.map .val, q8.map .val, q9.map .val, q10.map .val, q11.map .val, q12.map .val, q13.map .val, q14.map .val, q15.map .val, q16.map .val, q17.map .val, q18.map .val, q19.map .val, q20.map .val, q21.map .val, q22.map .val, none, none, none, none, none, none, none, none]) (rngD 0 8) (fun d hd ρ ⟨n, q3, q4, q5, q6, q7, q8, q9, q10, q11, q12, q13, q14, q15, q16, q17, q18, q19, q20, q21, q22, hr⟩ => by
    subst hr
    obtain ⟨n', r3, r4, r5, r6, r7, r8, r9, r10, r11, r12, r13, r14, r15, r16, r17, r18, r19, r20, r21, r22, h⟩ := turn ns h n (o3 := some d) (o4 := q4) (o5 := q5) (o6 := q6) (o7 := q7) (o8 := q8) (o9 := q9) (o10 := q10) (o11 := q11) (o12 := q12) (o13 := q13) (o14 := q14) (o15 := q15) (o16 := q16) (o17 := q17) (o18 := q18) (o19 := q19) (o20 := q20) (o21 := q21) (o22 := q22)
    exact ⟨_, _, rfl, h, n', r3, r4, r5, r6, r7, r8, r9, r10, r11, r12, r13, r14, r15, r16, r17, r18, r19, r20, r21, r22, rfl⟩) (EV ns 0 [some (.val ND), none, none, none, none, none, none, none, none, none, none, none, none, none, none, none, none, none, none, none, none, none, none, none, none, none, none, none, none]) ⟨0, none, none, none, none, none, none, none, none, none, none, none, none, none, none, none, none, none, none, none, none, rfl⟩
  have t2 : (2 : Nat) ≤ sizeLine := by decide
  have t8 : lim62 8 = true := by decide
  have f1 : mFor (mRng1 (mC (.int 8))) (mTN 3) b_law_1 (EV ns 0 [some (.val ND), none, none, none, none, none, none, none, none, none, none, none, none, none, none, none, none, none, none, none, none, none, none, none, none, none, none, none, none]) = .ok .nx (EV ns n' [some (.val ND), q3.map .val, q4.map .val, q5.map .val, q6.map .val, q7.map .val, q8.map .val, q9.map .val, q10.map .val, q11.map .val, q12.map .val, q13.map .val, q14.map .val, q15.map .val, q16.map .val, q17.map .val, q18.map .val, q19.map .val, q20.map .val, q21.map .val, q22.map .val, none, none, none, none, none, none, none, none]) := by
    generalize hR : rngD 0 8 = R at h1
    simp [t8, hR, h1]
  have f0 : s_law_23 (EV ns 0 [none, none, none, none, none, none, none, none, none, none, none, none, none, none, none, none, none, none, none, none, none, none, none, none, none, none, none, none, none]) = .ok .nx (EV ns 0 [some (.val ND), none, none, none, none, none, none, none, none, none, none, none, none, none, none, none, none, none, none, none, none, none, none, none, none, none, none, none, none]) := by rfl
  unfold F_law m_law
  rw [ev_runF]
  rw [seq_nx (ρ1 := (EV ns 0 [none, none, none, none, none, none, none, none, none, none, none, none, none, none, none, none, none, none, none, none, none, none, none, none, none, none, none, none, none])) (by simp [startE, s_law_22, t2]) (seq_nx f0 (seq_nx (show s_law_24 _ = _ from f1) rfl))]
  simp [s_law_25, finE, outsE]
end T37
set_option Elab.async false
set_option linter.all false
set_option maxRecDepth 100000
set_option maxHeartbeats 0
namespace T37
open PySem PySem.Spec PyProof.Rows L2 DL
abbrev R : PySem.W.OpenRow := PySem.W.OpenLaw.row PySem.Challenge.rw_goodsbypapers_k37_across_drafts_and_cove
def gd (x : Str) (i : Nat) : He.DefD := ⟨(x, none), x, x, defArgs (top i), defBody (top i), defScope (top i), [], []⟩
def md (C m q : Str) (i j : Nat) : He.DefD := ⟨(C, some m), m, q, defArgs (inClass (top i) j), defBody (inClass (top i) j), defScope (inClass (top i) j), [], []⟩
def fn : List He.DefD := [md "Paid" "__bool__" "Paid.__bool__" 15 1, md "Bears" "__bool__" "Bears.__bool__" 16 1, md "Whole" "__bool__" "Whole.__bool__" 34 0, md "Gap" "__bool__" "Gap.__bool__" 35 1, gd "_law_number" 41, gd "_law_take" 42, gd "is_integer" 7, gd "is_number" 8, gd "check_number" 9, gd "is_name" 10, gd "check_name" 11, md "Draft" "__init__" "Draft.__init__" 14 0, gd "is_row" 12, gd "check_passed" 17, gd "holder_of" 18, md "Paid" "__init__" "Paid.__init__" 15 0, gd "asked_back" 19, md "Bears" "__init__" "Bears.__init__" 16 0, gd "judge_draft" 20, gd "losses" 21, gd "safe_hands" 22, gd "worth" 23, gd "_law_cover" 44, gd "check_perils" 27, md "Cover" "__init__" "Cover.__init__" 26 0, gd "_law_cover_built" 45, gd "check_covers" 28, gd "is_on" 30, gd "gaps" 36, md "Gap" "__init__" "Gap.__init__" 35 0, gd "judge_covers" 37, gd "twice_covered" 38, gd "_law_pick" 43, gd "check_loss" 29, gd "pays" 31, gd "shares" 32, gd "borne" 33, gd "needless_covers" 39, gd "law" 46]
def fa : List He.Fa := [.glo "_law_number", .glo "_law_take", .glo "is_integer", .glo "is_number", .glo "check_number", .glo "is_name", .glo "check_name", .glo "is_row", .glo "check_passed", .glo "holder_of", .glo "asked_back", .glo "judge_draft", .glo "losses", .glo "safe_hands", .glo "worth", .glo "_law_cover", .glo "check_perils", .glo "_law_cover_built", .glo "check_covers", .glo "is_on", .glo "gaps", .glo "judge_covers", .glo "twice_covered", .glo "_law_pick", .glo "check_loss", .glo "pays", .glo "shares", .glo "borne", .glo "needless_covers", .glo "law", .glo "Bears", .glo "Cover", .glo "Draft", .glo "Gap", .glo "Paid", .glo "Whole", .free "all", .free "any", .free "bool", .free "enumerate", .free "int", .free "isinstance", .free "len", .free "list", .free "max", .free "min", .free "range", .free "set", .free "sorted", .free "str", .free "sum", .free "tuple", .str "FIGURES" "0123456789", .str "SMALL" "abcdefghijklmnopqrstuvwxyz", .mkr "Bears", .mkr "Cover", .mkr "Draft", .mkr "Gap", .mkr "Paid", .meth "Paid" "__bool__", .meth "Bears" "__bool__", .meth "Whole" "__bool__", .meth "Gap" "__bool__"]
def ex (K : PySem.W.Frag) : Bool := DL.cfactsB K 6 && DL.constB K "MOST_LEGS" c_MOST_LEGS && DL.plainB K "Whole"
abbrev hk : PySem.W.Hook := He.hookX 5 fa fn [] [] ex
def ob (s : PySem.W.SharedT) : He.AlX := He.obsX 5 fa fn [] [] ex (HandSHeadRun.getT s)
theorem ob_eq (s : PySem.W.SharedT) : ob s = hk.obs s.abs := He.obsX_eq (HandSHeadRun.getT_eq s)
def loose : List Str := [("_wall" : Str), ("GoodsError" : Str), ("BadPart" : Str), ("is_integer" : Str), ("is_number" : Str), ("check_number" : Str), ("is_name" : Str), ("check_name" : Str), ("is_row" : Str), ("Draft" : Str), ("Paid" : Str), ("Bears" : Str), ("check_passed" : Str), ("holder_of" : Str), ("asked_back" : Str), ("judge_draft" : Str), ("losses" : Str), ("safe_hands" : Str), ("worth" : Str), ("Cover" : Str), ("check_perils" : Str), ("check_covers" : Str), ("check_loss" : Str), ("is_on" : Str), ("pays" : Str), ("shares" : Str), ("borne" : Str), ("Whole" : Str), ("Gap" : Str), ("gaps" : Str), ("judge_covers" : Str), ("twice_covered" : Str), ("needless_covers" : Str), ("_law_number" : Str), ("_law_take" : Str), ("_law_pick" : Str), ("_law_cover" : Str), ("_law_cover_built" : Str), ("FIGURES" : Str), ("MOST_LEGS" : Str), ("SMALL" : Str)]
theorem run (w : World) : HandSHeadRun.RunEq R (PySem.W.view R.prog [46]) hk ob 6000 loose w := by
  intro os
  kernel_rfl
theorem facts {P : Program} {w : World} {K : PySem.W.Frag} {h : Heap} {mg : Str → Option Value} {f : Addr} (X : K.In h) (G : h.Ns mainGlobals mg) (hfa : mg ("law" : Str) = some (.ref f)) (c : He.SaysX fa fn [] [] ex w h K) :
    ∃ fd : FuncData, (∀ (s : Shared) (v : Value), BindsTo s fd ⟨[v], []⟩ [("script", v)]) ∧ ∀ base : Heap, K.In base → base.Ns mainGlobals mg → FnOk P w K mg base CX0 7 f fd ["script"] (spF K 1 F_law) := by
  have d := c.t.d
  have hm := c.more
  simp only [ex, Bool.and_eq_true] at hm
  have cf := cfacts_ok hm.1.1
  obtain ⟨_, D0⟩ := d.def_ 0 (d := md "Paid" "__bool__" "Paid.__bool__" 15 1) rfl
  obtain ⟨_, D1⟩ := d.def_ 1 (d := md "Bears" "__bool__" "Bears.__bool__" 16 1) rfl
  obtain ⟨_, D2⟩ := d.def_ 2 (d := md "Whole" "__bool__" "Whole.__bool__" 34 0) rfl
  obtain ⟨_, D3⟩ := d.def_ 3 (d := md "Gap" "__bool__" "Gap.__bool__" 35 1) rfl
  obtain ⟨_, D4⟩ := d.def_ 4 (d := gd "_law_number" 41) rfl
  obtain ⟨_, D5⟩ := d.def_ 5 (d := gd "_law_take" 42) rfl
  obtain ⟨_, D6⟩ := d.def_ 6 (d := gd "is_integer" 7) rfl
  obtain ⟨_, D7⟩ := d.def_ 7 (d := gd "is_number" 8) rfl
  obtain ⟨_, D8⟩ := d.def_ 8 (d := gd "check_number" 9) rfl
  obtain ⟨_, D9⟩ := d.def_ 9 (d := gd "is_name" 10) rfl
  obtain ⟨_, D10⟩ := d.def_ 10 (d := gd "check_name" 11) rfl
  obtain ⟨_, D11⟩ := d.def_ 11 (d := md "Draft" "__init__" "Draft.__init__" 14 0) rfl
  obtain ⟨_, D12⟩ := d.def_ 12 (d := gd "is_row" 12) rfl
  obtain ⟨_, D13⟩ := d.def_ 13 (d := gd "check_passed" 17) rfl
  obtain ⟨_, D14⟩ := d.def_ 14 (d := gd "holder_of" 18) rfl
  obtain ⟨_, D15⟩ := d.def_ 15 (d := md "Paid" "__init__" "Paid.__init__" 15 0) rfl
  obtain ⟨_, D16⟩ := d.def_ 16 (d := gd "asked_back" 19) rfl
  obtain ⟨_, D17⟩ := d.def_ 17 (d := md "Bears" "__init__" "Bears.__init__" 16 0) rfl
  obtain ⟨_, D18⟩ := d.def_ 18 (d := gd "judge_draft" 20) rfl
  obtain ⟨_, D19⟩ := d.def_ 19 (d := gd "losses" 21) rfl
  obtain ⟨_, D20⟩ := d.def_ 20 (d := gd "safe_hands" 22) rfl
  obtain ⟨_, D21⟩ := d.def_ 21 (d := gd "worth" 23) rfl
  obtain ⟨_, D22⟩ := d.def_ 22 (d := gd "_law_cover" 44) rfl
  obtain ⟨_, D23⟩ := d.def_ 23 (d := gd "check_perils" 27) rfl
  obtain ⟨_, D24⟩ := d.def_ 24 (d := md "Cover" "__init__" "Cover.__init__" 26 0) rfl
  obtain ⟨_, D25⟩ := d.def_ 25 (d := gd "_law_cover_built" 45) rfl
  obtain ⟨_, D26⟩ := d.def_ 26 (d := gd "check_covers" 28) rfl
  obtain ⟨_, D27⟩ := d.def_ 27 (d := gd "is_on" 30) rfl
  obtain ⟨_, D28⟩ := d.def_ 28 (d := gd "gaps" 36) rfl
  obtain ⟨_, D29⟩ := d.def_ 29 (d := md "Gap" "__init__" "Gap.__init__" 35 0) rfl
  obtain ⟨_, D30⟩ := d.def_ 30 (d := gd "judge_covers" 37) rfl
  obtain ⟨_, D31⟩ := d.def_ 31 (d := gd "twice_covered" 38) rfl
  obtain ⟨_, D32⟩ := d.def_ 32 (d := gd "_law_pick" 43) rfl
  obtain ⟨_, D33⟩ := d.def_ 33 (d := gd "check_loss" 29) rfl
  obtain ⟨_, D34⟩ := d.def_ 34 (d := gd "pays" 31) rfl
  obtain ⟨_, D35⟩ := d.def_ 35 (d := gd "shares" 32) rfl
  obtain ⟨_, D36⟩ := d.def_ 36 (d := gd "borne" 33) rfl
  obtain ⟨_, D37⟩ := d.def_ 37 (d := gd "needless_covers" 39) rfl
  obtain ⟨_, D38⟩ := d.def_ 38 (d := gd "law" 46) rfl
  have e := hfa.symm.trans (He.glo_ok X G (d.fact 29 (f := .glo "law") rfl))
  cases e
  have b : B K mg := ⟨He.free_ok X G (d.fact 36 (f := .free "all") rfl),
    He.free_ok X G (d.fact 37 (f := .free "any") rfl),
    He.free_ok X G (d.fact 38 (f := .free "bool") rfl),
    He.free_ok X G (d.fact 39 (f := .free "enumerate") rfl),
    He.free_ok X G (d.fact 40 (f := .free "int") rfl),
    He.free_ok X G (d.fact 41 (f := .free "isinstance") rfl),
    He.free_ok X G (d.fact 42 (f := .free "len") rfl),
    He.free_ok X G (d.fact 43 (f := .free "list") rfl),
    He.free_ok X G (d.fact 44 (f := .free "max") rfl),
    He.free_ok X G (d.fact 45 (f := .free "min") rfl),
    He.free_ok X G (d.fact 46 (f := .free "range") rfl),
    He.free_ok X G (d.fact 47 (f := .free "set") rfl),
    He.free_ok X G (d.fact 48 (f := .free "sorted") rfl),
    He.free_ok X G (d.fact 49 (f := .free "str") rfl),
    He.free_ok X G (d.fact 50 (f := .free "sum") rfl),
    He.free_ok X G (d.fact 51 (f := .free "tuple") rfl),
    He.glo_ok X G (d.fact 30 (f := .glo "Bears") rfl),
    He.glo_ok X G (d.fact 31 (f := .glo "Cover") rfl),
    He.glo_ok X G (d.fact 32 (f := .glo "Draft") rfl),
    He.glo_ok X G (d.fact 33 (f := .glo "Gap") rfl),
    He.glo_ok X G (d.fact 34 (f := .glo "Paid") rfl),
    He.glo_ok X G (d.fact 35 (f := .glo "Whole") rfl),
    (let ⟨t, e⟩ := He.str_ok X G (d.fact 52 (f := .str "FIGURES" "0123456789") rfl); ⟨(.str "0123456789", .str "0123456789" t), e, ⟨t, rfl⟩, fun _ _ => rfl⟩),
    DL.const_ok X G hm.1.2,
    (let ⟨t, e⟩ := He.str_ok X G (d.fact 53 (f := .str "SMALL" "abcdefghijklmnopqrstuvwxyz") rfl); ⟨(.str "abcdefghijklmnopqrstuvwxyz", .str "abcdefghijklmnopqrstuvwxyz" t), e, ⟨t, rfl⟩, fun _ _ => rfl⟩),
    DL.plain_ok hm.2⟩
  refine ⟨_, fun s v => FunD.bindsA (ps := ["script"]) D38 (fun _ _ _ _ _ _ us hl => match us, hl with | [_], _ => rfl) s [v] rfl, fun base _ _ => ?_⟩
  have hbs : ∀ q ∈ bs, Booler P w K mg base CX0 1 q.1 q.2 := List.forall_mem_cons.mpr ⟨⟨_, _, _, (He.meth_ok (d.fact 59 (f := .meth "Paid" "__bool__") rfl)).at_, (He.meth_ok (d.fact 59 (f := .meth "Paid" "__bool__") rfl)).fn, k_Paid_bool b cf D0, n_Paid_bool D0⟩, List.forall_mem_cons.mpr ⟨⟨_, _, _, (He.meth_ok (d.fact 60 (f := .meth "Bears" "__bool__") rfl)).at_, (He.meth_ok (d.fact 60 (f := .meth "Bears" "__bool__") rfl)).fn, k_Bears_bool b cf D1, n_Bears_bool D1⟩, List.forall_mem_cons.mpr ⟨⟨_, _, _, (He.meth_ok (d.fact 61 (f := .meth "Whole" "__bool__") rfl)).at_, (He.meth_ok (d.fact 61 (f := .meth "Whole" "__bool__") rfl)).fn, k_Whole_bool b cf D2, n_Whole_bool D2⟩, List.forall_mem_cons.mpr ⟨⟨_, _, _, (He.meth_ok (d.fact 62 (f := .meth "Gap" "__bool__") rfl)).at_, (He.meth_ok (d.fact 62 (f := .meth "Gap" "__bool__") rfl)).fn, k_Gap_bool b cf D3, n_Gap_bool D3⟩, fun _ z => by cases z⟩⟩⟩⟩
  have h_law_number : Callee P w K mg base CX0 1 "_law_number" 2 F_law_number := ⟨_, _, _, k_law_number b cf D4, He.glo_ok X G (d.fact 0 (f := .glo "_law_number") rfl), D4.kp, n_law_number D4, rfl⟩
  have h_law_take : Callee P w K mg base CX0 2 "_law_take" 2 F_law_take := ⟨_, _, _, k_law_take b cf h_law_number D5, He.glo_ok X G (d.fact 1 (f := .glo "_law_take") rfl), D5.kp, n_law_take D5, rfl⟩
  have h_is_integer : Callee P w K mg base CX0 1 "is_integer" 1 F_is_integer := ⟨_, _, _, k_is_integer b cf D6, He.glo_ok X G (d.fact 2 (f := .glo "is_integer") rfl), D6.kp, n_is_integer D6, rfl⟩
  have h_is_number : Callee P w K mg base CX0 2 "is_number" 3 F_is_number := ⟨_, _, _, k_is_number b cf h_is_integer D7, He.glo_ok X G (d.fact 3 (f := .glo "is_number") rfl), D7.kp, n_is_number D7, rfl⟩
  have h_check_number : Callee P w K mg base CX0 3 "check_number" 4 F_check_number := ⟨_, _, _, k_check_number b cf h_is_number D8, He.glo_ok X G (d.fact 4 (f := .glo "check_number") rfl), D8.kp, n_check_number D8, rfl⟩
  have h_is_name : Callee P w K mg base CX0 1 "is_name" 1 F_is_name := ⟨_, _, _, k_is_name b cf D9, He.glo_ok X G (d.fact 5 (f := .glo "is_name") rfl), D9.kp, n_is_name D9, rfl⟩
  have h_check_name : Callee P w K mg base CX0 2 "check_name" 2 F_check_name := ⟨_, _, _, k_check_name b cf h_is_name D10, He.glo_ok X G (d.fact 6 (f := .glo "check_name") rfl), D10.kp, n_check_name D10, rfl⟩
  have h_Draft_init : Maker P w K mg base CX0 4 "Draft" 5 0 F_Draft_init := ⟨rfl, He.glo_ok X G (d.fact 32 (f := .glo "Draft") rfl), _, _, _, He.mkr_ok (d.fact 56 (f := .mkr "Draft") rfl), k_Draft_init b cf h_check_name h_check_number D11, n_Draft_init D11, rfl⟩
  have h_is_row : Callee P w K mg base CX0 1 "is_row" 1 F_is_row := ⟨_, _, _, k_is_row b cf D12, He.glo_ok X G (d.fact 7 (f := .glo "is_row") rfl), D12.kp, n_is_row D12, rfl⟩
  have h_check_passed : Callee P w K mg base CX0 2 "check_passed" 3 F_check_passed := ⟨_, _, _, k_check_passed b cf h_is_name h_is_row D13, He.glo_ok X G (d.fact 8 (f := .glo "check_passed") rfl), D13.kp, n_check_passed D13, rfl⟩
  have h_holder_of : Callee P w K mg base CX0 3 "holder_of" 2 F_holder_of := ⟨_, _, _, k_holder_of b cf h_check_passed D14, He.glo_ok X G (d.fact 9 (f := .glo "holder_of") rfl), D14.kp, n_holder_of D14, rfl⟩
  have h_Paid_init : Maker P w K mg base CX0 1 "Paid" 1 1 F_Paid_init := ⟨rfl, He.glo_ok X G (d.fact 34 (f := .glo "Paid") rfl), _, _, _, He.mkr_ok (d.fact 58 (f := .mkr "Paid") rfl), k_Paid_init b cf D15, n_Paid_init D15, rfl⟩
  have h_asked_back : Callee P w K mg base CX0 3 "asked_back" 3 F_asked_back := ⟨_, _, _, k_asked_back b cf h_check_passed D16, He.glo_ok X G (d.fact 10 (f := .glo "asked_back") rfl), D16.kp, n_asked_back D16, rfl⟩
  have h_Bears_init : Maker P w K mg base CX0 2 "Bears" 2 2 F_Bears_init := ⟨rfl, He.glo_ok X G (d.fact 30 (f := .glo "Bears") rfl), _, _, _, He.mkr_ok (d.fact 54 (f := .mkr "Bears") rfl), k_Bears_init b cf h_is_row D17, n_Bears_init D17, rfl⟩
  have h_judge_draft : Callee P w K mg base CX0 4 "judge_draft" 3 F_judge_draft := ⟨_, _, _, k_judge_draft b cf h_asked_back h_check_passed h_holder_of h_Bears_init h_Paid_init D18, He.glo_ok X G (d.fact 11 (f := .glo "judge_draft") rfl), D18.kp, n_judge_draft D18, rfl⟩
  have h_losses : Callee P w K mg base CX0 5 "losses" 3 F_losses := ⟨_, _, _, k_losses b cf hbs h_judge_draft D19, He.glo_ok X G (d.fact 12 (f := .glo "losses") rfl), D19.kp, n_losses D19, rfl⟩
  have h_safe_hands : Callee P w K mg base CX0 6 "safe_hands" 3 F_safe_hands := ⟨_, _, _, k_safe_hands b cf h_losses D20, He.glo_ok X G (d.fact 13 (f := .glo "safe_hands") rfl), D20.kp, n_safe_hands D20, rfl⟩
  have h_worth : Callee P w K mg base CX0 4 "worth" 3 F_worth := ⟨_, _, _, k_worth b cf h_check_number h_check_passed D21, He.glo_ok X G (d.fact 14 (f := .glo "worth") rfl), D21.kp, n_worth D21, rfl⟩
  have h_law_cover : Callee P w K mg base CX0 3 "_law_cover" 1 F_law_cover := ⟨_, _, _, k_law_cover b cf h_law_take D22, He.glo_ok X G (d.fact 15 (f := .glo "_law_cover") rfl), D22.kp, n_law_cover D22, rfl⟩
  have h_check_perils : Callee P w K mg base CX0 2 "check_perils" 2 F_check_perils := ⟨_, _, _, k_check_perils b cf h_is_name h_is_row D23, He.glo_ok X G (d.fact 16 (f := .glo "check_perils") rfl), D23.kp, n_check_perils D23, rfl⟩
  have h_Cover_init : Maker P w K mg base CX0 4 "Cover" 5 3 F_Cover_init := ⟨rfl, He.glo_ok X G (d.fact 31 (f := .glo "Cover") rfl), _, _, _, He.mkr_ok (d.fact 55 (f := .mkr "Cover") rfl), k_Cover_init b cf h_check_number h_check_perils h_is_number D24, n_Cover_init D24, rfl⟩
  have h_law_cover_built : Callee P w K mg base CX0 6 "_law_cover_built" 1 F_law_cover_built := ⟨_, _, _, k_law_cover_built b cf h_Cover_init D25, He.glo_ok X G (d.fact 17 (f := .glo "_law_cover_built") rfl), D25.kp, n_law_cover_built D25, rfl⟩
  have h_check_covers : Callee P w K mg base CX0 2 "check_covers" 1 F_check_covers := ⟨_, _, _, k_check_covers b cf h_is_row D26, He.glo_ok X G (d.fact 18 (f := .glo "check_covers") rfl), D26.kp, n_check_covers D26, rfl⟩
  have h_is_on : Callee P w K mg base CX0 1 "is_on" 3 F_is_on := ⟨_, _, _, k_is_on b cf D27, He.glo_ok X G (d.fact 19 (f := .glo "is_on") rfl), D27.kp, n_is_on D27, rfl⟩
  have h_gaps : Callee P w K mg base CX0 4 "gaps" 3 F_gaps := ⟨_, _, _, k_gaps b cf h_check_covers h_check_number h_check_perils h_is_on D28, He.glo_ok X G (d.fact 20 (f := .glo "gaps") rfl), D28.kp, n_gaps D28, rfl⟩
  have h_Gap_init : Maker P w K mg base CX0 1 "Gap" 2 5 F_Gap_init := ⟨rfl, He.glo_ok X G (d.fact 33 (f := .glo "Gap") rfl), _, _, _, He.mkr_ok (d.fact 57 (f := .mkr "Gap") rfl), k_Gap_init b cf D29, n_Gap_init D29, rfl⟩
  have h_judge_covers : Callee P w K mg base CX0 5 "judge_covers" 3 F_judge_covers := ⟨_, _, _, k_judge_covers b cf h_gaps h_Gap_init D30, He.glo_ok X G (d.fact 21 (f := .glo "judge_covers") rfl), D30.kp, n_judge_covers D30, rfl⟩
  have h_twice_covered : Callee P w K mg base CX0 5 "twice_covered" 3 F_twice_covered := ⟨_, _, _, k_twice_covered b cf h_gaps h_is_on D31, He.glo_ok X G (d.fact 22 (f := .glo "twice_covered") rfl), D31.kp, n_twice_covered D31, rfl⟩
  have h_law_pick : Callee P w K mg base CX0 3 "_law_pick" 2 F_law_pick := ⟨_, _, _, k_law_pick b cf h_law_take D32, He.glo_ok X G (d.fact 23 (f := .glo "_law_pick") rfl), D32.kp, n_law_pick D32, rfl⟩
  have h_check_loss : Callee P w K mg base CX0 3 "check_loss" 1 F_check_loss := ⟨_, _, _, k_check_loss b cf h_is_name h_is_number D33, He.glo_ok X G (d.fact 24 (f := .glo "check_loss") rfl), D33.kp, n_check_loss D33, rfl⟩
  have h_pays : Callee P w K mg base CX0 4 "pays" 2 F_pays := ⟨_, _, _, k_pays b cf h_check_loss h_is_on D34, He.glo_ok X G (d.fact 25 (f := .glo "pays") rfl), D34.kp, n_pays D34, rfl⟩
  have h_shares : Callee P w K mg base CX0 5 "shares" 2 F_shares := ⟨_, _, _, k_shares b cf h_check_covers h_check_loss h_pays D35, He.glo_ok X G (d.fact 26 (f := .glo "shares") rfl), D35.kp, n_shares D35, rfl⟩
  have h_borne : Callee P w K mg base CX0 6 "borne" 2 F_borne := ⟨_, _, _, k_borne b cf h_shares D36, He.glo_ok X G (d.fact 27 (f := .glo "borne") rfl), D36.kp, n_borne D36, rfl⟩
  have h_needless_covers : Callee P w K mg base CX0 5 "needless_covers" 3 F_needless_covers := ⟨_, _, _, k_needless_covers b cf h_gaps D37, He.glo_ok X G (d.fact 28 (f := .glo "needless_covers") rfl), D37.kp, n_needless_covers D37, rfl⟩
  exact k_law b cf hbs h_law_cover h_law_cover_built h_law_pick h_law_take h_asked_back h_borne h_gaps h_holder_of h_judge_covers h_judge_draft h_losses h_needless_covers h_safe_hands h_shares h_twice_covered h_worth h_Cover_init h_Draft_init D38
theorem reps_ints {K : PySem.W.Frag} {H : Hp} {Z : Addr → Prop} : ∀ ns : List Int, Reps K H Z (ns.map D.int) (ns.map V.int)
  | [] => Reps.nil
  | n :: ns => Reps.cons (show V.int n = V.int n from rfl) (reps_ints ns)
theorem start_sp {K : PySem.W.Frag} {H : Hp} {a : Addr} {ns : List Int} (hl : ns.length ≤ 63) (hS : SqL K H a (ns.map V.int)) : spF K 1 F_law [.ref a] H (fun v _ => v = .bl true) fun _ _ _ => False := by
  have hi : inAd [W.val (.rol (ns.map D.int))] [V.ref a] = [] := by simp [inAd]
  refine ⟨fun _ => False, [.val (.rol (ns.map D.int))], rfl, fun _ z => z.elim, ⟨.ref a, [], rfl, ?_, rfl⟩, by rw [hi]; exact .nil, ?_⟩
  · show Rep K H _ (.rol _) (.ref a)
    simp only [Rep]
    exact ⟨a, _, rfl, hS.elim (fun z => .inl ⟨fun z => z, z⟩) .inr, reps_ints ns⟩
  · rw [plain ns hl]
    exact fun v H' _ _ hv => hv
end T37
open PySem PySem.W PySem.Calls PyProof.Rows
theorem PySem.Challenge.cw_goodsbypapers_k37_across_drafts_and_cove_holds : PySem.Challenge.rw_goodsbypapers_k37_across_drafts_and_cove.Holds := by
  w_on; o_law
  refine HandSHeadRun.head_any (r := OpenLaw.row PySem.Challenge.rw_goodsbypapers_k37_across_drafts_and_cove) (q := view (OpenLaw.row PySem.Challenge.rw_goodsbypapers_k37_across_drafts_and_cove).prog [46]) (H := T37.hk) (ob := T37.ob) (M := 6000) (loose := T37.loose) (d := HandSHeadRun.topDef (OpenLaw.row PySem.Challenge.rw_goodsbypapers_k37_across_drafts_and_cove).prog 46) (kwd := []) T37.ob_eq
    (by kernel_rfl) (fun s => by kernel_rfl) T37.run (by kernel_rfl) (by kernel_rfl) (by kernel_rfl) (by rfl) (by first | assumption | decide +kernel) (by decide +kernel) ⟨rfl, rfl, rfl, rfl, rfl, by decide +kernel⟩ ?hw ?hc
  case hw => w_witness2
  case hc =>
    refine L2.walk_ofE (l := PySem.Challenge.rw_goodsbypapers_k37_across_drafts_and_cove) (n := 63) (k := 7) (x := "script") (CX := L2.CX0) rfl (by decide) (by kernel_rfl) ⟨rfl, by decide, by decide⟩ ?F (fun _ _ _ _ z => z)
    intro w mg fa h Y G hmg0
    obtain ⟨K, KX, c⟩ := Y
    have hmg : mg ("law" : PySem.Str) = some (.ref fa) := by
      have e : (HandSHeadRun.topDef (OpenLaw.row PySem.Challenge.rw_goodsbypapers_k37_across_drafts_and_cove).prog 46).name = ("law" : PySem.Str) := by kernel_rfl
      rw [← e]
      exact hmg0
    obtain ⟨fd, hb, hF⟩ := T37.facts (P := (PySem.Challenge.rw_goodsbypapers_k37_across_drafts_and_cove).prog) (w := w) KX G hmg c
    exact ⟨K, fd, _, KX, hb, fun H a ns hl _ hS => T37.start_sp hl hS, hF⟩
