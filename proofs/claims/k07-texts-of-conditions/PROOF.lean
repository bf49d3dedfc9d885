import PyProof.Rows.All
import Wide.All
import OpenK.AllK
import Wide.FinOn
import HandS.Base
import HandS.Call
import HandS.List
import HandS.Exc
import HandS.Lambda
import HandS.HeadHook1
import HandS.ExcOwn
import HandS.CallSlots
import HandS.Flow
import HandS.Wide
import HandS.TupAny
import HandS.Deep
import HandS.Comp
import HandS.Iter
import HandS.Text
import HandS.IsInst
import HandS.TupMul
import HandS.TupLe
import HandS.Remove
import HandS.Defaults
import HandS.Zip
import HandS.Ends
import HandS.Words
import HandS.HeadHook2
import KE.KStateDown
import Lean
import HandS.More
import HandS.WordsExc
import HandS.Head0
import HandS.Head1
import HandS.Head2
import HandS.HeadEnd
import HandS.Star
import KE.KCallOwn
import HandS.OwnEq
import HandS.HotCalls
import HandS.ExcInit
import HandS.ExcField
import KE.KTryMore
import HandS.EndTab
import HandS.HeadHook4
import HandS.ClsMeth
import PySem.Challenge.RW_livingends_k07_texts_of_conditions
set_option Elab.async false
set_option linter.all false
set_option maxRecDepth 100000
section
/-! A small language of values and results over the layer: tuples by content, other objects by their number. -/
namespace Py
open PySem PySem.Spec PyProof.Rows L2

/-! ### values -/
/-- a value: tuples (and lists that are only read) by content, other objects by their number -/
inductive PV where
  | non
  | bl (b : Bool)
  | int (i : Int)
  | str (x : Str)
  | tup (xs : List PV)
  | rol (xs : List PV)
  | obj (n : Nat)
  | cls (x : Str)
  deriving Inhabited
mutual
def PV.dec : (a b : PV) → Decidable (a = b)
  | .non, .non => Decidable.isTrue rfl
  | .bl a, .bl b => if h : a = b then Decidable.isTrue (by rw [h]) else Decidable.isFalse (fun e => h (PV.bl.inj e))
  | .int a, .int b => if h : a = b then Decidable.isTrue (by rw [h]) else Decidable.isFalse (fun e => h (PV.int.inj e))
  | .str a, .str b => if h : a = b then Decidable.isTrue (by rw [h]) else Decidable.isFalse (fun e => h (PV.str.inj e))
  | .cls a, .cls b => if h : a = b then Decidable.isTrue (by rw [h]) else Decidable.isFalse (fun e => h (PV.cls.inj e))
  | .obj a, .obj b => if h : a = b then Decidable.isTrue (by rw [h]) else Decidable.isFalse (fun e => h (PV.obj.inj e))
  | .tup a, .tup b => match PV.decs a b with
    | Decidable.isTrue h => Decidable.isTrue (by rw [h])
    | Decidable.isFalse h => Decidable.isFalse (fun e => h (PV.tup.inj e))
  | .rol a, .rol b => match PV.decs a b with
    | Decidable.isTrue h => Decidable.isTrue (by rw [h])
    | Decidable.isFalse h => Decidable.isFalse (fun e => h (PV.rol.inj e))
  | .non, .cls _ | .bl _, .cls _ | .int _, .cls _ | .str _, .cls _ | .tup _, .cls _ | .rol _, .cls _ | .obj _, .cls _ | .cls _, .non | .cls _, .bl _ | .cls _, .int _ | .cls _, .str _ | .cls _, .tup _ | .cls _, .rol _ | .cls _, .obj _ => Decidable.isFalse (fun e => by cases e)
  | .non, .bl _ | .non, .int _ | .non, .str _ | .non, .tup _ | .non, .rol _ | .non, .obj _
  | .bl _, .non | .bl _, .int _ | .bl _, .str _ | .bl _, .tup _ | .bl _, .rol _ | .bl _, .obj _
  | .int _, .non | .int _, .bl _ | .int _, .str _ | .int _, .tup _ | .int _, .rol _ | .int _, .obj _
  | .str _, .non | .str _, .bl _ | .str _, .int _ | .str _, .tup _ | .str _, .rol _ | .str _, .obj _
  | .tup _, .non | .tup _, .bl _ | .tup _, .int _ | .tup _, .str _ | .tup _, .rol _ | .tup _, .obj _
  | .rol _, .non | .rol _, .bl _ | .rol _, .int _ | .rol _, .str _ | .rol _, .tup _ | .rol _, .obj _
  | .obj _, .non | .obj _, .bl _ | .obj _, .int _ | .obj _, .str _ | .obj _, .tup _ | .obj _, .rol _ => Decidable.isFalse (fun e => by cases e)
def PV.decs : (a b : List PV) → Decidable (a = b)
  | [], [] => Decidable.isTrue rfl
  | [], _ :: _ => Decidable.isFalse (fun e => by cases e)
  | _ :: _, [] => Decidable.isFalse (fun e => by cases e)
  | a :: as, b :: bs => match PV.dec a b with
    | Decidable.isTrue h => match PV.decs as bs with
      | Decidable.isTrue h2 => Decidable.isTrue (by rw [h, h2])
      | Decidable.isFalse h2 => Decidable.isFalse (fun e => h2 (List.cons.inj e).2)
    | Decidable.isFalse h => Decidable.isFalse (fun e => h (List.cons.inj e).1)
end
instance : DecidableEq PV := PV.dec

/-- what an object is -/
inductive PO where
  | lst (xs : List PV)
  | ins (c : Nat) (fs : List (Nat × PV))
  | dct (kvs : List (PV × PV))
  | set (xs : List PV)
  deriving Inhabited
abbrev PH := List PO
abbrev Env := List (Option PV)

/-- a result: a value, an exception (its class, its attributes), or nothing that is known -/
inductive Rs (α : Type) where
  | ok (a : α) (h : PH)
  | exc (c : Nat) (fs : List (Nat × PV)) (h : PH)
  | bad
def Rs.bind {α β : Type} (r : Rs α) (k : α → PH → Rs β) : Rs β := match r with
  | .ok a h => k a h
  | .exc c fs h => .exc c fs h
  | .bad => .bad
/-- behind a statement -/
inductive Ro where
  | nrm (env : Env) (h : PH)
  | ret (v : PV) (h : PH)
  | brk (env : Env) (h : PH)
  | cnt (env : Env) (h : PH)
  | exc (c : Nat) (fs : List (Nat × PV)) (env : Env) (h : PH)
  | bad
abbrev Ef := Env → PH → Rs PV
abbrev Af := Env → PH → Rs (List PV)
abbrev Tf := Env → PH → Rs Bool
abbrev Sf := Env → PH → Ro
abbrev Fn := List PV → PH → Rs PV

/-! ### what stands for a value -/
/-- a list that is read and never written: known to the object, or of the module -/
def RoL (K : PySem.W.Frag) (H : Hp) (a : Addr) (vs : List V) : Prop := (∃ o, H a = some (.frz o (.lst vs))) ∨
    ∃ (o : Obj) (its : Array Value) (n : Nat), K.lookup a = some o ∧ o.cls = .type "list" ∧ o.dict = none ∧ o.data = .seq its n ∧ its.size ≤ sizeLine ∧ Vals vs its.toList
/-- a tuple -/
def RoT (K : PySem.W.Frag) (H : Hp) (a : Addr) (vs : List V) : Prop := H a = some (.tup vs) ∨
    ∃ (o : Obj) (its : Array Value) (n : Nat), K.lookup a = some o ∧ o.cls = .type "tuple" ∧ o.data = .seq its n ∧ its.size ≤ sizeLine ∧ Vals vs its.toList
theorem RoL.sq {K : PySem.W.Frag} {H : Hp} {a : Addr} {vs : List V} (h : RoL K H a vs) : SqL K H a vs := h.elim (fun ⟨o, e⟩ => .inl (.inr ⟨o, e⟩)) .inr
theorem RoT.sq {K : PySem.W.Frag} {H : Hp} {a : Addr} {vs : List V} (h : RoT K H a vs) : SqT K H a vs := h.elim (fun e => .inl (.inl e)) .inr

/-- a later heap: more objects have numbers; tuples and known objects stay -/
structure Ext (ρ : List Addr) (H : Hp) (ρ' : List Addr) (H' : Hp) : Prop where
  pre : ∀ (n : Nat) (a : Addr), ρ[n]? = some a → ρ'[n]? = some a
  tup : ∀ a xs, H a = some (.tup xs) → H' a = some (.tup xs)
  frz : ∀ a o u, H a = some (.frz o u) → H' a = some (.frz o u)
theorem Ext.refl {ρ : List Addr} {H : Hp} : Ext ρ H ρ H := ⟨fun _ _ e => e, fun _ _ e => e, fun _ _ _ e => e⟩
theorem Ext.trans {ρ ρ1 ρ2 : List Addr} {H H1 H2 : Hp} (a : Ext ρ H ρ1 H1) (b : Ext ρ1 H1 ρ2 H2) : Ext ρ H ρ2 H2 :=
  ⟨fun n x e => b.pre n x (a.pre n x e), fun x xs e => b.tup x xs (a.tup x xs e), fun x o u e => b.frz x o u (a.frz x o u e)⟩

inductive Rep (K : PySem.W.Frag) (H : Hp) (ρ : List Addr) : PV → V → Prop where
  | non : Rep K H ρ .non .non
  | bl (b : Bool) : Rep K H ρ (.bl b) (.bl b)
  | int (i : Int) : Rep K H ρ (.int i) (.int i)
  | str (x : Str) : Rep K H ρ (.str x) (.str x)
  | tup {xs : List PV} {a : Addr} {vs : List V} (h : RoT K H a vs) (l : xs.length = vs.length) (r : ∀ (i : Nat) (p : PV) (v : V), xs[i]? = some p → vs[i]? = some v → Rep K H ρ p v) : Rep K H ρ (.tup xs) (.ref a)
  | rol {xs : List PV} {a : Addr} {vs : List V} (h : RoL K H a vs) (l : xs.length = vs.length) (r : ∀ (i : Nat) (p : PV) (v : V), xs[i]? = some p → vs[i]? = some v → Rep K H ρ p v) : Rep K H ρ (.rol xs) (.ref a)
  | obj {n : Nat} {a : Addr} (h : ρ[n]? = some a) : Rep K H ρ (.obj n) (.ref a)
  | cls (x : Str) : Rep K H ρ (.cls x) (.ref (He.ga K x))
abbrev Reps (K : PySem.W.Frag) (H : Hp) (ρ : List Addr) : List PV → List V → Prop := Paired (Rep K H ρ)

section
variable {K : PySem.W.Frag} {H H' : Hp} {ρ ρ' : List Addr}
theorem RoT.ext {a : Addr} {vs : List V} (x : Ext ρ H ρ' H') (h : RoT K H a vs) : RoT K H' a vs := h.elim (fun e => .inl (x.tup _ _ e)) .inr
theorem RoL.ext {a : Addr} {vs : List V} (x : Ext ρ H ρ' H') (h : RoL K H a vs) : RoL K H' a vs := h.elim (fun ⟨o, e⟩ => .inl ⟨o, x.frz _ _ _ e⟩) .inr
theorem Rep.ext (x : Ext ρ H ρ' H') {p : PV} {v : V} (r : Rep K H ρ p v) : Rep K H' ρ' p v := by
  induction r with
  | non => exact .non
  | bl b => exact .bl b
  | int i => exact .int i
  | str s => exact .str s
  | tup h l r ih => exact .tup (h.ext x) l ih
  | rol h l r ih => exact .rol (h.ext x) l ih
  | obj h => exact .obj (x.pre _ _ h)
  | cls y => exact .cls y
theorem Paired.of_get {α β : Type} {F : α → β → Prop} : ∀ {xs : List α} {ys : List β}, xs.length = ys.length → (∀ (i : Nat) p v, xs[i]? = some p → ys[i]? = some v → F p v) → Paired F xs ys
  | [], [], _, _ => .nil
  | [], _ :: _, l, _ => by cases l
  | _ :: _, [], l, _ => by cases l
  | x :: xs, y :: ys, l, r => .cons (r 0 x y rfl rfl) (Paired.of_get (by simpa using l) fun i p v h1 h2 => r (i + 1) p v (by simpa using h1) (by simpa using h2))
theorem Paired.get {α β : Type} {F : α → β → Prop} : ∀ {xs : List α} {ys : List β}, Paired F xs ys → ∀ (i : Nat) p v, xs[i]? = some p → ys[i]? = some v → F p v
  | _, _, .nil, i, p, v, h, _ => by simp at h
  | _, _, .cons r t, 0, p, v, h1, h2 => by simp at h1 h2; subst h1; subst h2; exact r
  | _, _, .cons r t, i + 1, p, v, h1, h2 => Paired.get t i p v (by simpa using h1) (by simpa using h2)
theorem Paired.get1 {α β : Type} {F : α → β → Prop} {xs : List α} {ys : List β} (r : Paired F xs ys) {i : Nat} {p : α} (h : xs[i]? = some p) : ∃ v, ys[i]? = some v ∧ F p v := by
  have hl := Paired.length r
  have hi : i < ys.length := by rw [← hl]; exact (List.getElem?_eq_some_iff.mp h).1
  exact ⟨ys[i], by simp [hi], Paired.get r i p _ h (by simp [hi])⟩
theorem Paired.app {α β : Type} {F : α → β → Prop} : ∀ {xs xs' : List α} {ys ys' : List β}, Paired F xs ys → Paired F xs' ys' → Paired F (xs ++ xs') (ys ++ ys')
  | _, _, _, _, .nil, s => s
  | _, _, _, _, .cons r t, s => .cons r (Paired.app t s)
theorem Paired.setP {α β : Type} {F : α → β → Prop} {x : α} {y : β} (f : F x y) : ∀ {xs : List α} {ys : List β} (i : Nat), Paired F xs ys → Paired F (xs.set i x) (ys.set i y)
  | _, _, _, .nil => .nil
  | _, _, 0, .cons _ t => .cons f t
  | _, _, i + 1, .cons r t => .cons r (Paired.setP f i t)
theorem Paired.mp {α β : Type} {F F' : α → β → Prop} (k : ∀ a b, F a b → F' a b) : ∀ {xs : List α} {ys : List β}, Paired F xs ys → Paired F' xs ys
  | _, _, .nil => .nil
  | _, _, .cons r t => .cons (k _ _ r) (Paired.mp k t)
theorem Paired.takeP {α β : Type} {F : α → β → Prop} : ∀ {xs : List α} {ys : List β} (n : Nat), Paired F xs ys → Paired F (xs.take n) (ys.take n)
  | _, _, 0, _ => .nil
  | _, _, _ + 1, .nil => .nil
  | _, _, n + 1, .cons r t => .cons r (Paired.takeP n t)
theorem Paired.dropP {α β : Type} {F : α → β → Prop} : ∀ {xs : List α} {ys : List β} (n : Nat), Paired F xs ys → Paired F (xs.drop n) (ys.drop n)
  | _, _, 0, r => r
  | _, _, _ + 1, .nil => .nil
  | _, _, n + 1, .cons _ t => Paired.dropP n t
theorem Paired.split1 {α β : Type} {F : α → β → Prop} {x : α} {xs : List α} {ys : List β} (r : Paired F (x :: xs) ys) : ∃ y ys', ys = y :: ys' ∧ F x y ∧ Paired F xs ys' := by
  cases r with
  | cons a b => exact ⟨_, _, rfl, a, b⟩
theorem Reps.ext (x : Ext ρ H ρ' H') {ps : List PV} {vs : List V} (r : Reps K H ρ ps vs) : Reps K H' ρ' ps vs := Paired.mp (fun _ _ q => q.ext x) r
theorem Rep.mkTup {xs : List PV} {a : Addr} {vs : List V} (h : RoT K H a vs) (r : Reps K H ρ xs vs) : Rep K H ρ (.tup xs) (.ref a) := .tup h (Paired.length r) (Paired.get r)
theorem Rep.mkRol {xs : List PV} {a : Addr} {vs : List V} (h : RoL K H a vs) (r : Reps K H ρ xs vs) : Rep K H ρ (.rol xs) (.ref a) := .rol h (Paired.length r) (Paired.get r)
theorem Rep.unTup {xs : List PV} {v : V} (r : Rep K H ρ (.tup xs) v) : ∃ a vs, v = .ref a ∧ RoT K H a vs ∧ Reps K H ρ xs vs := by
  cases r with
  | tup h l r => exact ⟨_, _, rfl, h, Paired.of_get l r⟩
theorem Rep.unRol {xs : List PV} {v : V} (r : Rep K H ρ (.rol xs) v) : ∃ a vs, v = .ref a ∧ RoL K H a vs ∧ Reps K H ρ xs vs := by
  cases r with
  | rol h l r => exact ⟨_, _, rfl, h, Paired.of_get l r⟩
theorem Rep.unInt {i : Int} {v : V} (r : Rep K H ρ (.int i) v) : v = .int i := by cases r; rfl
theorem Rep.unBl {i : Bool} {v : V} (r : Rep K H ρ (.bl i) v) : v = .bl i := by cases r; rfl
theorem Rep.unStr {i : Str} {v : V} (r : Rep K H ρ (.str i) v) : v = .str i := by cases r; rfl
theorem Rep.unNon {v : V} (r : Rep K H ρ .non v) : v = .non := by cases r; rfl
theorem Rep.unObj {n : Nat} {v : V} (r : Rep K H ρ (.obj n) v) : ∃ a, v = .ref a ∧ ρ[n]? = some a := by
  cases r with
  | obj h => exact ⟨_, rfl, h⟩
end

/-! ### the heap -/
/-- the program: its classes by number, its attributes' names by number -/
structure PCfg where
  K : PySem.W.Frag
  P : Program
  w : World
  cls : Nat → Addr
  fld : List Str
  nd : fld.Nodup
  tabs : List (Addr × Str) := []
/-- attributes -/
def FsRep (G : PCfg) (H : Hp) (ρ : List Addr) : List (Nat × PV) → List (Str × V) → Prop := Paired fun p q => G.fld[p.1]? = some q.1 ∧ Rep G.K H ρ p.2 q.2
/-- what stands for an object -/
def ORep (G : PCfg) (H : Hp) (ρ : List Addr) : PO → Addr → Prop
  | .lst xs, a => ∃ vs, H a = some (.lst vs) ∧ Reps G.K H ρ xs vs
  | .ins c fs, a => ∃ dx fv, H a = some (.ins (G.cls c) dx fv) ∧ FsRep G H ρ fs fv
  | .dct _, _ => False
  | .set _, _ => False
/-- tables of code objects and code objects stay -/
theorem tabs_keep {T : List (Addr × Str)} {H H' : Hp} (t : LamX.Tabs T H) (k1 : ∀ b ps, H b = some (.tbl ps) → H' b = some (.tbl ps)) (k2 : ∀ b c q, H b = some (LamX.CodeO c q) → H' b = some (LamX.CodeO c q)) : LamX.Tabs T H' := fun p hp => by
  obtain ⟨ps, e1, e2, e3⟩ := t p hp
  refine ⟨ps, k1 _ _ e1, e2, fun pos cv e => ?_⟩
  obtain ⟨c, e4, e5⟩ := e3 pos cv e
  exact ⟨c, e4, k2 _ _ _ e5⟩
structure HRep (G : PCfg) (H : Hp) (ρ : List Addr) (h : PH) : Prop where
  tb : LamX.Tabs G.tabs H
  nd : ρ.Nodup
  len : ρ.length = h.length
  ob : ∀ (n : Nat) (o : PO) (a : Addr), h[n]? = some o → ρ[n]? = some a → ORep G H ρ o a
def ERep (G : PCfg) (H : Hp) (ρ : List Addr) (env : Env) (σ : L2.St) : Prop := env.length = σ.length ∧ ∀ (i : Nat) (p : PV), env[i]? = some (some p) → ∃ v, σ[i]? = some (some v) ∧ Rep G.K H ρ p v

section
variable {G : PCfg} {H H' : Hp} {ρ ρ' : List Addr} {h : PH} {env : Env} {σ : L2.St}
theorem FsRep.ext (x : Ext ρ H ρ' H') {fs : List (Nat × PV)} {fv : List (Str × V)} (r : FsRep G H ρ fs fv) : FsRep G H' ρ' fs fv := Paired.mp (fun _ _ q => ⟨q.1, q.2.ext x⟩) r
theorem ERep.ext (x : Ext ρ H ρ' H') (e : ERep G H ρ env σ) : ERep G H' ρ' env σ := ⟨e.1, fun i p hi => let ⟨v, h1, h2⟩ := e.2 i p hi; ⟨v, h1, h2.ext x⟩⟩
theorem ORep.trk {o : PO} {a : Addr} (r : ORep G H ρ o a) : ∃ u, H a = some u ∧ (∀ xs, u ≠ .tup xs) ∧ ∀ x y, u ≠ .frz x y := by
  cases o with
  | lst xs => obtain ⟨vs, e, _⟩ := r; exact ⟨_, e, (fun _ z => nomatch z), (fun _ _ z => nomatch z)⟩
  | ins c fs => obtain ⟨_, _, e, _⟩ := r; exact ⟨_, e, (fun _ z => nomatch z), (fun _ _ z => nomatch z)⟩
  | dct _ => exact r.elim
  | set _ => exact r.elim
theorem ORep.trk2 {o : PO} {a : Addr} (r : ORep G H ρ o a) : ∃ u, H a = some u ∧ (∀ ps, u ≠ .tbl ps) ∧ ∀ c q, u ≠ LamX.CodeO c q := by
  cases o with
  | lst xs => obtain ⟨vs, e, _⟩ := r; exact ⟨_, e, (fun _ z => nomatch z), (fun _ _ z => by unfold LamX.CodeO at z; cases z)⟩
  | ins c fs => obtain ⟨_, _, e, _⟩ := r; exact ⟨_, e, (fun _ z => nomatch z), (fun _ _ z => by unfold LamX.CodeO at z; cases z)⟩
  | dct _ => exact r.elim
  | set _ => exact r.elim
theorem ORep.ext (x : Ext ρ H ρ' H') {o : PO} {a : Addr} (r : ORep G H ρ o a) (e : ∀ u, H a = some u → H' a = some u) : ORep G H' ρ' o a := by
  cases o with
  | lst xs => obtain ⟨vs, e1, q⟩ := r; exact ⟨vs, e _ e1, q.ext x⟩
  | ins c fs => obtain ⟨dx, fv, e1, q⟩ := r; exact ⟨dx, fv, e _ e1, q.ext x⟩
  | dct _ => exact r.elim
  | set _ => exact r.elim
theorem HRep.at_ (r : HRep G H ρ h) {n : Nat} {o : PO} (e : h[n]? = some o) : ∃ a, ρ[n]? = some a ∧ ORep G H ρ o a := by
  have hi : n < ρ.length := by rw [r.len]; exact (List.getElem?_eq_some_iff.mp e).1
  exact ⟨ρ[n], by simp [hi], r.ob n o _ e (by simp [hi])⟩
theorem HRep.at' (r : HRep G H ρ h) {n : Nat} {a : Addr} (e : ρ[n]? = some a) : ∃ o, h[n]? = some o ∧ ORep G H ρ o a := by
  have hi : n < h.length := by rw [← r.len]; exact (List.getElem?_eq_some_iff.mp e).1
  exact ⟨h[n], by simp [hi], r.ob n _ a (by simp [hi]) e⟩
theorem HRep.mem (r : HRep G H ρ h) {a : Addr} (m : a ∈ ρ) : ∃ u, H a = some u ∧ (∀ xs, u ≠ .tup xs) ∧ ∀ x y, u ≠ .frz x y := by
  obtain ⟨n, e⟩ := List.getElem?_of_mem m
  obtain ⟨o, _, q⟩ := r.at' e
  exact q.trk

/-- new things that are not numbered are laid: all that was tracked stays -/
theorem HRep.grow (r : HRep G H ρ h) (e : ∀ a u, H a = some u → H' a = some u) : HRep G H' ρ h ∧ Ext ρ H ρ H' := by
  have x : Ext ρ H ρ H' := ⟨fun _ _ q => q, fun _ _ q => e _ _ q, fun _ _ _ q => e _ _ q⟩
  exact ⟨⟨r.tb.ext e, r.nd, r.len, fun n o a h1 h2 => ORep.ext x (r.ob n o a h1 h2) fun u q => e _ _ q⟩, x⟩
theorem upd_grow {p : Addr} {o : HO} (hp : H p = none) : ∀ a u, H a = some u → upd H p o a = some u := fun a u e => by rw [upd_ne (ne_of_none e hp)]; exact e
theorem HRep.pushed (r : HRep G H ρ h) {a : Addr} (h0 : H a = none) (ha : ∀ u, H a = some u → a ∉ ρ) (e : ∀ b u, b ≠ a → H b = some u → H' b = some u) (hn : ∀ xs, H a ≠ some (.tup xs)) (hf : ∀ x y, H a ≠ some (.frz x y)) (hm : a ∉ ρ) {o : PO} (q : Ext ρ H (ρ ++ [a]) H' → ORep G H' (ρ ++ [a]) o a) :
    HRep G H' (ρ ++ [a]) (h ++ [o]) ∧ Ext ρ H (ρ ++ [a]) H' := by
  have x : Ext ρ H (ρ ++ [a]) H' := by
    refine ⟨fun n b z => ?_, fun b xs z => e b _ (fun y => hn xs (by rw [← y]; exact z)) z, fun b u v z => e b _ (fun y => hf u v (by rw [← y]; exact z)) z⟩
    rw [List.getElem?_append_left (List.getElem?_eq_some_iff.mp z).1]
    exact z
  refine ⟨⟨r.tb.ext fun b u z => e b u (ne_of_none z h0) z, List.nodup_append.mpr ⟨r.nd, by simp, fun u hu v hv => ?_⟩, by simp [r.len], fun n o' b h1 h2 => ?_⟩, x⟩
  · have : v = a := by simpa using hv
    subst this
    rintro rfl
    exact hm hu
  · by_cases hl : n < h.length
    · rw [List.getElem?_append_left hl] at h1
      have hl2 : n < ρ.length := by rw [r.len]; exact hl
      rw [List.getElem?_append_left hl2] at h2
      refine ORep.ext x (r.ob n o' b h1 h2) fun u z => e b u (fun y => ?_) z
      rw [y] at h2
      exact hm (List.mem_of_getElem? h2)
    · have e1 : n = h.length := by
        have : n < (h ++ [o]).length := (List.getElem?_eq_some_iff.mp h1).1
        simp at this
        omega
      subst e1
      rw [List.getElem?_append_right (Nat.le_refl _)] at h1
      rw [List.getElem?_append_right (by rw [r.len]; exact Nat.le_refl _), r.len] at h2
      have hb : a = b := by simpa using h2
      have ho : o = o' := by simpa using h1
      rw [← hb, ← ho]
      exact q x
/-- a new numbered object -/
theorem HRep.push (r : HRep G H ρ h) {p : Addr} (hp : H p = none) {u : HO} {o : PO} (q : Ext ρ H (ρ ++ [p]) (upd H p u) → ORep G (upd H p u) (ρ ++ [p]) o p) : HRep G (upd H p u) (ρ ++ [p]) (h ++ [o]) ∧ Ext ρ H (ρ ++ [p]) (upd H p u) := by
  refine r.pushed hp (fun v e => by rw [hp] at e; cases e) (fun b v hb e => by rw [upd_ne hb]; exact e) (fun xs e => by rw [hp] at e; cases e) (fun x y e => by rw [hp] at e; cases e) (fun m => ?_) q
  obtain ⟨v, e, _⟩ := r.mem m
  rw [hp] at e; cases e
theorem nodup_ixA {N : List Addr} (hN : N.Nodup) {i j : Nat} {x : Addr} (a : N[i]? = some x) (b : N[j]? = some x) : i = j := by
  obtain ⟨h1, e1⟩ := List.getElem?_eq_some_iff.mp a
  obtain ⟨h2, e2⟩ := List.getElem?_eq_some_iff.mp b
  exact (List.getElem_inj hN).mp (e1.trans e2.symm)
/-- an object is written -/
theorem HRep.wrote (r : HRep G H ρ h) {n : Nat} {a : Addr} {u : HO} {o : PO} (ha : ρ[n]? = some a) (q : Ext ρ H ρ (upd H a u) → ORep G (upd H a u) ρ o a) : HRep G (upd H a u) ρ (h.set n o) ∧ Ext ρ H ρ (upd H a u) := by
  obtain ⟨v, e, n1, n2⟩ := r.mem (List.mem_of_getElem? ha)
  have x : Ext ρ H ρ (upd H a u) := by
    refine ⟨fun _ _ z => z, fun b xs z => ?_, fun b x y z => ?_⟩
    · rw [upd_ne (fun y => n1 xs (by rw [y, e] at z; exact Option.some.inj z))]; exact z
    · rw [upd_ne (fun w => n2 x y (by rw [w, e] at z; exact Option.some.inj z))]; exact z
  have t3 : LamX.Tabs G.tabs (upd H a u) := by
    obtain ⟨o0, _, q0⟩ := r.at' ha
    obtain ⟨w, e5, n3, n4⟩ := q0.trk2
    refine tabs_keep r.tb (fun b ps z => ?_) fun b c q z => ?_
    · rw [upd_ne (fun y => n3 ps (by rw [y, e5] at z; exact Option.some.inj z))]; exact z
    · rw [upd_ne (fun y => n4 c q (by rw [y, e5] at z; exact Option.some.inj z))]; exact z
  refine ⟨⟨t3, r.nd, by simp [r.len], fun m o' b h1 h2 => ?_⟩, x⟩
  by_cases hm : m = n
  · subst hm
    rw [ha] at h2
    cases h2
    have hl : m < h.length := by rw [← r.len]; exact (List.getElem?_eq_some_iff.mp ha).1
    rw [List.getElem?_set_self hl] at h1
    cases h1
    exact q x
  · rw [List.getElem?_set_ne (Ne.symm hm)] at h1
    refine ORep.ext x (r.ob m o' b h1 h2) fun v z => ?_
    rw [upd_ne (fun (y : b = a) => hm (nodup_ixA r.nd h2 (by rw [y]; exact ha)))]
    exact z
theorem ERep.set (e : ERep G H ρ env σ) {p : PV} {v : V} (r : Rep G.K H ρ p v) (i : Nat) : ERep G H ρ (env.set i (some p)) (σ.set i (some v)) := by
  refine ⟨by simpa using e.1, fun j q hj => ?_⟩
  by_cases hji : j = i
  · subst hji
    have hl : j < env.length := by
      have := (List.getElem?_eq_some_iff.mp hj).1
      simpa using this
    rw [List.getElem?_set_self hl] at hj
    cases hj
    have hl' : j < σ.length := by rw [← e.1]; exact hl
    exact ⟨v, List.getElem?_set_self hl', r⟩
  · rw [List.getElem?_set_ne (Ne.symm hji)] at hj
    obtain ⟨w, h1, h2⟩ := e.2 j q hj
    exact ⟨w, by rw [List.getElem?_set_ne (Ne.symm hji)]; exact h1, h2⟩
end
end Py

end

section
/-! The judgements of the small language, names, constants, operators, tests. -/
namespace Py
open PySem PySem.Spec PyProof.Rows L2
abbrev Sto := L2.St

/-! ### readings -/
def rd {α : Type} (ok : α → PH → Prop) (ex : Nat → List (Nat × PV) → PH → Prop) : Rs α → Prop
  | .ok a h => ok a h
  | .exc c fs h => ex c fs h
  | .bad => False
def okG {α β : Type} (R : Hp → List Addr → α → β → Prop) (G : PCfg) (Q : β → Hp → Prop) (ρ : List Addr) (H : Hp) : α → PH → Prop := fun a h' => ∀ b H' ρ', Ext ρ H ρ' H' → HRep G H' ρ' h' → R H' ρ' a b → Q b H'
def exG (G : PCfg) (E : XK) (ρ : List Addr) (H : Hp) : Nat → List (Nat × PV) → PH → Prop := fun c fs h' => ∀ d H' ρ' fv, Ext ρ H ρ' H' → HRep G H' ρ' h' → H' d = some (.xd fv) → FsRep G H' ρ' fs fv → E (.ref (G.cls c)) (some d) H'
abbrev CK := Hp → List Addr → Prop
def Mono (C : CK) : Prop := ∀ ρ H ρ' H', Ext ρ H ρ' H' → C H ρ → C H' ρ'
theorem Mono.tt : Mono fun _ _ => True := fun _ _ _ _ _ _ => trivial
theorem Mono.and {C D : CK} (a : Mono C) (b : Mono D) : Mono fun H ρ => C H ρ ∧ D H ρ := fun _ _ _ _ x h => ⟨a _ _ _ _ x h.1, b _ _ _ _ x h.2⟩
theorem Mono.rep {K : PySem.W.Frag} {p : PV} {v : V} : Mono fun H ρ => Rep K H ρ p v := fun _ _ _ _ x h => h.ext x
theorem Mono.reps {K : PySem.W.Frag} {p : List PV} {v : List V} : Mono fun H ρ => Reps K H ρ p v := fun _ _ _ _ x h => Reps.ext x h
theorem Mono.eq {α : Type} {a b : α} : Mono fun (_ : Hp) (_ : List Addr) => a = b := fun _ _ _ _ _ h => h
def Now {α β : Type} (R : Hp → List Addr → α → β → Prop) (C : CK) (G : PCfg) (W : WX) (σ : Sto) (H : Hp) (Q : β → Hp → Prop) (r : Env → PH → Rs α) : Prop :=
  ∃ ρ env h, ERep G H ρ env σ ∧ HRep G H ρ h ∧ C H ρ ∧ rd (okG R G Q ρ H) (exG G (fun c d H' => W c d σ H') ρ H) (r env h)
abbrev RV (G : PCfg) : Hp → List Addr → PV → V → Prop := fun H ρ p v => Rep G.K H ρ p v
abbrev RB : Hp → List Addr → Bool → Bool → Prop := fun _ _ a b => a = b
abbrev RA (G : PCfg) : Hp → List Addr → List PV → List V → Prop := fun H ρ p v => Reps G.K H ρ p v
abbrev CT : CK := fun _ _ => True
def tE (G : PCfg) (W : WX) (f : Ef) : TE := fun σ H Q => Now (RV G) CT G W σ H Q f
def tT (G : PCfg) (W : WX) (f : Tf) : TT := fun σ H Q => Now RB CT G W σ H Q f
def tA (G : PCfg) (W : WX) (f : Af) : TA := fun σ H Q => Now (RA G) CT G W σ H Q f
/-- behind a statement -/
def tS (G : PCfg) (W : WX) (f : Sf) : TS := fun D σ H => ∃ ρ env h, ERep G H ρ env σ ∧ HRep G H ρ h ∧ match f env h with
  | .nrm env' h' => ∀ σ' H' ρ', Ext ρ H ρ' H' → ERep G H' ρ' env' σ' → HRep G H' ρ' h' → D.nx σ' H'
  | .ret p h' => ∀ v H' ρ', Ext ρ H ρ' H' → HRep G H' ρ' h' → Rep G.K H' ρ' p v → D.rt v H'
  | .brk env' h' => ∀ σ' H' ρ', Ext ρ H ρ' H' → ERep G H' ρ' env' σ' → HRep G H' ρ' h' → D.bk σ' H'
  | .cnt env' h' => ∀ σ' H' ρ', Ext ρ H ρ' H' → ERep G H' ρ' env' σ' → HRep G H' ρ' h' → D.ct σ' H'
  | .exc c fs env' h' => ∀ d σ' H' ρ' fv, Ext ρ H ρ' H' → ERep G H' ρ' env' σ' → HRep G H' ρ' h' → H' d = some (.xd fv) → FsRep G H' ρ' fs fv → W (.ref (G.cls c)) (some d) σ' H'
  | .bad => False
/-- the context is the program's -/
structure Cok (X : Cx) (G : PCfg) : Prop where
  k : X.K = G.K
  p : X.prog = G.P
  w : X.w = G.w
abbrev DE (X : Cx) (G : PCfg) (W : WX) (e : Expr) (f : Ef) : Prop := PE X e (tE G W f)
abbrev DT (X : Cx) (G : PCfg) (W : WX) (e : Expr) (f : Tf) : Prop := PT X e (tT G W f)
abbrev DW (X : Cx) (G : PCfg) (W : WX) (e : Expr) (f : Tf) : Prop := PW X e (tT G W f)
abbrev DA (X : Cx) (G : PCfg) (W : WX) (es : List Expr) (f : Af) : Prop := PA X es (tA G W f)
abbrev DS (X : Cx) (G : PCfg) (W : WX) (st : Stmt) (f : Sf) : Prop := PS X st (tS G W f)
abbrev DB (X : Cx) (G : PCfg) (W : WX) (sts : List Stmt) (f : Sf) : Prop := PSs X sts (tS G W f)

theorem PE.imp {X : Cx} {e : Expr} {t t' : TE} (h : PE X e t) (k : ∀ σ H Q, t' σ H Q → t σ H Q) : PE X e t' := ⟨fun pins s σ H Q I q => h.run pins s σ H Q I (k σ H Q q)⟩
theorem PT.imp {X : Cx} {e : Expr} {t t' : TT} (h : PT X e t) (k : ∀ σ H Q, t' σ H Q → t σ H Q) : PT X e t' := ⟨fun pins s σ H Q I q => h.run pins s σ H Q I (k σ H Q q)⟩
theorem PW.imp {X : Cx} {e : Expr} {t t' : TT} (h : PW X e t) (k : ∀ σ H Q, t' σ H Q → t σ H Q) : PW X e t' := ⟨fun wh pins s σ H Q I q => h.run wh pins s σ H Q I (k σ H Q q)⟩
theorem PA.imp {X : Cx} {e : List Expr} {t t' : TA} (h : PA X e t) (k : ∀ σ H Q, t' σ H Q → t σ H Q) : PA X e t' := ⟨fun pos pins s σ H Q I q => h.run pos pins s σ H Q I (k σ H Q q)⟩
theorem PS.imp {X : Cx} {e : Stmt} {t t' : TS} (h : PS X e t) (k : ∀ D σ H, t' D σ H → t D σ H) : PS X e t' := ⟨fun pins s σ H D I q => h.run pins s σ H D I (k D σ H q)⟩
theorem PSs.imp {X : Cx} {e : List Stmt} {t t' : TS} (h : PSs X e t) (k : ∀ D σ H, t' D σ H → t D σ H) : PSs X e t' := ⟨fun pins s σ H D I q => h.run pins s σ H D I (k D σ H q)⟩

section
variable {α β γ δ : Type} {R : Hp → List Addr → α → β → Prop} {R' : Hp → List Addr → γ → δ → Prop} {C C' : CK} {G : PCfg} {W : WX} {σ : Sto} {H : Hp} {Q : β → Hp → Prop}
theorem rd.ext {ρ ρ1 : List Addr} {H H1 : Hp} {E : XK} (x : Ext ρ H ρ1 H1) {r : Rs α} (h : rd (okG R G Q ρ H) (exG G E ρ H) r) : rd (okG R G Q ρ1 H1) (exG G E ρ1 H1) r := by
  cases r with
  | ok a h1 => exact fun b H' ρ' y => h b H' ρ' (x.trans y)
  | exc c fs h1 => exact fun d H' ρ' fv y => h d H' ρ' fv (x.trans y)
  | bad => exact h
theorem Now.weak {r : Env → PH → Rs α} (h : Now R C G W σ H Q r) : Now R CT G W σ H Q r := let ⟨ρ, env, h1, a, b, _, d⟩ := h; ⟨ρ, env, h1, a, b, trivial, d⟩
theorem Now.post {Q' : β → Hp → Prop} {r : Env → PH → Rs α} (h : Now R C G W σ H Q r) (k : ∀ b H', Q b H' → Q' b H') : Now R C G W σ H Q' r := by
  obtain ⟨ρ, env, h1, a, b, c, d⟩ := h
  refine ⟨ρ, env, h1, a, b, c, ?_⟩
  cases e : r env h1 with
  | ok p h2 => rw [e] at d; exact fun b H' ρ' x y z => k _ _ (d b H' ρ' x y z)
  | exc cl fs h2 => rw [e] at d; exact d
  | bad => rw [e] at d; exact d
/-- two parts, one behind the other -/
theorem Now.bind {fa : Env → PH → Rs γ} {g : Env → γ → PH → Rs α} (mC : Mono C) (mR : ∀ a b, Mono fun H ρ => R' H ρ a b) (h : Now R C G W σ H Q fun env h => (fa env h).bind (g env)) :
    Now R' C G W σ H (fun b H1 => ∃ a, Now R (fun H ρ => C H ρ ∧ R' H ρ a b) G W σ H1 Q fun env h => g env a h) fa := by
  obtain ⟨ρ, env, h1, a, b, c, d⟩ := h
  refine ⟨ρ, env, h1, a, b, c, ?_⟩
  cases e : fa env h1 with
  | ok p h2 =>
    simp only [e, Rs.bind] at d
    exact fun v H1 ρ1 x y z => ⟨p, ρ1, env, h2, a.ext x, y, ⟨mC _ _ _ _ x c, z⟩, d.ext x⟩
  | exc cl fs h2 => simp only [e, Rs.bind] at d; exact d
  | bad => simp only [e, Rs.bind] at d; exact d
end
theorem mRV {G : PCfg} (a : PV) (b : V) : Mono fun H ρ => RV G H ρ a b := Mono.rep
theorem mRA {G : PCfg} (a : List PV) (b : List V) : Mono fun H ρ => RA G H ρ a b := Mono.reps
theorem mRB (a b : Bool) : Mono fun H ρ => RB H ρ a b := Mono.eq
section
variable {C : CK} {G : PCfg} {W : WX} {σ : Sto} {H : Hp}
theorem Now.bindV {α β : Type} {R : Hp → List Addr → α → β → Prop} {Q : β → Hp → Prop} {fa : Ef} {g : Env → PV → PH → Rs α} (mC : Mono C) (h : Now R C G W σ H Q fun env h => (fa env h).bind (g env)) :
    tE G W fa σ H fun b H1 => ∃ a, Now R (fun H ρ => C H ρ ∧ Rep G.K H ρ a b) G W σ H1 Q fun env h => g env a h := Now.weak (Now.bind mC mRV h)
theorem Now.bindB {α β : Type} {R : Hp → List Addr → α → β → Prop} {Q : β → Hp → Prop} {fa : Tf} {g : Env → Bool → PH → Rs α} (mC : Mono C) (h : Now R C G W σ H Q fun env h => (fa env h).bind (g env)) :
    tT G W fa σ H fun b H1 => Now R C G W σ H1 Q fun env h => g env b h :=
  Now.post (Now.weak (Now.bind mC mRB h)) fun b H1 ⟨a, ρ, env, h1, x, y, ⟨z, e⟩, u⟩ => by
    cases e
    exact ⟨ρ, env, h1, x, y, z, u⟩
theorem Now.bindA {α β : Type} {R : Hp → List Addr → α → β → Prop} {Q : β → Hp → Prop} {fa : Af} {g : Env → List PV → PH → Rs α} (mC : Mono C) (h : Now R C G W σ H Q fun env h => (fa env h).bind (g env)) :
    tA G W fa σ H fun b H1 => ∃ a, Now R (fun H ρ => C H ρ ∧ Reps G.K H ρ a b) G W σ H1 Q fun env h => g env a h := Now.weak (Now.bind mC mRA h)
theorem tE.post {f : Ef} {Q Q' : VK} (h : tE G W f σ H Q) (k : ∀ v H', Q v H' → Q' v H') : tE G W f σ H Q' := Now.post h k
theorem tT.post {f : Tf} {Q Q' : Bool → Hp → Prop} (h : tT G W f σ H Q) (k : ∀ v H', Q v H' → Q' v H') : tT G W f σ H Q' := Now.post h k
theorem tA.post {f : Af} {Q Q' : List V → Hp → Prop} (h : tA G W f σ H Q) (k : ∀ v H', Q v H' → Q' v H') : tA G W f σ H Q' := Now.post h k
end

/-! ### names and constants -/
def var (i : Nat) : Ef := fun env h => match env[i]? with
  | some (some p) => .ok p h
  | _ => .bad
def cst (p : PV) : Ef := fun _ h => .ok p h
section
variable {X : Cx} {G : PCfg} {W : WX}
theorem d_var {i : Nat} {x : Str} {pos : Pos} (hN : X.N[i]? = some x) (hv : Vis X.env.scope x) (hd : (x == ("__debug__" : Str)) = false := by decide) (hcd : (x == ("__classdict__" : Str)) = false := by decide) : DE X G W (.Name x pos) (var i) :=
  PE.imp (pe_var hN hv hd hcd) fun σ H Q ⟨ρ, env, h, a, b, _, d⟩ => by
    unfold var at d
    cases e : env[i]? with
    | none => rw [e] at d; exact d.elim
    | some o =>
      cases o with
      | none => rw [e] at d; exact d.elim
      | some p =>
        rw [e] at d
        obtain ⟨v, h1, h2⟩ := a.2 i p e
        exact ⟨v, h1, d v H ρ .refl b h2⟩
theorem d_cst {e : Expr} {p : PV} {v : V} (h : PE X e (tC v)) (r : ∀ H ρ, Rep G.K H ρ p v) : DE X G W e (cst p) := PE.imp h fun σ H Q ⟨ρ, env, h, a, b, _, d⟩ => d v H ρ .refl b (r H ρ)
theorem d_int {i j pos} : DE X G W (.Constant (.int i) j pos) (cst (.int i)) := d_cst pe_int fun _ _ => .int i
theorem d_bl {i j pos} : DE X G W (.Constant (.bool i) j pos) (cst (.bl i)) := d_cst pe_bl fun _ _ => .bl i
theorem d_str {i j pos} : DE X G W (.Constant (.str i) j pos) (cst (.str i)) := d_cst pe_str fun _ _ => .str i
theorem d_non {j pos} : DE X G W (.Constant .none j pos) (cst .non) := d_cst pe_non fun _ _ => .non

/-! ### operators on values -/
abbrev Op2 := PV → PV → PH → Rs PV
def bin (s : Op2) (fa fb : Ef) : Ef := fun env h => (fa env h).bind fun p h1 => (fb env h1).bind fun q h2 => s p q h2
/-- what a rule of two values asks, given what the language says -/
def Says (G : PCfg) (s : Op2) (r : R2) : Prop := ∀ ρ H h p q x y (Q : VK), HRep G H ρ h → Rep G.K H ρ p x → Rep G.K H ρ q y → rd (okG (RV G) G Q ρ H) (fun _ _ _ => False) (s p q h) → r x y H Q
theorem rd.noex {α : Type} {ok : α → PH → Prop} {ex : Nat → List (Nat × PV) → PH → Prop} {r : Rs α} (h : rd ok ex r) (n : ∀ c fs h', r ≠ .exc c fs h') : rd ok (fun _ _ _ => False) r := by
  cases r with
  | ok a h1 => exact h
  | exc c fs h1 => exact absurd rfl (n c fs h1)
  | bad => exact h
def NoEx2 (s : Op2) : Prop := ∀ p q h c fs h', s p q h ≠ .exc c fs h'
theorem says_bin {s : Op2} {r : R2} (hs : Says G s r) (hn : NoEx2 s) {fa fb : Ef} {σ : Sto} {H : Hp} {Q : VK} (t : tE G W (bin s fa fb) σ H Q) : tOp r (tE G W fa) (tE G W fb) σ H Q := by
  refine tE.post (Now.bindV Mono.tt t) fun x H1 ⟨p, t1⟩ => ?_
  refine tE.post (Now.bindV (Mono.tt.and Mono.rep) t1) fun y H2 ⟨q, t2⟩ => ?_
  obtain ⟨ρ, env, h, _, b, ⟨⟨_, c1⟩, c2⟩, d⟩ := t2
  exact hs ρ H2 h p q x y Q b c1 c2 (d.noex (hn p q h))
theorem d_bin {op : Operator} {s : Op2} {r : R2} {a b : Expr} {fa fb : Ef} {pos : Pos} (ho : OpR X (binaryOp op) r) (hs : Says G s r) (hn : NoEx2 s) (ha : DE X G W a fa) (hb : DE X G W b fb) : DE X G W (.BinOp a op b pos) (bin s fa fb) :=
  PE.imp (pe_op ho ha hb) fun _ _ _ t => says_bin hs hn t
theorem d_cmp {op : CmpOp} {s : Op2} {r : R2} {a b : Expr} {fa fb : Ef} {pos : Pos} (ho : OpR X (compareOp op) r) (hs : Says G s r) (hn : NoEx2 s) (ha : DE X G W a fa) (hb : DE X G W b fb) (hm : behindInMarks op b = false) : DE X G W (.Compare a [op] [b] pos) (bin s fa fb) :=
  PE.imp (pe_cmpR ho ha hb hm) fun _ _ _ t => says_bin hs hn t
/-- a value that is a bool, as a test -/
def tst (f : Ef) : Tf := fun env h => (f env h).bind fun p h1 => match p with
  | .bl b => .ok b h1
  | _ => .bad
theorem tst_test {f : Ef} {σ : Sto} {H : Hp} {Q : Bool → Hp → Prop} (t : tT G W (tst f) σ H Q) : tE G W f σ H fun x H' => ∃ k, x = .bl k ∧ Q k H' := by
  refine tE.post (Now.bindV Mono.tt t) fun x H1 ⟨p, ρ, env, h, a, b, ⟨_, c⟩, d⟩ => ?_
  cases p with
  | bl k =>
    cases c
    exact ⟨k, rfl, d k H1 ρ .refl b rfl⟩
  | _ => exact d.elim
theorem d_tcmp {op : CmpOp} {s : Op2} {r : R2} {a b : Expr} {fa fb : Ef} {pos : Pos} (ho : OpR X (compareOp op) r) (hs : Says G s r) (hn : NoEx2 s) (ha : DE X G W a fa) (hb : DE X G W b fb) (hm : behindInMarks op b = false) : DT X G W (.Compare a [op] [b] pos) (tst (bin s fa fb)) :=
  PT.imp (pt_cmpR ho ha hb hm) fun _ _ _ t => says_bin hs hn (tst_test t)
theorem d_tval {e : Expr} {f : Ef} (h : DE X G W e f) (he : ∀ whole, isTrue e X.env whole = (do let v ← whole; standAt e.pos; holding [v] (truthy v)) := by intro _; rfl) : DT X G W e (tst f) :=
  PT.imp (pt_val h he) fun _ _ _ t => tst_test t
/-- a op1 b op2 c -/
def chain (s s' : Op2) (fa fb fc : Ef) : Ef := fun env h => (fa env h).bind fun p h1 => (fb env h1).bind fun q h2 => (s p q h2).bind fun z h3 => match z with
  | .bl true => (fc env h3).bind fun u h4 => s' q u h4
  | .bl false => .ok (.bl false) h3
  | _ => .bad
theorem Now.bindOp {C : CK} {σ : Sto} {H : Hp} {Q : VK} {s : Op2} {r : R2} (hs : Says G s r) (hn : NoEx2 s) (mC : Mono C) {p q : PV} {x y : V} {g : Env → PV → PH → Rs PV} (h : Now (RV G) C G W σ H Q fun env h => (s p q h).bind (g env)) (hp : ∀ H ρ, C H ρ → Rep G.K H ρ p x) (hq : ∀ H ρ, C H ρ → Rep G.K H ρ q y) :
    r x y H fun z H1 => ∃ a, Now (RV G) (fun H ρ => C H ρ ∧ Rep G.K H ρ a z) G W σ H1 Q fun env h => g env a h := by
  obtain ⟨ρ, env, h1, a, b, c, d⟩ := h
  refine hs ρ H h1 p q x y _ b (hp _ _ c) (hq _ _ c) ?_
  cases e : s p q h1 with
  | ok z h2 =>
    simp only [e, Rs.bind] at d
    exact fun v H1 ρ1 u w z => ⟨_, ρ1, env, h2, a.ext u, w, ⟨mC _ _ _ _ u c, z⟩, d.ext u⟩
  | exc cl fs h2 => exact absurd e (hn p q h1 cl fs h2)
  | bad => simp only [e, Rs.bind] at d; exact d
theorem chain_test {s s' : Op2} {r r' : R2} (hs : Says G s r) (hn : NoEx2 s) (hs' : Says G s' r') (hn' : NoEx2 s') {fa fb fc : Ef} {σ : Sto} {H : Hp} {Q : VK} (t : tE G W (chain s s' fa fb fc) σ H Q) : tChain r r' (tE G W fa) (tE G W fb) (tE G W fc) σ H Q := by
  refine tE.post (Now.bindV Mono.tt t) fun x H1 ⟨p, t1⟩ => ?_
  refine tE.post (Now.bindV (Mono.tt.and Mono.rep) t1) fun y H2 ⟨q, t2⟩ => ?_
  have z := Now.bindOp hs hn ((Mono.tt.and Mono.rep).and Mono.rep) t2 (x := x) (y := y) (fun _ _ c => c.1.2) (fun _ _ c => c.2)
  have m : ∀ (x y : V) (H : Hp) (Q Q' : VK), (∀ v H', Q v H' → Q' v H') → r x y H Q → r x y H Q → r x y H Q := fun _ _ _ _ _ _ a _ => a
  obtain ⟨ρ, env, h, a, b, ⟨⟨c0, c1⟩, c2⟩, d⟩ := t2
  refine hs ρ H2 h p q x y _ b c1 c2 ?_
  cases e : s p q h with
  | ok z h2 =>
    simp only [e, Rs.bind] at d
    refine fun v H3 ρ3 u w zr => ?_
    cases z with
    | bl k =>
      cases zr
      refine ⟨k, rfl, ?_⟩
      cases k with
      | true =>
        rw [if_pos rfl]
        have n : Now (RV G) (fun H ρ => Rep G.K H ρ q y) G W σ H3 Q fun env h => (fc env h).bind fun u h4 => s' q u h4 := ⟨ρ3, env, h2, a.ext u, w, c2.ext u, d.ext u⟩
        refine tE.post (Now.bindV Mono.rep n) fun w' H4 ⟨u', ρ4, env4, h4, a4, b4, ⟨c41, c42⟩, d4⟩ => ?_
        exact hs' ρ4 H4 h4 q u' y w' Q b4 c41 c42 (d4.noex (hn' q u' h4))
      | false =>
        rw [if_neg Bool.false_ne_true]
        exact d (.bl false) H3 ρ3 u w (.bl false)
    | _ => exact d.elim
  | exc cl fs h2 => exact absurd e (hn p q h cl fs h2)
  | bad => simp only [e, Rs.bind] at d; exact d
theorem d_chain {op op' : CmpOp} {s s' : Op2} {r r' : R2} {a b c : Expr} {fa fb fc : Ef} {pos : Pos} (ho : OpR X (compareOp op) r) (hs : Says G s r) (hn : NoEx2 s) (ho' : OpR X (compareOp op') r') (hs' : Says G s' r') (hn' : NoEx2 s')
    (ha : DE X G W a fa) (hb : DE X G W b fb) (hc : DE X G W c fc) (hm : lastMarks [op, op'] [b, c] = false := by with_unfolding_all rfl) : DE X G W (.Compare a [op, op'] [b, c] pos) (chain s s' fa fb fc) :=
  PE.imp (pe_chain ho ho' ha hb hc hm) fun _ _ _ t => chain_test hs hn hs' hn' t
theorem d_tchain {op op' : CmpOp} {s s' : Op2} {r r' : R2} {a b c : Expr} {fa fb fc : Ef} {pos : Pos} (ho : OpR X (compareOp op) r) (hs : Says G s r) (hn : NoEx2 s) (ho' : OpR X (compareOp op') r') (hs' : Says G s' r') (hn' : NoEx2 s')
    (ha : DE X G W a fa) (hb : DE X G W b fb) (hc : DE X G W c fc) (hm : lastMarks [op, op'] [b, c] = false := by with_unfolding_all rfl) : DT X G W (.Compare a [op, op'] [b, c] pos) (tst (chain s s' fa fb fc)) :=
  PT.imp (pt_chain ho ho' ha hb hc hm) fun _ _ _ t => chain_test hs hn hs' hn' (tst_test t)

/-! ### and, or, not -/
def andT (f g : Tf) : Tf := fun env h => (f env h).bind fun c h1 => if c = true then g env h1 else .ok false h1
def orT (f g : Tf) : Tf := fun env h => (f env h).bind fun c h1 => if c = true then .ok true h1 else g env h1
def notT (f : Tf) : Tf := fun env h => (f env h).bind fun c h1 => .ok (!c) h1
def andE (f g : Ef) : Ef := fun env h => (tst f env h).bind fun c h1 => if c = true then g env h1 else .ok (.bl false) h1
def orE (f g : Ef) : Ef := fun env h => (tst f env h).bind fun c h1 => if c = true then .ok (.bl true) h1 else g env h1
def notE (f : Ef) : Ef := fun env h => (tst f env h).bind fun c h1 => .ok (.bl (!c)) h1
def ifE (t : Tf) (f g : Ef) : Ef := fun env h => (t env h).bind fun c h1 => if c = true then f env h1 else g env h1
variable {a b c : Expr} {rest : List Expr} {pos : Pos} {fa fb : Ef} {ga gb : Tf}
theorem Now.okB {C : CK} {σ : Sto} {H : Hp} {Q : Bool → Hp → Prop} {k : Bool} (h : Now RB C G W σ H Q fun _ h => .ok k h) : Q k H := by
  obtain ⟨ρ, env, h1, a, b, c, d⟩ := h
  exact d k H ρ .refl b rfl
theorem Now.okV {C : CK} {σ : Sto} {H : Hp} {Q : VK} {p : PV} {v : V} (r : ∀ H ρ, C H ρ → Rep G.K H ρ p v) (h : Now (RV G) C G W σ H Q fun _ h => .ok p h) : Q v H := by
  obtain ⟨ρ, env, h1, a, b, c, d⟩ := h
  exact d v H ρ .refl b (r _ _ c)
theorem d_not (ha : DT X G W a ga) : DT X G W (.UnaryOp .Not a pos) (notT ga) := PT.imp (pt_not ha) fun _ _ _ t => tT.post (Now.bindB Mono.tt t) fun _ _ n => n.okB
theorem d_wand1 (ha : DT X G W a ga) : DW X G W (.BoolOp .And [a] pos) ga := PW.imp (pw_and1 ha) fun _ _ _ t => t
theorem d_wor1 (ha : DT X G W a ga) : DW X G W (.BoolOp .Or [a] pos) ga := PW.imp (pw_or1 ha) fun _ _ _ t => t
theorem d_wand (ha : DT X G W a ga) (hb : DW X G W (.BoolOp .And (b :: rest) pos) gb) : DW X G W (.BoolOp .And (a :: b :: rest) pos) (andT ga gb) := PW.imp (pw_and ha hb) fun σ H Q t => by
  refine tT.post (Now.bindB Mono.tt t) fun k H1 n => ?_
  cases k with
  | true => exact n
  | false => exact Now.okB (C := CT) n
theorem d_wor (ha : DT X G W a ga) (hb : DW X G W (.BoolOp .Or (b :: rest) pos) gb) : DW X G W (.BoolOp .Or (a :: b :: rest) pos) (orT ga gb) := PW.imp (pw_or ha hb) fun σ H Q t => by
  refine tT.post (Now.bindB Mono.tt t) fun k H1 n => ?_
  cases k with
  | true => exact Now.okB (C := CT) n
  | false => exact n
theorem d_wt (h : DW X G W a ga) : DT X G W a ga := PW.pt h
/-- .. as values -/
theorem tst_E {C : CK} {f : Ef} {g : Bool → Ef} {σ : Sto} {H : Hp} {Q : VK} (t : tE G W (fun env h => (tst f env h).bind fun c h1 => g c env h1) σ H Q) : tE G W f σ H fun x H1 => ∃ c, x = .bl c ∧ tE G W (g c) σ H1 Q := by
  have t' : tE G W (fun env h => (f env h).bind fun p h1 => (match p with | .bl b => Rs.ok b h1 | _ => .bad).bind fun c h2 => g c env h2) σ H Q := by
    obtain ⟨ρ, env, h, a, b, c, d⟩ := t
    refine ⟨ρ, env, h, a, b, c, ?_⟩
    unfold tst at d
    cases e : f env h with
    | ok p h1 => simp only [e, Rs.bind] at d ⊢; exact d
    | exc cl fs h1 => simp only [e, Rs.bind] at d ⊢; exact d
    | bad => simp only [e, Rs.bind] at d ⊢; exact d
  refine tE.post (Now.bindV Mono.tt t') fun x H1 ⟨p, ρ, env, h, a, b, ⟨_, c⟩, d⟩ => ?_
  cases p with
  | bl k =>
    cases c
    exact ⟨k, rfl, ρ, env, h, a, b, trivial, d⟩
  | _ => exact d.elim
theorem d_one {op} (h : DE X G W a fa) : DE X G W (.BoolOp op [a] pos) fa := PE.imp (pe_one h) fun _ _ _ t => t
theorem d_and (ha : DE X G W a fa) (hb : DE X G W (.BoolOp .And (b :: rest) pos) fb) : DE X G W (.BoolOp .And (a :: b :: rest) pos) (andE fa fb) := PE.imp (pe_and ha hb) fun σ H Q t => by
  refine tE.post (tst_E (C := CT) t) fun x H1 ⟨k, e, n⟩ => ⟨k, e, ?_⟩
  cases k with
  | true => exact n
  | false => exact Now.okV (C := CT) (fun _ _ _ => .bl false) n
theorem d_or (ha : DE X G W a fa) (hb : DE X G W (.BoolOp .Or (b :: rest) pos) fb) : DE X G W (.BoolOp .Or (a :: b :: rest) pos) (orE fa fb) := PE.imp (pe_or ha hb) fun σ H Q t => by
  refine tE.post (tst_E (C := CT) t) fun x H1 ⟨k, e, n⟩ => ⟨k, e, ?_⟩
  cases k with
  | true => exact Now.okV (C := CT) (fun _ _ _ => .bl true) n
  | false => exact n
theorem d_notV (ha : DE X G W a fa) : DE X G W (.UnaryOp .Not a pos) (notE fa) := PE.imp (pe_not ha) fun σ H Q t =>
  tE.post (tst_E (C := CT) t) fun x H1 ⟨k, e, n⟩ => ⟨k, e, Now.okV (C := CT) (fun _ _ _ => .bl (!k)) n⟩
theorem d_if {c : Expr} {gc : Tf} (hc : DT X G W c gc) (ha : DE X G W a fa) (hb : DE X G W b fb) : DE X G W (.IfExp c a b pos) (ifE gc fa fb) := PE.imp (pe_ifExp hc ha hb) fun σ H Q t => by
  refine tT.post (Now.bindB Mono.tt t) fun k H1 n => ?_
  cases k with
  | true => exact n
  | false => exact n
end
end Py

end

section
/-! Displays, statements, loops, comprehensions, calls. -/
namespace Py
open PySem PySem.Spec PyProof.Rows L2

/-! ### lists of arguments, displays -/
def nilA : Af := fun _ h => .ok [] h
def consA (f : Ef) (g : Af) : Af := fun env h => (f env h).bind fun p h1 => (g env h1).bind fun ps h2 => .ok (p :: ps) h2
def tupE (g : Af) : Ef := fun env h => (g env h).bind fun ps h1 => if ps.length ≤ sizeLine then .ok (.tup ps) h1 else .bad
/-- a new list -/
def newL (ps : List PV) (h : PH) : Rs PV := .ok (.obj h.length) (h ++ [.lst ps])
def lstE (g : Af) : Ef := fun env h => (g env h).bind fun ps h1 => if ps.length ≤ sizeLine then newL ps h1 else .bad
section
variable {X : Cx} {G : PCfg} {W : WX} {e : Expr} {es : List Expr} {f : Ef} {g : Af} {pos : Pos}
theorem d_nil : DA X G W [] nilA := PA.imp pa_nil fun σ H Q ⟨ρ, env, h, a, b, c, d⟩ => d [] H ρ .refl b .nil
theorem Now.okA {C : CK} {σ : Sto} {H : Hp} {Q : List V → Hp → Prop} {p : List PV} {v : List V} (r : ∀ H ρ, C H ρ → Reps G.K H ρ p v) (h : Now (RA G) C G W σ H Q fun _ h => .ok p h) : Q v H := by
  obtain ⟨ρ, env, h1, a, b, c, d⟩ := h
  exact d v H ρ .refl b (r _ _ c)
theorem d_cons (he : DE X G W e f) (hes : DA X G W es g) (hs : starEach (e :: es) X.env = (false, eval e X.env) :: starEach es X.env := by rfl) : DA X G W (e :: es) (consA f g) := PA.imp (pa_cons he hes hs) fun σ H Q t => by
  refine tE.post (Now.bindV Mono.tt t) fun x H1 ⟨p, t1⟩ => ?_
  refine tA.post (Now.bindA (Mono.tt.and Mono.rep) t1) fun xs H2 ⟨ps, t2⟩ => ?_
  exact Now.okA (fun H ρ c => .cons c.1.2 c.2) t2
theorem d_tup {x1} (h : DA X G W es g) : DE X G W (.Tuple es x1 pos) (tupE g) := PE.imp (pe_tup h) fun σ H Q t => by
  refine tA.post (Now.bindA Mono.tt t) fun xs H1 ⟨ps, ρ, env, h, a, b, ⟨_, c⟩, d⟩ => ?_
  have hl := Paired.length c
  dsimp only at d
  by_cases z : ps.length ≤ sizeLine
  · rw [if_pos z] at d
    refine ⟨by omega, fun p hp => ?_⟩
    obtain ⟨b', x⟩ := b.grow (upd_grow hp (o := .tup xs))
    exact d (.ref p) _ ρ x b' (.mkTup (.inl upd_same) (Reps.ext x c))
  · rw [if_neg z] at d; exact d.elim
theorem new_list {G : PCfg} {H : Hp} {ρ : List Addr} {h : PH} {ps : List PV} {xs : List V} {Q : VK} {p : Addr} (b : HRep G H ρ h) (c : Reps G.K H ρ ps xs) (hp : H p = none) {ex : Nat → List (Nat × PV) → PH → Prop} (d : rd (okG (RV G) G Q ρ H) ex (newL ps h)) : Q (.ref p) (upd H p (.lst xs)) := by
  obtain ⟨b', x⟩ := b.push hp (u := .lst xs) (o := .lst ps) fun x => ⟨xs, upd_same, Reps.ext x c⟩
  exact d (.ref p) _ _ x b' (.obj (by rw [← b.len, List.getElem?_append_right (Nat.le_refl _)]; simp))
theorem d_lst (h : DA X G W es g) : DE X G W (.List es pos) (lstE g) := PE.imp (pe_lst h) fun σ H Q t => by
  refine tA.post (Now.bindA Mono.tt t) fun xs H1 ⟨ps, ρ, env, h, a, b, ⟨_, c⟩, d⟩ => ?_
  have hl := Paired.length c
  dsimp only at d
  by_cases z : ps.length ≤ sizeLine
  · rw [if_pos z] at d
    exact ⟨by omega, fun p hp => new_list b c hp d⟩
  · rw [if_neg z] at d; exact d.elim
end

/-! ### statements -/
def nopS : Sf := fun env h => .nrm env h
def seqS (f g : Sf) : Sf := fun env h => match f env h with
  | .nrm env' h' => g env' h'
  | r => r
def exprS (f : Ef) : Sf := fun env h => match f env h with
  | .ok _ h' => .nrm env h'
  | .exc c fs h' => .exc c fs env h'
  | .bad => .bad
def retS (f : Ef) : Sf := fun env h => match f env h with
  | .ok p h' => .ret p h'
  | .exc c fs h' => .exc c fs env h'
  | .bad => .bad
def retN : Sf := fun _ h => .ret .non h
def ifS (t : Tf) (f g : Sf) : Sf := fun env h => match t env h with
  | .ok k h' => if k = true then f env h' else g env h'
  | .exc c fs h' => .exc c fs env h'
  | .bad => .bad
def brkS : Sf := fun env h => .brk env h
def cntS : Sf := fun env h => .cnt env h
def badS : Sf := fun _ _ => .bad
/-- a target: the value, the slots; the slots behind -/
abbrev Gf := PV → Env → Option Env
def asgS (f : Ef) (g : Gf) : Sf := fun env h => match f env h with
  | .ok p h' => (match g p env with
    | some env' => .nrm env' h'
    | none => .bad)
  | .exc c fs h' => .exc c fs env h'
  | .bad => .bad
def nameG (i : Nat) : Gf := fun p env => some (env.set i (some p))
abbrev Gsf := List PV → Env → Option Env
def nilG : Gsf := fun ps env => match ps with
  | [] => some env
  | _ => none
def consG (g : Gf) (gs : Gsf) : Gsf := fun ps env => match ps with
  | p :: ps => (g p env).bind fun env' => gs ps env'
  | [] => none
def tupG (n : Nat) (g : Gsf) : Gf := fun p env => match p with
  | .tup ps => if ps.length = n then g ps env else none
  | _ => none
def tG (G : PCfg) (g : Gf) : TG := fun v σ H Q => ∃ ρ env p env', ERep G H ρ env σ ∧ Rep G.K H ρ p v ∧ g p env = some env' ∧ ∀ σ', ERep G H ρ env' σ' → Q σ' H
def tGs (G : PCfg) (g : Gsf) : TGs := fun vs σ H Q => ∃ ρ env ps env', ERep G H ρ env σ ∧ Reps G.K H ρ ps vs ∧ g ps env = some env' ∧ ∀ σ', ERep G H ρ env' σ' → Q σ' H
abbrev DG (X : Cx) (G : PCfg) (tg : Expr) (g : Gf) : Prop := PG X tg (tG G g)
abbrev DGs (X : Cx) (G : PCfg) (tgs : List Expr) (g : Gsf) : Prop := PGs X tgs (tGs G g)
theorem PG.imp {X : Cx} {e : Expr} {t t' : TG} (h : PG X e t) (k : ∀ v σ H Q, t' v σ H Q → t v σ H Q) : PG X e t' := ⟨fun pins s σ H v u Q I r q => h.run pins s σ H v u Q I r (k v σ H Q q)⟩
theorem PGs.imp {X : Cx} {e : List Expr} {t t' : TGs} (h : PGs X e t) (k : ∀ v σ H Q, t' v σ H Q → t v σ H Q) : PGs X e t' := ⟨fun pins s σ H v u Q I r q => h.run pins s σ H v u Q I r (k v σ H Q q)⟩
theorem gTup.post {K : PySem.W.Frag} {n : Nat} {t : TGs} {v : V} {σ : Sto} {H : Hp} {Q : Sto → Hp → Prop} {a : Addr} {xs : List V} (e : v = .ref a) (s : SqT K H a xs) (l : xs.length = n) (h : t xs σ H Q) : gTup K n t v σ H Q := ⟨a, xs, e, s, l, h⟩
section
variable {X : Cx} {G : PCfg} {W : WX} {e : Expr} {es : List Expr} {f : Ef} {pos : Pos} {st : Stmt} {rest : List Stmt} {fs gs : Sf}
theorem d_nameG {i : Nat} {x : Str} (hN : X.N.Nodup) (hi : X.N[i]? = some x) (hx : Loc X.env.scope x) (hf : X.fn x = true ∨ X.env.scope.names.lookup x = some .local := by first | exact .inl rfl | exact .inr rfl | assumption) : DG X G (.Name x pos) (nameG i) :=
  PG.imp (pg_name hN hi hx hf) fun v σ H Q ⟨ρ, env, p, env', a, b, c, d⟩ => by
    cases c
    exact d _ (a.set b i)
theorem d_nilG : DGs X G [] nilG := PGs.imp pgs_nil fun vs σ H Q ⟨ρ, env, ps, env', a, b, c, d⟩ => by
  cases b with
  | nil => cases c; exact ⟨rfl, d _ a⟩
  | cons _ _ => cases c
theorem d_consG {g : Gf} {gs : Gsf} (h1 : DG X G e g) (h2 : DGs X G es gs) (hs : (assignEach (e :: es) X.env).map (·.2) = assign e X.env :: (assignEach es X.env).map (·.2) := by rfl) : DGs X G (e :: es) (consG g gs) :=
  PGs.imp (pgs_cons h1 h2 hs) fun vs σ H Q ⟨ρ, env, ps, env', a, b, c, d⟩ => by
    cases ps with
    | nil => cases c
    | cons p ps =>
      obtain ⟨v, vs, rfl, b1, b2⟩ := Paired.split1 b
      have c' : ((g p env).bind fun env' => gs ps env') = some env' := c
      cases e1 : g p env with
      | none => rw [e1] at c'; cases c'
      | some env1 =>
        rw [e1] at c'
        exact ⟨v, vs, rfl, ρ, env, p, env1, a, b1, e1, fun σ1 a1 => ⟨ρ, env1, ps, env', a1, b2, c', d⟩⟩
theorem d_tupG {k n : Nat} {gs : Gsf} (K : Cok X G) (hc : X.calm = true) (h : DGs X G es gs) (hn : (assignEach es X.env).length = n := by rfl) (hst : (assignEach es X.env).findIdx? (·.1) = none := by rfl) : DG X G (.Tuple es k pos) (tupG n gs) :=
  PG.imp (pg_tup hc h hn hst) fun v σ H Q ⟨ρ, env, p, env', a, b, c, d⟩ => by
    cases p with
    | tup ps =>
      have c' : (if ps.length = n then gs ps env else none) = some env' := c
      by_cases z : ps.length = n
      · rw [if_pos z] at c'
        obtain ⟨ad, vs, rfl, rt, rs⟩ := b.unTup
        exact ⟨ad, vs, rfl, by rw [K.k]; exact rt.sq, by rw [← Paired.length rs]; exact z, ρ, env, ps, env', a, rs, c', d⟩
      · rw [if_neg z] at c'; cases c'
    | _ => cases c
/-! blocks -/
theorem tS.nx {f : Sf} {D D' : Ends} {σ : Sto} {H : Hp} (h : tS G W f D σ H) (k1 : ∀ σ' H', D.nx σ' H' → D'.nx σ' H') (k2 : ∀ v H', D.rt v H' → D'.rt v H') (k3 : ∀ σ' H', D.bk σ' H' → D'.bk σ' H') (k4 : ∀ σ' H', D.ct σ' H' → D'.ct σ' H') : tS G W f D' σ H := by
  obtain ⟨ρ, env, h1, a, b, c⟩ := h
  refine ⟨ρ, env, h1, a, b, ?_⟩
  cases e : f env h1 <;> rw [e] at c
  · exact fun σ' H' ρ' x y z => k1 _ _ (c σ' H' ρ' x y z)
  · exact fun σ' H' ρ' x y z => k2 _ _ (c σ' H' ρ' x y z)
  · exact fun σ' H' ρ' x y z => k3 _ _ (c σ' H' ρ' x y z)
  · exact fun σ' H' ρ' x y z => k4 _ _ (c σ' H' ρ' x y z)
  · exact c
  · exact c
/-- an end's reading, later -/
def rdS (G : PCfg) (W : WX) (D : Ends) (ρ : List Addr) (H : Hp) : Ro → Prop
  | .nrm env' h' => ∀ σ' H' ρ', Ext ρ H ρ' H' → ERep G H' ρ' env' σ' → HRep G H' ρ' h' → D.nx σ' H'
  | .ret p h' => ∀ v H' ρ', Ext ρ H ρ' H' → HRep G H' ρ' h' → Rep G.K H' ρ' p v → D.rt v H'
  | .brk env' h' => ∀ σ' H' ρ', Ext ρ H ρ' H' → ERep G H' ρ' env' σ' → HRep G H' ρ' h' → D.bk σ' H'
  | .cnt env' h' => ∀ σ' H' ρ', Ext ρ H ρ' H' → ERep G H' ρ' env' σ' → HRep G H' ρ' h' → D.ct σ' H'
  | .exc c fs env' h' => ∀ d σ' H' ρ' fv, Ext ρ H ρ' H' → ERep G H' ρ' env' σ' → HRep G H' ρ' h' → H' d = some (.xd fv) → FsRep G H' ρ' fs fv → W (.ref (G.cls c)) (some d) σ' H'
  | .bad => False
theorem tS.mk {f : Sf} {D : Ends} {σ : Sto} {H : Hp} {ρ : List Addr} {env : Env} {h : PH} (a : ERep G H ρ env σ) (b : HRep G H ρ h) (c : rdS G W D ρ H (f env h)) : tS G W f D σ H := by
  refine ⟨ρ, env, h, a, b, ?_⟩
  cases e : f env h <;> rw [e] at c <;> exact c
theorem tS.un {f : Sf} {D : Ends} {σ : Sto} {H : Hp} (t : tS G W f D σ H) : ∃ ρ env h, ERep G H ρ env σ ∧ HRep G H ρ h ∧ rdS G W D ρ H (f env h) := by
  obtain ⟨ρ, env, h, a, b, c⟩ := t
  refine ⟨ρ, env, h, a, b, ?_⟩
  cases e : f env h <;> rw [e] at c <;> exact c
theorem rdS.ext {D : Ends} {ρ ρ1 : List Addr} {H H1 : Hp} (x : Ext ρ H ρ1 H1) {r : Ro} (h : rdS G W D ρ H r) : rdS G W D ρ1 H1 r := by
  cases r with
  | nrm env h1 => exact fun σ' H' ρ' y => h σ' H' ρ' (x.trans y)
  | ret p h1 => exact fun σ' H' ρ' y => h σ' H' ρ' (x.trans y)
  | brk env h1 => exact fun σ' H' ρ' y => h σ' H' ρ' (x.trans y)
  | cnt env h1 => exact fun σ' H' ρ' y => h σ' H' ρ' (x.trans y)
  | exc c fs env h1 => exact fun d σ' H' ρ' fv y => h d σ' H' ρ' fv (x.trans y)
  | bad => exact h
theorem d_nop : DS X G W (.Pass pos) nopS := PS.imp ps_pass fun D σ H ⟨ρ, env, h, a, b, c⟩ => c σ H ρ .refl a b
theorem d_brk : DS X G W (.Break pos) brkS := PS.imp ps_break fun D σ H ⟨ρ, env, h, a, b, c⟩ => c σ H ρ .refl a b
theorem d_cnt : DS X G W (.Continue pos) cntS := PS.imp ps_continue fun D σ H ⟨ρ, env, h, a, b, c⟩ => c σ H ρ .refl a b
theorem d_bad : DS X G W st badS := PS.imp ps_never fun D σ H ⟨ρ, env, h, a, b, c⟩ => c.elim
theorem d_end : DB X G W [] nopS := PSs.imp pss_nil fun D σ H ⟨ρ, env, h, a, b, c⟩ => c σ H ρ .refl a b
theorem d_last (h : DS X G W st fs) : DB X G W [st] fs := pss_one h
theorem d_seq (h1 : DS X G W st fs) (h2 : DB X G W rest gs) : DB X G W (st :: rest) (seqS fs gs) := PSs.imp (pss_cons h1 h2) fun D σ H t => by
  obtain ⟨ρ, env, h, a, b, c⟩ := t.un
  refine tS.mk (f := fs) a b ?_
  unfold seqS at c
  cases e : fs env h <;> rw [e] at c
  · exact fun σ' H' ρ' x y z => tS.mk (f := gs) y z (c.ext x)
  all_goals exact c
theorem rd_nx {β : Type} {ex : Nat → List (Nat × PV) → PH → Prop} {σ : Sto} {H : Hp} {D : Ends} {ρ : List Addr} {env : Env} : True := trivial
theorem d_expr (he : DE X G W e f) (hs : swapsWith e none pos.line X.env = pure false := by rfl) : DS X G W (.Expr e pos) (exprS f) := PS.imp (ps_expr he hs) fun D σ H t => by
  obtain ⟨ρ, env, h, a, b, c⟩ := t.un
  refine ⟨ρ, env, h, a, b, trivial, ?_⟩
  unfold exprS at c
  cases e : f env h <;> rw [e] at c
  · exact fun v H' ρ' x y z => c σ H' ρ' x (a.ext x) y
  · exact fun d H' ρ' fv x y z u => c d σ H' ρ' fv x (a.ext x) y z u
  · exact c
theorem d_ret (he : DE X G W e f) : DS X G W (.Return (some e) pos) (retS f) := PS.imp (ps_ret he) fun D σ H t => by
  obtain ⟨ρ, env, h, a, b, c⟩ := t.un
  refine ⟨ρ, env, h, a, b, trivial, ?_⟩
  unfold retS at c
  cases e : f env h <;> rw [e] at c
  · exact fun v H' ρ' x y z => c v H' ρ' x y z
  · exact fun d H' ρ' fv x y z u => c d σ H' ρ' fv x (a.ext x) y z u
  · exact c
theorem d_retN : DS X G W (.Return none pos) retN := PS.imp ps_retN fun D σ H ⟨ρ, env, h, a, b, c⟩ => c .non H ρ .refl b .non
theorem d_ifS {c : Expr} {as bs : List Stmt} {t : Tf} {fa fb : Sf} (hc : DT X G W c t) (ha : DB X G W as fa) (hb : DB X G W bs fb) : DS X G W (.If c as bs pos) (ifS t fa fb) := PS.imp (ps_if hc ha hb) fun D σ H q => by
  obtain ⟨ρ, env, h, a, b, c⟩ := q.un
  refine ⟨ρ, env, h, a, b, trivial, ?_⟩
  unfold ifS at c
  cases e : t env h with
  | ok k h1 =>
    rw [e] at c
    intro k' H' ρ' x y z
    cases z
    cases k with
    | true => exact tS.mk (f := fa) (a.ext x) y (c.ext x)
    | false => exact tS.mk (f := fb) (a.ext x) y (c.ext x)
  | exc cl fs h1 =>
    rw [e] at c
    exact fun d H' ρ' fv x y z u => c d σ H' ρ' fv x (a.ext x) y z u
  | bad => rw [e] at c; exact c
theorem d_asg {tg : Expr} {g : Gf} (he : DE X G W e f) (hg : DG X G tg g) (hs : swapsWithSole [tg] e pos.line X.env = pure false := by rfl) (hw : swappedStores [tg] e X.env = pure none := by rfl)
    (h1 : (assignEach [tg] X.env).map (·.2) = [assign tg X.env] := by rfl) : DS X G W (.Assign [tg] e pos) (asgS f g) := PS.imp (ps_asg he hg hs hw h1) fun D σ H t => by
  obtain ⟨ρ, env, h, a, b, c⟩ := t.un
  refine ⟨ρ, env, h, a, b, trivial, ?_⟩
  unfold asgS at c
  cases e : f env h with
  | ok p h2 =>
    rw [e] at c
    intro v H' ρ' x y z
    cases e2 : g p env with
    | none => simp only [e2] at c; exact c.elim
    | some env' =>
      simp only [e2] at c
      exact ⟨ρ', env, p, env', a.ext x, z, e2, fun σ' r => c σ' H' ρ' x r y⟩
  | exc cl fs h2 => rw [e] at c; exact fun d H' ρ' fv x y z u => c d σ H' ρ' fv x (a.ext x) y z u
  | bad => rw [e] at c; exact c
end

/-! ### what is walked -/
/-- the items, as they stand; a list is looked at again at each turn -/
inductive Src where
  | vals (xs : List PV)
  | lst (n : Nat) (xs : List PV)
  | lst2 (n m : Nat) (xs : List PV) (a b : List PV)
def Src.items : Src → List PV
  | .vals xs => xs
  | .lst _ xs => xs
  | .lst2 _ _ xs _ _ => xs
/-- the lists stand as they stood -/
def Src.Stands : Src → PH → Prop
  | .vals _, _ => True
  | .lst n xs, h => h[n]? = some (.lst xs)
  | .lst2 n m _ a b, h => h[n]? = some (.lst a) ∧ h[m]? = some (.lst b)
noncomputable def Src.chk (s : Src) (h : PH) : Bool := @decide (s.Stands h) (Classical.propDecidable _)
theorem Src.chk_iff {s : Src} {h : PH} : s.chk h = true ↔ s.Stands h := by
  unfold Src.chk
  exact @decide_eq_true_iff _ (Classical.propDecidable _)
abbrev If := Env → PH → Rs Src
structure Turns (G : PCfg) (J : It) (src : Src) (ρ0 : List Addr) (H0 : Hp) : Prop where
  stop : ∀ ρ H h, Ext ρ0 H0 ρ H → HRep G H ρ h → src.Stands h → J.stop src.items.length H
  go : ∀ i ρ H h, i < src.items.length → Ext ρ0 H0 ρ H → HRep G H ρ h → src.Stands h → J.go i H
  yld : ∀ i ρ H h x H', i < src.items.length → Ext ρ0 H0 ρ H → HRep G H ρ h → src.Stands h → J.yld i H x H' → ∃ p, src.items[i]? = some p ∧ HRep G H' ρ h ∧ Ext ρ H ρ H' ∧ Rep G.K H' ρ p x
theorem Turns.ext {G : PCfg} {J : It} {src : Src} {ρ0 ρ1 : List Addr} {H0 H1 : Hp} (x : Ext ρ0 H0 ρ1 H1) (t : Turns G J src ρ0 H0) : Turns G J src ρ1 H1 :=
  ⟨fun ρ H h y => t.stop ρ H h (x.trans y), fun i ρ H h l y => t.go i ρ H h l (x.trans y), fun i ρ H h v H' l y => t.yld i ρ H h v H' l (x.trans y)⟩
def tI (G : PCfg) (W : WX) (f : If) : TI := fun σ H R => ∃ ρ env h, ERep G H ρ env σ ∧ HRep G H ρ h ∧
  rd (fun src h' => ∀ J H' ρ', Ext ρ H ρ' H' → HRep G H' ρ' h' → Turns G J src ρ' H' → R J H') (exG G (fun c d H' => W c d σ H') ρ H) (f env h)
abbrev DI (X : Cx) (G : PCfg) (W : WX) (tg e : Expr) (f : If) : Prop := PI X tg e (tI G W f)
theorem PI.imp {X : Cx} {tg e : Expr} {t t' : TI} (h : PI X tg e t) (k : ∀ σ H R, t' σ H R → t σ H R) : PI X tg e t' := ⟨fun pins s σ H R I q => h.run pins s σ H R I (k σ H R q)⟩
/-- the turns -/
def forGo (chk : PH → Bool) (g : Gf) (b : Sf) : List PV → Sf
  | [], env, h => if chk h = true then .nrm env h else .bad
  | x :: xs, env, h => if chk h = true then (match g x env with
    | some env' => (match b env' h with
      | .nrm env2 h2 => forGo chk g b xs env2 h2
      | .cnt env2 h2 => forGo chk g b xs env2 h2
      | r => r)
    | none => .bad) else .bad
/-- a loop, with what follows it where it is not left -/
noncomputable def forS (it : If) (g : Gf) (b : Sf) (el : Sf) : Sf := fun env h => match it env h with
  | .ok src h' => (match forGo src.chk g b src.items env h' with
    | .nrm env2 h2 => el env2 h2
    | .brk env2 h2 => .nrm env2 h2
    | r => r)
  | .exc c fs h' => .exc c fs env h'
  | .bad => .bad
section
variable {X : Cx} {G : PCfg} {W : WX} {tg iter : Expr} {body : List Stmt} {it : If} {g : Gf} {b : Sf} {pos : Pos}
/-- the loop's ends: broken or through -/
def loopEnds (D : Ends) (el : Sto → Hp → Prop) : Ends := { D with nx := el, bk := D.nx }
theorem for_core {src : Src} {J : It} {ρ1 : List Addr} {H1 : Hp} (T : Turns G J src ρ1 H1) {D D2 : Ends} (hn : D2.rt = D.rt) (hb : ∀ σ H, D2.bk σ H → D.bk σ H) {nx : Sto → Hp → Prop} (hnx : D2.nx = nx) {σ : Sto} {env : Env} {h : PH} (a : ERep G H1 ρ1 env σ) (y : HRep G H1 ρ1 h)
    (c : rdS G W D2 ρ1 H1 (forGo src.chk g b src.items env h)) :
    ∃ W' : Nat → Nat → Sto → Hp → Prop, (∃ m, W' 0 m σ H1) ∧ ∀ i m σ H, W' i m σ H →
      (J.stop i H ∧ nx σ H) ∨ (J.go i H ∧ ∃ N : Sto → Hp → Prop, (∀ σ' H', N σ' H' → ∃ m', m' < m ∧ W' (i + 1) m' σ' H') ∧ ∀ x H', J.yld i H x H' → tG G g x σ H' fun σ2 H2 => tS G W b { D with nx := N, ct := N, bk := D.bk } σ2 H2) := by
  refine ⟨fun i m σ H => m = src.items.length - i ∧ i ≤ src.items.length ∧ ∃ ρ env h, Ext ρ1 H1 ρ H ∧ ERep G H ρ env σ ∧ HRep G H ρ h ∧ rdS G W D2 ρ H (forGo src.chk g b (src.items.drop i) env h), ⟨_, rfl, Nat.zero_le _, ρ1, env, h, .refl, a, y, c⟩, ?_⟩
  rintro i m σ H ⟨rfl, hi, ρ, env, h, x, a, y, c⟩
  by_cases hlt : i < src.items.length
  · refine .inr ?_
    have ed : src.items.drop i = src.items[i] :: src.items.drop (i + 1) := List.drop_eq_getElem_cons hlt
    rw [ed] at c
    unfold forGo at c
    cases hk : src.chk h with
    | false => rw [hk] at c; exact c.elim
    | true =>
      rw [hk, if_pos rfl] at c
      have st := Src.chk_iff.mp hk
      refine ⟨T.go i ρ H h hlt x y st, fun σ' H' => i + 1 ≤ src.items.length ∧ ∃ ρ env h, Ext ρ1 H1 ρ H' ∧ ERep G H' ρ env σ' ∧ HRep G H' ρ h ∧ rdS G W D2 ρ H' (forGo src.chk g b (src.items.drop (i + 1)) env h),
        fun σ' H' q => ⟨src.items.length - (i + 1), by omega, rfl, q⟩, fun v H' yl => ?_⟩
      obtain ⟨p, hp, y', x', r⟩ := T.yld i ρ H h v H' hlt x y st yl
      have ep : src.items[i] = p := by
        rw [List.getElem?_eq_getElem hlt] at hp
        exact Option.some.inj hp
      rw [ep] at c
      cases e2 : g p env with
      | none => simp only [e2] at c; exact c.elim
      | some env' =>
        simp only [e2] at c
        refine ⟨ρ, env, p, env', a.ext x', r, e2, fun σ2 a2 => tS.mk (f := b) a2 y' ?_⟩
        cases e3 : b env' h with
        | nrm env2 h2 =>
          simp only [e3] at c
          exact fun σ3 H3 ρ3 x3 a3 y3 => ⟨hlt, ρ3, env2, h2, (x.trans x').trans x3, a3, y3, c.ext (x'.trans x3)⟩
        | cnt env2 h2 =>
          simp only [e3] at c
          exact fun σ3 H3 ρ3 x3 a3 y3 => ⟨hlt, ρ3, env2, h2, (x.trans x').trans x3, a3, y3, c.ext (x'.trans x3)⟩
        | brk env2 h2 =>
          simp only [e3] at c
          exact fun σ3 H3 ρ3 x3 a3 y3 => hb _ _ (c σ3 H3 ρ3 (x'.trans x3) a3 y3)
        | ret p h2 =>
          simp only [e3] at c
          exact fun v3 H3 ρ3 x3 y3 r3 => (show D.rt v3 H3 by rw [← hn]; exact c v3 H3 ρ3 (x'.trans x3) y3 r3)
        | exc cl fs env2 h2 =>
          simp only [e3] at c
          exact fun d σ3 H3 ρ3 fv x3 => c d σ3 H3 ρ3 fv (x'.trans x3)
        | bad => simp only [e3] at c; exact c
  · have e : i = src.items.length := by omega
    subst e
    rw [List.drop_length] at c
    unfold forGo at c
    cases hk : src.chk h with
    | false => rw [hk] at c; exact c.elim
    | true =>
      rw [hk, if_pos rfl] at c
      exact .inl ⟨T.stop ρ H h x y (Src.chk_iff.mp hk), by rw [← hnx]; exact c σ H ρ .refl a y⟩
theorem d_for (hp : PassesOwn (model X.prog X.w) X.A X.env X.xe) (hc : X.calm = true) (hi : DI X G W tg iter it) (hg : DG X G tg g) (hb : DB X G W body b)
    (hs : ∀ x, foldedSetIterable iter X.env x = pure x := by intro _; rfl) : DS X G W (.For tg iter body [] pos) (forS it g b nopS) := PS.imp (ps_for hp hc hi hg hb hs) fun D σ H t => by
  obtain ⟨ρ, env, h, a, y, c⟩ := t.un
  refine ⟨ρ, env, h, a, y, ?_⟩
  unfold forS at c
  cases e : it env h with
  | ok src h' =>
    simp only [e] at c
    intro J H1 ρ1 x y1 T
    refine for_core T (D := { D with bk := D.nx }) (D2 := { D with bk := D.nx }) rfl (fun _ _ z => z) rfl (a.ext x) y1 ?_
    have c := c.ext x
    cases e2 : forGo src.chk g b src.items env h' <;> simp only [e2] at c <;> exact c
  | exc cl fs h1 => simp only [e] at c; exact fun d H' ρ' fv x y z u => c d σ H' ρ' fv x (a.ext x) y z u
  | bad => simp only [e] at c; exact c
end
end Py

end

section
/-! Operations: numbers, texts, tuples, lists, comparisons, subscripts, slices, built-in calls, methods of built-in types. -/
namespace Py
open PySem PySem.Spec PyProof.Rows L2

/-! ### lists and tuples by value -/
def lstAt (h : PH) : PV → Option (List PV)
  | .rol xs => some xs
  | .obj n => (match h[n]? with
    | some (.lst xs) => some xs
    | _ => none)
  | _ => none
def seqAt (h : PH) : PV → Option (List PV)
  | .tup xs => some xs
  | p => lstAt h p
section
variable {G : PCfg} {H : Hp} {ρ : List Addr} {h : PH} {p : PV} {v : V} {xs : List PV}
theorem lst_rep (b : HRep G H ρ h) (r : Rep G.K H ρ p v) (e : lstAt h p = some xs) : ∃ a vs, v = .ref a ∧ SqL G.K H a vs ∧ Reps G.K H ρ xs vs := by
  cases p with
  | rol ys =>
    cases e
    obtain ⟨a, vs, rfl, h1, h2⟩ := r.unRol
    exact ⟨a, vs, rfl, h1.sq, h2⟩
  | obj n =>
    have e' : (match h[n]? with | some (.lst xs) => some xs | _ => none) = some xs := e
    cases q : h[n]? with
    | none => rw [q] at e'; cases e'
    | some o =>
      rw [q] at e'
      cases o with
      | lst ys =>
        cases e'
        obtain ⟨a, rfl, ha⟩ := r.unObj
        obtain ⟨vs, h1, h2⟩ := b.ob n _ a q ha
        exact ⟨a, vs, rfl, SqL.of h1, h2⟩
      | _ => cases e'
  | _ => cases e
theorem lst_own (b : HRep G H ρ h) {n : Nat} (r : Rep G.K H ρ (.obj n) v) (e : h[n]? = some (.lst xs)) : ∃ a vs, v = .ref a ∧ ρ[n]? = some a ∧ H a = some (.lst vs) ∧ Reps G.K H ρ xs vs := by
  obtain ⟨a, rfl, ha⟩ := r.unObj
  obtain ⟨vs, h1, h2⟩ := b.ob n _ a e ha
  exact ⟨a, vs, rfl, ha, h1, h2⟩
theorem seq_rep (b : HRep G H ρ h) (r : Rep G.K H ρ p v) (e : seqAt h p = some xs) : ∃ a vs, v = .ref a ∧ (SqL G.K H a vs ∨ SqT G.K H a vs) ∧ Reps G.K H ρ xs vs := by
  cases p with
  | tup ys =>
    cases e
    obtain ⟨a, vs, rfl, h1, h2⟩ := r.unTup
    exact ⟨a, vs, rfl, .inr h1.sq, h2⟩
  | rol ys => obtain ⟨a, vs, e1, e2, e3⟩ := lst_rep b r e; exact ⟨a, vs, e1, .inl e2, e3⟩
  | obj ys => obtain ⟨a, vs, e1, e2, e3⟩ := lst_rep b r e; exact ⟨a, vs, e1, .inl e2, e3⟩
  | _ => cases e
end

/-! ### numbers -/
abbrev okI (i : Int) (h : PH) : Rs PV := .ok (.int i) h
abbrev okB (b : Bool) (h : PH) : Rs PV := .ok (.bl b) h
def mulOk (i j : Int) : Bool := decide (i.natAbs.log2 + j.natAbs.log2 < 1000000) || (decide (-(2 ^ 64) < i) && decide (i < 2 ^ 64) || decide (-(2 ^ 64) < j) && decide (j < 2 ^ 64))
def divOk (j : Int) : Bool := decide (0 < j) && decide (j.natAbs.log2 < 9000)
def powOk (i j : Int) : Bool := decide (0 ≤ j) && decide (j ≤ 1000000) && decide (i.natAbs < 2 ^ 64)
def addV : Op2
  | .int i, .int j, h => okI (i + j) h
  | .str a, .str b, h => if a.length + b.length ≤ sizeLine then .ok (.str (a ++ b)) h else .bad
  | .tup xs, .tup ys, h => if xs.length + ys.length ≤ sizeLine then .ok (.tup (xs ++ ys)) h else .bad
  | .obj n, .obj m, h => (match h[n]?, h[m]? with
    | some (.lst xs), some (.lst ys) => if xs.length + ys.length ≤ sizeLine then newL (xs ++ ys) h else .bad
    | _, _ => .bad)
  | _, _, _ => .bad
def subV : Op2
  | .int i, .int j, h => okI (i - j) h
  | _, _, _ => .bad
def mulV : Op2
  | .int i, .int j, h => if mulOk i j = true then okI (i * j) h else .bad
  | .obj n, .int k, h => (match h[n]? with
    | some (.lst xs) => if decide (-(2 ^ 63) ≤ k) && decide (k < 2 ^ 63) && decide (xs.length * k.toNat ≤ sizeLine) then newL (List.replicate k.toNat xs).flatten h else .bad
    | _ => .bad)
  | .tup xs, .int k, h => if decide (xs ≠ []) && decide (2 ≤ k) && decide (k ≤ 1000) && decide (xs.length ≤ 1000) then .ok (.tup (List.replicate k.toNat xs).flatten) h else .bad
  | _, _, _ => .bad
def modV : Op2
  | .int i, .int j, h => if 0 < j then okI (i % j) h else .bad
  | _, _, _ => .bad
def divV : Op2
  | .int i, .int j, h => if divOk j = true then okI (i / j) h else .bad
  | _, _, _ => .bad
def powV : Op2
  | .int i, .int j, h => if powOk i j = true then okI (i ^ j.toNat) h else .bad
  | _, _, _ => .bad
def cmpV (p : Int → Int → Bool) (q : Str → Str → Bool) : Op2
  | .int i, .int j, h => okB (p i j) h
  | .str i, .str j, h => okB (q i j) h
  | _, _, _ => .bad
abbrev ltV : Op2 := cmpV (fun i j => decide (i < j)) (fun i j => decide (i.cps.toList < j.cps.toList))
abbrev leV : Op2 := cmpV (fun i j => decide (i ≤ j)) (fun i j => !decide (j.cps.toList < i.cps.toList))
abbrev gtV : Op2 := cmpV (fun i j => decide (j < i)) (fun i j => decide (j.cps.toList < i.cps.toList))
abbrev geV : Op2 := cmpV (fun i j => decide (j ≤ i)) (fun i j => !decide (i.cps.toList < j.cps.toList))
/-- x is None -/
def isNV : Op2
  | p, .non, h => okB (decide (p = .non)) h
  | .bl a, .bl b, h => okB (decide (a = b)) h
  | _, _, _ => .bad
def notNV : Op2
  | p, .non, h => okB (!decide (p = .non)) h
  | .bl a, .bl b, h => okB (!decide (a = b)) h
  | _, _, _ => .bad
theorem R2.or {X : Cx} {f : Value → Value → Sem Value} {r r' : R2} (a : OpR X f r) (b : OpR X f r') : OpR X f fun x y H Q => r x y H Q ∨ r' x y H Q := fun pins s σ H x y v u Q I rx ry h => h.elim (a pins s σ H x y v u Q I rx ry) (b pins s σ H x y v u Q I rx ry)
section
variable {G : PCfg} {H : Hp} {ρ : List Addr} {h : PH} {p : PV} {v : V} {Q : VK} {ex : Nat → List (Nat × PV) → PH → Prop}
theorem ok_val (b : HRep G H ρ h) (r : Rep G.K H ρ p v) (d : rd (okG (RV G) G Q ρ H) ex (.ok p h)) : Q v H := d v H ρ .refl b r
/-- a new tuple -/
theorem new_tup {ps : List PV} {xs : List V} {a : Addr} (b : HRep G H ρ h) (c : Reps G.K H ρ ps xs) (hp : H a = none) (d : rd (okG (RV G) G Q ρ H) ex (.ok (.tup ps) h)) : Q (.ref a) (upd H a (.tup xs)) := by
  obtain ⟨b', x⟩ := b.grow (upd_grow hp (o := .tup xs))
  exact d (.ref a) _ ρ x b' (.mkTup (.inl upd_same) (Reps.ext x c))
end
abbrev rAddI : R2 := rI0 fun i j => .int (i + j)
abbrev rAddS : R2 := fun x y H Q => ∃ i j, x = .str i ∧ y = .str j ∧ i.length + j.length ≤ sizeLine ∧ Q (.str (i ++ j)) H
abbrev rAddV (K : PySem.W.Frag) : R2 := fun x y H Q => rAddI x y H Q ∨ (rAddS x y H Q ∨ (rCatA K x y H Q ∨ rCat x y H Q))
theorem op_addV {X : Cx} : OpR X (binaryOp .Add) (rAddV X.K) := R2.or op_add (R2.or op_add_str (R2.or op_catA op_cat))
section
variable {X : Cx} {G : PCfg} {W : WX} {a b : Expr} {fa fb : Ef} {pos : Pos}
theorem says_add (K : Cok X G) : Says G addV (rAddV X.K) := by
  intro ρ H h p q x y Q b rp rq d
  rw [K.k]
  cases p with
  | int i =>
    cases q with
    | int j => cases rp; cases rq; exact .inl ⟨i, j, rfl, rfl, ok_val b (.int _) d⟩
    | _ => exact d.elim
  | str i =>
    cases q with
    | str j =>
      cases rp; cases rq
      have d' : rd (okG (RV G) G Q ρ H) (fun _ _ _ => False) (if i.length + j.length ≤ sizeLine then .ok (.str (i ++ j)) h else .bad) := d
      by_cases z : i.length + j.length ≤ sizeLine
      · rw [if_pos z] at d'; exact .inr (.inl ⟨i, j, rfl, rfl, z, ok_val b (.str _) d'⟩)
      · rw [if_neg z] at d'; exact d'.elim
    | _ => exact d.elim
  | tup xs =>
    cases q with
    | tup ys =>
      have d' : rd (okG (RV G) G Q ρ H) (fun _ _ _ => False) (if xs.length + ys.length ≤ sizeLine then .ok (.tup (xs ++ ys)) h else .bad) := d
      by_cases z : xs.length + ys.length ≤ sizeLine
      · rw [if_pos z] at d'
        obtain ⟨a1, vs, rfl, h1, r1⟩ := rp.unTup
        obtain ⟨a2, ws, rfl, h2, r2⟩ := rq.unTup
        have l1 := Paired.length r1
        have l2 := Paired.length r2
        refine .inr (.inr (.inl ⟨a1, a2, vs, ws, rfl, rfl, h1.sq, h2.sq, by omega, fun e => ?_, fun n e => ?_, fun _ _ p hp => new_tup b (Paired.app r1 r2) hp d'⟩))
        · have e' : xs = [] := List.eq_nil_of_length_eq_zero (by rw [l1, e]; rfl)
          subst e'
          exact ok_val b (.mkTup h2 r2) d'
        · have e' : ys = [] := List.eq_nil_of_length_eq_zero (by rw [l2, e]; rfl)
          subst e'
          rw [List.append_nil] at d'
          exact ok_val b (.mkTup h1 r1) d'
      · rw [if_neg z] at d'; exact d'.elim
    | _ => exact d.elim
  | obj n =>
    cases q with
    | obj m =>
      have d' : rd (okG (RV G) G Q ρ H) (fun _ _ _ => False) (match h[n]?, h[m]? with
        | some (.lst xs), some (.lst ys) => if xs.length + ys.length ≤ sizeLine then newL (xs ++ ys) h else .bad
        | _, _ => .bad) := d
      cases e1 : h[n]? with
      | none => rw [e1] at d'; exact d'.elim
      | some o1 =>
        cases o1 with
        | lst xs =>
          cases e2 : h[m]? with
          | none => rw [e1, e2] at d'; exact d'.elim
          | some o2 =>
            cases o2 with
            | lst ys =>
              rw [e1, e2] at d'
              dsimp only at d'
              obtain ⟨a1, vs, rfl, _, h1, r1⟩ := lst_own b rp e1
              obtain ⟨a2, ws, rfl, _, h2, r2⟩ := lst_own b rq e2
              have l1 := Paired.length r1
              have l2 := Paired.length r2
              by_cases z : xs.length + ys.length ≤ sizeLine
              · rw [if_pos z] at d'
                exact .inr (.inr (.inr ⟨a1, a2, vs, ws, rfl, rfl, h1, h2, by omega, fun p hp => new_list b (Paired.app r1 r2) hp d'⟩))
              · rw [if_neg z] at d'; exact d'.elim
            | _ => rw [e1, e2] at d'; exact d'.elim
        | _ => rw [e1] at d'; exact d'.elim
    | _ => exact d.elim
  | _ => exact d.elim
theorem nx_add : NoEx2 addV := by
  intro p q h c fs h' e
  unfold addV at e
  split at e
  · cases e
  · split at e <;> cases e
  · split at e <;> cases e
  · split at e
    · split at e
      · unfold newL at e; cases e
      · cases e
    · cases e
  · cases e
theorem says_sub : Says G subV (rI0 fun i j => .int (i - j)) := by
  intro ρ H h p q x y Q b rp rq d
  cases p with
  | int i =>
    cases q with
    | int j => cases rp; cases rq; exact ⟨i, j, rfl, rfl, ok_val b (.int _) d⟩
    | _ => exact d.elim
  | _ => exact d.elim
theorem nx_sub : NoEx2 subV := by
  intro p q h c fs h' e
  unfold subV at e
  split at e <;> cases e
theorem says_mod : Says G modV (rI (fun _ j => 0 < j) fun i j => .int (i % j)) := by
  intro ρ H h p q x y Q b rp rq d
  cases p with
  | int i =>
    cases q with
    | int j =>
      cases rp; cases rq
      have d' : rd (okG (RV G) G Q ρ H) (fun _ _ _ => False) (if 0 < j then okI (i % j) h else .bad) := d
      by_cases z : 0 < j
      · rw [if_pos z] at d'; exact ⟨i, j, rfl, rfl, z, ok_val b (.int _) d'⟩
      · rw [if_neg z] at d'; exact d'.elim
    | _ => exact d.elim
  | _ => exact d.elim
theorem nx_mod : NoEx2 modV := by
  intro p q h c fs h' e
  unfold modV at e
  split at e
  · split at e <;> cases e
  · cases e
theorem says_div : Says G divV (rI CDivW fun i j => .int (i / j)) := by
  intro ρ H h p q x y Q b rp rq d
  cases p with
  | int i =>
    cases q with
    | int j =>
      cases rp; cases rq
      have d' : rd (okG (RV G) G Q ρ H) (fun _ _ _ => False) (if divOk j = true then okI (i / j) h else .bad) := d
      by_cases z : divOk j = true
      · rw [if_pos z] at d'
        unfold divOk at z
        simp only [Bool.and_eq_true, decide_eq_true_eq] at z
        exact ⟨i, j, rfl, rfl, z, ok_val b (.int _) d'⟩
      · rw [if_neg z] at d'; exact d'.elim
    | _ => exact d.elim
  | _ => exact d.elim
theorem nx_div : NoEx2 divV := by
  intro p q h c fs h' e
  unfold divV at e
  split at e
  · split at e <;> cases e
  · cases e
theorem says_pow : Says G powV (rI CPow fun i j => .int (i ^ j.toNat)) := by
  intro ρ H h p q x y Q b rp rq d
  cases p with
  | int i =>
    cases q with
    | int j =>
      cases rp; cases rq
      have d' : rd (okG (RV G) G Q ρ H) (fun _ _ _ => False) (if powOk i j = true then okI (i ^ j.toNat) h else .bad) := d
      by_cases z : powOk i j = true
      · rw [if_pos z] at d'
        unfold powOk at z
        simp only [Bool.and_eq_true, decide_eq_true_eq] at z
        exact ⟨i, j, rfl, rfl, ⟨z.1.1, z.1.2, z.2⟩, ok_val b (.int _) d'⟩
      · rw [if_neg z] at d'; exact d'.elim
    | _ => exact d.elim
  | _ => exact d.elim
theorem nx_pow : NoEx2 powV := by
  intro p q h c fs h' e
  unfold powV at e
  split at e
  · split at e <;> cases e
  · cases e
abbrev rMulV (K : PySem.W.Frag) : R2 := fun x y H Q => (rI (fun i j => CMulW i j ∨ CMul i j) fun i j => .int (i * j)) x y H Q ∨ (rRep x y H Q ∨ rRepT K x y H Q)
theorem op_mul2 : OpR X (binaryOp .Mult) (rI (fun i j => CMulW i j ∨ CMul i j) fun i j => .int (i * j)) := fun pins s σ H x y v u Q I rx ry ⟨i, j, e1, e2, c, q⟩ => c.elim (fun c => op_mulW pins s σ H x y v u Q I rx ry ⟨i, j, e1, e2, c, q⟩) fun c => op_mul pins s σ H x y v u Q I rx ry ⟨i, j, e1, e2, c, q⟩
theorem op_mulV : OpR X (binaryOp .Mult) (rMulV X.K) := R2.or op_mul2 (R2.or op_rep op_repT)
theorem Paired.rep {α β : Type} {F : α → β → Prop} {xs : List α} {ys : List β} (r : Paired F xs ys) : ∀ n : Nat, Paired F (List.replicate n xs).flatten (List.replicate n ys).flatten
  | 0 => .nil
  | n + 1 => by
    rw [List.replicate_succ, List.replicate_succ, List.flatten_cons, List.flatten_cons]
    exact Paired.app r (Paired.rep r n)
theorem says_mul (K : Cok X G) : Says G mulV (rMulV X.K) := by
  intro ρ H h p q x y Q b rp rq d
  rw [K.k]
  cases p with
  | int i =>
    cases q with
    | int j =>
      cases rp; cases rq
      have d' : rd (okG (RV G) G Q ρ H) (fun _ _ _ => False) (if mulOk i j = true then okI (i * j) h else .bad) := d
      by_cases z : mulOk i j = true
      · rw [if_pos z] at d'
        unfold mulOk at z
        simp only [Bool.or_eq_true, Bool.and_eq_true, decide_eq_true_eq] at z
        exact .inl ⟨i, j, rfl, rfl, z, ok_val b (.int _) d'⟩
      · rw [if_neg z] at d'; exact d'.elim
    | _ => exact d.elim
  | obj n =>
    cases q with
    | int k =>
      have d' : rd (okG (RV G) G Q ρ H) (fun _ _ _ => False) (match h[n]? with
        | some (.lst xs) => if decide (-(2 ^ 63) ≤ k) && decide (k < 2 ^ 63) && decide (xs.length * k.toNat ≤ sizeLine) then newL (List.replicate k.toNat xs).flatten h else .bad
        | _ => .bad) := d
      cases e1 : h[n]? with
      | none => rw [e1] at d'; exact d'.elim
      | some o1 =>
        cases o1 with
        | lst xs =>
          rw [e1] at d'
          dsimp only at d'
          obtain ⟨a1, vs, rfl, _, h1, r1⟩ := lst_own b rp e1
          cases rq
          have l1 := Paired.length r1
          split at d'
          · rename_i z
            simp only [Bool.and_eq_true, decide_eq_true_eq] at z
            exact .inr (.inl ⟨a1, k, vs, rfl, rfl, h1, z.1.1, z.1.2, by rw [← l1]; exact z.2, fun p hp => new_list b (Paired.rep r1 _) hp d'⟩)
          · exact d'.elim
        | _ => rw [e1] at d'; exact d'.elim
    | _ => exact d.elim
  | tup xs =>
    cases q with
    | int k =>
      have d' : rd (okG (RV G) G Q ρ H) (fun _ _ _ => False) (if decide (xs ≠ []) && decide (2 ≤ k) && decide (k ≤ 1000) && decide (xs.length ≤ 1000) then .ok (.tup (List.replicate k.toNat xs).flatten) h else .bad) := d
      obtain ⟨a1, vs, rfl, h1, r1⟩ := rp.unTup
      cases rq
      have l1 := Paired.length r1
      split at d'
      · rename_i z
        simp only [Bool.and_eq_true, decide_eq_true_eq] at z
        refine .inr (.inr ⟨a1, k, vs, rfl, rfl, h1.sq, fun e => z.1.1.1 (List.eq_nil_of_length_eq_zero (by rw [l1, e]; rfl)), z.1.1.2, z.1.2, by rw [← l1]; exact z.2, fun p hp => new_tup b (Paired.rep r1 _) hp d'⟩)
      · exact d'.elim
    | _ => exact d.elim
  | _ => exact d.elim
theorem nx_mul : NoEx2 mulV := by
  intro p q h c fs h' e
  unfold mulV at e
  split at e
  · split at e <;> cases e
  · split at e
    · split at e
      · unfold newL at e; cases e
      · cases e
    · cases e
  · split at e <;> cases e
  · cases e
abbrev rCmpV (p : Int → Int → Bool) (q : Str → Str → Bool) : R2 := fun x y H Q => (rI0 fun i j => .bl (p i j)) x y H Q ∨ ∃ i j, x = .str i ∧ y = .str j ∧ Q (.bl (q i j)) H
theorem says_cmp {p : Int → Int → Bool} {q : Str → Str → Bool} : Says G (cmpV p q) (rCmpV p q) := by
  intro ρ H h p q x y Q b rp rq d
  cases p with
  | int i =>
    cases q with
    | int j => cases rp; cases rq; exact .inl ⟨i, j, rfl, rfl, ok_val b (.bl _) d⟩
    | _ => exact d.elim
  | str i =>
    cases q with
    | str j => cases rp; cases rq; exact .inr ⟨i, j, rfl, rfl, ok_val b (.bl _) d⟩
    | _ => exact d.elim
  | _ => exact d.elim
theorem nx_cmp {p : Int → Int → Bool} {q : Str → Str → Bool} : NoEx2 (cmpV p q) := by
  intro p q h c fs h' e
  unfold cmpV at e
  split at e <;> cases e
theorem op_ltV : OpR X (compareOp .Lt) (rCmpV (fun i j => decide (i < j)) (fun i j => decide (i.cps.toList < j.cps.toList))) := R2.or op_lt op_lt_str
theorem op_leV : OpR X (compareOp .LtE) (rCmpV (fun i j => decide (i ≤ j)) (fun i j => !decide (j.cps.toList < i.cps.toList))) := R2.or op_le op_le_str
theorem op_gtV : OpR X (compareOp .Gt) (rCmpV (fun i j => decide (j < i)) (fun i j => decide (j.cps.toList < i.cps.toList))) := R2.or op_gt op_gt_str
theorem op_geV : OpR X (compareOp .GtE) (rCmpV (fun i j => decide (j ≤ i)) (fun i j => !decide (i.cps.toList < j.cps.toList))) := R2.or op_ge op_ge_str
/-! is None; is of two bools -/
abbrev rIsV : R2 := fun x y H Q => (y = .non ∧ Q (.bl (decide (x = .non))) H) ∨ ∃ a b, x = .bl a ∧ y = .bl b ∧ Q (.bl (decide (a = b))) H
abbrev rNotV : R2 := fun x y H Q => (y = .non ∧ Q (.bl (!decide (x = .non))) H) ∨ ∃ a b, x = .bl a ∧ y = .bl b ∧ Q (.bl (!decide (a = b))) H
theorem op_isV : OpR X (compareOp .Is) rIsV := R2.or op_isN op_is_bl
theorem op_notV : OpR X (compareOp .IsNot) rNotV := R2.or op_notN op_isnot_bl
theorem rep_non {K : PySem.W.Frag} {H : Hp} {ρ : List Addr} {p : PV} {v : V} (r : Rep K H ρ p v) : decide (p = .non) = decide (v = .non) := by
  cases r <;> rfl
theorem says_is : Says G isNV rIsV := by
  intro ρ H h p q x y Q b rp rq d
  cases q with
  | non =>
    cases rq
    refine .inl ⟨rfl, ?_⟩
    rw [← rep_non rp]
    have d' : rd (okG (RV G) G Q ρ H) (fun _ _ _ => False) (okB (decide (p = .non)) h) := by cases p <;> exact d
    exact ok_val b (.bl _) d'
  | bl k =>
    cases p with
    | bl j => cases rp; cases rq; exact .inr ⟨j, k, rfl, rfl, ok_val b (.bl _) d⟩
    | _ => exact d.elim
  | _ => cases p <;> exact d.elim
theorem says_not : Says G notNV rNotV := by
  intro ρ H h p q x y Q b rp rq d
  cases q with
  | non =>
    cases rq
    refine .inl ⟨rfl, ?_⟩
    rw [← rep_non rp]
    have d' : rd (okG (RV G) G Q ρ H) (fun _ _ _ => False) (okB (!decide (p = .non)) h) := by cases p <;> exact d
    exact ok_val b (.bl _) d'
  | bl k =>
    cases p with
    | bl j => cases rp; cases rq; exact .inr ⟨j, k, rfl, rfl, ok_val b (.bl _) d⟩
    | _ => exact d.elim
  | _ => cases p <;> exact d.elim
theorem nx_is : NoEx2 isNV := by
  intro p q h c fs h' e
  unfold isNV at e
  split at e <;> cases e
theorem nx_not : NoEx2 notNV := by
  intro p q h c fs h' e
  unfold notNV at e
  split at e <;> cases e
end
/-! ### equality, membership -/
/-- the data of a value, lists as they stand -/
def toD (h : PH) : Nat → PV → Option PyData
  | 0, _ => none
  | n + 1, p => match p with
    | .non => some .none
    | .bl b => some (.bool b)
    | .int i => some (.int i)
    | .str x => some (.str x)
    | .tup xs => (xs.mapM (toD h n)).map .tuple
    | p => match lstAt h p with
      | some xs => (xs.mapM (toD h n)).map .list
      | none => none
def datOf (h : PH) (p : PV) : Option PyData := (toD h 66 p).bind fun d => if SeqAt.shaped d = true then some d else none
def eqV : Op2 := fun p q h => match datOf h p, datOf h q with
  | some d, some e => okB (PyData.eqv d e) h
  | _, _ => .bad
def neV : Op2 := fun p q h => match datOf h p, datOf h q with
  | some d, some e => okB (!PyData.eqv d e) h
  | _, _ => .bad
theorem mapM_some {α β : Type} {f : α → Option β} : ∀ {xs : List α} {ys : List β}, xs.mapM f = some ys → Paired (fun a b => f a = some b) xs ys
  | [], ys, e => by
    have e' : some [] = some ys := e
    cases e'
    exact .nil
  | x :: xs, ys, e => by
    rw [List.mapM_cons] at e
    cases e1 : f x with
    | none => rw [e1] at e; cases e
    | some y =>
      rw [e1] at e
      cases e2 : xs.mapM f with
      | none => rw [e2] at e; cases e
      | some zs =>
        rw [e2] at e
        have e' : some (y :: zs) = some ys := e
        cases e'
        exact .cons e1 (mapM_some e2)
section
variable {G : PCfg} {H : Hp} {ρ : List Addr} {h : PH}
theorem dp_all {f : PV → Option PyData} (k : ∀ p v d, Rep G.K H ρ p v → f p = some d → Dp G.K H v d) : ∀ {xs : List PV} {vs : List V} {ds : List PyData}, Reps G.K H ρ xs vs → Paired (fun a b => f a = some b) xs ds → DpAll G.K H vs ds
  | _, _, _, .nil, .nil => .nil
  | _, _, _, .cons r t, .cons e q => .cons (k _ _ _ r e) (dp_all k t q)
theorem toD_dp (b : HRep G H ρ h) : ∀ (n : Nat) (p : PV) (v : V) (d : PyData), Rep G.K H ρ p v → toD h n p = some d → Dp G.K H v d
  | 0, _, _, _, _, e => by cases e
  | n + 1, p, v, d, r, e => by
    have lists : ∀ p, (match lstAt h p with | some xs => (xs.mapM (toD h n)).map PyData.list | none => none) = some d → Rep G.K H ρ p v → Dp G.K H v d := fun p e r => by
      cases e1 : lstAt h p with
      | none => rw [e1] at e; cases e
      | some xs =>
        rw [e1] at e
        obtain ⟨ds, e2, rfl⟩ := Option.map_eq_some_iff.mp e
        obtain ⟨a, vs, rfl, hs, rs⟩ := lst_rep b r e1
        exact .lst hs (dp_all (toD_dp b n) rs (mapM_some e2))
    cases p with
    | non => cases e; cases r; exact .non
    | bl k => cases e; cases r; exact .bl k
    | int k => cases e; cases r; exact .int k
    | str k => cases e; cases r; exact .str k
    | tup xs =>
      obtain ⟨ds, e2, rfl⟩ := Option.map_eq_some_iff.mp (show (xs.mapM (toD h n)).map PyData.tuple = some d from e)
      obtain ⟨a, vs, rfl, ht, rs⟩ := r.unTup
      exact .tup ht.sq (dp_all (toD_dp b n) rs (mapM_some e2))
    | rol xs => exact lists (.rol xs) e r
    | obj k => exact lists (.obj k) e r
    | cls k => cases e
theorem datOf_dp (b : HRep G H ρ h) {p : PV} {v : V} {d : PyData} (r : Rep G.K H ρ p v) (e : datOf h p = some d) : Dp G.K H v d ∧ SeqAt.shaped d = true := by
  obtain ⟨d', e1, e2⟩ := Option.bind_eq_some_iff.mp e
  by_cases z : SeqAt.shaped d' = true
  · rw [if_pos z] at e2; cases e2; exact ⟨toD_dp b _ _ _ _ r e1, z⟩
  · rw [if_neg z] at e2; cases e2
theorem says_eq : Says G eqV (rEqD G.K) := by
  intro ρ H h p q x y Q b rp rq d
  unfold eqV at d
  cases e1 : datOf h p with
  | none => rw [e1] at d; exact d.elim
  | some d1 =>
    cases e2 : datOf h q with
    | none => rw [e1, e2] at d; exact d.elim
    | some d2 =>
      rw [e1, e2] at d
      obtain ⟨h1, s1⟩ := datOf_dp b rp e1
      obtain ⟨h2, s2⟩ := datOf_dp b rq e2
      exact ⟨d1, d2, h1, h2, s1, s2, ok_val b (.bl _) d⟩
theorem says_ne : Says G neV (rNeD G.K) := by
  intro ρ H h p q x y Q b rp rq d
  unfold neV at d
  cases e1 : datOf h p with
  | none => rw [e1] at d; exact d.elim
  | some d1 =>
    cases e2 : datOf h q with
    | none => rw [e1, e2] at d; exact d.elim
    | some d2 =>
      rw [e1, e2] at d
      obtain ⟨h1, s1⟩ := datOf_dp b rp e1
      obtain ⟨h2, s2⟩ := datOf_dp b rq e2
      exact ⟨d1, d2, h1, h2, s1, s2, ok_val b (.bl _) d⟩
theorem nx_eq : NoEx2 eqV := by
  intro p q h c fs h' e
  unfold eqV at e
  split at e <;> cases e
theorem nx_ne : NoEx2 neV := by
  intro p q h c fs h' e
  unfold neV at e
  split at e <;> cases e
end
/-- a text in a text; a flat value in a tuple; any data in a list -/
def flatP : PV → Bool
  | .non => true | .bl _ => true | .int _ => true | .str _ => true
  | _ => false
def flatEq : PV → PV → Bool
  | .non, .non => true
  | .bl a, .bl b => a == b
  | .bl a, .int j => (if a then 1 else 0) == j
  | .int i, .bl b => i == (if b then 1 else 0)
  | .int i, .int j => i == j
  | .str a, .str b => decide (a = b)
  | _, _ => false
def strIn (x y : Str) : Bool := !(Builtin.Str.occurrences y x 0 y.length 1).isEmpty
def inV (neg : Bool) : Op2
  | .str x, .str y, h => okB (if neg then !strIn x y else strIn x y) h
  | p, .tup ys, h => if flatP p && ys.all flatP then okB (if neg then !(ys.any fun y => flatEq y p) else ys.any fun y => flatEq y p) h else .bad
  | p, q, h => match datOf h p, datOf h q with
    | some d, some (.list ds) => okB (if neg then !(ds.any fun z => PyData.eqv z d) else ds.any fun z => PyData.eqv z d) h
    | _, _ => .bad
abbrev rInV (K : PySem.W.Frag) (neg : Bool) : R2 := fun x y H Q => (∃ i j, x = .str i ∧ y = .str j ∧ Q (.bl (if neg then !strIn i j else strIn i j)) H) ∨ (rIn K neg x y H Q ∨
  ∃ d ds, Dp K H x d ∧ Dp K H y (.list ds) ∧ SeqAt.shaped d = true ∧ SeqAt.shaped (.list ds) = true ∧ Q (.bl (if neg then !(ds.any fun z => PyData.eqv z d) else ds.any fun z => PyData.eqv z d)) H)
section
variable {X : Cx} {G : PCfg}
theorem op_inV (hu : X.A.units + 65 < cLine) : OpR X (compareOp .In) (rInV X.K false) := R2.or op_in_str (R2.or op_in_seq (op_inD hu))
theorem op_ninV (hu : X.A.units + 65 < cLine) : OpR X (compareOp .NotIn) (rInV X.K true) := R2.or op_notin_str (R2.or op_notIn_seq (op_notInD hu))
theorem flatP_V {K : PySem.W.Frag} {H : Hp} {ρ : List Addr} {p : PV} {v : V} (r : Rep K H ρ p v) (f : flatP p = true) : flatV v = true := by
  cases r <;> first | rfl | cases f
theorem flats_V {K : PySem.W.Frag} {H : Hp} {ρ : List Addr} : ∀ {ps : List PV} {vs : List V}, Reps K H ρ ps vs → ps.all flatP = true → vs.all flatV = true
  | _, _, .nil, _ => rfl
  | p :: ps, v :: vs, .cons r t, f => by
    rw [List.all_cons, Bool.and_eq_true] at f
    rw [List.all_cons, Bool.and_eq_true]
    exact ⟨flatP_V r f.1, flats_V t f.2⟩
theorem flatEq_V {K : PySem.W.Frag} {H : Hp} {ρ : List Addr} {p q : PV} {v u : V} (r : Rep K H ρ p v) (r' : Rep K H ρ q u) : flatEq p q = L2.eqV v u := by
  cases r <;> cases r' <;> first | rfl | (simp [flatEq, L2.eqV]; done) | skip
theorem anyEq_V {K : PySem.W.Frag} {H : Hp} {ρ : List Addr} {q : PV} {u : V} (r' : Rep K H ρ q u) : ∀ {ps : List PV} {vs : List V}, Reps K H ρ ps vs → (ps.any fun y => flatEq y q) = L2.inV u vs
  | _, _, .nil => rfl
  | p :: ps, v :: vs, .cons r t => by
    have ih := anyEq_V r' t
    unfold L2.inV at ih ⊢
    rw [List.any_cons, List.any_cons, flatEq_V r r', ih]
theorem says_in {neg : Bool} : Says G (inV neg) (rInV G.K neg) := by
  intro ρ H h p q x y Q b rp rq dd
  have data : rd (okG (RV G) G Q ρ H) (fun _ _ _ => False) (match datOf h p, datOf h q with
    | some d, some (.list ds) => okB (if neg then !(ds.any fun z => PyData.eqv z d) else ds.any fun z => PyData.eqv z d) h
    | _, _ => .bad) → rInV G.K neg x y H Q := fun d => by
    cases e1 : datOf h p with
    | none => rw [e1] at d; exact d.elim
    | some d1 =>
      cases e2 : datOf h q with
      | none => rw [e1, e2] at d; exact d.elim
      | some d2 =>
        rw [e1, e2] at d
        cases d2 with
        | list ds =>
          obtain ⟨h1, s1⟩ := datOf_dp b rp e1
          obtain ⟨h2, s2⟩ := datOf_dp b rq e2
          exact .inr (.inr ⟨d1, ds, h1, h2, s1, s2, ok_val b (.bl _) d⟩)
        | _ => exact d.elim
  have tups : ∀ ys, q = .tup ys → rd (okG (RV G) G Q ρ H) (fun _ _ _ => False) (if flatP p && ys.all flatP then okB (if neg then !(ys.any fun y => flatEq y p) else ys.any fun y => flatEq y p) h else .bad) → rInV G.K neg x y H Q := fun ys e d => by
    subst e
    obtain ⟨a, vs, rfl, ht, rs⟩ := rq.unTup
    split at d
    · rename_i z
      rw [Bool.and_eq_true] at z
      refine .inr (.inl ⟨a, vs, rfl, .inr ht.sq, flatP_V rp z.1, flats_V rs z.2, ?_⟩)
      rw [← anyEq_V rp rs]
      exact ok_val b (.bl _) d
    · exact d.elim
  cases q with
  | tup ys => cases p <;> exact tups ys rfl dd
  | str j =>
    cases p with
    | str i => cases rp; cases rq; exact .inl ⟨i, j, rfl, rfl, ok_val b (.bl _) dd⟩
    | _ => exact data dd
  | _ => cases p <;> exact data dd
theorem nx_in {neg : Bool} : NoEx2 (inV neg) := by
  intro p q h c fs h' e
  unfold inV at e
  split at e
  · cases e
  · split at e <;> cases e
  · split at e <;> cases e
end

/-! ### subscripts and slices -/
abbrev chrP (c : Nat) : PV := .str ⟨#[c]⟩
def ixV : Op2
  | .str z, .int i, h => if z.length ≤ sizeLine then (match atI z.cps.toList i with
    | some c => .ok (chrP c) h
    | none => .bad) else .bad
  | p, .int i, h => (match seqAt h p with
    | some xs => (match atI xs i with
      | some x => .ok x h
      | none => .bad)
    | none => .bad)
  | _, _, _ => .bad
section
variable {X : Cx} {G : PCfg} {W : WX} {a b : Expr} {fa fb : Ef} {pos : Pos}
theorem Reps.at {K : PySem.W.Frag} {H : Hp} {ρ : List Addr} {xs : List PV} {vs : List V} (r : Reps K H ρ xs vs) {i : Int} {p : PV} (e : atI xs i = some p) : ∃ v, atI vs i = some v ∧ Rep K H ρ p v := by
  unfold atI at e ⊢
  rw [← Paired.length r]
  obtain ⟨j, e1, e2⟩ := Option.bind_eq_some_iff.mp e
  obtain ⟨v, h1, h2⟩ := Paired.get1 r e2
  exact ⟨v, by rw [e1]; exact h1, h2⟩
theorem says_ix : Says G ixV (rIx G.K) := by
  intro ρ H h p q x y Q b rp rq dd
  have seqs : ∀ i, q = .int i → rd (okG (RV G) G Q ρ H) (fun _ _ _ => False) (match seqAt h p with
    | some xs => (match atI xs i with
      | some x => .ok x h
      | none => .bad)
    | none => .bad) → rIx G.K x y H Q := fun i e d => by
    subst e
    cases rq
    cases e1 : seqAt h p with
    | none => rw [e1] at d; exact d.elim
    | some xs =>
      rw [e1] at d
      dsimp only at d
      cases e2 : atI xs i with
      | none => rw [e2] at d; exact d.elim
      | some u =>
        rw [e2] at d
        obtain ⟨a, vs, rfl, hs, rs⟩ := seq_rep b rp e1
        obtain ⟨v, e3, r3⟩ := Reps.at rs e2
        rcases hs with hs | hs
        · exact .inl ⟨a, vs, i, v, rfl, rfl, hs, e3, ok_val b r3 d⟩
        · exact .inr (.inl ⟨a, vs, i, v, rfl, rfl, hs, e3, ok_val b r3 d⟩)
  cases q with
  | int i =>
    cases p with
    | str z =>
      cases rp; cases rq
      have d' : rd (okG (RV G) G Q ρ H) (fun _ _ _ => False) (if z.length ≤ sizeLine then (match atI z.cps.toList i with | some c => .ok (chrP c) h | none => .bad) else .bad) := dd
      split at d'
      · rename_i hz
        cases e2 : atI z.cps.toList i with
        | none => rw [e2] at d'; exact d'.elim
        | some c => rw [e2] at d'; exact .inr (.inr ⟨z, i, c, rfl, rfl, hz, e2, ok_val b (.str _) d'⟩)
      · exact d'.elim
    | _ => exact seqs i rfl dd
  | _ => cases p <;> exact dd.elim
theorem nx_ix : NoEx2 ixV := by
  intro p q h c fs h' e
  unfold ixV at e
  split at e
  · split at e
    · split at e <;> cases e
    · cases e
  · split at e
    · split at e <;> cases e
    · cases e
  · cases e
theorem d_ix (K : Cok X G) (ha : DE X G W a fa) (hb : DE X G W b fb) (hs : PlainIx b := by exact fun _ _ => rfl) : DE X G W (.Subscript a b pos) (bin ixV fa fb) := by
  have r : IxR X (rIx G.K) := by rw [← K.k]; exact ix_seq
  exact PE.imp (pe_ix r ha hb hs) fun _ _ _ t => says_bin says_ix nx_ix t
/-- parts of a slice -/
abbrev Of := Env → PH → Rs (Option Int)
def noneO : Of := fun _ h => .ok none h
def someO (f : Ef) : Of := fun env h => (f env h).bind fun p h1 => match p with
  | .int i => .ok (some i) h1
  | _ => .bad
abbrev RO : Hp → List Addr → Option Int → Option Int → Prop := fun _ _ a b => a = b
theorem mRO (a b : Option Int) : Mono fun H ρ => RO H ρ a b := Mono.eq
def tOf (G : PCfg) (W : WX) (f : Of) : TO := fun σ H Q => Now RO CT G W σ H Q f
abbrev DO (X : Cx) (G : PCfg) (W : WX) (e : Option Expr) (f : Of) : Prop := L2.PO X e (tOf G W f)
theorem Now.bindO {α β : Type} {C : CK} {R : Hp → List Addr → α → β → Prop} {σ : Sto} {H : Hp} {Q : β → Hp → Prop} {fa : Of} {g : Env → Option Int → PH → Rs α} (mC : Mono C) (h : Now R C G W σ H Q fun env h => (fa env h).bind (g env)) :
    tOf G W fa σ H fun b H1 => Now R C G W σ H1 Q fun env h => g env b h :=
  Now.post (Now.weak (Now.bind mC mRO h)) fun b H1 ⟨a, ρ, env, h1, x, y, ⟨z, e⟩, u⟩ => by
    cases e
    exact ⟨ρ, env, h1, x, y, z, u⟩
theorem PO.imp {X : Cx} {e : Option Expr} {t t' : TO} (h : L2.PO X e t) (k : ∀ σ H Q, t' σ H Q → t σ H Q) : L2.PO X e t' := ⟨fun pins s σ H Q I q => h.run pins s σ H Q I (k σ H Q q)⟩
theorem d_noneO : DO X G W none noneO := PO.imp po_none fun σ H Q ⟨ρ, env, h, a, b, c, d⟩ => d none H ρ .refl b rfl
theorem d_someO {e : Expr} {f : Ef} (h : DE X G W e f) : DO X G W (some e) (someO f) := PO.imp (po_some h) fun σ H Q t => by
  refine tE.post (Now.bindV Mono.tt t) fun x H1 ⟨p, ρ, env, h, a, b, ⟨_, c⟩, d⟩ => ?_
  cases p with
  | int i => cases c; exact ⟨i, rfl, d (some i) H1 ρ .refl b rfl⟩
  | _ => exact d.elim
def cutP (xs : List PV) (lo hi : Option Int) : List PV := (xs.drop (HT.sIx xs.length 0 lo)).take (HT.sIx xs.length xs.length hi - HT.sIx xs.length 0 lo)
/-- p[lo:hi] -/
def cutOf (p : PV) (lo hi : Option Int) (h : PH) : Rs PV := match p with
  | .str z => if z.length ≤ sizeLine then .ok (.str (cutS z lo hi)) h else .bad
  | .tup xs => .ok (.tup (cutP xs lo hi)) h
  | p => match lstAt h p with
    | some xs => newL (cutP xs lo hi) h
    | none => .bad
def slE (f : Ef) (lo hi : Of) : Ef := fun env h => (f env h).bind fun p h1 => (lo env h1).bind fun l h2 => (hi env h2).bind fun u h3 => cutOf p l u h3
theorem cut_whole {xs : List PV} {lo hi : Option Int} (e : HT.sIx xs.length 0 lo = 0 ∧ HT.sIx xs.length xs.length hi = xs.length) : cutP xs lo hi = xs := by
  unfold cutP
  rw [e.1, e.2]
  simp
abbrev rSlAll (K : PySem.W.Frag) : V → Option Int → Option Int → Hp → VK → Prop := fun x lo hi H Q => rSlL K x lo hi H Q ∨ (rSlA K x lo hi H Q ∨ rSlS x lo hi H Q)
theorem Reps.cut {K : PySem.W.Frag} {H : Hp} {ρ : List Addr} {xs : List PV} {vs : List V} (r : Reps K H ρ xs vs) {lo hi : Option Int} : Reps K H ρ (cutP xs lo hi) (cutV vs lo hi) := by
  unfold cutP cutV
  rw [← Paired.length r]
  exact Paired.takeP _ (Paired.dropP _ r)
theorem d_sl {e : Expr} {lo hi : Option Expr} {f : Ef} {fl fh : Of} {p2 : Pos} (K : Cok X G) (he : DE X G W e f) (hl : DO X G W lo fl) (hh : DO X G W hi fh) : DE X G W (.Subscript e (.Slice lo hi none p2) pos) (slE f fl fh) := by
  have r : SlR X (rSlAll G.K) := by rw [← K.k]; exact sl_list.or (sl_tupA.or sl_str)
  refine PE.imp (pe_slice r he hl hh) fun σ H Q t => ?_
  refine tE.post (Now.bindV Mono.tt t) fun x H1 ⟨p, t1⟩ => ?_
  refine Now.post (Now.bindO (Mono.tt.and Mono.rep) t1) fun l H2 t2 => ?_
  refine Now.post (Now.bindO (Mono.tt.and Mono.rep) t2) fun u H3 ⟨ρ, env, h, a, b, ⟨_, c⟩, d⟩ => ?_
  dsimp only at d
  have lists : ∀ p, Rep G.K H3 ρ p x → rd (okG (RV G) G Q ρ H3) (exG G (fun c d H' => W c d σ H') ρ H3) (match lstAt h p with | some xs => newL (cutP xs l u) h | none => .bad) → rSlAll G.K x l u H3 Q := fun p c d => by
    cases e : lstAt h p with
    | none => rw [e] at d; exact d.elim
    | some xs =>
      rw [e] at d
      obtain ⟨a, vs, rfl, hs, rs⟩ := lst_rep b c e
      exact .inl ⟨a, vs, rfl, hs, fun p hp => new_list b (Reps.cut rs) hp d⟩
  cases p with
  | str z =>
    cases c
    have d' : rd (okG (RV G) G Q ρ H3) (exG G (fun c d H' => W c d σ H') ρ H3) (if z.length ≤ sizeLine then .ok (.str (cutS z l u)) h else .bad) := d
    split at d'
    · rename_i hz; exact .inr (.inr ⟨z, rfl, hz, ok_val b (.str _) d'⟩)
    · exact d'.elim
  | tup xs =>
    obtain ⟨a, vs, rfl, ht, rs⟩ := c.unTup
    have d' : rd (okG (RV G) G Q ρ H3) (exG G (fun c d H' => W c d σ H') ρ H3) (.ok (.tup (cutP xs l u)) h) := d
    refine .inr (.inl ⟨a, vs, rfl, ht.sq, fun e => ?_, fun _ p hp => new_tup b (Reps.cut rs) hp d'⟩)
    rw [← Paired.length rs] at e
    rw [cut_whole e] at d'
    exact ok_val b (.mkTup ht rs) d'
  | rol xs => exact lists (.rol xs) c d
  | obj n => exact lists (.obj n) c d
  | _ => exact d.elim

/-! ### built-in calls and methods, by values -/
def appE (s : List PV → PH → Rs PV) (g : Af) : Ef := fun env h => (g env h).bind s
def SaysL (G : PCfg) (s : List PV → PH → Rs PV) (r : List V → Hp → VK → Prop) : Prop := ∀ ρ H h ps xs (Q : VK), HRep G H ρ h → Reps G.K H ρ ps xs → rd (okG (RV G) G Q ρ H) (fun _ _ _ => False) (s ps h) → r xs H Q
def NoExL (s : List PV → PH → Rs PV) : Prop := ∀ p h c fs h', s p h ≠ .exc c fs h'
theorem says_app {s : List PV → PH → Rs PV} {r : List V → Hp → VK → Prop} (hs : SaysL G s r) (hn : NoExL s) {g : Af} {σ : Sto} {H : Hp} {Q : VK} (t : tE G W (appE s g) σ H Q) : tA G W g σ H fun xs H1 => r xs H1 Q := by
  refine tA.post (Now.bindA (g := fun _ => s) Mono.tt t) fun xs H1 ⟨ps, ρ, env, h, a, b, ⟨_, c⟩, d⟩ => ?_
  exact hs ρ H1 h ps xs Q b c (d.noex (hn ps h))
section
variable {x : Str} {p : Pos} {e : Expr} {es : List Expr} {g : Af} {id T : String} {r : List V → Hp → VK → Prop} {s : List PV → PH → Rs PV}
theorem d_callB (hc : CallR X (.builtin id) r) (hs : SaysL G s r) (hx : NoExL s) (hg : Gl X x) (hm : X.mg x = none) (hv : bootBuiltins x = some (.builtin id)) (ha : DA X G W (e :: es) g) (hn : x ≠ "__name__" := by decide) (hdb : (x == ("__debug__" : Str)) = false := by decide)
    (he : starEach (e :: es) X.env = (false, eval e X.env) :: starEach es X.env := by rfl) (hpl : (backTo pos (starEach es X.env)).any (·.1) = false := by rfl) : DE X G W (.Call (.Name x p) (e :: es) [] pos) (appE s g) :=
  PE.imp (pe_callB hc hg hm hv ha hn hdb he hpl) fun σ H Q t => says_app hs hx t
theorem d_callTy (hc : CallR X (.type T) r) (hs : SaysL G s r) (hx : NoExL s) (hg : Gl X x) (hm : X.mg x = none) (hv : bootBuiltins x = some (.type T)) (ha : DA X G W (e :: es) g) (hn : x ≠ "__name__" := by decide) (hdb : (x == ("__debug__" : Str)) = false := by decide)
    (he : starEach (e :: es) X.env = (false, eval e X.env) :: starEach es X.env := by rfl) (hpl : (backTo pos (starEach es X.env)).any (·.1) = false := by rfl) : DE X G W (.Call (.Name x p) (e :: es) [] pos) (appE s g) :=
  PE.imp (pe_callTy hc hg hm hv ha hn hdb he hpl) fun σ H Q t => says_app hs hx t
end
end
end Py

end

section
/-! Built-ins, methods of built-in types, calls of defs, what is walked, comprehensions. -/
namespace Py
open PySem PySem.Spec PyProof.Rows L2

/-! ### built-ins -/
def lenP (h : PH) : PV → Option Nat
  | .str z => if z.length ≤ sizeLine then some z.length else none
  | p => (seqAt h p).map (·.length)
def lenL : List PV → PH → Rs PV := fun ps h => match ps with
  | [p] => (match lenP h p with
    | some n => okI n h
    | none => .bad)
  | _ => .bad
def intL : List PV → PH → Rs PV := fun ps h => match ps with
  | [.int i] => okI i h
  | [.bl k] => okI (if k then 1 else 0) h
  | _ => .bad
def absL : List PV → PH → Rs PV := fun ps h => match ps with
  | [.int i] => okI (if i < 0 then -i else i) h
  | _ => .bad
def listL : List PV → PH → Rs PV := fun ps h => match ps with
  | [p] => (match seqAt h p with
    | some xs => newL xs h
    | none => .bad)
  | _ => .bad
def tupleL : List PV → PH → Rs PV := fun ps h => match ps with
  | [p] => (match seqAt h p with
    | some xs => .ok (.tup xs) h
    | none => .bad)
  | _ => .bad
def unBl : PV → Option Bool
  | .bl b => some b
  | _ => none
def blsAt (h : PH) (p : PV) : Option (List Bool) := (lstAt h p).bind fun xs => xs.mapM unBl
def allL : List PV → PH → Rs PV := fun ps h => match ps with
  | [p] => (match blsAt h p with
    | some bs => okB (bs.all id) h
    | none => .bad)
  | _ => .bad
def anyL : List PV → PH → Rs PV := fun ps h => match ps with
  | [p] => (match blsAt h p with
    | some bs => okB (bs.any id) h
    | none => .bad)
  | _ => .bad
def unInt : PV → Option Int
  | .int i => some i
  | _ => none
def unStr : PV → Option Str
  | .str i => some i
  | _ => none
section
variable {X : Cx} {G : PCfg} {W : WX}
theorem says_len (K : Cok X G) : SaysL G lenL (fun xs H Q => ∃ x n, xs = [x] ∧ LenV X.K x H n ∧ Q (.int n) H) := by
  intro ρ H h ps xs Q b r d
  rw [K.k]
  cases r with
  | nil => exact d.elim
  | cons r t =>
    cases t with
    | cons _ _ => exact d.elim
    | nil =>
      rename_i p v
      cases e : lenP h p with
      | none => simp only [lenL, e] at d; exact d.elim
      | some n =>
        simp only [lenL, e] at d
        refine ⟨v, n, rfl, ?_, ok_val b (.int _) d⟩
        have seqs : (seqAt h p).map (·.length) = some n → LenV G.K v H n := fun e => by
          obtain ⟨ys, e1, rfl⟩ := Option.map_eq_some_iff.mp e
          obtain ⟨a, vs, rfl, hs, rs⟩ := seq_rep b r e1
          have l := Paired.length rs
          rcases hs with hs | hs
          · exact .inl ⟨vs, hs, l⟩
          · exact .inr ⟨vs, hs, l⟩
        cases p with
        | str z =>
          cases r
          have e' : (if z.length ≤ sizeLine then some z.length else none) = some n := e
          split at e'
          · cases e'; exact ⟨by assumption, rfl⟩
          · cases e'
        | _ => exact seqs e
theorem nx_len : NoExL lenL := by
  intro p h c fs h' e
  unfold lenL at e
  split at e
  · split at e <;> cases e
  · cases e
theorem says_int : SaysL G intL (fun xs H Q => (∃ i, xs = [.int i] ∧ Q (.int i) H) ∨ ∃ k, xs = [.bl k] ∧ Q (.int (if k then 1 else 0)) H) := by
  intro ρ H h ps xs Q b r d
  cases r with
  | nil => exact d.elim
  | cons r t =>
    cases t with
    | cons _ _ => cases r <;> exact d.elim
    | nil =>
      cases r with
      | int i => exact .inl ⟨i, rfl, ok_val b (.int _) d⟩
      | bl k => exact .inr ⟨k, rfl, ok_val b (.int _) d⟩
      | _ => exact d.elim
theorem nx_int : NoExL intL := by
  intro p h c fs h' e
  unfold intL at e
  split at e <;> cases e
theorem says_abs : SaysL G absL (fun xs H Q => ∃ i, xs = [.int i] ∧ Q (.int (if i < 0 then -i else i)) H) := by
  intro ρ H h ps xs Q b r d
  cases r with
  | nil => exact d.elim
  | cons r t =>
    cases t with
    | cons _ _ => cases r <;> exact d.elim
    | nil =>
      cases r with
      | int i => exact ⟨i, rfl, ok_val b (.int _) d⟩
      | _ => exact d.elim
theorem nx_abs : NoExL absL := by
  intro p h c fs h' e
  unfold absL at e
  split at e <;> cases e
theorem says_list (K : Cok X G) : SaysL G listL (fun xs H Q => ∃ p ys, xs = [.ref p] ∧ (SqL X.K H p ys ∨ SqT X.K H p ys) ∧ ∀ l, H l = none → Q (.ref l) (upd H l (.lst ys))) := by
  intro ρ H h ps xs Q b r d
  rw [K.k]
  cases r with
  | nil => exact d.elim
  | cons r t =>
    cases t with
    | cons _ _ => exact d.elim
    | nil =>
      rename_i p v
      cases e : seqAt h p with
      | none => simp only [listL, e] at d; exact d.elim
      | some ys =>
        simp only [listL, e] at d
        obtain ⟨a, vs, rfl, hs, rs⟩ := seq_rep b r e
        exact ⟨a, vs, rfl, hs, fun l hl => new_list b rs hl d⟩
theorem nx_list : NoExL listL := by
  intro p h c fs h' e
  unfold listL at e
  split at e
  · split at e
    · unfold newL at e; cases e
    · cases e
  · cases e
theorem says_tuple (K : Cok X G) : SaysL G tupleL (fun xs H Q => ∃ p ys, xs = [.ref p] ∧ ((SqL X.K H p ys ∧ ∀ l, H l = none → Q (.ref l) (upd H l (.tup ys))) ∨ (SqT X.K H p ys ∧ Q (.ref p) H))) := by
  intro ρ H h ps xs Q b r d
  rw [K.k]
  cases r with
  | nil => exact d.elim
  | cons r t =>
    cases t with
    | cons _ _ => exact d.elim
    | nil =>
      rename_i p v
      cases e : seqAt h p with
      | none => simp only [tupleL, e] at d; exact d.elim
      | some ys =>
        simp only [tupleL, e] at d
        have lists : ∀ p, Rep G.K H ρ p v → lstAt h p = some ys → ∃ a zs, [v] = [V.ref a] ∧ ((SqL G.K H a zs ∧ ∀ l, H l = none → Q (.ref l) (upd H l (.tup zs))) ∨ (SqT G.K H a zs ∧ Q (.ref a) H)) := fun p r e => by
          obtain ⟨a, vs, rfl, hs, rs⟩ := lst_rep b r e
          exact ⟨a, vs, rfl, .inl ⟨hs, fun l hl => new_tup b rs hl d⟩⟩
        cases p with
        | tup zs =>
          cases e
          obtain ⟨a, vs, rfl, ht, rs⟩ := r.unTup
          exact ⟨a, vs, rfl, .inr ⟨ht.sq, ok_val b (.mkTup ht rs) d⟩⟩
        | rol zs => exact lists (.rol zs) r e
        | obj n => exact lists (.obj n) r e
        | _ => cases e
theorem nx_tuple : NoExL tupleL := by
  intro p h c fs h' e
  unfold tupleL at e
  split at e
  · split at e <;> cases e
  · cases e
theorem bls_rep {K : PySem.W.Frag} {H : Hp} {ρ : List Addr} : ∀ {ps : List PV} {vs : List V} {bs : List Bool}, Reps K H ρ ps vs → Paired (fun a b => unBl a = some b) ps bs → vs = bs.map V.bl
  | _, _, _, .nil, .nil => rfl
  | p :: _, _, _, .cons r t, .cons e q => by
    cases p with
    | bl k => cases e; cases r; rw [List.map_cons, bls_rep t q]
    | _ => cases e
theorem blsAt_rep {H : Hp} {ρ : List Addr} {h : PH} {p : PV} {v : V} {bs : List Bool} (b : HRep G H ρ h) (r : Rep G.K H ρ p v) (e : blsAt h p = some bs) : ∃ a, v = .ref a ∧ SqL G.K H a (bs.map V.bl) := by
  obtain ⟨xs, e1, e2⟩ := Option.bind_eq_some_iff.mp e
  obtain ⟨a, vs, rfl, hs, rs⟩ := lst_rep b r e1
  rw [bls_rep rs (mapM_some e2)] at hs
  exact ⟨a, rfl, hs⟩
theorem says_all (K : Cok X G) : SaysL G allL (rAll X.K) := by
  intro ρ H h ps xs Q b r d
  rw [K.k]
  cases r with
  | nil => exact d.elim
  | cons r t =>
    cases t with
    | cons _ _ => exact d.elim
    | nil =>
      rename_i p v
      cases e : blsAt h p with
      | none => simp only [allL, e] at d; exact d.elim
      | some bs =>
        simp only [allL, e] at d
        obtain ⟨a, rfl, hs⟩ := blsAt_rep b r e
        exact ⟨a, bs, rfl, hs, ok_val b (.bl _) d⟩
theorem says_any (K : Cok X G) : SaysL G anyL (rAny X.K) := by
  intro ρ H h ps xs Q b r d
  rw [K.k]
  cases r with
  | nil => exact d.elim
  | cons r t =>
    cases t with
    | cons _ _ => exact d.elim
    | nil =>
      rename_i p v
      cases e : blsAt h p with
      | none => simp only [anyL, e] at d; exact d.elim
      | some bs =>
        simp only [anyL, e] at d
        obtain ⟨a, rfl, hs⟩ := blsAt_rep b r e
        exact ⟨a, bs, rfl, hs, ok_val b (.bl _) d⟩
theorem nx_all : NoExL allL := by
  intro p h c fs h' e
  unfold allL at e
  split at e
  · split at e <;> cases e
  · cases e
theorem nx_any : NoExL anyL := by
  intro p h c fs h' e
  unfold anyL at e
  split at e
  · split at e <;> cases e
  · cases e
end

/-! ### methods of built-in types -/
def mE (ty : PH → PV → Bool) (s : PV → List PV → PH → Rs PV) (f : Ef) (g : Af) : Ef := fun env h => (f env h).bind fun p h1 => if ty h1 p = true then (g env h1).bind fun ps h2 => s p ps h2 else .bad
def SaysM (G : PCfg) (s : PV → List PV → PH → Rs PV) (r : V → List V → Hp → VK → Prop) : Prop := ∀ ρ H h p x ps xs (Q : VK), HRep G H ρ h → Rep G.K H ρ p x → Reps G.K H ρ ps xs → rd (okG (RV G) G Q ρ H) (fun _ _ _ => False) (s p ps h) → r x xs H Q
def NoExM (s : PV → List PV → PH → Rs PV) : Prop := ∀ p ps h c fs h', s p ps h ≠ .exc c fs h'
def SaysTy (G : PCfg) (ty : PH → PV → Bool) (T : String) : Prop := ∀ ρ H h p x, HRep G H ρ h → Rep G.K H ρ p x → ty h p = true → tyV G.K T x H
def isLst (h : PH) (p : PV) : Bool := (lstAt h p).isSome
def isStr (_ : PH) (p : PV) : Bool := match p with
  | .str _ => true
  | _ => false
section
variable {X : Cx} {G : PCfg} {W : WX} {o e : Expr} {es : List Expr} {f : Ef} {g : Af} {name : Str} {apos cpos : Pos} {T id : String} {r : V → List V → Hp → VK → Prop} {ty : PH → PV → Bool} {s : PV → List PV → PH → Rs PV}
theorem says_isLst : SaysTy G isLst "list" := fun ρ H h p x b r e => by
  obtain ⟨xs, e1⟩ := Option.isSome_iff_exists.mp e
  obtain ⟨a, vs, rfl, hs, _⟩ := lst_rep b r e1
  exact .inl ⟨rfl, vs, hs⟩
theorem says_isStr : SaysTy G isStr "str" := fun ρ H h p x b r e => by
  cases r with
  | str _ => rfl
  | _ => cases e
theorem mE_core (K : Cok X G) (ht : SaysTy G ty T) (hs : SaysM G s r) (hx : NoExM s) {σ : Sto} {H : Hp} {Q : VK} (t : tE G W (mE ty s f g) σ H Q) : tE G W f σ H fun x H1 => tyV X.K T x H1 ∧ tA G W g σ H1 fun xs H2 => r x xs H2 Q := by
  refine tE.post (Now.bindV Mono.tt t) fun x H1 ⟨p, ρ, env, h, a, b, ⟨_, c⟩, d⟩ => ?_
  dsimp only at d
  by_cases z : ty h p = true
  · rw [if_pos z] at d
    refine ⟨by rw [K.k]; exact ht ρ H1 h p x b c z, ?_⟩
    have n : Now (RV G) (fun H ρ => Rep G.K H ρ p x) G W σ H1 Q fun env h => (g env h).bind fun ps h2 => s p ps h2 := ⟨ρ, env, h, a, b, c, d⟩
    refine tA.post (Now.bindA Mono.rep n) fun xs H2 ⟨ps, ρ2, env2, h2, a2, b2, ⟨c1, c2⟩, d2⟩ => ?_
    exact hs ρ2 H2 h2 p x ps xs Q b2 c1 c2 (d2.noex (hx p ps h2))
  · rw [if_neg z] at d; exact d.elim
theorem d_bm (K : Cok X G) (pa : PlainAttrs T) (slot : Slot T name id) (hty : typeOf (.builtin id) = pure (.type "method_descriptor")) (hm : MtR X id r) (ht : SaysTy G ty T) (hs : SaysM G s r) (hx : NoExM s) (ho : DE X G W o f) (ha : DA X G W (e :: es) g)
    (hbase : attributeBase o name X.env (eval o X.env) = eval o X.env := by rfl)
    (hfew : ((backTo cpos (starEach (e :: es) X.env)).all (fun x => !x.1) && (backToKw cpos (keywordEach [] X.env)).all (fun x => x.1.isSome)
      && decide ((e :: es).length + ([] : List Keyword).length + (if ([] : List Keyword).isEmpty then 0 else 1) < 30)) = true := by rfl)
    (hline : (apos.endLine == cpos.line) = true := by rfl) (hs1 : starEach (e :: es) X.env = (false, eval e X.env) :: starEach es X.env := by rfl) (hplain : (backTo cpos (starEach es X.env)).any (·.1) = false := by rfl) :
    DE X G W (.Call (.Attribute o name apos) (e :: es) [] cpos) (mE ty s f g) := PE.imp (pe_bm pa slot hty hm ho ha hbase hfew hline hs1 hplain) fun σ H Q t => mE_core K ht hs hx t
theorem d_bm0 (K : Cok X G) (pa : PlainAttrs T) (slot : Slot T name id) (hty : typeOf (.builtin id) = pure (.type "method_descriptor")) (hm : MtR X id r) (ht : SaysTy G ty T) (hs : SaysM G s r) (hx : NoExM s) (ho : DE X G W o f)
    (hbase : attributeBase o name X.env (eval o X.env) = eval o X.env := by rfl) (hline : (apos.endLine == cpos.line) = true := by rfl) :
    DE X G W (.Call (.Attribute o name apos) [] [] cpos) (mE ty s f nilA) := PE.imp (pe_bm0 pa slot hty hm ho hbase hline) fun σ H Q t => by
  refine tE.post (mE_core K ht hs hx t) fun x H1 ⟨h1, h2⟩ => ⟨h1, ?_⟩
  obtain ⟨ρ, env, h, a, b, c, d⟩ := h2
  exact d [] H1 ρ .refl b .nil
end
def appendM : PV → List PV → PH → Rs PV := fun p ps h => match p, ps with
  | .obj n, [y] => (match h[n]? with
    | some (.lst xs) => if xs.length < sizeLine then .ok .non (h.set n (.lst (xs ++ [y]))) else .bad
    | _ => .bad)
  | _, _ => .bad
def extendM : PV → List PV → PH → Rs PV := fun p ps h => match p, ps with
  | .obj n, [.obj m] => (match h[n]?, h[m]? with
    | some (.lst xs), some (.lst ys) => if xs.length + ys.length ≤ sizeLine then .ok .non (h.set n (.lst (xs ++ ys))) else .bad
    | _, _ => .bad)
  | _, _ => .bad
def popM : PV → List PV → PH → Rs PV := fun p ps h => match p, ps with
  | .obj n, [] => (match h[n]? with
    | some (.lst xs) => (match xs[xs.length - 1]? with
      | some y => .ok y (h.set n (.lst xs.dropLast))
      | none => .bad)
    | _ => .bad)
  | _, _ => .bad
def clearM : PV → List PV → PH → Rs PV := fun p ps h => match p, ps with
  | .obj n, [] => (match h[n]? with
    | some (.lst xs) => .ok .non (h.set n (.lst []))
    | _ => .bad)
  | _, _ => .bad
def strsAt (h : PH) (p : PV) : Option (List Str) := (seqAt h p).bind fun xs => xs.mapM unStr
def joinM : PV → List PV → PH → Rs PV := fun p ps h => match p, ps with
  | .str a, [q] => (match strsAt h q with
    | some ys => if (ys.map (·.length)).sum + ys.length * a.length ≤ 16777216 then .ok (.str (Txt.join a ys)) h else .bad
    | none => .bad)
  | _, _ => .bad
section
variable {X : Cx} {G : PCfg} {W : WX}
/-- a list is written -/
theorem lst_wrote {H : Hp} {ρ : List Addr} {h : PH} {n : Nat} {a : Addr} {ys : List PV} {us : List V} {Q : VK} {p : PV} {v : V} (b : HRep G H ρ h) (ha : ρ[n]? = some a) (rs : Reps G.K H ρ ys us) (rp : Rep G.K H ρ p v) {ex : Nat → List (Nat × PV) → PH → Prop} (d : rd (okG (RV G) G Q ρ H) ex (.ok p (h.set n (.lst ys)))) : Q v (upd H a (.lst us)) := by
  obtain ⟨b', x⟩ := b.wrote ha (u := .lst us) (o := .lst ys) fun x => ⟨us, upd_same, Reps.ext x rs⟩
  exact d v _ ρ x b' (rp.ext x)
theorem says_append : SaysM G appendM rAppend := by
  intro ρ H h p x ps xs Q b rp rs d
  cases p with
  | obj n =>
    cases rs with
    | nil => exact d.elim
    | cons ry rt =>
      cases rt with
      | cons _ _ => exact d.elim
      | nil =>
        cases e : h[n]? with
        | none => simp only [appendM, e] at d; exact d.elim
        | some o =>
          cases o with
          | lst ys =>
            simp only [appendM, e] at d
            obtain ⟨a, vs, rfl, ha, hl, rl⟩ := lst_own b rp e
            have l := Paired.length rl
            split at d
            · exact ⟨a, vs, _, rfl, rfl, hl, by omega, lst_wrote b ha (Paired.app rl (.cons ry .nil)) .non d⟩
            · exact d.elim
          | _ => simp only [appendM, e] at d; exact d.elim
  | _ => cases rs <;> exact d.elim
theorem nx_append : NoExM appendM := by
  intro p ps h c fs h' e
  unfold appendM at e
  split at e
  · split at e
    · split at e <;> cases e
    · cases e
  · cases e
theorem says_extend : SaysM G extendM rExtend := by
  intro ρ H h p x ps xs Q b rp rs d
  cases p with
  | obj n =>
    cases rs with
    | nil => exact d.elim
    | cons ry rt =>
      rename_i q y ps' xs'
      cases rt with
      | cons _ _ => cases q <;> exact d.elim
      | nil =>
        cases q with
        | obj m =>
          cases e : h[n]? with
          | none => simp only [extendM, e] at d; exact d.elim
          | some o =>
            cases o with
            | lst ys =>
              cases e2 : h[m]? with
              | none => simp only [extendM, e, e2] at d; exact d.elim
              | some o2 =>
                cases o2 with
                | lst zs =>
                  simp only [extendM, e, e2] at d
                  obtain ⟨a, vs, rfl, ha, hl, rl⟩ := lst_own b rp e
                  obtain ⟨a2, ws, rfl, ha2, hl2, rl2⟩ := lst_own b ry e2
                  have l := Paired.length rl
                  have l2 := Paired.length rl2
                  split at d
                  · exact ⟨a, a2, vs, ws, rfl, rfl, hl, hl2, by omega, lst_wrote b ha (Paired.app rl rl2) .non d⟩
                  · exact d.elim
                | _ => simp only [extendM, e, e2] at d; exact d.elim
            | _ => simp only [extendM, e] at d; exact d.elim
        | _ => exact d.elim
  | _ => cases rs <;> exact d.elim
theorem nx_extend : NoExM extendM := by
  intro p ps h c fs h' e
  unfold extendM at e
  split at e
  · split at e
    · split at e <;> cases e
    · cases e
  · cases e
theorem Paired.dropLastP {α β : Type} {F : α → β → Prop} {xs : List α} {ys : List β} (r : Paired F xs ys) : Paired F xs.dropLast ys.dropLast := by
  rw [List.dropLast_eq_take, List.dropLast_eq_take, Paired.length r]
  exact Paired.takeP _ r
theorem says_pop : SaysM G popM rPop := by
  intro ρ H h p x ps xs Q b rp rs d
  cases p with
  | obj n =>
    cases rs with
    | cons _ _ => exact d.elim
    | nil =>
      cases e : h[n]? with
      | none => simp only [popM, e] at d; exact d.elim
      | some o =>
        cases o with
        | lst ys =>
          simp only [popM, e] at d
          obtain ⟨a, vs, rfl, ha, hl, rl⟩ := lst_own b rp e
          have l := Paired.length rl
          cases e2 : ys[ys.length - 1]? with
          | none => rw [e2] at d; exact d.elim
          | some y =>
            rw [e2] at d
            obtain ⟨v, e3, r3⟩ := Paired.get1 rl e2
            exact ⟨a, vs, v, rfl, rfl, hl, by rw [← l]; exact e3, lst_wrote b ha (Paired.dropLastP rl) r3 d⟩
        | _ => simp only [popM, e] at d; exact d.elim
  | _ => cases rs <;> exact d.elim
theorem nx_pop : NoExM popM := by
  intro p ps h c fs h' e
  unfold popM at e
  split at e
  · split at e
    · split at e <;> cases e
    · cases e
  · cases e
theorem strs_rep {K : PySem.W.Frag} {H : Hp} {ρ : List Addr} : ∀ {ps : List PV} {vs : List V} {bs : List Str}, Reps K H ρ ps vs → Paired (fun a b => unStr a = some b) ps bs → vs = bs.map V.str
  | _, _, _, .nil, .nil => rfl
  | p :: _, _, _, .cons r t, .cons e q => by
    cases p with
    | str k => cases e; cases r; rw [List.map_cons, strs_rep t q]
    | _ => cases e
theorem strsAt_rep {H : Hp} {ρ : List Addr} {h : PH} {p : PV} {v : V} {bs : List Str} (b : HRep G H ρ h) (r : Rep G.K H ρ p v) (e : strsAt h p = some bs) : ∃ a, v = .ref a ∧ (SqL G.K H a (bs.map V.str) ∨ SqT G.K H a (bs.map V.str)) := by
  obtain ⟨xs, e1, e2⟩ := Option.bind_eq_some_iff.mp e
  obtain ⟨a, vs, rfl, hs, rs⟩ := seq_rep b r e1
  rw [strs_rep rs (mapM_some e2)] at hs
  exact ⟨a, rfl, hs⟩
theorem says_join (K : Cok X G) : SaysM G joinM (fun x xs H Q => ∃ a p, ∃ ys : List Str, x = .str a ∧ xs = [.ref p] ∧ (SqL X.K H p (ys.map V.str) ∨ SqT X.K H p (ys.map V.str)) ∧
    (ys.map (·.length)).sum + ys.length * a.length ≤ 16777216 ∧ Q (.str (Txt.join a ys)) H) := by
  intro ρ H h p x ps xs Q b rp rs d
  rw [K.k]
  cases p with
  | str z =>
    cases rs with
    | nil => exact d.elim
    | cons ry rt =>
      rename_i q y ps' xs'
      cases rt with
      | cons _ _ => exact d.elim
      | nil =>
        cases e : strsAt h q with
        | none => simp only [joinM, e] at d; exact d.elim
        | some ys =>
          simp only [joinM, e] at d
          obtain ⟨a, rfl, hs⟩ := strsAt_rep b ry e
          cases rp
          split at d
          · exact ⟨z, a, ys, rfl, rfl, hs, by assumption, ok_val b (.str _) d⟩
          · exact d.elim
  | _ => cases rs <;> exact d.elim
theorem nx_join : NoExM joinM := by
  intro p ps h c fs h' e
  unfold joinM at e
  split at e
  · split at e
    · split at e <;> cases e
    · cases e
  · cases e
end

/-! ### calls of defs -/
/-- what a def promises: it does what the language says -/
def spI (G : PCfg) (n : Nat) (F : Fn) : Sp := fun vs H Q E => vs.length = n ∧ ∃ ρ ps h, HRep G H ρ h ∧ Reps G.K H ρ ps vs ∧ rd (okG (RV G) G Q ρ H) (exG G E ρ H) (F ps h)
def runB (n : Nat) (b : Sf) : Fn := fun ps h => match b (ps.map some ++ List.replicate (n - ps.length) none) h with
  | .nrm _ h' => .ok .non h'
  | .ret p h' => .ok p h'
  | .exc c fs _ h' => .exc c fs h'
  | _ => .bad
theorem erep_start {G : PCfg} {H : Hp} {ρ : List Addr} {N : List Str} {ps : List PV} {vs : List V} (r : Reps G.K H ρ ps vs) : ERep G H ρ (ps.map some ++ List.replicate (N.length - ps.length) none) (L2.start N vs) := by
  have l := Paired.length r
  unfold L2.start
  refine ⟨by simp [l], fun i p hi => ?_⟩
  by_cases hl : i < ps.length
  · rw [List.getElem?_append_left (by simpa using hl), List.getElem?_map] at hi
    obtain ⟨q, e1, e2⟩ := Option.map_eq_some_iff.mp hi
    cases e2
    obtain ⟨v, e3, r3⟩ := Paired.get1 r e1
    exact ⟨v, by rw [List.getElem?_append_left (by simp; omega), List.getElem?_map, e3]; rfl, r3⟩
  · rw [List.getElem?_append_right (by simpa using hl), List.getElem?_replicate] at hi
    split at hi <;> cases hi
section
variable {P : Program} {w : World} {K : PySem.W.Frag} {mg : Str → Option Value} {base : Heap} {x qual : Str} {params : Arguments} {body : List Stmt} {scope : Scope} {dvs : List V} {kws : List (Str × V)} {f : Addr} {fd : FuncData}
/-- a def keeps its promise by its body's derivation -/
theorem fn_ok {G : PCfg} (hK : K = G.K) {N ps : List Str} {k : Nat} {b : Sf} (F : FunD K x qual params body scope dvs kws f fd) (S : FnScope N ps scope)
    (hb : ∀ (cdv : Value) (A : Around) (outer : List PySem.Env) (s : Shared) (H : Hp) (E : XK), Room k (A.deeper (envOfC qual scope s.heap.objs.size f cdv)) → DB (cxOf (L2.CX P w) P w K mg base N qual scope f cdv A outer s H E) G (fun c d _ H => E c d H) body b) :
    FnOk P w K mg base (L2.CX P w) (k + 1) f fd ps (spI G ps.length (runB N.length b)) := by
  refine F.ok S (fun vs H Q E h => h.1) fun cdv A outer s H vs Q E hr ⟨hl, ρ, as, h, hR, ra, d⟩ => ⟨_, hb cdv A outer s H E hr, ?_⟩
  refine tS.mk (erep_start (N := N) ra) hR ?_
  unfold runB at d
  cases e : b (as.map some ++ List.replicate (N.length - as.length) none) h with
  | nrm env' h' =>
    simp only [e] at d
    exact fun σ' H' ρ' x a y => d .non H' ρ' x y .non
  | ret p h' =>
    simp only [e] at d
    exact fun v H' ρ' x y r => d v H' ρ' x y r
  | exc c fs env' h' =>
    simp only [e] at d
    exact fun dd σ' H' ρ' fv x a y z u => d dd H' ρ' fv x y z u
  | _ => simp only [e] at d; exact d.elim
end
/-- a call of a def by its name -/
def callE (F : Fn) (n : Nat) (g : Af) : Ef := fun env h => (g env h).bind fun ps h1 => if ps.length = n then F ps h1 else .bad
section
variable {X : Cx} {G : PCfg} {W : WX} {k : Nat} {f : Addr} {fd : FuncData} {ps : List Str} {x : Str} {p pos : Pos} {e : Expr} {es : List Expr} {g : Af} {F : Fn} {n : Nat}
theorem call_core {dps : List PV} {dvs : List V} (hd : ∀ H ρ, Reps G.K H ρ dps dvs) {σ : Sto} {H : Hp} {Q : VK} (t : tE G W (callE (fun qs h => F (qs ++ dps) h) n g) σ H Q) : tA G W g σ H fun vs H1 => spI G (n + dps.length) F (vs ++ dvs) H1 Q (WE W σ) := by
  refine tA.post (Now.bindA Mono.tt t) fun xs H1 ⟨qs, ρ, env, h, a, b, ⟨_, c⟩, d⟩ => ?_
  dsimp only at d
  by_cases z : qs.length = n
  · rw [if_pos z] at d
    have l1 := Paired.length c
    have l2 := Paired.length (hd H1 ρ)
    exact ⟨by rw [List.length_append, ← l1, ← l2, z], ρ, qs ++ dps, h, b, Paired.app c (hd _ _), d⟩
  · rw [if_neg z] at d; exact d.elim
theorem d_call (hF : FnOk X.prog X.w X.K X.mg X.base (L2.CX X.prog X.w) k f fd ps (spI G n F)) (tk : Takes X W) (hr : Room k X.A) (hg : Gl X x) (hm : X.mg x = some (.ref f)) (hk : PySem.W.keepIn X.K (.ref f) = true) (hb : Binds X.K fd ps [])
    (ha : DA X G W (e :: es) g) (hdb : (x == ("__debug__" : Str)) = false := by decide) (he : starEach (e :: es) X.env = (false, eval e X.env) :: starEach es X.env := by rfl) (hpl : (backTo pos (starEach es X.env)).any (·.1) = false := by rfl) :
    DE X G W (.Call (.Name x p) (e :: es) [] pos) (callE F n g) := PE.imp (pe_callSD (E := WE W) hF hr hg hm hk hb .nil (passAt tk) ha hdb he hpl) fun σ H Q t => by
  have t' : tE G W (callE (fun qs h => F (qs ++ []) h) n g) σ H Q := by simpa using t
  exact call_core (dps := []) (fun _ _ => .nil) t'
end

/-! ### what is walked -/
def chars (z : Str) : List PV := z.cps.toList.map chrP
def srcOf (h : PH) : PV → Option Src
  | .tup xs => some (.vals xs)
  | .rol xs => some (.vals xs)
  | .str z => some (.vals (chars z))
  | .obj n => (match h[n]? with
    | some (.lst xs) => some (.lst n xs)
    | _ => none)
  | _ => none
def walkI (f : Ef) : If := fun env h => (f env h).bind fun p h1 => match srcOf h1 p with
  | some s => .ok s h1
  | none => .bad
theorem PI.or {X : Cx} {tg e : Expr} {t t' : TI} (a : PI X tg e t) (b : PI X tg e t') : PI X tg e fun σ H R => t σ H R ∨ t' σ H R := ⟨fun pins s σ H R I q => q.elim (a.run pins s σ H R I) (b.run pins s σ H R I)⟩
section
variable {G : PCfg} {H : Hp} {ρ : List Addr} {h : PH}
theorem turns_tup {a : Addr} {vs : List V} {xs : List PV} (ht : RoT G.K H a vs) (r : Reps G.K H ρ xs vs) : Turns G (Itt G.K a) (.vals xs) ρ H := by
  have l := Paired.length r
  refine ⟨fun ρ' H' h' x _ _ => ⟨vs, (ht.ext x).sq, by show vs.length ≤ xs.length; omega⟩, fun i ρ' H' h' hi x _ _ => ?_, fun i ρ' H' h' v H2 hi x y _ yl => ?_⟩
  · have hi' : i < vs.length := by have : i < xs.length := hi; omega
    exact ⟨vs, vs[i], (ht.ext x).sq, by simp [hi']⟩
  · obtain ⟨rfl, q⟩ := yl
    have e := q vs (ht.ext x).sq
    have hi' : i < xs.length := hi
    exact ⟨xs[i], by show xs[i]? = _; simp [hi'], y, .refl, (Paired.get r i _ v (by simp [hi']) e).ext x⟩
theorem turns_rol {a : Addr} {vs : List V} {xs : List PV} (ht : RoL G.K H a vs) (r : Reps G.K H ρ xs vs) : Turns G (Itl G.K a) (.vals xs) ρ H := by
  have l := Paired.length r
  refine ⟨fun ρ' H' h' x _ _ => ⟨vs, (ht.ext x).sq, by show vs.length ≤ xs.length; omega⟩, fun i ρ' H' h' hi x _ _ => ?_, fun i ρ' H' h' v H2 hi x y _ yl => ?_⟩
  · have hi' : i < vs.length := by have : i < xs.length := hi; omega
    exact ⟨vs, vs[i], (ht.ext x).sq, by simp [hi']⟩
  · obtain ⟨rfl, q⟩ := yl
    have e := q vs (ht.ext x).sq
    have hi' : i < xs.length := hi
    exact ⟨xs[i], by show xs[i]? = _; simp [hi'], y, .refl, (Paired.get r i _ v (by simp [hi']) e).ext x⟩
theorem lst_stands {n : Nat} {a : Addr} {xs : List PV} (ha : ρ[n]? = some a) {ρ' : List Addr} {H' : Hp} {h' : PH} (x : Ext ρ H ρ' H') (y : HRep G H' ρ' h') (s : h'[n]? = some (.lst xs)) : ∃ vs, H' a = some (.lst vs) ∧ Reps G.K H' ρ' xs vs :=
  y.ob n _ a s (x.pre n a ha)
theorem turns_lst {n : Nat} {a : Addr} {xs : List PV} (ha : ρ[n]? = some a) : Turns G (Itl G.K a) (.lst n xs) ρ H := by
  refine ⟨fun ρ' H' h' x y s => ?_, fun i ρ' H' h' hi x y s => ?_, fun i ρ' H' h' v H2 hi x y s yl => ?_⟩
  · obtain ⟨vs, h1, r⟩ := lst_stands ha x y s
    have l := Paired.length r
    exact ⟨vs, SqL.of h1, by show vs.length ≤ xs.length; omega⟩
  · obtain ⟨vs, h1, r⟩ := lst_stands ha x y s
    have l := Paired.length r
    have hi' : i < vs.length := by have : i < xs.length := hi; omega
    exact ⟨vs, vs[i], SqL.of h1, by simp [hi']⟩
  · obtain ⟨rfl, q⟩ := yl
    obtain ⟨vs, h1, r⟩ := lst_stands ha x y s
    have e := q vs (SqL.of h1)
    have hi' : i < xs.length := hi
    exact ⟨xs[i], by show xs[i]? = _; simp [hi'], y, .refl, Paired.get r i _ v (by simp [hi']) e⟩
theorem turns_str {z : Str} : Turns G (Its z) (.vals (chars z)) ρ H := by
  have l : (chars z).length = z.cps.size := by simp [chars]
  refine ⟨fun ρ' H' h' x _ _ => by show z.cps.size ≤ (chars z).length; omega, fun i ρ' H' h' hi x _ _ => by show i < z.cps.size; have : i < (chars z).length := hi; omega, fun i ρ' H' h' v H2 hi x y _ yl => ?_⟩
  obtain ⟨rfl, c, e, rfl⟩ := yl
  refine ⟨chrP c, ?_, y, .refl, .str _⟩
  show (chars z)[i]? = _
  unfold chars
  rw [List.getElem?_map]
  have : z.cps.toList[i]? = some c := by simpa using e
  rw [this]
  rfl
theorem turns_range {lo : Int} {n : Nat} : Turns G (Itr lo n) (.vals ((List.range n).map fun (i : Nat) => PV.int (lo + (i : Int)))) ρ H := by
  have l : ((List.range n).map fun (i : Nat) => PV.int (lo + (i : Int))).length = n := by simp
  refine ⟨fun ρ' H' h' x _ _ => by show n ≤ ((List.range n).map fun (i : Nat) => PV.int (lo + (i : Int))).length; omega, fun i ρ' H' h' hi x _ _ => by show i < n; have : i < ((List.range n).map fun (i : Nat) => PV.int (lo + (i : Int))).length := hi; omega, fun i ρ' H' h' v H2 hi x y _ yl => ?_⟩
  obtain ⟨rfl, rfl⟩ := yl
  refine ⟨.int (lo + i), ?_, y, .refl, .int _⟩
  have hi' : i < n := by have : i < ((List.range n).map fun (i : Nat) => PV.int (lo + (i : Int))).length := hi; omega
  show ((List.range n).map fun (i : Nat) => PV.int (lo + (i : Int)))[i]? = _
  rw [List.getElem?_map, List.getElem?_range hi']
  rfl
end
section
variable {X : Cx} {G : PCfg} {W : WX} {tg e : Expr} {f : Ef} {pos p : Pos}
theorem d_walk (K : Cok X G) (he : DE X G W e f) : DI X G W tg e (walkI f) := PI.imp (PI.or (pi_list he) (PI.or (pi_tup he) (pi_str he))) fun σ H R t => by
  obtain ⟨ρ, env, h, a, b, d⟩ := t
  rw [K.k]
  unfold walkI at d
  cases e1 : f env h with
  | exc c fs h1 =>
    simp only [e1, Rs.bind] at d
    exact .inl ⟨ρ, env, h, a, b, trivial, by rw [e1]; exact d⟩
  | bad => simp only [e1, Rs.bind] at d; exact d.elim
  | ok p h1 =>
    simp only [e1, Rs.bind] at d
    have lists : ∀ (p : PV), f env h = .ok p h1 → (∀ v H' ρ', Ext ρ H ρ' H' → HRep G H' ρ' h1 → Rep G.K H' ρ' p v → ∃ a, v = .ref a ∧ (∃ xs, SqL G.K H' a xs) ∧ R (Itl G.K a) H') → iList G.K (tE G W f) σ H R := fun p e1 k => ⟨ρ, env, h, a, b, trivial, by rw [e1]; exact k⟩
    cases p with
    | tup xs =>
      refine .inr (.inl ⟨ρ, env, h, a, b, trivial, ?_⟩)
      rw [e1]
      intro v H' ρ' x y r
      obtain ⟨ad, vs, rfl, ht, rs⟩ := r.unTup
      exact ⟨ad, rfl, ⟨vs, ht.sq⟩, d _ H' ρ' x y (turns_tup ht rs)⟩
    | rol xs =>
      refine .inl (lists _ e1 fun v H' ρ' x y r => ?_)
      obtain ⟨ad, vs, rfl, ht, rs⟩ := r.unRol
      exact ⟨ad, rfl, ⟨vs, ht.sq⟩, d _ H' ρ' x y (turns_rol ht rs)⟩
    | str z =>
      refine .inr (.inr ⟨ρ, env, h, a, b, trivial, ?_⟩)
      rw [e1]
      intro v H' ρ' x y r
      cases r
      exact ⟨z, rfl, d _ H' ρ' x y turns_str⟩
    | obj n =>
      cases e2 : h1[n]? with
      | none => simp only [srcOf, e2] at d; exact d.elim
      | some o =>
        cases o with
        | lst xs =>
          simp only [srcOf, e2] at d
          refine .inl (lists _ e1 fun v H' ρ' x y r => ?_)
          obtain ⟨ad, vs, rfl, ha, hl, rs⟩ := lst_own y r e2
          exact ⟨ad, rfl, ⟨vs, SqL.of hl⟩, d _ H' ρ' x y (turns_lst ha)⟩
        | _ => simp only [srcOf, e2] at d; exact d.elim
    | _ => exact d.elim
/-- range(n), range(a, b) -/
def rng1 : List PV → Option Src
  | [.int j] => if decide (-(2 ^ 62) ≤ j) && decide (j < 2 ^ 62) then some (.vals ((List.range j.toNat).map fun (i : Nat) => PV.int (0 + (i : Int)))) else none
  | _ => none
def rng2 : List PV → Option Src
  | [.int i, .int j] => if decide (-(2 ^ 62) ≤ i) && decide (i < 2 ^ 62) && decide (-(2 ^ 62) ≤ j) && decide (j < 2 ^ 62) then some (.vals ((List.range (j - i).toNat).map fun (k : Nat) => PV.int (i + (k : Int)))) else none
  | _ => none
def rngI (k : List PV → Option Src) (g : Af) : If := fun env h => (g env h).bind fun ps h1 => match k ps with
  | some s => .ok s h1
  | none => .bad
theorem tI_args {g : Af} {k : List PV → Option Src} {σ : Sto} {H : Hp} {R : It → Hp → Prop} {r : List V → Hp → Prop} (t : tI G W (fun env h => (g env h).bind fun ps h1 => match k ps with | some s => .ok s h1 | none => .bad) σ H R)
    (q : ∀ ps vs ρ H' h', Reps G.K H' ρ ps vs → HRep G H' ρ h' → (∀ s, k ps = some s → ∀ J, Turns G J s ρ H' → R J H') → (k ps).isSome → r vs H') : tA G W g σ H r := by
  obtain ⟨ρ, env, h, a, b, d⟩ := t
  refine ⟨ρ, env, h, a, b, trivial, ?_⟩
  cases e1 : g env h with
  | exc c fs h1 => simp only [e1, Rs.bind] at d; exact d
  | bad => simp only [e1, Rs.bind] at d; exact d
  | ok ps h1 =>
    simp only [e1, Rs.bind] at d
    intro vs H' ρ' x y rs
    cases e2 : k ps with
    | none => rw [e2] at d; exact d.elim
    | some s =>
      rw [e2] at d
      exact q ps vs ρ' H' h1 rs y (fun s' e J T => by rw [e2] at e; cases e; exact d J H' ρ' x y T) (by rw [e2]; rfl)
theorem d_range1 {a : Expr} {g : Af} (hg : Gl X "range") (hm : X.mg "range" = none) (ha : DA X G W [a] g) (hs : starEach [a] X.env = [(false, eval a X.env)] := by rfl) : DI X G W tg (.Call (.Name "range" p) [a] [] pos) (rngI rng1 g) :=
  PI.imp (pi_range1 hg hm ha hs) fun σ H R t => tI_args (k := rng1) t fun ps vs ρ H' h' rs y q z => by
    cases rs with
    | nil => cases z
    | cons r t =>
      rename_i p1 v1 ps1 vs1
      cases t with
      | cons _ _ => cases p1 <;> cases z
      | nil =>
        cases p1 with
        | int j =>
          cases r
          by_cases c : (decide (-(2 ^ 62) ≤ j) && decide (j < 2 ^ 62)) = true
          · have e : rng1 [.int j] = some (.vals ((List.range j.toNat).map fun (i : Nat) => PV.int (0 + (i : Int)))) := if_pos c
            simp only [Bool.and_eq_true, decide_eq_true_eq] at c
            exact ⟨j, rfl, c.1, c.2, q _ e _ turns_range⟩
          · have e : rng1 [.int j] = none := if_neg c
            rw [e] at z; cases z
        | _ => cases z
theorem d_range2 {a b : Expr} {g : Af} (hg : Gl X "range") (hm : X.mg "range" = none) (ha : DA X G W [a, b] g) (hs : starEach [a, b] X.env = [(false, eval a X.env), (false, eval b X.env)] := by rfl) (hs2 : starEach [b] X.env = [(false, eval b X.env)] := by rfl) : DI X G W tg (.Call (.Name "range" p) [a, b] [] pos) (rngI rng2 g) :=
  PI.imp (pi_range2 hg hm ha hs hs2) fun σ H R t => tI_args (k := rng2) t fun ps vs ρ H' h' rs y q z => by
    cases rs with
    | nil => cases z
    | cons r t =>
      rename_i p1 v1 ps1 vs1
      cases t with
      | nil => cases p1 <;> cases z
      | cons r2 t2 =>
        rename_i p2 v2 ps2 vs2
        cases t2 with
        | cons _ _ => cases p1 <;> cases p2 <;> cases z
        | nil =>
          cases p1 with
          | int i =>
            cases p2 with
            | int j =>
              cases r; cases r2
              by_cases c : (decide (-(2 ^ 62) ≤ i) && decide (i < 2 ^ 62) && decide (-(2 ^ 62) ≤ j) && decide (j < 2 ^ 62)) = true
              · have e : rng2 [.int i, .int j] = some (.vals ((List.range (j - i).toNat).map fun (k : Nat) => PV.int (i + (k : Int)))) := if_pos c
                simp only [Bool.and_eq_true, decide_eq_true_eq] at c
                exact ⟨i, j, rfl, ⟨c.1.1.1, c.1.1.2, c.1.2, c.2⟩, q _ e _ turns_range⟩
              · have e : rng2 [.int i, .int j] = none := if_neg c
                rw [e] at z; cases z
            | _ => cases z
          | _ => cases p2 <;> cases z
/-- zip of two lists, of two tuples -/
def zipP : List PV → List PV → List PV
  | x :: xs, y :: ys => .tup [x, y] :: zipP xs ys
  | _, _ => []
def zipI (g : Af) : If := fun env h => (g env h).bind fun ps h1 => match ps with
  | [.tup xs, .tup ys] => .ok (.vals (zipP xs ys)) h1
  | [.obj n, .obj m] => (match h1[n]?, h1[m]? with
    | some (.lst xs), some (.lst ys) => .ok (.lst2 n m (zipP xs ys) xs ys) h1
    | _, _ => .bad)
  | _ => .bad
theorem zipP_get : ∀ {xs ys : List PV} {i : Nat}, i < (zipP xs ys).length → ∃ x y, xs[i]? = some x ∧ ys[i]? = some y ∧ (zipP xs ys)[i]? = some (.tup [x, y])
  | [], _, _, h => by simp [zipP] at h
  | _ :: _, [], _, h => by simp [zipP] at h
  | x :: xs, y :: ys, 0, _ => ⟨x, y, rfl, rfl, rfl⟩
  | x :: xs, y :: ys, i + 1, h => by
    obtain ⟨a, b, h1, h2, h3⟩ := zipP_get (xs := xs) (ys := ys) (i := i) (by simpa [zipP] using h)
    exact ⟨a, b, by simpa using h1, by simpa using h2, by simpa [zipP] using h3⟩
theorem zipP_end : ∀ {xs ys : List PV}, xs.length ≤ (zipP xs ys).length ∨ ys.length ≤ (zipP xs ys).length
  | [], _ => .inl (by simp)
  | _ :: _, [] => .inr (by simp)
  | x :: xs, y :: ys => by
    rcases zipP_end (xs := xs) (ys := ys) with h | h
    · exact .inl (by simpa [zipP] using h)
    · exact .inr (by simpa [zipP] using h)
theorem pair_new {H : Hp} {ρ : List Addr} {h : PH} {T : Addr} {p q : PV} {x y : V} (b : HRep G H ρ h) (hT : H T = none) (rp : Rep G.K H ρ p x) (rq : Rep G.K H ρ q y) : HRep G (upd H T (.tup [x, y])) ρ h ∧ Ext ρ H ρ (upd H T (.tup [x, y])) ∧ Rep G.K (upd H T (.tup [x, y])) ρ (.tup [p, q]) (.ref T) := by
  obtain ⟨b', e⟩ := b.grow (upd_grow hT (o := .tup [x, y]))
  exact ⟨b', e, .mkTup (.inl upd_same) (.cons (rp.ext e) (.cons (rq.ext e) .nil))⟩
theorem turns_zipT {H : Hp} {ρ : List Addr} {a a2 : Addr} {vs us : List V} {xs ys : List PV} (ht : RoT G.K H a vs) (ht2 : RoT G.K H a2 us) (r : Reps G.K H ρ xs vs) (r2 : Reps G.K H ρ ys us) : Turns G (RZ.ItzT G.K a a2) (.vals (zipP xs ys)) ρ H := by
  have l := Paired.length r
  have l2 := Paired.length r2
  refine ⟨fun ρ' H' h' x _ _ => ⟨vs, us, (ht.ext x).sq, (ht2.ext x).sq, by rw [← l, ← l2]; exact zipP_end⟩, fun i ρ' H' h' hi x _ _ => ?_, fun i ρ' H' h' v H2 hi x y _ yl => ?_⟩
  · obtain ⟨p, q, h1, h2, _⟩ := zipP_get (xs := xs) (ys := ys) hi
    obtain ⟨v, e1, _⟩ := Paired.get1 r h1
    obtain ⟨u, e2, _⟩ := Paired.get1 r2 h2
    exact ⟨vs, us, v, u, (ht.ext x).sq, (ht2.ext x).sq, e1, e2⟩
  · obtain ⟨T, v1, v2, rfl, hT, rfl, q1, q2⟩ := yl
    obtain ⟨p, q, h1, h2, h3⟩ := zipP_get (xs := xs) (ys := ys) hi
    obtain ⟨y', x', rr⟩ := pair_new y hT ((Paired.get r i p v1 h1 (q1 vs (ht.ext x).sq)).ext x) ((Paired.get r2 i q v2 h2 (q2 us (ht2.ext x).sq)).ext x)
    exact ⟨_, h3, y', x', rr⟩
theorem turns_zipL {H : Hp} {ρ : List Addr} {a a2 : Addr} {n m : Nat} {xs ys : List PV} (ha : ρ[n]? = some a) (ha2 : ρ[m]? = some a2) : Turns G (Itz G.K a a2) (.lst2 n m (zipP xs ys) xs ys) ρ H := by
  refine ⟨fun ρ' H' h' x y s => ?_, fun i ρ' H' h' hi x y s => ?_, fun i ρ' H' h' v H2 hi x y s yl => ?_⟩
  · obtain ⟨vs, h1, r⟩ := lst_stands ha x y s.1
    obtain ⟨us, h2, r2⟩ := lst_stands ha2 x y s.2
    exact ⟨vs, us, SqL.of h1, SqL.of h2, by rw [← Paired.length r, ← Paired.length r2]; exact zipP_end⟩
  · obtain ⟨vs, h1, r⟩ := lst_stands ha x y s.1
    obtain ⟨us, h2, r2⟩ := lst_stands ha2 x y s.2
    obtain ⟨p, q, e1, e2, _⟩ := zipP_get (xs := xs) (ys := ys) hi
    obtain ⟨v, e3, _⟩ := Paired.get1 r e1
    obtain ⟨u, e4, _⟩ := Paired.get1 r2 e2
    exact ⟨vs, us, v, u, SqL.of h1, SqL.of h2, e3, e4⟩
  · obtain ⟨vs, h1, r⟩ := lst_stands ha x y s.1
    obtain ⟨us, h2, r2⟩ := lst_stands ha2 x y s.2
    obtain ⟨T, v1, v2, rfl, hT, rfl, q1, q2⟩ := yl
    obtain ⟨p, q, e1, e2, e3⟩ := zipP_get (xs := xs) (ys := ys) hi
    obtain ⟨y', x', rr⟩ := pair_new y hT (Paired.get r i p v1 e1 (q1 vs (SqL.of h1))) (Paired.get r2 i q v2 e2 (q2 us (SqL.of h2)))
    exact ⟨_, e3, y', x', rr⟩
theorem d_zip (K : Cok X G) {e2 : Expr} {g : Af} {tpos : Pos} {elts : List Expr} {kk : Nat} (hg : Gl X "zip") (hm : X.mg "zip" = none) (ha : DA X G W [e, e2] g)
    (hs : starEach [e, e2] X.env = (false, eval e X.env) :: starEach [e2] X.env := by rfl) (hpl : (backTo pos (starEach [e2] X.env)).any (·.1) = false := by rfl) : DI X G W (.Tuple elts kk tpos) (.Call (.Name "zip" p) [e, e2] [] pos) (zipI g) :=
  PI.imp (RZ.pi_zipA hg hm ha hs hpl) fun σ H R t => by
    obtain ⟨ρ, env, h, a, b, d⟩ := t
    rw [K.k]
    refine ⟨ρ, env, h, a, b, trivial, ?_⟩
    unfold zipI at d
    cases e1 : g env h with
    | exc c fs h1 => simp only [e1, Rs.bind] at d; exact d
    | bad => simp only [e1, Rs.bind] at d; exact d
    | ok ps h1 =>
      simp only [e1, Rs.bind] at d
      intro vs H' ρ' x y rs
      split at d
      · rename_i xs ys
        obtain ⟨v, vs', rfl, r1, rs⟩ := Paired.split1 rs
        obtain ⟨u, vs', rfl, r2, rs⟩ := Paired.split1 rs
        cases rs
        obtain ⟨a1, zs, rfl, t1, q1⟩ := r1.unTup
        obtain ⟨a2, ws, rfl, t2, q2⟩ := r2.unTup
        exact ⟨a1, a2, zs, ws, rfl, .inr ⟨t1.sq, t2.sq, d _ H' ρ' x y (turns_zipT t1 t2 q1 q2)⟩⟩
      · rename_i n m
        obtain ⟨v, vs', rfl, r1, rs⟩ := Paired.split1 rs
        obtain ⟨u, vs', rfl, r2, rs⟩ := Paired.split1 rs
        cases rs
        split at d
        · rename_i xs ys e2 e3
          obtain ⟨a1, zs, rfl, h1', t1, q1⟩ := lst_own y r1 e2
          obtain ⟨a2, ws, rfl, h2', t2, q2⟩ := lst_own y r2 e3
          exact ⟨a1, a2, zs, ws, rfl, .inl ⟨SqL.of t1, SqL.of t2, d _ H' ρ' x y (turns_zipL h1' h2')⟩⟩
        · exact d.elim
      · exact d.elim
end

/-! ### comprehensions -/
def wipeE (env : Env) : List Nat → Env
  | [] => env
  | v :: vs => (wipeE env vs).set v none
theorem ERep.wiped {G : PCfg} {H : Hp} {ρ : List Addr} {env : Env} {σ : Sto} (a : ERep G H ρ env σ) : ∀ vs : List Nat, ERep G H ρ (wipeE env vs) (wipe σ vs)
  | [] => a
  | v :: vs => by
    have ih := ERep.wiped a vs
    refine ⟨by unfold wipeE wipe; simpa using ih.1, fun i p hi => ?_⟩
    unfold wipeE at hi
    unfold wipe
    by_cases e : v = i
    · subst e
      have hl : v < (wipeE env vs).length := by
        have := (List.getElem?_eq_some_iff.mp hi).1
        simpa using this
      rw [List.getElem?_set_self hl] at hi
      cases hi
    · rw [List.getElem?_set_ne e] at hi
      obtain ⟨u, h1, h2⟩ := ih.2 i p hi
      exact ⟨u, by rw [List.getElem?_set_ne e]; exact h1, h2⟩
/-- a target of a comprehension: it stores the names vs alone -/
def tGc (G : PCfg) (g : Gf) (vs : List Nat) : TG := fun v σ H Q => ∃ ρ env p env', ERep G H ρ env σ ∧ Rep G.K H ρ p v ∧ g p env = some env' ∧ ∀ σ', ERep G H ρ env' σ' → wipe σ' vs = wipe σ vs → Q σ' H
def tGcs (G : PCfg) (g : Gsf) (vs : List Nat) : TGs := fun v σ H Q => ∃ ρ env p env', ERep G H ρ env σ ∧ Reps G.K H ρ p v ∧ g p env = some env' ∧ ∀ σ', ERep G H ρ env' σ' → wipe σ' vs = wipe σ vs → Q σ' H
theorem wipe_set {σ : Sto} {i : Nat} {v : Option V} : ∀ {vs : List Nat}, i ∈ vs → wipe (σ.set i v) vs = wipe σ vs
  | j :: vs, h => by
    unfold wipe
    rcases List.mem_cons.mp h with rfl | h
    · have : ∀ (vs : List Nat) (σ : Sto), (wipe (σ.set i v) vs).set i none = (wipe σ vs).set i none := by
        intro vs
        induction vs with
        | nil => intro σ; unfold wipe; rw [List.set_set]
        | cons k ks ih =>
          intro σ
          unfold wipe
          by_cases e : k = i
          · subst e
            rw [List.set_set, List.set_set]
            exact ih σ
          · rw [List.set_comm _ _ e, ih σ, List.set_comm _ _ e]
      exact this vs σ
    · rw [wipe_set h]
section
variable {X : Cx} {G : PCfg} {W : WX} {e : Expr} {es : List Expr} {pos : Pos} {vs : List Nat}
theorem d_nameC {i : Nat} {x : Str} (hN : X.N.Nodup) (hi : X.N[i]? = some x) (hx : Loc X.env.scope x) (hv : i ∈ vs := by decide) (hf : X.fn x = true ∨ X.env.scope.names.lookup x = some .local := by first | exact .inl rfl | exact .inr rfl | assumption) : PG X (.Name x pos) (tGc G (nameG i) vs) :=
  PG.imp (pg_name hN hi hx hf) fun v σ H Q ⟨ρ, env, p, env', a, b, c, d⟩ => by
    cases c
    exact d _ (a.set b i) (wipe_set hv)
theorem d_nilC : PGs X [] (tGcs G nilG vs) := PGs.imp pgs_nil fun us σ H Q ⟨ρ, env, ps, env', a, b, c, d⟩ => by
  cases b with
  | nil => cases c; exact ⟨rfl, d _ a rfl⟩
  | cons _ _ => cases c
theorem d_consC {g : Gf} {gs : Gsf} (h1 : PG X e (tGc G g vs)) (h2 : PGs X es (tGcs G gs vs)) (hs : (assignEach (e :: es) X.env).map (·.2) = assign e X.env :: (assignEach es X.env).map (·.2) := by rfl) : PGs X (e :: es) (tGcs G (consG g gs) vs) :=
  PGs.imp (pgs_cons h1 h2 hs) fun us σ H Q ⟨ρ, env, ps, env', a, b, c, d⟩ => by
    cases ps with
    | nil => cases c
    | cons p ps =>
      obtain ⟨v, us', rfl, b1, b2⟩ := Paired.split1 b
      have c' : ((g p env).bind fun env' => gs ps env') = some env' := c
      cases e1 : g p env with
      | none => rw [e1] at c'; cases c'
      | some env1 =>
        rw [e1] at c'
        exact ⟨v, us', rfl, ρ, env, p, env1, a, b1, e1, fun σ1 a1 w1 => ⟨ρ, env1, ps, env', a1, b2, c', fun σ2 a2 w2 => d σ2 a2 (w2.trans w1)⟩⟩
theorem d_tupC {k n : Nat} {gs : Gsf} (K : Cok X G) (hc : X.calm = true) (h : PGs X es (tGcs G gs vs)) (hn : (assignEach es X.env).length = n := by rfl) (hst : (assignEach es X.env).findIdx? (·.1) = none := by rfl) : PG X (.Tuple es k pos) (tGc G (tupG n gs) vs) :=
  PG.imp (pg_tup hc h hn hst) fun v σ H Q ⟨ρ, env, p, env', a, b, c, d⟩ => by
    cases p with
    | tup ps =>
      have c' : (if ps.length = n then gs ps env else none) = some env' := c
      by_cases z : ps.length = n
      · rw [if_pos z] at c'
        obtain ⟨ad, us, rfl, rt, rs⟩ := b.unTup
        exact ⟨ad, us, rfl, by rw [K.k]; exact rt.sq, by rw [← Paired.length rs]; exact z, ρ, env, ps, env', a, rs, c', d⟩
      · rw [if_neg z] at c'; cases c'
    | _ => cases c
end
def yesT : Tf := fun _ h => .ok true h
def lcGo (chk : PH → Bool) (g : Gf) (vs : List Nat) (t : Tf) (f : Ef) (n : Nat) (env : Env) : List PV → PH → Rs PV
  | [], h => if chk h = true then .ok (.obj n) h else .bad
  | x :: xs, h => if chk h = true then (match g x (wipeE env vs) with
    | none => .bad
    | some env2 => (match t env2 h with
      | .ok k h2 => if k = true then (match f env2 h2 with
        | .ok p h3 => (match h3[n]? with
          | some (.lst acc) => if acc.length < sizeLine then lcGo chk g vs t f n env xs (h3.set n (.lst (acc ++ [p]))) else .bad
          | _ => .bad)
        | _ => .bad) else lcGo chk g vs t f n env xs h2
      | _ => .bad)) else .bad
noncomputable def lcE (it : If) (g : Gf) (vs : List Nat) (t : Tf) (f : Ef) : Ef := fun env h => (it env h).bind fun src h' => lcGo src.chk g vs t f h'.length env src.items (h' ++ [.lst []])
abbrev W0 : WX := fun _ _ _ _ => False
section
variable {X : Cx} {G : PCfg} {W : WX}
theorem lc_core' {wi : TI} {it : If} {g : Gf} {vs : List Nat} {t : Tf} {f : Ef} {σ : Sto} {H : Hp} {Q : VK} (hw : ∀ R, tI G W it σ H R → wi σ H R) (d : tE G W (lcE it g vs t f) σ H Q) : tLc wi (tGc G g vs) (tT G W0 t) (tE G W0 f) vs σ H Q := by
  obtain ⟨ρ, env, h, a, b, _, d⟩ := d
  refine hw _ ⟨ρ, env, h, a, b, ?_⟩
  unfold lcE at d
  cases e : it env h with
  | exc c fs h1 => simp only [e, Rs.bind] at d; exact d
  | bad => simp only [e, Rs.bind] at d; exact d
  | ok src h' =>
    simp only [e, Rs.bind] at d
    intro J H1 ρ1 x y T D hD
    obtain ⟨y1, x1⟩ := y.push hD (u := .lst []) (o := .lst []) fun _ => ⟨[], upd_same, .nil⟩
    have hn : (ρ1 ++ [D])[h'.length]? = some D := by rw [← y.len, List.getElem?_append_right (Nat.le_refl _)]; simp
    have a1 := (a.ext x).ext x1
    have T1 := T.ext x1
    have d1 := (d.ext x).ext x1
    generalize hρ : ρ1 ++ [D] = ρ2 at *
    generalize hH : upd H1 D (HO.lst []) = H2 at *
    generalize hh : h' ++ [PO.lst []] = h2 at *
    refine ⟨fun i m H => m = src.items.length - i ∧ i ≤ src.items.length ∧ ∃ ρ h, Ext ρ2 H2 ρ H ∧ HRep G H ρ h ∧ rd (okG (RV G) G Q ρ H) (exG G (fun c d H' => W c d σ H') ρ H) (lcGo src.chk g vs t f h'.length env (src.items.drop i) h), ⟨_, rfl, Nat.zero_le _, ρ2, h2, .refl, y1, d1⟩, ?_⟩
    rintro i m H ⟨rfl, hi, ρ3, h3, x3, y3, d3⟩
    have hn3 : ρ3[h'.length]? = some D := x3.pre _ _ hn
    by_cases hlt : i < src.items.length
    · refine .inr ?_
      have ed : src.items.drop i = src.items[i] :: src.items.drop (i + 1) := List.drop_eq_getElem_cons hlt
      rw [ed] at d3
      unfold lcGo at d3
      cases hk : src.chk h3 with
      | false => rw [hk] at d3; exact d3.elim
      | true =>
        rw [hk, if_pos rfl] at d3
        have st := Src.chk_iff.mp hk
        refine ⟨T1.go i ρ3 H h3 hlt x3 y3 st, fun H' => i + 1 ≤ src.items.length ∧ ∃ ρ h, Ext ρ2 H2 ρ H' ∧ HRep G H' ρ h ∧ rd (okG (RV G) G Q ρ H') (exG G (fun c d H' => W c d σ H') ρ H') (lcGo src.chk g vs t f h'.length env (src.items.drop (i + 1)) h),
          fun H' q => ⟨src.items.length - (i + 1), by omega, rfl, q⟩, fun v H' yl => ?_⟩
        obtain ⟨p, hp, y4, x4, r⟩ := T1.yld i ρ3 H h3 v H' hlt x3 y3 st yl
        have ep : src.items[i] = p := by
          rw [List.getElem?_eq_getElem hlt] at hp
          exact Option.some.inj hp
        rw [ep] at d3
        cases e2 : g p (wipeE env vs) with
        | none => simp only [e2] at d3; exact d3.elim
        | some env2 =>
          simp only [e2] at d3
          have a3 := ((a1.ext x3).ext x4).wiped vs
          refine ⟨ρ3, wipeE env vs, p, env2, a3, r, e2, fun σ2 a4 w4 => ⟨?_, ρ3, env2, h3, a4, y4, trivial, ?_⟩⟩
          · rw [w4]
            have idem : ∀ (ws : List Nat) (σ : Sto), (∀ j ∈ ws, j ∈ vs) → wipe (wipe σ ws) vs = wipe σ vs := by
              intro ws
              induction ws with
              | nil => intro σ _; rfl
              | cons j ws ih =>
                intro σ hj
                show wipe ((wipe σ ws).set j none) vs = wipe σ vs
                rw [wipe_set (hj j List.mem_cons_self)]
                exact ih σ fun k hk => hj k (List.mem_cons_of_mem _ hk)
            exact idem vs σ fun j hj => hj
          cases e3 : t env2 h3 with
          | ok k h4 =>
            intro k' H5 ρ5 x5 y5 ek
            cases ek
            cases k with
            | true =>
              simp only [e3] at d3
              rw [if_pos rfl]
              refine ⟨ρ5, env2, h4, a4.ext x5, y5, trivial, ?_⟩
              cases e4 : f env2 h4 with
              | ok q h5 =>
                simp only [e4] at d3
                intro w H6 ρ6 x6 y6 r6
                cases e5 : h5[h'.length]? with
                | none => simp only [e5] at d3; exact d3.elim
                | some o5 =>
                  cases o5 with
                  | lst acc =>
                    simp only [e5] at d3
                    have hn6 : ρ6[h'.length]? = some D := x6.pre _ _ (x5.pre _ _ (x4.pre _ _ hn3))
                    obtain ⟨us, h6, r7⟩ := y6.ob _ _ _ e5 hn6
                    have l := Paired.length r7
                    by_cases z : acc.length < sizeLine
                    · rw [if_pos z] at d3
                      refine ⟨us, h6, by omega, hlt, ρ6, h5.set h'.length (.lst (acc ++ [q])), ?_⟩
                      obtain ⟨y7, x7⟩ := y6.wrote hn6 (u := .lst (us ++ [w])) (o := .lst (acc ++ [q])) fun x7 => ⟨_, upd_same, Reps.ext x7 (Paired.app r7 (.cons r6 .nil))⟩
                      exact ⟨(((x3.trans x4).trans x5).trans x6).trans x7, y7, (((d3.ext x4).ext x5).ext x6).ext x7⟩
                    · rw [if_neg z] at d3; exact d3.elim
                  | _ => simp only [e5] at d3; exact d3.elim
              | _ => simp only [e4] at d3; exact d3.elim
            | false =>
              simp only [e3] at d3
              rw [if_neg Bool.false_ne_true]
              exact ⟨hlt, ρ5, h4, (x3.trans x4).trans x5, y5, (d3.ext x4).ext x5⟩
          | _ => simp only [e3] at d3; exact d3.elim
    · have e : i = src.items.length := by omega
      subst e
      rw [List.drop_length] at d3
      unfold lcGo at d3
      cases hk : src.chk h3 with
      | false => rw [hk] at d3; exact d3.elim
      | true =>
        rw [hk, if_pos rfl] at d3
        exact .inl ⟨T1.stop ρ3 H h3 x3 y3 (Src.chk_iff.mp hk), d3 _ H ρ3 .refl y3 (.obj hn3)⟩
variable {elt tg iter : Expr} {ifs : List Expr} {scope : Scope} {own : List (Str × Nat)} {pos spos py : Pos} {it : If} {g : Gf} {t : Tf} {f : Ef}
theorem d_yes : PTs X [] (tT G W yesT) := ⟨fun pins s σ H Q I q => pts_nil.run pins s σ H Q I (let ⟨ρ, env, h, a, b, c, d⟩ := q; d true H ρ .refl b rfl)⟩
theorem d_one_if {c : Expr} (h : DT X G W c t) : PTs X [c] (tT G W t) := pts_one h
theorem d_lc (hc : X.calm = true) (hN : X.N.Nodup) (hi : DI X G W tg iter it) (ok : BlkOk X.N X.env.scope scope own)
    (hg : ∀ (s : Shared) (H : Hp) (C : Addr) (cl : List (Str × Addr)) (fp : List Addr), PG (X.blk s H scope (compEnvC scope cl C X.env) fp) tg (tGc G g (own.map (·.2)))) (ht : ∀ (s : Shared) (H : Hp) (C : Addr) (cl : List (Str × Addr)) (fp : List Addr), PTs (X.blk s H scope (compEnvC scope cl C X.env) fp) ifs (tT G W0 t))
    (he : ∀ (s : Shared) (H : Hp) (C : Addr) (cl : List (Str × Addr)) (fp : List Addr), DE (X.blk s H scope (compEnvC scope cl C X.env) fp) G W0 elt f) (hs : ∀ x, foldedSetIterable iter X.env x = pure x := by intro _; rfl) :
    DE X G W (.ListComp elt [⟨tg, iter, ifs, 0⟩] scope pos) (lcE it g (own.map (·.2)) t f) := PE.imp (pe_lc hc hN hi ok hg ht he hs) fun σ H Q d => lc_core' (fun _ q => q) d
/-- name = [..] on one line, the name a local -/
theorem d_setLc {i : Nat} {y : Str} (hc : X.calm = true) (hN : X.N.Nodup) (hy : X.N[i]? = some y) (hyl : X.env.scope.names.lookup y = some .local)
    (hsw : swapsWith (.ListComp elt [⟨tg, iter, ifs, 0⟩] scope pos) (some (.Name y py)) spos.line X.env = pure true) (hi : DI X G W tg iter it) (ok : BlkOk X.N X.env.scope scope own)
    (hg : ∀ (s : Shared) (H : Hp) (C : Addr) (cl : List (Str × Addr)) (fp : List Addr), PG (X.blk s H scope (compEnvC scope cl C X.env) fp) tg (tGc G g (own.map (·.2)))) (ht : ∀ (s : Shared) (H : Hp) (C : Addr) (cl : List (Str × Addr)) (fp : List Addr), PTs (X.blk s H scope (compEnvC scope cl C X.env) fp) ifs (tT G W0 t))
    (he : ∀ (s : Shared) (H : Hp) (C : Addr) (cl : List (Str × Addr)) (fp : List Addr), DE (X.blk s H scope (compEnvC scope cl C X.env) fp) G W0 elt f) (hs : ∀ x, foldedSetIterable iter X.env x = pure x := by intro _; rfl) :
    DS X G W (.Assign [.Name y py] (.ListComp elt [⟨tg, iter, ifs, 0⟩] scope pos) spos) (asgS (lcE it g (own.map (·.2)) t f) (nameG i)) := PS.imp (ps_setLc hc hN hy hyl hsw hi ok hg ht he hs) fun D σ H q => by
  obtain ⟨ρ, env, h, a, b, c⟩ := q.un
  refine lc_core' (fun _ q => q) ⟨ρ, env, h, a, b, trivial, ?_⟩
  unfold asgS at c
  cases e : lcE it g (own.map (·.2)) t f env h with
  | ok p h2 =>
    rw [e] at c
    intro v H' ρ' x y z
    simp only [nameG] at c
    exact c _ H' ρ' x ((a.ext x).set z i) y
  | exc cl fs h2 => rw [e] at c; exact fun d H' ρ' fv x y z u => c d σ H' ρ' fv x (a.ext x) y z u
  | bad => rw [e] at c; exact c
end
end Py

end

section
/-! isinstance, stores to places, while, the law's end. -/
namespace Py
open PySem PySem.Spec PyProof.Rows L2

/-! ### isinstance -/
inductive BT where
  | none | bool | int | str | list | tuple
  deriving DecidableEq, Inhabited
inductive Ty where
  | b (t : BT)
  | c (n : Nat)
  deriving DecidableEq, Inhabited
def BT.name : BT → String
  | .none => "NoneType" | .bool => "bool" | .int => "int" | .str => "str" | .list => "list" | .tuple => "tuple"
def tyOf (h : PH) : PV → Option Ty
  | .non => some (.b .none)
  | .bl _ => some (.b .bool)
  | .int _ => some (.b .int)
  | .str _ => some (.b .str)
  | .tup _ => some (.b .tuple)
  | .rol _ => some (.b .list)
  | .obj n => match h[n]? with
    | some (.lst _) => some (.b .list)
    | some (.ins c _) => some (.c c)
    | _ => none
  | .cls _ => none
/-- t is under T -/
def BT.under (t T : BT) : Bool := decide (t = T) || (decide (t = .bool) && decide (T = .int))
theorem BT.kit {K : PySem.W.Frag} (t T : BT) : PySem.W.kitOne K (.type t.name) (.type T.name) = some (t.under T) := by
  apply kit_ty
  cases t <;> cases T <;> decide +kernel
def tyVal (G : PCfg) : Ty → Value
  | .b t => .type t.name
  | .c n => .ref (G.cls n)
/-- what isinstance asks of an instance's class -/
structure ClsI (K : PySem.W.Frag) (C : Addr) : Prop where
  cl : Cls K C
  ha : PySem.W.findIn K (.ref C) "__class__" = some (some (.builtin "object.__class__"))
  hn : PySem.W.specialIn K (.builtin "object.__class__") "__get__" = some (some (.builtin "getset_descriptor.__get__"))
  ht : PySem.W.takesIn K (.builtin "object.__class__") = some true
  hm : PySem.W.mroIn K C (.type "object") = some true
theorem tyOf_rep {G : PCfg} {H : Hp} {ρ : List Addr} {h : PH} {p : PV} {v : V} {t : Ty} (b : HRep G H ρ h) (r : Rep G.K H ρ p v) (e : tyOf h p = some t) (hk : ∀ c, t = .c c → ClsI G.K (G.cls c)) : TyX G.K H v (tyVal G t) := by
  cases p with
  | non => cases r; cases e; exact .base .non
  | bl k => cases r; cases e; exact .base (.bl k)
  | int k => cases r; cases e; exact .base (.int k)
  | str k => cases r; cases e; exact .base (.str k)
  | tup xs =>
    cases e
    obtain ⟨a, vs, rfl, ht, _⟩ := r.unTup
    rcases ht with ht | ⟨o, its, n, ho, hc, _⟩
    · exact .base (.tup ht)
    · exact .kTuple ho hc
  | cls x => cases e
  | rol xs =>
    cases e
    obtain ⟨a, vs, rfl, ht, _⟩ := r.unRol
    rcases ht with ⟨o, ht⟩ | ⟨o, its, n, ho, hc, _⟩
    · exact .base (.frz ht)
    · exact .kList ho hc
  | obj n =>
    obtain ⟨a, rfl, ha⟩ := r.unObj
    cases e1 : h[n]? with
    | none => simp only [tyOf, e1] at e; cases e
    | some o =>
      have q := b.ob n o a e1 ha
      cases o with
      | lst xs =>
        simp only [tyOf, e1] at e
        cases e
        obtain ⟨vs, h1, _⟩ := q
        exact .base (.lst h1)
      | ins c fs =>
        simp only [tyOf, e1] at e
        cases e
        obtain ⟨dx, fv, h1, _⟩ := q
        have k := hk c rfl
        exact .base (.ins h1 k.cl k.ha k.hn k.ht k.hm)
      | _ => simp only [tyOf, e1] at e; cases e
def isiE (ans : Ty → Option Bool) (f : Ef) : Ef := fun env h => (f env h).bind fun p h1 => match (tyOf h1 p).bind ans with
  | some b => okB b h1
  | none => .bad
section
variable {X : Cx} {G : PCfg} {W : WX} {e c : Expr} {f : Ef} {pos p : Pos} {ans : Ty → Option Bool}
theorem tcB_one {te tc : TE} {r : List V → Hp → VK → Prop} {σ : Sto} {H : Hp} {Q : VK} (h : te σ H fun x H1 => tc σ H1 fun y H2 => r [x, y] H2 Q) : tCB r (tCons te (tCons tc tNil)) σ H Q := h
theorem d_isi (K : Cok X G) (hg : Gl X "isinstance") (hm : X.mg "isinstance" = none) {cv : V} {u : Value} (hc : PE X c (tC cv)) (hu : ClsV cv u) (he : DE X G W e f)
    (hk : ∀ n, (ans (.c n)).isSome = true → ClsI G.K (G.cls n)) (ha : ∀ t b, ans t = some b → PySem.W.kitOne G.K (tyVal G t) u = some b)
    (hs : starEach [e, c] X.env = (false, eval e X.env) :: starEach [c] X.env := by rfl) (hs2 : starEach [c] X.env = (false, eval c X.env) :: starEach [] X.env := by rfl) (hpl : (backTo pos (starEach [c] X.env)).any (·.1) = false := by rfl) :
    DE X G W (.Call (.Name "isinstance" p) [e, c] [] pos) (isiE ans f) :=
  PE.imp (pe_callB call_isi hg hm PyProof.Rows.boot_isinstance (pa_cons he (pa_cons hc pa_nil hs2) hs) (by decide) (by decide) hs hpl) fun σ H Q t => by
    refine tE.post (Now.bindV Mono.tt t) fun x H1 ⟨q, ρ, env, h, a, b, ⟨_, r⟩, d⟩ => ?_
    cases e1 : (tyOf h q).bind ans with
    | none => simp only [e1] at d; exact d.elim
    | some k =>
      simp only [e1] at d
      obtain ⟨t, e2, e3⟩ := Option.bind_eq_some_iff.mp e1
      rw [K.k]
      exact ⟨x, cv, _, u, k, rfl, hu, tyOf_rep b r e2 (fun n en => hk n (by rw [← en, e3]; rfl)), ha t k e3, ok_val b (.bl k) d⟩
/-- isinstance(e, (c1, c2, ..)) -/
theorem d_isiT (K : Cok X G) (hg : Gl X "isinstance") (hm : X.mg "isinstance" = none) {cs : List Expr} {kk : Nat} {tp : Pos} {cvs : List V} {us : List Value} (hc : PA X cs fun _ H Q => Q cvs H) (hu : Paired ClsV cvs us) (hz : cvs.length ≤ sizeLine) (he : DE X G W e f)
    (hk : ∀ n, (ans (.c n)).isSome = true → ClsI G.K (G.cls n)) (ha : ∀ t b, ans t = some b → PySem.W.kitAny G.K (tyVal G t) us = some b)
    (hs : starEach [e, .Tuple cs kk tp] X.env = (false, eval e X.env) :: starEach [.Tuple cs kk tp] X.env := by rfl) (hs2 : starEach [.Tuple cs kk tp] X.env = (false, eval (.Tuple cs kk tp) X.env) :: starEach [] X.env := by rfl) (hpl : (backTo pos (starEach [.Tuple cs kk tp] X.env)).any (·.1) = false := by rfl) :
    DE X G W (.Call (.Name "isinstance" p) [e, .Tuple cs kk tp] [] pos) (isiE ans f) :=
  PE.imp (pe_callB call_isiT hg hm PyProof.Rows.boot_isinstance (pa_cons he (pa_cons (pe_tup hc) pa_nil hs2) hs) (by decide) (by decide) hs hpl) fun σ H Q t => by
    refine tE.post (Now.bindV Mono.tt t) fun x H1 ⟨q, ρ, env, h, a, b, ⟨_, r⟩, d⟩ => ?_
    refine ⟨hz, fun T hT => ?_⟩
    cases e1 : (tyOf h q).bind ans with
    | none => simp only [e1] at d; exact d.elim
    | some k =>
      simp only [e1] at d
      obtain ⟨t, e2, e3⟩ := Option.bind_eq_some_iff.mp e1
      obtain ⟨b', x'⟩ := b.grow (upd_grow hT (o := .tup cvs))
      rw [K.k]
      exact ⟨x, T, cvs, _, us, k, rfl, upd_same, hu, tyOf_rep b' (r.ext x') e2 (fun n en => hk n (by rw [← en, e3]; rfl)), ha t k e3, ok_val b' (.bl k) (d.ext x')⟩
end

/-! ### o[i] = v -/
def setV (o i v : PV) (h : PH) : Option PH := match o, i with
  | .obj n, .int k => (match h[n]? with
    | some (.lst xs) => (match ixN xs.length k with
      | some j => some (h.set n (.lst (xs.set j v)))
      | none => none)
    | _ => none)
  | _, _ => none
/-- value, then the object, then the place -/
def setE (fv fo fi : Ef) : Ef := fun env h => (fv env h).bind fun v h1 => (fo env h1).bind fun o h2 => (fi env h2).bind fun i h3 => match setV o i v h3 with
  | some h4 => .ok .non h4
  | none => .bad
def setS (fv fo fi : Ef) : Sf := exprS (setE fv fo fi)
theorem expr_tE {G : PCfg} {W : WX} {f : Ef} {D : Ends} {σ : Sto} {H : Hp} (t : tS G W (exprS f) D σ H) : tE G W f σ H fun _ H' => D.nx σ H' := by
  obtain ⟨ρ, env, h, a, b, c⟩ := t.un
  refine ⟨ρ, env, h, a, b, trivial, ?_⟩
  unfold exprS at c
  cases e : f env h <;> rw [e] at c
  · exact fun v H' ρ' x y z => c σ H' ρ' x (a.ext x) y
  · exact fun d H' ρ' fv x y z u => c d σ H' ρ' fv x (a.ext x) y z u
  · exact c
section
variable {X : Cx} {G : PCfg} {W : WX} {e o i : Expr} {fv fo fi : Ef} {pos spos : Pos}
theorem d_set (he : DE X G W e fv) (ho : DE X G W o fo) (hi : DE X G W i fi) (hs : swapsWithSole [.Subscript o i spos] e pos.line X.env = pure false := by rfl) (hw : swappedStores [.Subscript o i spos] e X.env = pure none := by rfl)
    (h1 : (assignEach [.Subscript o i spos] X.env).map (·.2) = [assign (.Subscript o i spos) X.env] := by rfl)
    (ha : ∀ v, assign (.Subscript o i spos) X.env v = (do
      let ov ← holding [v] (eval o X.env)
      let iv ← holding [v, ov] (eval i X.env)
      standAt spos
      holding [v, ov, iv] (setItem ov iv v)
      release [v, ov, iv] []) := by intro _; rfl) : DS X G W (.Assign [.Subscript o i spos] e pos) (setS fv fo fi) :=
  PS.imp (ps_asg he (pg_sub ho hi set_list ha) hs hw h1) fun D σ H t => by
    have t' := expr_tE (f := setE fv fo fi) t
    refine tE.post (Now.bindV Mono.tt t') fun x H1 ⟨v, t1⟩ => ?_
    refine tE.post (Now.bindV (Mono.tt.and Mono.rep) t1) fun y H2 ⟨ob, t2⟩ => ?_
    refine tE.post (Now.bindV ((Mono.tt.and Mono.rep).and Mono.rep) t2) fun z H3 ⟨ix, ρ3, env3, h3, a3, b3, ⟨⟨⟨_, r1⟩, r2⟩, r3⟩, d⟩ => ?_
    dsimp only at d
    cases e1 : setV ob ix v h3 with
    | none => rw [e1] at d; exact d.elim
    | some h4 =>
      rw [e1] at d
      cases ob with
      | obj n =>
        cases ix with
        | int k =>
          cases e2 : h3[n]? with
          | none => simp only [setV, e2] at e1; cases e1
          | some o2 =>
            cases o2 with
            | lst xs =>
              simp only [setV, e2] at e1
              cases e3 : ixN xs.length k with
              | none => rw [e3] at e1; cases e1
              | some j =>
                rw [e3] at e1
                cases e1
                obtain ⟨ad, vs, rfl, ha, hl, rl⟩ := lst_own b3 r2 e2
                cases r3
                refine ⟨ad, vs, k, j, rfl, rfl, hl, by rw [← Paired.length rl]; exact e3, ?_⟩
                exact lst_wrote b3 ha (Paired.setP r1 j rl) .non d
            | _ => simp only [setV, e2] at e1; cases e1
        | _ => simp only [setV] at e1; cases e1
      | _ => simp only [setV] at e1; cases e1
end

/-! ### while -/
def whGo (t : Tf) (b : Sf) : Nat → Sf
  | 0, _, _ => .bad
  | n + 1, env, h => match t env h with
    | .ok k h' => if k = true then (match b env h' with
      | .nrm env2 h2 => whGo t b n env2 h2
      | .cnt env2 h2 => whGo t b n env2 h2
      | .brk env2 h2 => .nrm env2 h2
      | r => r) else .nrm env h'
    | .exc c fs h' => .exc c fs env h'
    | .bad => .bad
section
variable {X : Cx} {G : PCfg} {W : WX} {c : Expr} {body : List Stmt} {t : Tf} {b : Sf} {pos : Pos}
theorem d_while (n : Nat) (hp : PassesOwn (model X.prog X.w) X.A X.env X.xe) (hc : DT X G W c t) (hb : DB X G W body b) : DS X G W (.While c body [] pos) (whGo t b n) := PS.imp (ps_while hp hc hb) fun D σ H q => by
  obtain ⟨ρ, env, h, a, y, d⟩ := q.un
  refine ⟨fun m σ H => ∃ ρ env h, ERep G H ρ env σ ∧ HRep G H ρ h ∧ rdS G W D ρ H (whGo t b m env h), ⟨n, ρ, env, h, a, y, d⟩, ?_⟩
  rintro m σ H ⟨ρ, env, h, a, y, d⟩
  cases m with
  | zero => exact d.elim
  | succ m =>
    refine ⟨ρ, env, h, a, y, trivial, ?_⟩
    unfold whGo at d
    cases e : t env h with
    | exc cl fs h1 => simp only [e] at d; exact fun d' H' ρ' fv x y z u => d d' σ H' ρ' fv x (a.ext x) y z u
    | bad => simp only [e] at d; exact d
    | ok k h1 =>
      intro k' H1 ρ1 x1 y1 ek
      cases ek
      cases k with
      | false =>
        simp only [e] at d
        exact d σ H1 ρ1 x1 (a.ext x1) y1
      | true =>
        simp only [e] at d
        refine ⟨fun σ' H' => ∃ ρ env h, ERep G H' ρ env σ' ∧ HRep G H' ρ h ∧ rdS G W D ρ H' (whGo t b m env h), fun σ' H' q => ⟨m, Nat.lt_succ_self m, q⟩, tS.mk (f := b) (a.ext x1) y1 ?_⟩
        cases e3 : b env h1 with
        | nrm env2 h2 => simp only [e3] at d; exact fun σ3 H3 ρ3 x3 a3 y3 => ⟨ρ3, env2, h2, a3, y3, d.ext (x1.trans x3)⟩
        | cnt env2 h2 => simp only [e3] at d; exact fun σ3 H3 ρ3 x3 a3 y3 => ⟨ρ3, env2, h2, a3, y3, d.ext (x1.trans x3)⟩
        | brk env2 h2 => simp only [e3] at d; exact fun σ3 H3 ρ3 x3 a3 y3 => d σ3 H3 ρ3 (x1.trans x3) a3 y3
        | ret p h2 => simp only [e3] at d; exact fun v3 H3 ρ3 x3 y3 r3 => d v3 H3 ρ3 (x1.trans x3) y3 r3
        | exc cl fs env2 h2 => simp only [e3] at d; exact fun d' σ3 H3 ρ3 fv x3 => d d' σ3 H3 ρ3 fv (x1.trans x3)
        | bad => simp only [e3] at d; exact d
end

/-! ### the law -/
theorem law_sp {G : PCfg} {F : Fn} (hF : ∀ ns : List Int, ns.length ≤ 63 → ∃ h', F [.rol (ns.map PV.int)] [] = .ok (.bl true) h') {H : Hp} {a : Addr} {ns : List Int} (hl : ns.length ≤ 63) (hT : LamX.Tabs G.tabs H) (hR : RoL G.K H a (ns.map V.int)) {E : XK} :
    spI G 1 F [.ref a] H (fun v _ => v = .bl true) E := by
  obtain ⟨h', e⟩ := hF ns hl
  refine ⟨rfl, [], [.rol (ns.map PV.int)], [], ⟨hT, List.nodup_nil, rfl, fun n o a e _ => by simp at e⟩, .cons (.mkRol (vs := ns.map V.int) hR ?_) .nil, ?_⟩
  · have : ∀ ns : List Int, Reps G.K H [] (ns.map PV.int) (ns.map V.int) := fun ns => by
      induction ns with
      | nil => exact .nil
      | cons n ns ih => exact .cons (.int n) ih
    exact this ns
  · rw [e]
    intro v H' ρ' x y r
    cases r
    rfl
end Py

end

section
/-! The rules as they are written for a text. -/
namespace Py
open PySem PySem.Spec PyProof.Rows L2

/-- a def of the module under its name -/
structure HasF (G : PCfg) (mg : Str → Option Value) (base : Heap) (x : Str) (n k : Nat) (F : Fn) (f : Addr) (fd : FuncData) (ps : List Str) : Prop where
  ok : FnOk G.P G.w G.K mg base (L2.CX G.P G.w) k f fd ps (spI G n F)
  at_ : mg x = some (.ref f)
  kp : PySem.W.keepIn G.K (.ref f) = true
  b : Binds G.K fd ps []
def Has (G : PCfg) (mg : Str → Option Value) (base : Heap) (x : Str) (n k : Nat) (F : Fn) : Prop := ∃ f fd ps, HasF G mg base x n k F f fd ps
/-- a constant of the module -/
def GloC (G : PCfg) (mg : Str → Option Value) (x : Str) (p : PV) : Prop := ∃ u v, mg x = some u ∧ RelV v u ∧ ∀ H ρ, Rep G.K H ρ p v
structure XIs (X : Cx) (G : PCfg) (mg : Str → Option Value) (base : Heap) : Prop where
  k : X.K = G.K
  p : X.prog = G.P
  w : X.w = G.w
  m : X.mg = mg
  b : X.base = base
theorem XIs.cok {X : Cx} {G : PCfg} {mg : Str → Option Value} {base : Heap} (h : XIs X G mg base) : Cok X G := ⟨h.k, h.p, h.w⟩
theorem takesW0 {X : Cx} : Takes X W0 := fun u s' ⟨a, B, sI, pins, σ, H, cls, d, _, _, _, _, _, _, _, _, w⟩ => w.elim
theorem u64 {k : Nat} {A : Around} (r : Room k A) : A.units + 64 < cLine := r.units
theorem u65 {k : Nat} {A : Around} (r : Room k A) : A.units + 65 < cLine := by have := r.un; omega
section
variable {X : Cx} {G : PCfg} {W : WX} {mg : Str → Option Value} {base : Heap} {a b c e : Expr} {es : List Expr} {fa fb fc f : Ef} {g : Af} {pos p apos : Pos}
theorem v_ (i : Nat) {x : Str} (hN : X.N[i]? = some x := by rfl) (hv : Vis X.env.scope x := by first | exact Or.inl rfl | exact Or.inr (Or.inl rfl) | exact Or.inr (Or.inr rfl)) (hd : (x == ("__debug__" : Str)) = false := by decide) (hcd : (x == ("__classdict__" : Str)) = false := by decide) : DE X G W (.Name x pos) (var i) := d_var hN hv hd hcd
theorem glo_ {x : Str} {q : PV} (h : GloC G mg x q) (K : XIs X G mg base) (hg : Gl X x := by rfl) (hd : (x == ("__debug__" : Str)) = false := by decide) : DE X G W (.Name x pos) (cst q) := by
  obtain ⟨u, v, h1, h2, h3⟩ := h
  exact d_cst (pe_glob hg (by rw [K.m]; exact h1) h2 hd) h3
theorem add_ (K : XIs X G mg base) (ha : DE X G W a fa) (hb : DE X G W b fb) : DE X G W (.BinOp a .Add b pos) (bin addV fa fb) := d_bin op_addV (says_add K.cok) nx_add ha hb
theorem sub_ (ha : DE X G W a fa) (hb : DE X G W b fb) : DE X G W (.BinOp a .Sub b pos) (bin subV fa fb) := d_bin op_sub says_sub nx_sub ha hb
theorem mul_ (K : XIs X G mg base) (ha : DE X G W a fa) (hb : DE X G W b fb) : DE X G W (.BinOp a .Mult b pos) (bin mulV fa fb) := d_bin op_mulV (says_mul K.cok) nx_mul ha hb
theorem mod_ (ha : DE X G W a fa) (hb : DE X G W b fb) : DE X G W (.BinOp a .Mod b pos) (bin modV fa fb) := d_bin op_mod says_mod nx_mod ha hb
theorem div_ (ha : DE X G W a fa) (hb : DE X G W b fb) : DE X G W (.BinOp a .FloorDiv b pos) (bin divV fa fb) := d_bin op_fdivW says_div nx_div ha hb
theorem pow_ (ha : DE X G W a fa) (hb : DE X G W b fb) : DE X G W (.BinOp a .Pow b pos) (bin powV fa fb) := d_bin op_pow says_pow nx_pow ha hb
theorem eq_ {k : Nat} (K : XIs X G mg base) (hr : Room k X.A) (ha : DE X G W a fa) (hb : DE X G W b fb) : DE X G W (.Compare a [.Eq] [b] pos) (bin eqV fa fb) := d_cmp (op_eqD (u64 hr)) (by rw [K.k]; exact says_eq) nx_eq ha hb (nomark _)
theorem ne_ {k : Nat} (K : XIs X G mg base) (hr : Room k X.A) (ha : DE X G W a fa) (hb : DE X G W b fb) : DE X G W (.Compare a [.NotEq] [b] pos) (bin neV fa fb) := d_cmp (op_neD (u64 hr)) (by rw [K.k]; exact says_ne) nx_ne ha hb (nomark _)
theorem lt_ (ha : DE X G W a fa) (hb : DE X G W b fb) : DE X G W (.Compare a [.Lt] [b] pos) (bin ltV fa fb) := d_cmp op_ltV says_cmp nx_cmp ha hb (nomark _)
theorem le_ (ha : DE X G W a fa) (hb : DE X G W b fb) : DE X G W (.Compare a [.LtE] [b] pos) (bin leV fa fb) := d_cmp op_leV says_cmp nx_cmp ha hb (nomark _)
theorem gt_ (ha : DE X G W a fa) (hb : DE X G W b fb) : DE X G W (.Compare a [.Gt] [b] pos) (bin gtV fa fb) := d_cmp op_gtV says_cmp nx_cmp ha hb (nomark _)
theorem ge_ (ha : DE X G W a fa) (hb : DE X G W b fb) : DE X G W (.Compare a [.GtE] [b] pos) (bin geV fa fb) := d_cmp op_geV says_cmp nx_cmp ha hb (nomark _)
theorem is_ (ha : DE X G W a fa) (hb : DE X G W b fb) : DE X G W (.Compare a [.Is] [b] pos) (bin isNV fa fb) := d_cmp op_isV says_is nx_is ha hb (nomark _)
theorem isn_ (ha : DE X G W a fa) (hb : DE X G W b fb) : DE X G W (.Compare a [.IsNot] [b] pos) (bin notNV fa fb) := d_cmp op_notV says_not nx_not ha hb (nomark _)
theorem in_ {k : Nat} (K : XIs X G mg base) (hr : Room k X.A) (ha : DE X G W a fa) (hb : DE X G W b fb) (hm : behindInMarks .In b = false := by rfl) : DE X G W (.Compare a [.In] [b] pos) (bin (inV false) fa fb) := d_cmp (op_inV (u65 hr)) (by rw [K.k]; exact says_in) nx_in ha hb hm
theorem nin_ {k : Nat} (K : XIs X G mg base) (hr : Room k X.A) (ha : DE X G W a fa) (hb : DE X G W b fb) (hm : behindInMarks .NotIn b = false := by rfl) : DE X G W (.Compare a [.NotIn] [b] pos) (bin (inV true) fa fb) := d_cmp (op_ninV (u65 hr)) (by rw [K.k]; exact says_in) nx_in ha hb hm
/-! the same as tests -/
theorem t_eq {k : Nat} (K : XIs X G mg base) (hr : Room k X.A) (ha : DE X G W a fa) (hb : DE X G W b fb) : DT X G W (.Compare a [.Eq] [b] pos) (tst (bin eqV fa fb)) := d_tcmp (op_eqD (u64 hr)) (by rw [K.k]; exact says_eq) nx_eq ha hb (nomark _)
theorem t_ne {k : Nat} (K : XIs X G mg base) (hr : Room k X.A) (ha : DE X G W a fa) (hb : DE X G W b fb) : DT X G W (.Compare a [.NotEq] [b] pos) (tst (bin neV fa fb)) := d_tcmp (op_neD (u64 hr)) (by rw [K.k]; exact says_ne) nx_ne ha hb (nomark _)
theorem t_lt (ha : DE X G W a fa) (hb : DE X G W b fb) : DT X G W (.Compare a [.Lt] [b] pos) (tst (bin ltV fa fb)) := d_tcmp op_ltV says_cmp nx_cmp ha hb (nomark _)
theorem t_le (ha : DE X G W a fa) (hb : DE X G W b fb) : DT X G W (.Compare a [.LtE] [b] pos) (tst (bin leV fa fb)) := d_tcmp op_leV says_cmp nx_cmp ha hb (nomark _)
theorem t_gt (ha : DE X G W a fa) (hb : DE X G W b fb) : DT X G W (.Compare a [.Gt] [b] pos) (tst (bin gtV fa fb)) := d_tcmp op_gtV says_cmp nx_cmp ha hb (nomark _)
theorem t_ge (ha : DE X G W a fa) (hb : DE X G W b fb) : DT X G W (.Compare a [.GtE] [b] pos) (tst (bin geV fa fb)) := d_tcmp op_geV says_cmp nx_cmp ha hb (nomark _)
theorem t_is (ha : DE X G W a fa) (hb : DE X G W b fb) : DT X G W (.Compare a [.Is] [b] pos) (tst (bin isNV fa fb)) := d_tcmp op_isV says_is nx_is ha hb (nomark _)
theorem t_isn (ha : DE X G W a fa) (hb : DE X G W b fb) : DT X G W (.Compare a [.IsNot] [b] pos) (tst (bin notNV fa fb)) := d_tcmp op_notV says_not nx_not ha hb (nomark _)
theorem t_in {k : Nat} (K : XIs X G mg base) (hr : Room k X.A) (ha : DE X G W a fa) (hb : DE X G W b fb) (hm : behindInMarks .In b = false := by rfl) : DT X G W (.Compare a [.In] [b] pos) (tst (bin (inV false) fa fb)) := d_tcmp (op_inV (u65 hr)) (by rw [K.k]; exact says_in) nx_in ha hb hm
theorem t_nin {k : Nat} (K : XIs X G mg base) (hr : Room k X.A) (ha : DE X G W a fa) (hb : DE X G W b fb) (hm : behindInMarks .NotIn b = false := by rfl) : DT X G W (.Compare a [.NotIn] [b] pos) (tst (bin (inV true) fa fb)) := d_tcmp (op_ninV (u65 hr)) (by rw [K.k]; exact says_in) nx_in ha hb hm
theorem le2_ (ha : DE X G W a fa) (hb : DE X G W b fb) (hc : DE X G W c fc) (hm : lastMarks [.LtE, .LtE] [b, c] = false := by with_unfolding_all rfl) : DE X G W (.Compare a [.LtE, .LtE] [b, c] pos) (chain leV leV fa fb fc) := d_chain op_leV says_cmp nx_cmp op_leV says_cmp nx_cmp ha hb hc hm
theorem t_le2 (ha : DE X G W a fa) (hb : DE X G W b fb) (hc : DE X G W c fc) (hm : lastMarks [.LtE, .LtE] [b, c] = false := by with_unfolding_all rfl) : DT X G W (.Compare a [.LtE, .LtE] [b, c] pos) (tst (chain leV leV fa fb fc)) := d_tchain op_leV says_cmp nx_cmp op_leV says_cmp nx_cmp ha hb hc hm
/-! built-ins -/
theorem nb (K : XIs X G mg base) {x : Str} (h : mg x = none) : X.mg x = none := by rw [K.m]; exact h
theorem bi_ {x : Str} {id : String} {r : List V → Hp → VK → Prop} {s : List PV → PH → Rs PV} (K : XIs X G mg base) (hm : mg x = none) (hc : CallR X (.builtin id) r) (hs : SaysL G s r) (hx : NoExL s) (hv : bootBuiltins x = some (.builtin id)) (ha : DA X G W (e :: es) g) (hg : Gl X x := by rfl) (hn : x ≠ "__name__" := by decide) (hdb : (x == ("__debug__" : Str)) = false := by decide)
    (he : starEach (e :: es) X.env = (false, eval e X.env) :: starEach es X.env := by rfl) (hpl : (backTo pos (starEach es X.env)).any (·.1) = false := by rfl) : DE X G W (.Call (.Name x p) (e :: es) [] pos) (appE s g) := d_callB hc hs hx hg (nb K hm) hv ha hn hdb he hpl
theorem bt_ {x : Str} {T : String} {r : List V → Hp → VK → Prop} {s : List PV → PH → Rs PV} (K : XIs X G mg base) (hm : mg x = none) (hc : CallR X (.type T) r) (hs : SaysL G s r) (hx : NoExL s) (hv : bootBuiltins x = some (.type T)) (ha : DA X G W (e :: es) g) (hg : Gl X x := by rfl) (hn : x ≠ "__name__" := by decide) (hdb : (x == ("__debug__" : Str)) = false := by decide)
    (he : starEach (e :: es) X.env = (false, eval e X.env) :: starEach es X.env := by rfl) (hpl : (backTo pos (starEach es X.env)).any (·.1) = false := by rfl) : DE X G W (.Call (.Name x p) (e :: es) [] pos) (appE s g) := d_callTy hc hs hx hg (nb K hm) hv ha hn hdb he hpl
/-- f(e, ..) -/
theorem call_ {x : Str} {n k j : Nat} {F : Fn} (h : Has G mg base x n k F) (K : XIs X G mg base) (tk : Takes X W) (hr : Room j X.A) (hj : k ≤ j) (ha : DA X G W (e :: es) g) (hg : Gl X x := by rfl) (hdb : (x == ("__debug__" : Str)) = false := by decide) (he : starEach (e :: es) X.env = (false, eval e X.env) :: starEach es X.env := by rfl) (hpl : (backTo pos (starEach es X.env)).any (·.1) = false := by rfl) :
    DE X G W (.Call (.Name x p) (e :: es) [] pos) (callE F n g) := by
  obtain ⟨f, fd, ps, h⟩ := h
  have ok := h.ok
  have hk := h.kp
  have hb := h.b
  have ha_ := h.at_
  rw [← K.p, ← K.w, ← K.k, ← K.m, ← K.b] at ok
  rw [← K.k] at hk hb
  rw [← K.m] at ha_
  exact d_call ok tk (hr.mono hj) hg ha_ hk hb ha hdb he hpl
/-- isinstance with built-in types -/
def ansB (T : BT) (cs : List Nat) : Ty → Option Bool
  | .b t => some (t.under T)
  | .c n => if cs.contains n then some false else none
theorem isi_ {x : Str} (T : BT) (cs : List Nat) (K : XIs X G mg base) (hm : mg "isinstance" = none) (hx : mg x = none) (hv : bootBuiltins x = some (.type T.name)) (he : DE X G W e f)
    (hk : ∀ n ∈ cs, ClsI G.K (G.cls n)) (ha : ∀ n ∈ cs, PySem.W.kitOne G.K (.ref (G.cls n)) (.type T.name) = some false) {p2 : Pos} (hg : Gl X "isinstance" := by rfl) (hgx : Gl X x := by rfl) (hn : x ≠ "__name__" := by decide) (hd : (x == ("__debug__" : Str)) = false := by decide)
    (hs : starEach [e, .Name x p2] X.env = (false, eval e X.env) :: starEach [.Name x p2] X.env := by rfl) (hs2 : starEach [.Name x p2] X.env = (false, eval (.Name x p2) X.env) :: starEach [] X.env := by rfl) (hpl : (backTo pos (starEach [.Name x p2] X.env)).any (·.1) = false := by rfl) :
    DE X G W (.Call (.Name "isinstance" p) [e, .Name x p2] [] pos) (isiE (ansB T cs) f) :=
  d_isi (cv := .ty T.name) (u := .type T.name) K.cok hg (nb K hm) (pe_bltn hgx (nb K hx) hv rfl hn hd) (.ty _) he
    (fun n h => hk n (by
      unfold ansB at h
      dsimp only at h
      split at h
      · rename_i z; simpa using z
      · cases h))
    (fun t b h => by
      cases t with
      | b t => cases h; exact BT.kit t T
      | c n =>
        have h' : (if cs.contains n then some false else none) = some b := h
        split at h'
        · rename_i z
          cases h'
          exact ha n (by simpa using z)
        · cases h') hs hs2 hpl
/-! methods -/
theorem append_ (K : XIs X G mg base) (ha : DE X G W a fa) (hb : DA X G W [b] g)
    (hbase : attributeBase a "append" X.env (eval a X.env) = eval a X.env := by rfl)
    (hfew : ((backTo pos (starEach [b] X.env)).all (fun x => !x.1) && (backToKw pos (keywordEach [] X.env)).all (fun x => x.1.isSome)
      && decide ([b].length + ([] : List Keyword).length + (if ([] : List Keyword).isEmpty then 0 else 1) < 30)) = true := by rfl)
    (hline : (apos.endLine == pos.line) = true := by rfl) (hs1 : starEach [b] X.env = (false, eval b X.env) :: starEach [] X.env := by rfl) (hplain : (backTo pos (starEach ([] : List Expr) X.env)).any (·.1) = false := by rfl) :
    DE X G W (.Call (.Attribute a "append" apos) [b] [] pos) (mE isLst appendM fa g) := d_bm K.cok PySem.F.plainAttrs_list PySem.F.slot_list_append PySem.F.type_list_append mt_append says_isLst says_append nx_append ha hb hbase hfew hline hs1 hplain
end
/-- no fuel: nothing is promised -/
theorem bad_ok {G : PCfg} {mg : Str → Option Value} {base : Heap} {x qual : Str} {params : Arguments} {body : List Stmt} {scope : Scope} {dvs : List V} {kws : List (Str × V)} {f : Addr} {fd : FuncData} {N ps : List Str} {k n : Nat} (F : FunD G.K x qual params body scope dvs kws f fd) (S : FnScope N ps scope) (hn : n = ps.length := by rfl) :
    FnOk G.P G.w G.K mg base (L2.CX G.P G.w) k f fd ps (spI G n fun _ _ => .bad) :=
  ⟨fun vs H Q E h => by rw [h.1, hn], fun A outer s H args us vs Q E hr he hb hv ⟨_, _, _, _, _, _, d⟩ => d.elim⟩
end Py
namespace Py
open PySem PySem.Spec PyProof.Rows L2
abbrev WF : Nat := 100000000
section
variable {X : Cx} {G : PCfg} {W : WX} {mg : Str → Option Value} {base : Heap} {a b c e : Expr} {es : List Expr} {fa fb fc f : Ef} {g : Af} {pos p apos : Pos}
theorem join_ (K : XIs X G mg base) (ha : DE X G W a fa) (hb : DA X G W [b] g)
    (hbase : attributeBase a "join" X.env (eval a X.env) = eval a X.env := by rfl)
    (hfew : ((backTo pos (starEach [b] X.env)).all (fun x => !x.1) && (backToKw pos (keywordEach [] X.env)).all (fun x => x.1.isSome)
      && decide ([b].length + ([] : List Keyword).length + (if ([] : List Keyword).isEmpty then 0 else 1) < 30)) = true := by rfl)
    (hline : (apos.endLine == pos.line) = true := by rfl) (hs1 : starEach [b] X.env = (false, eval b X.env) :: starEach [] X.env := by rfl) (hplain : (backTo pos (starEach ([] : List Expr) X.env)).any (·.1) = false := by rfl) :
    DE X G W (.Call (.Attribute a "join" apos) [b] [] pos) (mE isStr joinM fa g) := d_bm K.cok PySem.F.plainAttrs_str PySem.F.slot_str_join PySem.F.type_str_join mt_join says_isStr (says_join K.cok) nx_join ha hb hbase hfew hline hs1 hplain
theorem call0_ {x : Str} {k j : Nat} {F : Fn} (h : Has G mg base x 0 k F) (K : XIs X G mg base) (tk : Takes X W) (hr : Room j X.A) (hj : k ≤ j) (hg : Gl X x := by rfl) (hdb : (x == ("__debug__" : Str)) = false := by decide) :
    DE X G W (.Call (.Name x p) [] [] pos) (callE F 0 nilA) := by
  obtain ⟨f, fd, ps, h⟩ := h
  have ok := h.ok
  have hk := h.kp
  have hb := h.b
  have ha_ := h.at_
  rw [← K.p, ← K.w, ← K.k, ← K.m, ← K.b] at ok
  rw [← K.k] at hk hb
  rw [← K.m] at ha_
  have hr' := hr.mono hj
  refine ⟨fun pins s σ H Q I t => ?_⟩
  have t' : tE G W (callE (fun qs h => F (qs ++ []) h) 0 nilA) σ H Q := by simpa using t
  obtain ⟨ρ, env, hh, q1, q2, _, q3⟩ := call_core (dps := []) (dvs := []) (fun _ _ => .nil) t'
  have q4 := q3 [] H ρ .refl q2 .nil
  refine wpAny_Call_Name_kw (ld_glob I hg ha_ ?_ hdb)
  exact PySem.W.callWith_K0 I.kIn hk (run_fnSD (us := []) (vs := []) (E := WE W) (dvs := []) (ds := []) ok hr' hb .nil (passAt tk σ) I .nil q4)
end
end Py

end

section
/-! The head's facts: one check of the written part, and the defs. -/
namespace Py
open PySem PySem.Spec PyProof.Rows L2
abbrev Frag := PySem.W.Frag
abbrev GetO := Addr → Option Obj
def refs1 (o : Obj) : List Addr := match o.data with
  | .func fd => He.refV fd.code ++ He.refV fd.defaults ++ He.refV fd.kwdefaults
  | .cls cd => [cd.ns]
  | .fields vs => vs.toList.flatMap He.refV
  | _ => []
def valsO (o : Obj) : List Addr := match o.data with
  | .dict es _ => es.toList.flatMap fun e => He.refV e.val
  | _ => []
def funO (o : Obj) : List Addr := match o.data with
  | .func fd => He.refV fd.code ++ He.refV fd.defaults ++ He.refV fd.kwdefaults
  | _ => []
def onO {α : Type} (g : GetO) (f : Obj → List α) (a : Addr) : List α := match g a with
  | some o => f o
  | none => []
/-- what a module's name leads to -/
def asO (g : GetO) (a : Addr) : List Addr := a :: onO g (fun o => match o.data with
  | .cls cd => cd.ns :: onO g (fun n => (valsO n).flatMap fun m => m :: onO g (fun q => (refs1 q).flatMap fun r => r :: onO g funO r) m) cd.ns
  | _ => funO o) a
def asP (g : GetO) : List Addr := mainGlobals :: cStatics :: onO g (fun o => (valsO o).flatMap fun a => asO g a) mainGlobals
/-- the function at a, as it is read -/
def fnAt (K : Frag) (a : Addr) : He.FnW := match K.lookup a with
  | some ⟨_, _, .func fd, _⟩ => some (fd.name, fd.qualname, fd.params, fd.body, fd.scope, fd.globals, fd.closure, fd.builtins)
  | _ => none
/-- a def and where it stands -/
structure DefG where
  ad : Frag → Addr
  d : He.DefD
def DefG.ok (K : Frag) (q : DefG) : Bool := PySem.W.keepIn K (.ref (q.ad K)) && (match K.lookup (q.ad K) with
  | some ⟨_, _, .func fd, _⟩ => PySem.W.codeIn K fd.code q.d.qual && (He.dflB K fd.defaults (q.d.dvs K) && He.kwdB K fd.kwdefaults (q.d.kws K))
  | _ => false)
theorem DefG.funD {K : Frag} {q : DefG} (e : fnAt K (q.ad K) = q.d.val) (c : q.ok K = true) : ∃ fd, FunD K q.d.name q.d.qual q.d.params q.d.body q.d.scope (q.d.dvs K) (q.d.kws K) (q.ad K) fd := by
  obtain ⟨kp, c2⟩ := He.ba c
  unfold fnAt at e
  cases lk : K.lookup (q.ad K) with
  | none => rw [lk] at c2; cases c2
  | some o =>
    obtain ⟨oc, od, dt, osl⟩ := o
    rw [lk] at c2 e
    cases dt with
    | func fd =>
      obtain ⟨m1, m2, m3, m4, m5, m6, m7, m8, m9, m10, m11, m12, m13, m14, m15⟩ := fd
      have e3 : (some (m1, m2, m3, m4, m5, m6, m7, m15) : He.FnW) = some (q.d.name, q.d.qual, q.d.params, .stmts q.d.body, q.d.scope, mainGlobals, [], builtinsNs) := e
      simp only [Option.some.injEq, Prod.mk.injEq] at e3
      obtain ⟨h1, h2, h3, h4, h5, h6, h7, h8⟩ := e3
      subst h1 h2 h3 h4 h5 h6 h7 h8
      have c4 : (PySem.W.codeIn K m13 q.d.qual && (He.dflB K m8 (q.d.dvs K) && He.kwdB K m9 (q.d.kws K))) = true := c2
      obtain ⟨k1, k2⟩ := He.ba c4
      obtain ⟨k3, k4⟩ := He.ba k2
      exact ⟨_, ⟨oc, od, m8, m9, m10, m11, m12, m13, m14, osl, rfl, lk, k1, He.dflB_ok k3, He.kwdB_ok k4⟩, kp⟩
    | _ => cases c2
def obsC (chk : Frag → Bool) (fn : List DefG) (K : Frag) : He.AlD := (chk K && fn.all fun d => d.ok K, fn.map fun d => fnAt K (d.ad K))
def valG (fn : List DefG) : He.AlD := (true, fn.map fun d => d.d.val)
def SaysC (chk : Frag → Bool) (fn : List DefG) (K : Frag) : Prop := obsC chk fn K = valG fn
section
variable {chk : Frag → Bool} {fn : List DefG} {K : Frag}
theorem SaysC.ck (c : SaysC chk fn K) : chk K = true := (He.ba (show (chk K && fn.all fun d => d.ok K) = true from congrArg (fun z : He.AlD => z.1) c)).1
theorem SaysC.def_ (c : SaysC chk fn K) (i : Nat) {d : DefG} (h : fn[i]? = some d := by rfl) : ∃ fd, FunD K d.d.name d.d.qual d.d.params d.d.body d.d.scope (d.d.dvs K) (d.d.kws K) (d.ad K) fd := by
  have c2 := (He.ba (show (chk K && fn.all fun d => d.ok K) = true from congrArg (fun z : He.AlD => z.1) c)).2
  have e : fn.map (fun d => fnAt K (d.ad K)) = fn.map (fun d => d.d.val) := congrArg (fun z : He.AlD => z.2) c
  have e2 : (fn.map fun d => fnAt K (d.ad K))[i]? = (fn.map fun d => d.d.val)[i]? := by rw [e]
  rw [List.getElem?_map, List.getElem?_map, h] at e2
  exact DefG.funD (Option.some.inj e2) (List.all_eq_true.mp c2 d (List.mem_of_getElem? h))
end
/-- a constant of the module: a number, a text, a tuple of flat ones -/
def glB (K : Frag) (x : Str) (p : PV) : Bool := match p with
  | .int i => (He.Fa.int x i).ok K
  | .str z => (He.Fa.str x z).ok K
  | .tup xs => He.eqO (PySem.W.nsIn K mainGlobals x) (some (some (.ref (He.ga K x)))) && He.tupB K x (xs.map fun q => match q with
    | .int i => .int i
    | .str z => .str z
    | .bl b => .bl b
    | _ => .non) && xs.all fun q => match q with
    | .int _ => true
    | .str _ => true
    | .bl _ => true
    | .non => true
    | _ => false
  | _ => false
def dvP (q : PV) : He.Dv := match q with
  | .int i => .int i
  | .str z => .str z
  | .bl b => .bl b
  | _ => .non
theorem rep_flat {K : Frag} {H : Hp} {ρ : List Addr} {K' : Frag} {q : PV} (h : (match q with
    | PV.int _ => true
    | PV.str _ => true
    | PV.bl _ => true
    | PV.non => true
    | _ => false) = true) : Rep K' H ρ q ((dvP q).v K) := by
  cases q with
  | int i => exact .int i
  | str i => exact .str i
  | bl i => exact .bl i
  | non => exact .non
  | _ => cases h
theorem tup_k {K : Frag} {x : Str} {vs : List He.Dv} (h : He.tupB K x vs = true) : ∀ H : Hp, RoT K H (He.ga K x) (vs.map (He.Dv.v K)) := by
  unfold He.tupB at h
  intro H
  cases q : K.lookup (He.ga K x) with
  | none => rw [q] at h; cases h
  | some o =>
    obtain ⟨oc, od, dt, osl⟩ := o
    rw [q] at h
    cases oc with
    | type c =>
      cases dt with
      | seq its n =>
        obtain ⟨h1, h2⟩ := He.ba (show (decide (c = "tuple") && (decide (its.size ≤ sizeLine) && He.relAll (vs.map (He.Dv.v K)) its.toList)) = true from h)
        obtain ⟨h3, h4⟩ := He.ba h2
        exact .inr ⟨_, its, n, q, congrArg Value.type (of_decide_eq_true h1), rfl, of_decide_eq_true h3, He.relAll_ok h4⟩
      | _ => cases h
    | _ => cases od <;> cases dt <;> cases h
theorem gl_ok {G : PCfg} {h : Heap} {mg : Str → Option Value} {x : Str} {p : PV} (X : G.K.In h) (N : h.Ns mainGlobals mg) (e : glB G.K x p = true) : GloC G mg x p := by
  cases p with
  | int i =>
    obtain ⟨t, q⟩ := He.int_ok X N (x := x) (i := i) e
    exact ⟨_, .int i, q, ⟨t, rfl⟩, fun _ _ => .int i⟩
  | str i =>
    obtain ⟨t, q⟩ := He.str_ok X N (x := x) (z := i) e
    exact ⟨_, .str i, q, ⟨t, rfl⟩, fun _ _ => .str i⟩
  | tup xs =>
    obtain ⟨e1, e2⟩ := He.ba (show (_ && _) = true from e)
    obtain ⟨e3, e4⟩ := He.ba e1
    have ht := fun H => tup_k (K := G.K) (x := x) (vs := xs.map dvP) e4 H
    refine ⟨_, .ref (He.ga G.K x), PySem.W.mg_of X N (He.eqO_ok e3), rfl, fun H ρ => .mkTup (ht H) ?_⟩
    have k : ∀ xs : List PV, (xs.all fun q => match q with
        | PV.int _ => true
        | PV.str _ => true
        | PV.bl _ => true
        | PV.non => true
        | _ => false) = true → Reps G.K H ρ xs ((xs.map dvP).map (He.Dv.v G.K)) := fun xs => by
      induction xs with
      | nil => intro _; exact .nil
      | cons q qs ih =>
        intro z
        rw [List.all_cons, Bool.and_eq_true] at z
        exact .cons (rep_flat z.1) (ih z.2)
    exact k xs e2
  | _ => cases e
def freeB (K : Frag) (x : Str) : Bool := He.eqO (PySem.W.nsIn K mainGlobals x) (some none)
def gloB (K : Frag) (x : Str) : Bool := He.eqO (PySem.W.nsIn K mainGlobals x) (some (some (.ref (He.ga K x))))
theorem all_mem {α : Type} {f : α → Bool} {l : List α} (h : l.all f = true) (i : Nat) {x : α} (e : l[i]? = some x := by rfl) : f x = true := List.all_eq_true.mp h x (List.mem_of_getElem? e)
theorem free_ok {K : Frag} {h : Heap} {mg : Str → Option Value} {x : Str} (X : K.In h) (N : h.Ns mainGlobals mg) (e : freeB K x = true) : mg x = none := PySem.W.mg_none_of X N (He.eqO_ok e)
theorem glo_ok {K : Frag} {h : Heap} {mg : Str → Option Value} {x : Str} (X : K.In h) (N : h.Ns mainGlobals mg) (e : gloB K x = true) : mg x = some (.ref (He.ga K x)) := PySem.W.mg_of X N (He.eqO_ok e)
theorem cx_none {P : Program} {w : World} {H : Hp} {s : Shared} {e : Value} {s' : Shared} : L2.CX P w [] H s (fun _ _ _ => False) e s' → False := fun ⟨_, _, _, _, _, _, _, _, _, _, _, _, h⟩ => h
end Py

end

section
/-! What is known behind a result: a small logic over the language. -/
namespace Py
open PySem

abbrev XP := Nat → List (Nat × PV) → PH → Prop
def NX : XP := fun _ _ _ => False
def wp {α : Type} (r : Rs α) (Q : α → PH → Prop) (X : XP) : Prop := match r with
  | .ok a h => Q a h
  | .exc c fs h => X c fs h
  | .bad => False
structure Po where
  nx : Env → PH → Prop
  rt : PV → PH → Prop
  bk : Env → PH → Prop := fun _ _ => False
  ct : Env → PH → Prop := fun _ _ => False
  ex : Nat → List (Nat × PV) → Env → PH → Prop := fun _ _ _ _ => False
def ws (r : Ro) (P : Po) : Prop := match r with
  | .nrm e h => P.nx e h
  | .ret v h => P.rt v h
  | .brk e h => P.bk e h
  | .cnt e h => P.ct e h
  | .exc c fs e h => P.ex c fs e h
  | .bad => False
section
variable {α β : Type} {Q Q' : α → PH → Prop} {X X' : XP} {r : Rs α} {h : PH} {env : Env}
theorem wp_mono (w : wp r Q X) (k : ∀ a h', Q a h' → Q' a h') : wp r Q' X := by
  cases r with
  | ok a h1 => exact k _ _ w
  | exc c fs h1 => exact w
  | bad => exact w
theorem wp_monoX (w : wp r Q X) (k : ∀ a h', Q a h' → Q' a h') (kx : ∀ c fs h', X c fs h' → X' c fs h') : wp r Q' X' := by
  cases r with
  | ok a h1 => exact k _ _ w
  | exc c fs h1 => exact kx _ _ _ w
  | bad => exact w
theorem wp_get (w : wp r Q NX) : ∃ a h', r = .ok a h' ∧ Q a h' := by
  cases r with
  | ok a h1 => exact ⟨a, h1, rfl, w⟩
  | exc c fs h1 => exact w.elim
  | bad => exact w.elim
theorem wp_ok {a : α} : wp (.ok a h) Q X ↔ Q a h := Iff.rfl
theorem wp_bad : wp (.bad : Rs α) Q X ↔ False := Iff.rfl
theorem wp_exc {c fs} : wp (.exc c fs h : Rs α) Q X ↔ X c fs h := Iff.rfl
theorem wp_bind {r : Rs β} {k : β → PH → Rs α} : wp (r.bind k) Q X ↔ wp r (fun a h' => wp (k a h') Q X) X := by cases r <;> exact Iff.rfl
theorem wp_congr {Q Q' : α → PH → Prop} {r : Rs α} (k : ∀ a h', Q a h' ↔ Q' a h') : wp r Q X ↔ wp r Q' X := ⟨fun w => wp_mono w fun a h' => (k a h').mp, fun w => wp_mono w fun a h' => (k a h').mpr⟩
theorem wp_ite {c : Prop} [Decidable c] {r r' : Rs α} : wp (if c then r else r') Q X ↔ (if c then wp r Q X else wp r' Q X) := by split <;> exact Iff.rfl
theorem ws_ite {c : Prop} [Decidable c] {r r' : Ro} {P : Po} : ws (if c then r else r') P ↔ (if c then ws r P else ws r' P) := by split <;> exact Iff.rfl
end
section
variable {Q : PV → PH → Prop} {QB : Bool → PH → Prop} {QA : List PV → PH → Prop} {X : XP} {h : PH} {env : Env} {f g k : Ef} {t u : Tf} {l : Af}
theorem wp_var {i : Nat} {p : PV} (e : env[i]? = some (some p)) : wp (var i env h) Q X ↔ Q p h := by
  unfold var
  rw [e]
  exact Iff.rfl
theorem wp_cst {p : PV} : wp (cst p env h) Q X ↔ Q p h := Iff.rfl
theorem wp_bin {s : Op2} : wp (bin s f g env h) Q X ↔ wp (f env h) (fun p h1 => wp (g env h1) (fun q h2 => wp (s p q h2) Q X) X) X := by
  unfold bin
  rw [wp_bind]
  simp only [wp_bind]
theorem wp_tst : wp (tst f env h) QB X ↔ wp (f env h) (fun p h1 => ∃ b, p = .bl b ∧ QB b h1) X := by
  unfold tst
  rw [wp_bind]
  cases f env h with
  | ok p h1 =>
    show wp _ _ _ ↔ ∃ b, p = .bl b ∧ QB b h1
    cases p with
    | bl b => exact ⟨fun q => ⟨b, rfl, q⟩, fun ⟨b', e, q⟩ => by cases e; exact q⟩
    | _ => exact ⟨fun q => q.elim, fun ⟨b', e, q⟩ => by cases e⟩
  | _ => exact Iff.rfl
theorem wp_andT : wp (andT t u env h) QB X ↔ wp (t env h) (fun b h1 => (b = true → wp (u env h1) QB X) ∧ (b = false → QB false h1)) X := by
  unfold andT
  rw [wp_bind]
  cases t env h with
  | ok b h1 => cases b <;> simp [wp]
  | _ => exact Iff.rfl
theorem wp_orT : wp (orT t u env h) QB X ↔ wp (t env h) (fun b h1 => (b = true → QB true h1) ∧ (b = false → wp (u env h1) QB X)) X := by
  unfold orT
  rw [wp_bind]
  cases t env h with
  | ok b h1 => cases b <;> simp [wp]
  | _ => exact Iff.rfl
theorem wp_notT : wp (notT t env h) QB X ↔ wp (t env h) (fun b h1 => QB (!b) h1) X := by
  unfold notT
  rw [wp_bind]
  exact Iff.rfl
theorem wp_andE : wp (andE f g env h) Q X ↔ wp (tst f env h) (fun b h1 => (b = true → wp (g env h1) Q X) ∧ (b = false → Q (.bl false) h1)) X := by
  unfold andE
  rw [wp_bind]
  cases tst f env h with
  | ok b h1 => cases b <;> simp [wp]
  | _ => exact Iff.rfl
theorem wp_orE : wp (orE f g env h) Q X ↔ wp (tst f env h) (fun b h1 => (b = true → Q (.bl true) h1) ∧ (b = false → wp (g env h1) Q X)) X := by
  unfold orE
  rw [wp_bind]
  cases tst f env h with
  | ok b h1 => cases b <;> simp [wp]
  | _ => exact Iff.rfl
theorem wp_notE : wp (notE f env h) Q X ↔ wp (tst f env h) (fun b h1 => Q (.bl (!b)) h1) X := by
  unfold notE
  rw [wp_bind]
  exact Iff.rfl
theorem wp_ifE : wp (ifE t f g env h) Q X ↔ wp (t env h) (fun b h1 => (b = true → wp (f env h1) Q X) ∧ (b = false → wp (g env h1) Q X)) X := by
  unfold ifE
  rw [wp_bind]
  cases t env h with
  | ok b h1 => cases b <;> simp [wp]
  | _ => exact Iff.rfl
theorem wp_nilA : wp (nilA env h) QA X ↔ QA [] h := Iff.rfl
theorem wp_consA : wp (consA f l env h) QA X ↔ wp (f env h) (fun p h1 => wp (l env h1) (fun ps h2 => QA (p :: ps) h2) X) X := by
  unfold consA
  rw [wp_bind]
  simp only [wp_bind]
  exact Iff.rfl
theorem wp_tupE : wp (tupE l env h) Q X ↔ wp (l env h) (fun ps h1 => ps.length ≤ sizeLine ∧ Q (.tup ps) h1) X := by
  unfold tupE
  rw [wp_bind]
  cases l env h with
  | ok ps h1 =>
    by_cases z : ps.length ≤ sizeLine <;> simp [wp, z]
  | _ => exact Iff.rfl
theorem wp_lstE : wp (lstE l env h) Q X ↔ wp (l env h) (fun ps h1 => ps.length ≤ sizeLine ∧ Q (.obj h1.length) (h1 ++ [.lst ps])) X := by
  unfold lstE
  rw [wp_bind]
  cases l env h with
  | ok ps h1 =>
    by_cases z : ps.length ≤ sizeLine <;> simp [wp, z, newL]
  | _ => exact Iff.rfl
theorem wp_appE {s : List PV → PH → Rs PV} : wp (appE s l env h) Q X ↔ wp (l env h) (fun ps h1 => wp (s ps h1) Q X) X := by
  unfold appE
  rw [wp_bind]
theorem wp_callE {F : Fn} {n : Nat} : wp (callE F n l env h) Q X ↔ wp (l env h) (fun ps h1 => ps.length = n ∧ wp (F ps h1) Q X) X := by
  unfold callE
  rw [wp_bind]
  cases l env h with
  | ok ps h1 =>
    by_cases z : ps.length = n <;> simp [wp, z]
  | _ => exact Iff.rfl
theorem wp_mE {ty : PH → PV → Bool} {s : PV → List PV → PH → Rs PV} : wp (mE ty s f l env h) Q X ↔ wp (f env h) (fun p h1 => ty h1 p = true ∧ wp (l env h1) (fun ps h2 => wp (s p ps h2) Q X) X) X := by
  unfold mE
  rw [wp_bind]
  refine wp_congr fun p h1 => ?_
  by_cases z : ty h1 p = true
  · simp only [z, if_true, true_and]
    rw [wp_bind]
  · rw [if_neg z]
    exact ⟨fun q => q.elim, fun q => absurd q.1 z⟩
theorem wp_isiE {ans : Ty → Option Bool} : wp (isiE ans f env h) Q X ↔ wp (f env h) (fun p h1 => ∃ b, (tyOf h1 p).bind ans = some b ∧ Q (.bl b) h1) X := by
  unfold isiE
  rw [wp_bind]
  refine wp_congr fun p h1 => ?_
  cases e : (tyOf h1 p).bind ans with
  | none => exact ⟨fun q => q.elim, fun ⟨b, q, _⟩ => by cases q⟩
  | some b => exact ⟨fun q => ⟨b, rfl, q⟩, fun ⟨b', q, z⟩ => by cases q; exact z⟩
theorem wp_slE {lo hi : Of} : wp (slE f lo hi env h) Q X ↔ wp (f env h) (fun p h1 => wp (lo env h1) (fun l h2 => wp (hi env h2) (fun u h3 => wp (cutOf p l u h3) Q X) X) X) X := by
  unfold slE
  rw [wp_bind]
  simp only [wp_bind]
theorem wp_noneO {QO : Option Int → PH → Prop} : wp (noneO env h) QO X ↔ QO none h := Iff.rfl
theorem wp_someO {QO : Option Int → PH → Prop} : wp (someO f env h) QO X ↔ wp (f env h) (fun p h1 => ∃ i, p = .int i ∧ QO (some i) h1) X := by
  unfold someO
  rw [wp_bind]
  cases f env h with
  | ok p h1 =>
    show wp _ _ _ ↔ ∃ b, p = .int b ∧ QO (some b) h1
    cases p with
    | int b => exact ⟨fun q => ⟨b, rfl, q⟩, fun ⟨b', e, q⟩ => by cases e; exact q⟩
    | _ => exact ⟨fun q => q.elim, fun ⟨b', e, q⟩ => by cases e⟩
  | _ => exact Iff.rfl
theorem wp_chain {s s' : Op2} : wp (chain s s' f g k env h) Q X ↔ wp (f env h) (fun p h1 => wp (g env h1) (fun q h2 => wp (s p q h2) (fun z h3 => ∃ b, z = .bl b ∧ ((b = true → wp (k env h3) (fun u h4 => wp (s' q u h4) Q X) X) ∧ (b = false → Q (.bl false) h3))) X) X) X := by
  unfold chain
  rw [wp_bind]
  refine wp_congr fun p h1 => ?_
  rw [wp_bind]
  refine wp_congr fun q h2 => ?_
  rw [wp_bind]
  refine wp_congr fun z h3 => ?_
  cases z with
  | bl b =>
    cases b with
    | true =>
      show wp ((k env h3).bind _) Q X ↔ _
      rw [wp_bind]
      exact ⟨fun q => ⟨true, rfl, fun _ => q, fun e => (by cases e)⟩, fun ⟨b, e, q, _⟩ => by cases e; exact q rfl⟩
    | false => exact ⟨fun q => ⟨false, rfl, (fun e => by cases e), fun _ => q⟩, fun ⟨b, e, _, q⟩ => by cases e; exact q rfl⟩
  | _ => exact ⟨fun q => q.elim, fun ⟨b', e, q⟩ => by cases e⟩
end
/-! statements -/
section
variable {P : Po} {h : PH} {env : Env} {f : Ef} {t : Tf} {s s' : Sf}
def exE (P : Po) (env : Env) : XP := fun c fs h => P.ex c fs env h
theorem ws_nop : ws (nopS env h) P ↔ P.nx env h := Iff.rfl
theorem ws_brk : ws (brkS env h) P ↔ P.bk env h := Iff.rfl
theorem ws_cnt : ws (cntS env h) P ↔ P.ct env h := Iff.rfl
theorem ws_seq : ws (seqS s s' env h) P ↔ ws (s env h) { P with nx := fun e h' => ws (s' e h') P } := by
  unfold seqS
  cases s env h <;> exact Iff.rfl
theorem ws_expr : ws (exprS f env h) P ↔ wp (f env h) (fun _ h' => P.nx env h') (exE P env) := by
  unfold exprS
  cases f env h <;> exact Iff.rfl
theorem ws_ret : ws (retS f env h) P ↔ wp (f env h) P.rt (exE P env) := by
  unfold retS
  cases f env h <;> exact Iff.rfl
theorem ws_retN : ws (retN env h) P ↔ P.rt .non h := Iff.rfl
theorem ws_if : ws (ifS t s s' env h) P ↔ wp (t env h) (fun b h1 => (b = true → ws (s env h1) P) ∧ (b = false → ws (s' env h1) P)) (exE P env) := by
  unfold ifS
  cases t env h with
  | ok b h1 => cases b <;> simp [wp]
  | _ => exact Iff.rfl
theorem ws_asg {g : Gf} : ws (asgS f g env h) P ↔ wp (f env h) (fun p h1 => ∃ env', g p env = some env' ∧ P.nx env' h1) (exE P env) := by
  unfold asgS
  cases f env h with
  | ok p h1 =>
    cases e : g p env with
    | none => simp [wp, ws, e]
    | some env' => simp [wp, ws, e]
  | _ => exact Iff.rfl
theorem ws_asgN {i : Nat} : ws (asgS f (nameG i) env h) P ↔ wp (f env h) (fun p h1 => P.nx (env.set i (some p)) h1) (exE P env) := by
  rw [ws_asg]
  simp only [nameG, Option.some.injEq, exists_eq_left']
theorem ws_set {fv fo fi : Ef} : ws (setS fv fo fi env h) P ↔ wp (fv env h) (fun v h1 => wp (fo env h1) (fun o h2 => wp (fi env h2) (fun i h3 => ∃ h4, setV o i v h3 = some h4 ∧ P.nx env h4) (exE P env)) (exE P env)) (exE P env) := by
  unfold setS
  rw [ws_expr]
  unfold setE
  have k : ∀ o i v h3, wp (match setV o i v h3 with | some h4 => Rs.ok PV.non h4 | none => Rs.bad) (fun _ h' => P.nx env h') (exE P env) ↔ ∃ h4, setV o i v h3 = some h4 ∧ P.nx env h4 := fun o i v h3 => by
    cases e : setV o i v h3 with
    | none => simp [wp]
    | some h4 => simp [wp]
  rw [wp_bind]
  refine wp_congr fun v h1 => ?_
  rw [wp_bind]
  refine wp_congr fun o h2 => ?_
  rw [wp_bind]
  exact wp_congr fun i h3 => k o i v h3
end
/-! loops -/
theorem forGo_inv {chk : PH → Bool} {g : Gf} {b : Sf} {P : Po} (I : Nat → Env → PH → Prop) (xs : List PV)
    (hs : ∀ (i : Nat) (x : PV) (env : Env) (h : PH), xs[i]? = some x → I i env h → chk h = true ∧ ∃ env', g x env = some env' ∧ ws (b env' h) { P with nx := I (i + 1), ct := I (i + 1) })
    (hd : ∀ env h, I xs.length env h → chk h = true ∧ P.nx env h) :
    ∀ (n : Nat) (env : Env) (h : PH), n ≤ xs.length → I n env h → ws (forGo chk g b (xs.drop n) env h) P := by
  intro n env h hn
  induction k : xs.length - n generalizing n env h with
  | zero =>
    intro i
    have e : n = xs.length := by omega
    subst e
    rw [List.drop_length]
    obtain ⟨c, d⟩ := hd env h i
    show ws (if chk h = true then _ else _) P
    rw [if_pos c]
    exact d
  | succ k ih =>
    intro i
    have hlt : n < xs.length := by omega
    rw [List.drop_eq_getElem_cons hlt]
    obtain ⟨c, env', e, w⟩ := hs n xs[n] env h (by simp [hlt]) i
    show ws (if chk h = true then _ else _) P
    rw [if_pos c]
    simp only [e]
    cases q : b env' h with
    | nrm e2 h2 => rw [q] at w; exact ih (n + 1) e2 h2 (by omega) (by omega) w
    | cnt e2 h2 => rw [q] at w; exact ih (n + 1) e2 h2 (by omega) (by omega) w
    | ret v h2 => rw [q] at w; exact w
    | brk e2 h2 => rw [q] at w; exact w
    | exc c fs e2 h2 => rw [q] at w; exact w
    | bad => rw [q] at w; exact w
/-- a for loop by an invariant -/
theorem ws_for {it : If} {g : Gf} {b : Sf} {el : Sf} {P : Po} {env : Env} {h : PH} (src : Src) (h1 : PH) (hi : it env h = .ok src h1) (I : Nat → Env → PH → Prop) (h0 : I 0 env h1)
    (hs : ∀ (i : Nat) (x : PV) (env : Env) (h : PH), src.items[i]? = some x → I i env h → src.Stands h ∧ ∃ env', g x env = some env' ∧ ws (b env' h) { P with nx := I (i + 1), ct := I (i + 1), bk := P.nx })
    (hd : ∀ env h, I src.items.length env h → src.Stands h ∧ ws (el env h) P) : ws (forS it g b el env h) P := by
  have w := forGo_inv (chk := src.chk) (g := g) (b := b) (P := { P with nx := fun e h => ws (el e h) P, bk := P.nx }) I src.items (fun i x env h e z => by
    obtain ⟨a, c⟩ := hs i x env h e z
    exact ⟨Src.chk_iff.mpr a, c⟩) (fun env h z => by
    obtain ⟨a, c⟩ := hd env h z
    exact ⟨Src.chk_iff.mpr a, c⟩) 0 env h1 (Nat.zero_le _) h0
  unfold forS
  simp only [hi]
  rw [List.drop_zero] at w
  cases q : forGo src.chk g b src.items env h1 with
  | nrm e2 h2 => rw [q] at w; exact w
  | cnt e2 h2 => rw [q] at w; exact w
  | ret v h2 => rw [q] at w; exact w
  | brk e2 h2 => rw [q] at w; exact w
  | exc c fs e2 h2 => rw [q] at w; exact w
  | bad => rw [q] at w; exact w
/-- a comprehension by an invariant: the list so far stands at n -/
theorem lcGo_inv {chk : PH → Bool} {g : Gf} {vs : List Nat} {t : Tf} {f : Ef} {n : Nat} {env : Env} {Q : PV → PH → Prop} {X : XP} (I : Nat → PH → Prop) (xs : List PV)
    (hs : ∀ (i : Nat) (x : PV) (h : PH), xs[i]? = some x → I i h → chk h = true ∧ ∃ env', g x (wipeE env vs) = some env' ∧ wp (t env' h) (fun b h2 => (b = true → wp (f env' h2) (fun p h3 => ∃ acc, h3[n]? = some (.lst acc) ∧ acc.length < sizeLine ∧ I (i + 1) (h3.set n (.lst (acc ++ [p])))) NX) ∧ (b = false → I (i + 1) h2)) NX)
    (hd : ∀ h, I xs.length h → chk h = true ∧ Q (.obj n) h) :
    ∀ (m : Nat) (h : PH), m ≤ xs.length → I m h → wp (lcGo chk g vs t f n env (xs.drop m) h) Q X := by
  intro m h hm
  induction k : xs.length - m generalizing m h with
  | zero =>
    intro i
    have e : m = xs.length := by omega
    subst e
    rw [List.drop_length]
    obtain ⟨c, d⟩ := hd h i
    show wp (if chk h = true then _ else _) Q X
    rw [if_pos c]
    exact d
  | succ k ih =>
    intro i
    have hlt : m < xs.length := by omega
    rw [List.drop_eq_getElem_cons hlt]
    obtain ⟨c, env', e, w⟩ := hs m xs[m] h (by simp [hlt]) i
    show wp (if chk h = true then _ else _) Q X
    rw [if_pos c]
    simp only [e]
    cases q : t env' h with
    | ok b h2 =>
      rw [q] at w
      cases b with
      | false => exact ih (m + 1) h2 (by omega) (by omega) (w.2 rfl)
      | true =>
        have w2 := w.1 rfl
        simp only [if_true]
        cases q2 : f env' h2 with
        | ok p h3 =>
          rw [q2] at w2
          obtain ⟨acc, e3, z, j⟩ := w2
          simp only [e3, if_pos z]
          exact ih (m + 1) _ (by omega) (by omega) j
        | exc c fs h3 => rw [q2] at w2; exact w2.elim
        | bad => rw [q2] at w2; exact w2.elim
    | exc c fs h2 => rw [q] at w; exact w.elim
    | bad => rw [q] at w; exact w.elim
theorem wp_lc {it : If} {g : Gf} {vs : List Nat} {t : Tf} {f : Ef} {env : Env} {h : PH} {Q : PV → PH → Prop} {X : XP} (src : Src) (h1 : PH) (hi : it env h = .ok src h1) (I : Nat → PH → Prop) (h0 : I 0 (h1 ++ [.lst []]))
    (hs : ∀ (i : Nat) (x : PV) (h : PH), src.items[i]? = some x → I i h → src.Stands h ∧ ∃ env', g x (wipeE env vs) = some env' ∧ wp (t env' h) (fun b h2 => (b = true → wp (f env' h2) (fun p h3 => ∃ acc, h3[h1.length]? = some (.lst acc) ∧ acc.length < sizeLine ∧ I (i + 1) (h3.set h1.length (.lst (acc ++ [p])))) NX) ∧ (b = false → I (i + 1) h2)) NX)
    (hd : ∀ h, I src.items.length h → src.Stands h ∧ Q (.obj h1.length) h) : wp (lcE it g vs t f env h) Q X := by
  have w := lcGo_inv (chk := src.chk) (g := g) (vs := vs) (t := t) (f := f) (n := h1.length) (env := env) (Q := Q) (X := X) I src.items (fun i x h e z => by
    obtain ⟨a, c⟩ := hs i x h e z
    exact ⟨Src.chk_iff.mpr a, c⟩) (fun h z => by
    obtain ⟨a, c⟩ := hd h z
    exact ⟨Src.chk_iff.mpr a, c⟩) 0 (h1 ++ [.lst []]) (Nat.zero_le _) h0
  rw [List.drop_zero] at w
  unfold lcE
  rw [hi]
  exact w
/-- a def's body -/
theorem wp_runB {n : Nat} {b : Sf} {ps : List PV} {h : PH} {Q : PV → PH → Prop} {X : XP} (w : ws (b (ps.map some ++ List.replicate (n - ps.length) none) h) { nx := fun _ h' => Q .non h', rt := Q, ex := fun c fs _ h' => X c fs h' }) : wp (runB n b ps h) Q X := by
  unfold runB
  cases q : b (ps.map some ++ List.replicate (n - ps.length) none) h with
  | nrm e2 h2 => rw [q] at w; exact w
  | ret v h2 => rw [q] at w; exact w
  | exc c fs e2 h2 => rw [q] at w; exact w
  | brk e2 h2 => rw [q] at w; exact w.elim
  | cnt e2 h2 => rw [q] at w; exact w.elim
  | bad => rw [q] at w; exact w.elim
end Py

end

section
/-! The steps of the logic, from the head. -/
namespace Py
open PySem
section
variable {Q : PV → PH → Prop} {X : XP} {h : PH}
theorem wp_addI {a b : Int} : wp (addV (.int a) (.int b) h) Q X ↔ Q (.int (a + b)) h := Iff.rfl
theorem wp_subI {a b : Int} : wp (subV (.int a) (.int b) h) Q X ↔ Q (.int (a - b)) h := Iff.rfl
theorem wp_mulI {a b : Int} : wp (mulV (.int a) (.int b) h) Q X ↔ mulOk a b = true ∧ Q (.int (a * b)) h := by
  show wp (if mulOk a b = true then okI (a * b) h else .bad) Q X ↔ _
  split <;> simp [*, wp]
theorem wp_modI {a b : Int} : wp (modV (.int a) (.int b) h) Q X ↔ 0 < b ∧ Q (.int (a % b)) h := by
  show wp (if 0 < b then okI (a % b) h else .bad) Q X ↔ _
  split <;> simp [*, wp]
theorem wp_divI {a b : Int} : wp (divV (.int a) (.int b) h) Q X ↔ divOk b = true ∧ Q (.int (a / b)) h := by
  show wp (if divOk b = true then okI (a / b) h else .bad) Q X ↔ _
  split <;> simp [*, wp]
theorem wp_powI {a b : Int} : wp (powV (.int a) (.int b) h) Q X ↔ powOk a b = true ∧ Q (.int (a ^ b.toNat)) h := by
  show wp (if powOk a b = true then okI (a ^ b.toNat) h else .bad) Q X ↔ _
  split <;> simp [*, wp]
theorem wp_cmpI {p : Int → Int → Bool} {q : Str → Str → Bool} {a b : Int} : wp (cmpV p q (.int a) (.int b) h) Q X ↔ Q (.bl (p a b)) h := Iff.rfl
theorem wp_eqI {a b : Int} : wp (eqV (.int a) (.int b) h) Q X ↔ Q (.bl (a == b)) h := Iff.rfl
theorem wp_neI {a b : Int} : wp (neV (.int a) (.int b) h) Q X ↔ Q (.bl (!(a == b))) h := Iff.rfl
theorem wp_intI {a : Int} : wp (intL [.int a] h) Q X ↔ Q (.int a) h := Iff.rfl
theorem wp_absI {a : Int} : wp (absL [.int a] h) Q X ↔ Q (.int (if a < 0 then -a else a)) h := Iff.rfl
theorem wp_ixO {n : Nat} {i : Int} : wp (ixV (.obj n) (.int i) h) Q X ↔ (match h[n]? with | some (.lst xs) => (match L2.atI xs i with | some p => Q p h | none => False) | _ => False) := by
  have : ixV (.obj n) (.int i) h = (match h[n]? with | some (.lst xs) => (match L2.atI xs i with | some x => Rs.ok x h | none => .bad) | _ => .bad) := by
    simp only [ixV, seqAt, lstAt]
    cases e : h[n]? with
    | none => rfl
    | some o => cases o <;> rfl
  rw [this]
  cases e : h[n]? with
  | none => exact Iff.rfl
  | some o =>
    cases o with
    | lst xs =>
      dsimp only
      cases e2 : L2.atI xs i <;> exact Iff.rfl
    | _ => exact Iff.rfl
theorem wp_lenO {n : Nat} : wp (lenL [.obj n] h) Q X ↔ (match h[n]? with | some (.lst xs) => Q (.int xs.length) h | _ => False) := by
  have : lenL [.obj n] h = (match h[n]? with | some (.lst xs) => okI xs.length h | _ => .bad) := by
    simp only [lenL, lenP, seqAt, lstAt]
    cases e : h[n]? with
    | none => rfl
    | some o => cases o <;> rfl
  rw [this]
  cases e : h[n]? with
  | none => exact Iff.rfl
  | some o => cases o <;> exact Iff.rfl
theorem ex_setV {n : Nat} {i : Int} {v : PV} {P : PH → Prop} : (∃ h4, setV (.obj n) (.int i) v h = some h4 ∧ P h4) ↔ (match h[n]? with | some (.lst xs) => (match L2.ixN xs.length i with | some j => P (h.set n (.lst (xs.set j v))) | none => False) | _ => False) := by
  have : setV (.obj n) (.int i) v h = (match h[n]? with | some (.lst xs) => (match L2.ixN xs.length i with | some j => some (h.set n (.lst (xs.set j v))) | none => none) | _ => none) := rfl
  rw [this]
  cases e : h[n]? with
  | none => simp
  | some o =>
    cases o with
    | lst xs =>
      dsimp only
      cases e2 : L2.ixN xs.length i <;> simp
    | _ => simp
theorem atI_lit {α : Type} {xs : List α} {k : Nat} : L2.atI xs (no_index (OfNat.ofNat k : Int)) = xs[k]? := by
  show L2.atI xs ((k : Nat) : Int) = _
  unfold L2.atI L2.ixN
  rw [if_pos (Int.natCast_nonneg k)]
  by_cases e : (k : Int) < xs.length
  · rw [if_pos e]; simp
  · rw [if_neg e]
    have : xs.length ≤ k := by omega
    simp [this]
theorem atI_nat' {α : Type} {xs : List α} {k : Nat} : L2.atI xs (k : Int) = xs[k]? := by
  unfold L2.atI L2.ixN
  rw [if_pos (Int.natCast_nonneg k)]
  by_cases e : (k : Int) < xs.length
  · rw [if_pos e]; simp
  · rw [if_neg e]
    have : xs.length ≤ k := by omega
    simp [this]
theorem ixN_lit {n k : Nat} : L2.ixN n (no_index (OfNat.ofNat k : Int)) = if k < n then some k else none := by
  show L2.ixN n ((k : Nat) : Int) = _
  unfold L2.ixN
  rw [if_pos (Int.natCast_nonneg k)]
  by_cases e : k < n
  · rw [if_pos e, if_pos (by omega)]; simp
  · rw [if_neg e, if_neg (by omega)]
end

section
variable {Q : PV → PH → Prop} {X : XP} {h : PH} {P : Po} {env : Env}
theorem ixO {n : Nat} {i : Int} {xs : List PV} {p : PV} (e : h[n]? = some (.lst xs)) (e2 : L2.atI xs i = some p) (q : Q p h) : wp (ixV (.obj n) (.int i) h) Q X := by
  rw [wp_ixO, e]
  dsimp only
  rw [e2]
  exact q
theorem ixT {xs : List PV} {i : Int} {p : PV} (e2 : L2.atI xs i = some p) (q : Q p h) : wp (ixV (.tup xs) (.int i) h) Q X := by
  have : ixV (.tup xs) (.int i) h = .ok p h := by
    simp only [ixV, seqAt, e2]
  rw [this]
  exact q
theorem lenO {n : Nat} {xs : List PV} (e : h[n]? = some (.lst xs)) (q : Q (.int xs.length) h) : wp (lenL [.obj n] h) Q X := by
  rw [wp_lenO, e]
  exact q
theorem lenT {xs : List PV} (q : Q (.int xs.length) h) : wp (lenL [.tup xs] h) Q X := q
theorem lenS {z : Str} (e : z.length ≤ sizeLine) (q : Q (.int z.length) h) : wp (lenL [.str z] h) Q X := by
  have : lenL [.str z] h = okI z.length h := by simp only [lenL, lenP, if_pos e]
  rw [this]
  exact q
theorem setO {n : Nat} {i : Int} {v : PV} {xs : List PV} {j : Nat} {P : PH → Prop} (e : h[n]? = some (.lst xs)) (e2 : L2.ixN xs.length i = some j) (q : P (h.set n (.lst (xs.set j v)))) : ∃ h4, setV (.obj n) (.int i) v h = some h4 ∧ P h4 := by
  rw [ex_setV, e]
  dsimp only
  rw [e2]
  exact q
theorem modI {a b : Int} (e : 0 < b) (q : Q (.int (a % b)) h) : wp (modV (.int a) (.int b) h) Q X := wp_modI.mpr ⟨e, q⟩
theorem divI {a b : Int} (e : divOk b = true) (q : Q (.int (a / b)) h) : wp (divV (.int a) (.int b) h) Q X := wp_divI.mpr ⟨e, q⟩
theorem mulI {a b : Int} (e : mulOk a b = true) (q : Q (.int (a * b)) h) : wp (mulV (.int a) (.int b) h) Q X := wp_mulI.mpr ⟨e, q⟩
theorem powI {a b : Int} (e : powOk a b = true) (q : Q (.int (a ^ b.toNat)) h) : wp (powV (.int a) (.int b) h) Q X := wp_powI.mpr ⟨e, q⟩
theorem mul_r {a b : Int} (h1 : -(2 ^ 64) < b) (h2 : b < 2 ^ 64) : mulOk a b = true := by
  unfold mulOk
  simp only [Bool.or_eq_true, Bool.and_eq_true, decide_eq_true_eq]
  exact .inr (.inr ⟨h1, h2⟩)
theorem mul_l {a b : Int} (h1 : -(2 ^ 64) < a) (h2 : a < 2 ^ 64) : mulOk a b = true := by
  unfold mulOk
  simp only [Bool.or_eq_true, Bool.and_eq_true, decide_eq_true_eq]
  exact .inr (.inl ⟨h1, h2⟩)
theorem div_ok {b : Int} (h1 : 0 < b) (h2 : b < 2 ^ 64) : divOk b = true := by
  unfold divOk
  simp only [Bool.and_eq_true, decide_eq_true_eq]
  refine ⟨h1, ?_⟩
  have : b.natAbs < 2 ^ 64 := by omega
  have h3 : b.natAbs ≠ 0 := by omega
  have := (Nat.log2_lt h3).mpr this
  omega
theorem brT {A B : Prop} (q : A) : (true = true → A) ∧ (true = false → B) := ⟨fun _ => q, fun e => nomatch e⟩
theorem brF {A B : Prop} (q : B) : (false = true → A) ∧ (false = false → B) := ⟨(fun e => nomatch e), fun _ => q⟩
theorem br {c : Bool} {A B : Prop} (t : c = true → A) (f : c = false → B) : (c = true → A) ∧ (c = false → B) := ⟨t, f⟩
theorem exB {b : Bool} {P : Bool → Prop} (q : P b) : ∃ c, PV.bl b = .bl c ∧ P c := ⟨b, rfl, q⟩
theorem exI {b : Int} {P : Int → Prop} (q : P b) : ∃ c, PV.int b = .int c ∧ P c := ⟨b, rfl, q⟩
theorem andL {a b : Prop} (x : a) (q : b) : a ∧ b := ⟨x, q⟩
end
end Py

end

section
/-! The stepping by the head. -/
namespace Py
open PySem
section
variable {Q : PV → PH → Prop} {QB : Bool → PH → Prop} {X : XP} {h h' : PH} {P : Po} {env : Env}
theorem varI {i : Nat} {p : PV} (e : env[i]? = some (some p)) (q : Q p h) : wp (var i env h) Q X := (wp_var e).mpr q
theorem getset {n : Nat} {o : PO} (e : n < h.length) : (h.set n o)[n]? = some o := List.getElem?_set_self e
theorem getne {n m : Nat} {o : PO} {x : Option PO} (e : m ≠ n) (k : h[m]? = x) : (h.set n o)[m]? = x := by rw [List.getElem?_set_ne (Ne.symm e)]; exact k
theorem getold {n : Nat} {o o' : PO} (k : h[n]? = some o) : (h ++ [o'])[n]? = some o := by
  rw [List.getElem?_append_left (List.getElem?_eq_some_iff.mp k).1]; exact k
theorem getnew {o : PO} : (h ++ [o])[h.length]? = some o := by simp
theorem getnew' {o : PO} {n : Nat} (e : n = h.length) : (h ++ [o])[n]? = some o := by subst e; simp
theorem mulAny {a b : Int} (c : (-(2 ^ 64) < a ∧ a < 2 ^ 64) ∨ (-(2 ^ 64) < b ∧ b < 2 ^ 64)) : mulOk a b = true := c.elim (fun ⟨x, y⟩ => mul_l x y) fun ⟨x, y⟩ => mul_r x y
/-- for an answer that is at hand -/
theorem wp_use {α : Type} {r : Rs α} {Q Q' : α → PH → Prop} {X : XP} (w : wp r Q NX) (k : ∀ a h', Q a h' → Q' a h') : wp r Q' X := by
  cases r with
  | ok a h1 => exact k _ _ w
  | exc c fs h1 => exact w.elim
  | bad => exact w.elim
end
/-! iterators -/
section
variable {P : Po} {h h1 : PH} {env : Env}
def forIn (src : Src) (g : Gf) (b : Sf) (el : Sf) (P : Po) (env : Env) (h : PH) : Prop := ws (forS (fun _ _ => .ok src h) g b el env h) P
theorem ws_forW {it : If} {g : Gf} {b : Sf} {el : Sf} (w : wp (it env h) (fun src h1 => forIn src g b el P env h1) (exE P env)) : ws (forS it g b el env h) P := by
  unfold forS
  cases e : it env h with
  | ok src h1 => rw [e] at w; exact w
  | exc c fs h1 => rw [e] at w; exact w
  | bad => rw [e] at w; exact w
theorem ws_forIn {src : Src} {g : Gf} {b : Sf} {el : Sf} (I : Nat → Env → PH → Prop) (h0 : I 0 env h)
    (hs : ∀ (i : Nat) (x : PV) (env : Env) (h : PH), src.items[i]? = some x → I i env h → src.Stands h ∧ ∃ env', g x env = some env' ∧ ws (b env' h) { P with nx := I (i + 1), ct := I (i + 1), bk := P.nx })
    (hd : ∀ env h, I src.items.length env h → src.Stands h ∧ ws (el env h) P) : forIn src g b el P env h := ws_for src h rfl I h0 hs hd
def lcIn (src : Src) (g : Gf) (vs : List Nat) (t : Tf) (f : Ef) (Q : PV → PH → Prop) (X : XP) (env : Env) (h : PH) : Prop := wp (lcE (fun _ _ => .ok src h) g vs t f env h) Q X
theorem wp_lcW {it : If} {g : Gf} {vs : List Nat} {t : Tf} {f : Ef} {Q : PV → PH → Prop} {X : XP} (w : wp (it env h) (fun src h1 => lcIn src g vs t f Q X env h1) X) : wp (lcE it g vs t f env h) Q X := by
  unfold lcE
  cases e : it env h with
  | ok src h1 => rw [e] at w; exact w
  | exc c fs h1 => rw [e] at w; exact w
  | bad => rw [e] at w; exact w
theorem wp_lcIn {src : Src} {g : Gf} {vs : List Nat} {t : Tf} {f : Ef} {Q : PV → PH → Prop} {X : XP} (I : Nat → PH → Prop) (h0 : I 0 (h ++ [.lst []]))
    (hs : ∀ (i : Nat) (x : PV) (h2 : PH), src.items[i]? = some x → I i h2 → src.Stands h2 ∧ ∃ env', g x (wipeE env vs) = some env' ∧ wp (t env' h2) (fun b h3 => (b = true → wp (f env' h3) (fun p h4 => ∃ acc, h4[h.length]? = some (.lst acc) ∧ acc.length < sizeLine ∧ I (i + 1) (h4.set h.length (.lst (acc ++ [p])))) NX) ∧ (b = false → I (i + 1) h3)) NX)
    (hd : ∀ h2, I src.items.length h2 → src.Stands h2 ∧ Q (.obj h.length) h2) : lcIn src g vs t f Q X env h := wp_lc src h rfl I h0 hs hd
variable {QS : Src → PH → Prop} {X : XP} {PS : Src → Prop} {Q : PV → PH → Prop}
theorem wp_walkI {f : Ef} (w : wp (f env h) (fun p h1 => ∃ s, srcOf h1 p = some s ∧ QS s h1) X) : wp (walkI f env h) QS X := by
  unfold walkI
  rw [wp_bind]
  refine wp_mono w fun p h1 ⟨s, e, q⟩ => ?_
  rw [e]
  exact q
theorem srcT {xs : List PV} (q : PS (.vals xs)) : ∃ s, srcOf h (.tup xs) = some s ∧ PS s := ⟨_, rfl, q⟩
theorem srcR {xs : List PV} (q : PS (.vals xs)) : ∃ s, srcOf h (.rol xs) = some s ∧ PS s := ⟨_, rfl, q⟩
theorem srcS {z : Str} (q : PS (.vals (chars z))) : ∃ s, srcOf h (.str z) = some s ∧ PS s := ⟨_, rfl, q⟩
theorem srcL {n : Nat} {xs : List PV} (e : h[n]? = some (.lst xs)) (q : PS (.lst n xs)) : ∃ s, srcOf h (.obj n) = some s ∧ PS s := ⟨.lst n xs, by simp only [srcOf, e], q⟩
theorem wp_rngI {k : List PV → Option Src} {g : Af} (w : wp (g env h) (fun ps h1 => ∃ s, k ps = some s ∧ QS s h1) X) : wp (rngI k g env h) QS X := by
  unfold rngI
  rw [wp_bind]
  refine wp_mono w fun p h1 ⟨s, e, q⟩ => ?_
  rw [e]
  exact q
theorem rngA {j : Int} (lo : -(2 ^ 62) ≤ j) (hi : j < 2 ^ 62) (q : PS (.vals ((List.range j.toNat).map fun (i : Nat) => PV.int (0 + (i : Int))))) : ∃ s, rng1 [.int j] = some s ∧ PS s := ⟨_, by simp only [rng1, lo, hi, decide_true, Bool.and_true, if_true], q⟩
theorem rngB {i j : Int} (lo : -(2 ^ 62) ≤ i) (hi : i < 2 ^ 62) (lo2 : -(2 ^ 62) ≤ j) (hi2 : j < 2 ^ 62) (q : PS (.vals ((List.range (j - i).toNat).map fun (k : Nat) => PV.int (i + (k : Int))))) : ∃ s, rng2 [.int i, .int j] = some s ∧ PS s := ⟨_, by simp only [rng2, lo, hi, lo2, hi2, decide_true, Bool.and_true, if_true], q⟩
theorem wp_zipT {g : Af} {xs ys : List PV} {h2 : PH} (w : wp (g env h) (fun ps h1 => ps = [.tup xs, .tup ys] ∧ QS (.vals (zipP xs ys)) h1) X) : wp (zipI g env h) QS X := by
  unfold zipI
  rw [wp_bind]
  refine wp_mono w fun p h1 ⟨e, q⟩ => ?_
  subst e
  exact q
theorem wp_zipI {g : Af} (w : wp (g env h) (fun ps h1 => (match ps with | [.tup xs, .tup ys] => QS (.vals (zipP xs ys)) h1 | [.obj n, .obj m] => ∃ xs ys, h1[n]? = some (.lst xs) ∧ h1[m]? = some (.lst ys) ∧ QS (.lst2 n m (zipP xs ys) xs ys) h1 | _ => False)) X) : wp (zipI g env h) QS X := by
  unfold zipI
  rw [wp_bind]
  refine wp_mono w fun p h1 q => ?_
  split at q
  · exact q
  · obtain ⟨xs, ys, e1, e2, q⟩ := q
    try dsimp only
    simp only [e1, e2]
    exact q
  · exact q.elim
theorem callI {F : Fn} {ps : List PV} {n : Nat} (e : ps.length = n) (q : wp (F ps h) Q X) : ps.length = n ∧ wp (F ps h) Q X := ⟨e, q⟩
theorem appI {n : Nat} {xs : List PV} {y : PV} (e : h[n]? = some (.lst xs)) (z : xs.length < sizeLine) (q : Q .non (h.set n (.lst (xs ++ [y])))) : wp (appendM (.obj n) [y] h) Q X := by
  have : appendM (.obj n) [y] h = .ok .non (h.set n (.lst (xs ++ [y]))) := by simp only [appendM, e, z, if_true]
  rw [this]; exact q
theorem tyL {n : Nat} {xs : List PV} {R : Prop} (e : h[n]? = some (.lst xs)) (q : R) : isLst h (.obj n) = true ∧ R := ⟨by simp only [isLst, lstAt, e, Option.isSome], q⟩
theorem tyS {z : Str} {R : Prop} (q : R) : isStr h (.str z) = true ∧ R := ⟨rfl, q⟩
theorem joinI {z : Str} {p : PV} {ys : List Str} (e : strsAt h p = some ys) (b : (ys.map (·.length)).sum + ys.length * z.length ≤ 16777216) (q : Q (.str (Txt.join z ys)) h) : wp (joinM (.str z) [p] h) Q X := by
  have : joinM (.str z) [p] h = .ok (.str (Txt.join z ys)) h := by simp only [joinM, e, b, if_true]
  rw [this]; exact q
theorem allI {p : PV} {bs : List Bool} (e : blsAt h p = some bs) (q : Q (.bl (bs.all id)) h) : wp (allL [p] h) Q X := by
  have : allL [p] h = .ok (.bl (bs.all id)) h := by simp only [allL, e, okB]
  rw [this]; exact q
theorem anyI {p : PV} {bs : List Bool} (e : blsAt h p = some bs) (q : Q (.bl (bs.any id)) h) : wp (anyL [p] h) Q X := by
  have : anyL [p] h = .ok (.bl (bs.any id)) h := by simp only [anyL, e, okB]
  rw [this]; exact q
theorem addS {a b : Str} (z : a.length + b.length ≤ sizeLine) (q : Q (.str (a ++ b)) h) : wp (addV (.str a) (.str b) h) Q X := by
  have : addV (.str a) (.str b) h = .ok (.str (a ++ b)) h := by simp only [addV, z, if_true]
  rw [this]; exact q
theorem ixS {z : Str} {i : Int} {p : PV} (e : ixV (.str z) (.int i) h = .ok p h) (q : Q p h) : wp (ixV (.str z) (.int i) h) Q X := by rw [e]; exact q
theorem lst_I {g : Af} (w : wp (g env h) (fun ps h1 => ps.length ≤ sizeLine ∧ Q (.obj h1.length) (h1 ++ [.lst ps])) X) : wp (lstE g env h) Q X := wp_lstE.mpr w
theorem szL {ps : List PV} {R : Prop} (e : ps.length ≤ sizeLine) (q : R) : ps.length ≤ sizeLine ∧ R := ⟨e, q⟩
theorem cutL {p : PV} {xs : List PV} {lo hi : Option Int} (e : lstAt h p = some xs) (q : Q (.obj h.length) (h ++ [.lst (cutP xs lo hi)])) : wp (cutOf p lo hi h) Q X := by
  have : cutOf p lo hi h = newL (cutP xs lo hi) h := by
    cases p with
    | str z => cases e
    | tup z => cases e
    | non => cases e
    | bl _ => cases e
    | int _ => cases e
    | cls _ => cases e
    | rol _ => simp only [cutOf, e]
    | obj _ => simp only [cutOf, e]
  rw [this]; exact q
theorem cutSt {z : Str} {lo hi : Option Int} (e : z.length ≤ sizeLine) (q : Q (.str (L2.cutS z lo hi)) h) : wp (cutOf (.str z) lo hi h) Q X := by
  have : cutOf (.str z) lo hi h = .ok (.str (L2.cutS z lo hi)) h := by simp only [cutOf, e, if_true]
  rw [this]; exact q
theorem listI {p : PV} {xs : List PV} (e : seqAt h p = some xs) (q : Q (.obj h.length) (h ++ [.lst xs])) : wp (listL [p] h) Q X := by
  have : listL [p] h = newL xs h := by simp only [listL, e]
  rw [this]; exact q
theorem tupleI {p : PV} {xs : List PV} (e : seqAt h p = some xs) (q : Q (.tup xs) h) : wp (tupleL [p] h) Q X := by
  have : tupleL [p] h = .ok (.tup xs) h := by simp only [tupleL, e]
  rw [this]; exact q
theorem wp_yes {t : Bool → PH → Prop} (q : t true h) : wp (yesT env h) t X := q
theorem seqO {n : Nat} {xs : List PV} (e : h[n]? = some (.lst xs)) : seqAt h (.obj n) = some xs := by simp only [seqAt, lstAt, e]
theorem lstO {n : Nat} {xs : List PV} (e : h[n]? = some (.lst xs)) : lstAt h (.obj n) = some xs := by simp only [lstAt, e]
theorem strsO {n : Nat} {xs : List Str} (e : h[n]? = some (.lst (xs.map PV.str))) : strsAt h (.obj n) = some xs := by
  simp only [strsAt, seqO e, Option.bind]
  clear e
  induction xs with
  | nil => rfl
  | cons x xs ih => rw [List.map_cons, List.mapM_cons]; simp only [unStr, ih]; rfl
theorem blsO {n : Nat} {xs : List Bool} (e : h[n]? = some (.lst (xs.map PV.bl))) : blsAt h (.obj n) = some xs := by
  simp only [blsAt, lstO e, Option.bind]
  clear e
  induction xs with
  | nil => rfl
  | cons x xs ih => rw [List.map_cons, List.mapM_cons]; simp only [unBl, ih]; rfl
theorem cutP_len {xs : List PV} {lo hi : Option Int} : (cutP xs lo hi).length ≤ xs.length := by
  unfold cutP
  rw [List.length_take, List.length_drop]
  omega
theorem join_cps : ∀ ys : List Str, (Txt.join "" ys).cps.toList = (ys.map fun y => y.cps.toList).flatten := by
  intro ys
  rw [show Txt.join "" ys = Str.join "" ys from StrLaws.glued_eq_join _ _]
  induction ys with
  | nil => rfl
  | cons y ys ih =>
    cases ys with
    | nil => simp [Str.join]
    | cons z ys =>
      have : Str.join "" (y :: z :: ys) = y ++ "" ++ Str.join "" (z :: ys) := rfl
      rw [this]
      have e : ∀ a b : Str, (a ++ b).cps = a.cps ++ b.cps := fun _ _ => rfl
      have e0 : (("" : String) : Str).cps = #[] := rfl
      rw [e, e, e0, Array.toList_append, Array.toList_append, ih]
      simp
theorem join_len (ys : List Str) : (Txt.join "" ys).length = ((ys.map fun y => y.cps.toList).flatten).length := by
  rw [← join_cps, Str.length, Array.length_toList]
theorem atI_dec {α : Type} {xs : List α} {d : Int} (a0 : 0 ≤ d) (lt : d.toNat < xs.length) : L2.atI xs d = some xs[d.toNat] := by
  have : L2.atI xs ((d.toNat : Nat) : Int) = some xs[d.toNat] := by rw [atI_nat']; simp
  rw [← this]
  congr 1
  omega
end
end Py

end

section
open PySem Py
namespace Py
/-- nothing that was is changed -/
structure Gr (h h' : PH) : Prop where
  len : h.length ≤ h'.length
  st : ∀ n, n < h.length → h'[n]? = h[n]?
theorem Gr.refl {h : PH} : Gr h h := ⟨Nat.le_refl _, fun _ _ => rfl⟩
theorem Gr.trans {h h1 h2 : PH} (f : Gr h h1) (g : Gr h1 h2) : Gr h h2 := ⟨Nat.le_trans f.len g.len, fun n l => (g.st n (Nat.lt_of_lt_of_le l f.len)).trans (f.st n l)⟩
theorem Gr.app {h h1 : PH} {o : PO} (f : Gr h h1) : Gr h (h1 ++ [o]) := ⟨by rw [List.length_append]; have := f.len; omega, fun n l => by rw [List.getElem?_append_left (Nat.lt_of_lt_of_le l f.len)]; exact f.st n l⟩
theorem Gr.get {n : Nat} {h h1 : PH} {o : PO} (f : Gr h h1) (e : h[n]? = some o) : h1[n]? = some o := (f.st n (List.getElem?_eq_some_iff.mp e).1).trans e
theorem Gr.setn {n : Nat} {h0 h1 : PH} {o : PO} (l : h0.length ≤ n) (f : Gr h0 h1) : Gr h0 (h1.set n o) := ⟨by rw [List.length_set]; exact f.len, fun m l' => by rw [List.getElem?_set_ne (by omega)]; exact f.st m l'⟩
theorem mapM_strs {h : PH} {n : Nat} : ∀ ws : List Str, (ws.map PV.str).mapM (toD h (n + 1)) = some (ws.map PyData.str)
  | [] => rfl
  | w :: ws => by
    rw [List.map_cons, List.mapM_cons, mapM_strs ws]
    rfl
theorem shaped_strs {ws : List Str} (k : ∀ w ∈ ws, PyData.strOk w = true) : SeqAt.shaped (.list (ws.map PyData.str)) = true := by
  have h1 : PyData.canLayAll0 (ws.map PyData.str) = true := by
    induction ws with
    | nil => rfl
    | cons w ws ih =>
      rw [List.map_cons, PyData.canLayAll0, ih fun w' h => k w' (List.mem_cons_of_mem _ h)]
      rw [PyData.canLay0, k w (List.mem_cons_self ..)]
      rfl
  have h2 : PyData.depthAll (ws.map PyData.str) = 0 := by
    clear h1 k
    induction ws with
    | nil => rfl
    | cons w ws ih =>
      rw [List.map_cons, PyData.depthAll, ih]
      rfl
  have : SeqAt.shaped (.list (ws.map PyData.str)) = (PyData.canLay0 (.list (ws.map PyData.str)) && decide (PyData.depth (.list (ws.map PyData.str)) ≤ 64)) := rfl
  rw [this, PyData.canLay0, h1, PyData.depth, h2]
  rfl
theorem datS {h : PH} {x : Str} (k : PyData.strOk x = true) : datOf h (.str x) = some (.str x) := by
  have : datOf h (.str x) = if SeqAt.shaped (.str x) = true then some (.str x) else none := rfl
  rw [this]
  have : SeqAt.shaped (.str x) = (PyData.canLay0 (.str x) && decide (PyData.depth (.str x) ≤ 64)) := rfl
  rw [this, PyData.canLay0, k, PyData.depth]
  rfl
theorem datL {h : PH} {n : Nat} {ws : List Str} (e : h[n]? = some (.lst (ws.map PV.str))) (k : ∀ w ∈ ws, PyData.strOk w = true) : datOf h (.obj n) = some (.list (ws.map PyData.str)) := by
  have : toD h 66 (.obj n) = (match lstAt h (.obj n) with | some xs => (xs.mapM (toD h 65)).map PyData.list | none => none) := rfl
  unfold datOf
  rw [this, lstO e]
  dsimp only
  rw [mapM_strs]
  show (if SeqAt.shaped (.list (ws.map PyData.str)) = true then _ else _) = _
  rw [if_pos (shaped_strs k)]
theorem any_eqv (x : Str) (ws : List Str) : ((ws.map PyData.str).any fun z => PyData.eqv z (.str x)) = ws.any fun w => decide (w = x) := by
  rw [List.any_map]
  congr 1
section
variable {Q : PV → PH → Prop} {X : XP} {h : PH}
theorem inLS {neg : Bool} {x : Str} {n : Nat} {ws : List Str} (e : h[n]? = some (.lst (ws.map PV.str))) (k : ∀ w ∈ ws, PyData.strOk w = true) (kx : PyData.strOk x = true)
    (q : Q (.bl (if neg then !(ws.any fun w => decide (w = x)) else ws.any fun w => decide (w = x))) h) : wp (inV neg (.str x) (.obj n) h) Q X := by
  have : inV neg (.str x) (.obj n) h = (match datOf h (.str x), datOf h (.obj n) with
    | some d, some (.list ds) => okB (if neg then !(ds.any fun z => PyData.eqv z d) else ds.any fun z => PyData.eqv z d) h
    | _, _ => .bad) := rfl
  rw [this, datS kx, datL e k]
  dsimp only
  rw [any_eqv]
  exact q
theorem inTS {neg : Bool} {x : Str} {xs : List PV} {ws : List Str} (e : xs = ws.map PV.str) (q : Q (.bl (if neg then !(ws.any fun w => decide (w = x)) else ws.any fun w => decide (w = x))) h) : wp (inV neg (.str x) (.tup xs) h) Q X := by
  subst e
  have : inV neg (.str x) (.tup (ws.map PV.str)) h = (if flatP (.str x) && (ws.map PV.str).all flatP then okB (if neg then !((ws.map PV.str).any fun y => flatEq y (.str x)) else (ws.map PV.str).any fun y => flatEq y (.str x)) h else .bad) := rfl
  rw [this, if_pos (by simp [flatP]), List.any_map]
  exact q
theorem inSS {neg : Bool} {x y : Str} (q : Q (.bl (if neg then !strIn x y else strIn x y)) h) : wp (inV neg (.str x) (.str y) h) Q X := q
def isN : PV → Bool
  | .non => true
  | _ => false
theorem isN_dec (p : PV) : decide (p = .non) = isN p := by cases p <;> simp [isN]
theorem isNoneI {p : PV} (q : Q (.bl (isN p)) h) : wp (isNV p .non h) Q X := by
  have : isNV p .non h = okB (decide (p = .non)) h := by cases p <;> rfl
  rw [this, isN_dec]; exact q
theorem notNoneI {p : PV} (q : Q (.bl (!isN p)) h) : wp (notNV p .non h) Q X := by
  have : notNV p .non h = okB (!decide (p = .non)) h := by cases p <;> rfl
  rw [this, isN_dec]; exact q
theorem eqI_ {a b : Int} (q : Q (.bl (a == b)) h) : wp (eqV (.int a) (.int b) h) Q X := q
theorem neI_ {a b : Int} (q : Q (.bl (!(a == b))) h) : wp (neV (.int a) (.int b) h) Q X := q
theorem eqBl {a b : Bool} (q : Q (.bl (a == b)) h) : wp (eqV (.bl a) (.bl b) h) Q X := q
theorem eqSS {a b : Str} (ka : PyData.strOk a = true) (kb : PyData.strOk b = true) (q : Q (.bl (a == b)) h) : wp (eqV (.str a) (.str b) h) Q X := by
  have : eqV (.str a) (.str b) h = (match datOf h (.str a), datOf h (.str b) with
    | some d, some e => okB (PyData.eqv d e) h
    | _, _ => .bad) := rfl
  rw [this, datS ka, datS kb]
  dsimp only
  rw [PyData.eqv]
  exact q
theorem isiQ {o : Option Bool} {b : Bool} {P : Bool → Prop} (e : o = some b) (q : P b) : ∃ b, o = some b ∧ P b := ⟨b, e, q⟩
theorem tyO {n : Nat} {xs : List PV} {ans : Ty → Option Bool} {b : Bool} (e : h[n]? = some (.lst xs)) (k : ans (.b .list) = some b) : (tyOf h (.obj n)).bind ans = some b := by
  simp only [tyOf, e, Option.bind, k]
theorem strOk_of {x : Str} (k : ∀ c ∈ x.cps.toList, c < 1114112) : PyData.strOk x = true := by
  unfold PyData.strOk
  rw [← Array.all_toList, List.all_eq_true]
  intro c hc
  exact decide_eq_true (k c hc)
end
end Py

end

section
/-! Instances of own classes: attributes, making, methods, calls. -/
namespace Py
open PySem PySem.Spec PyProof.Rows L2

/-! ### attributes -/
theorem lookup_of {G : PCfg} {H : Hp} {ρ : List Addr} {i : Nat} {f : Str} (hf : G.fld[i]? = some f) : ∀ {fs : List (Nat × PV)} {fv : List (Str × V)}, FsRep G H ρ fs fv → ∀ {p : PV}, fs.lookup i = some p → ∃ v, fv.lookup f = some v ∧ Rep G.K H ρ p v
  | [], _, r, p, e => by cases e
  | (j, q) :: fs, fv, r, p, e => by
    cases r with
    | cons r1 r2 =>
      rename_i y fv'
      obtain ⟨g, u⟩ := y
      obtain ⟨h1, h2⟩ := r1
      dsimp only at h1 h2
      rw [List.lookup_cons] at e
      rw [List.lookup_cons]
      by_cases z : i = j
      · subst z
        rw [h1] at hf
        cases hf
        simp only [beq_self_eq_true] at e ⊢
        cases e
        exact ⟨u, rfl, h2⟩
      · have z1 : (i == j) = false := beq_false_of_ne z
        have z2 : (f == g) = false := beq_false_of_ne fun y => z (by
          subst y
          exact (List.getElem_inj G.nd).mp ((List.getElem?_eq_some_iff.mp hf).2.trans (List.getElem?_eq_some_iff.mp h1).2.symm))
        rw [z1] at e
        rw [z2]
        exact lookup_of hf r2 e
theorem lookup_no {G : PCfg} {H : Hp} {ρ : List Addr} {f : Str} (hf : f ∉ G.fld) : ∀ {fs : List (Nat × PV)} {fv : List (Str × V)}, FsRep G H ρ fs fv → fv.lookup f = none
  | [], _, r => by cases r; rfl
  | (j, q) :: fs, fv, r => by
    cases r with
    | cons r1 r2 =>
      rename_i y fv'
      obtain ⟨g, u⟩ := y
      have z2 : (f == g) = false := beq_false_of_ne fun y => hf (by subst y; exact List.mem_of_getElem? r1.1)
      rw [List.lookup_cons, z2]
      exact lookup_no hf r2
def putP (i : Nat) (p : PV) : List (Nat × PV) → List (Nat × PV)
  | [] => [(i, p)]
  | (j, q) :: r => if j = i then (j, p) :: r else (j, q) :: putP i p r
theorem FsRep.put {G : PCfg} {H : Hp} {ρ : List Addr} {i : Nat} {f : Str} (hf : G.fld[i]? = some f) {p : PV} {v : V} (rp : Rep G.K H ρ p v) : ∀ {fs : List (Nat × PV)} {fv : List (Str × V)}, FsRep G H ρ fs fv → FsRep G H ρ (putP i p fs) (putF f v fv)
  | [], _, r => by cases r; exact .cons ⟨hf, rp⟩ .nil
  | (j, q) :: fs, fv, r => by
    cases r with
    | cons r1 r2 =>
      rename_i y fv'
      obtain ⟨g, u⟩ := y
      show FsRep G H ρ (if j = i then (j, p) :: fs else (j, q) :: putP i p fs) (if g = f then (g, v) :: fv' else (g, u) :: putF f v fv')
      by_cases z : j = i
      · subst z
        have : g = f := by have := r1.1; dsimp only at this; rw [hf] at this; cases this; rfl
        rw [if_pos rfl, if_pos this]
        exact .cons ⟨r1.1, rp⟩ r2
      · have : g ≠ f := fun y => z (by
          subst y
          exact (List.getElem_inj G.nd).mp ((List.getElem?_eq_some_iff.mp r1.1).2.trans (List.getElem?_eq_some_iff.mp hf).2.symm))
        rw [if_neg z, if_neg this]
        exact .cons r1 (FsRep.put hf rp r2)
/-- the class and the attributes of an instance -/
def insAt (h : PH) : PV → Option (Nat × List (Nat × PV))
  | .obj n => (match h[n]? with
    | some (.ins c fs) => some (c, fs)
    | _ => none)
  | _ => none
theorem ins_at {G : PCfg} {H : Hp} {ρ : List Addr} {h : PH} {p : PV} {v : V} {c : Nat} {fs : List (Nat × PV)} (b : HRep G H ρ h) (r : Rep G.K H ρ p v) (e : insAt h p = some (c, fs)) :
    ∃ n a dx fv, p = .obj n ∧ v = .ref a ∧ h[n]? = some (.ins c fs) ∧ ρ[n]? = some a ∧ H a = some (.ins (G.cls c) dx fv) ∧ FsRep G H ρ fs fv := by
  cases p with
  | obj n =>
    obtain ⟨a, rfl, ha⟩ := r.unObj
    cases q : h[n]? with
    | none => simp only [insAt, q] at e; cases e
    | some o =>
      cases o with
      | ins c' fs' =>
        simp only [insAt, q] at e
        cases e
        obtain ⟨dx, fv, h1, h2⟩ := b.ob n _ a q ha
        exact ⟨n, a, dx, fv, rfl, rfl, q, ha, h1, h2⟩
      | _ => simp only [insAt, q] at e; cases e
  | _ => cases e
/-- what an own class of attributes has -/
structure ClsA (G : PCfg) (c : Nat) (f : Str) : Prop where
  cl : Cls G.K (G.cls c)
  na : NoAttr G.K (G.cls c) f
def fldV (cs : List Nat) (i : Nat) (p : PV) (h : PH) : Rs PV := match insAt h p with
  | some (c, fs) => if cs.contains c then (match fs.lookup i with
    | some q => .ok q h
    | none => .bad) else .bad
  | none => .bad
def fldE (cs : List Nat) (i : Nat) (f : Ef) : Ef := fun env h => (f env h).bind fun p h1 => fldV cs i p h1
section
variable {X : Cx} {G : PCfg} {W : WX} {e o : Expr} {f : Str} {pos pos' : Pos} {fe fo fv : Ef} {i : Nat} {cs : List Nat}
theorem d_fld (K : Cok X G) (hf : G.fld[i]? = some f) (hc : ∀ c ∈ cs, ClsA G c f) (he : DE X G W e fe) (hb : attributeBase e f X.env (eval e X.env) = eval e X.env) : DE X G W (.Attribute e f pos) (fldE cs i fe) :=
  PE.imp (pe_fld he hb) fun σ H Q t => by
    rw [K.k]
    refine tE.post (Now.bindV Mono.tt t) fun x H1 ⟨p, ρ, env, h, a, b, ⟨_, r⟩, d⟩ => ?_
    dsimp only at d
    unfold fldV at d
    cases q : insAt h p with
    | none => rw [q] at d; exact d.elim
    | some cf =>
      obtain ⟨c, fs⟩ := cf
      rw [q] at d
      dsimp only at d
      split at d
      · rename_i z
        cases l : fs.lookup i with
        | none => rw [l] at d; exact d.elim
        | some p2 =>
          rw [l] at d
          obtain ⟨n, ad, dx, fw, rfl, rfl, _, _, h1, h2⟩ := ins_at b r q
          obtain ⟨v, l2, r2⟩ := lookup_of hf h2 l
          have k := hc c (by simpa using z)
          exact ⟨ad, _, dx, fw, v, rfl, h1, k.cl, k.na, l2, d v H1 ρ .refl b r2⟩
      · exact d.elim
def setFV (cs : List Nat) (i : Nat) (o v : PV) (h : PH) : Option PH := match o, insAt h o with
  | .obj n, some (c, fs) => if cs.contains c && decide (fs.length < 900) then some (h.set n (.ins c (putP i v fs))) else none
  | _, _ => none
def setFE (cs : List Nat) (i : Nat) (fv fo : Ef) : Ef := fun env h => (fv env h).bind fun v h1 => (fo env h1).bind fun o h2 => match setFV cs i o v h2 with
  | some h3 => .ok .non h3
  | none => .bad
/-- o.f = value: the value first -/
def setF (cs : List Nat) (i : Nat) (fo fv : Ef) : Sf := exprS (setFE cs i fv fo)
theorem ins_wrote {H : Hp} {ρ : List Addr} {h : PH} {n : Nat} {a dx : Addr} {c : Nat} {fs : List (Nat × PV)} {fw : List (Str × V)} {Q : VK} {p : PV} {v : V} (b : HRep G H ρ h) (ha : ρ[n]? = some a) (rs : FsRep G H ρ fs fw) (rp : Rep G.K H ρ p v)
    (d : okG (RV G) G Q ρ H p (h.set n (.ins c fs))) : Q v (upd H a (.ins (G.cls c) dx fw)) := by
  obtain ⟨b', x⟩ := b.wrote ha (u := .ins (G.cls c) dx fw) (o := .ins c fs) fun x => ⟨dx, fw, upd_same, FsRep.ext x rs⟩
  exact d v _ ρ x b' (rp.ext x)
theorem d_setF (K : Cok X G) (hf : G.fld[i]? = some f) (hc : ∀ c ∈ cs, ClsA G c f) (ho : DE X G W o fo) (hv : DE X G W e fv) (hs : swapsWith e (some (.Attribute o f pos')) pos.line X.env = pure false := by rfl) : DS X G W (.Assign [.Attribute o f pos'] e pos) (setF cs i fo fv) :=
  PS.imp (ps_fld ho hv hs) fun D σ H t => by
    rw [K.k]
    have t' := expr_tE (f := setFE cs i fv fo) t
    refine tE.post (Now.bindV Mono.tt t') fun y H1 ⟨v, t1⟩ => ?_
    refine tE.post (Now.bindV (Mono.tt.and Mono.rep) t1) fun x H2 ⟨ob, ρ, env, h, a, b, ⟨⟨_, r1⟩, r2⟩, d⟩ => ?_
    dsimp only at d
    cases e1 : setFV cs i ob v h with
    | none => rw [e1] at d; exact d.elim
    | some h3 =>
      rw [e1] at d
      cases q : insAt h ob with
      | none => unfold setFV at e1; rw [q] at e1; cases ob <;> cases e1
      | some cf =>
        obtain ⟨c, fs⟩ := cf
        obtain ⟨n, ad, dx, fw, rfl, rfl, _, hn, h1, h2⟩ := ins_at b r2 q
        unfold setFV at e1
        rw [q] at e1
        dsimp only at e1
        split at e1
        · rename_i z
          cases e1
          rw [Bool.and_eq_true, decide_eq_true_eq] at z
          have k := hc c (by simpa using z.1)
          have l := Paired.length h2
          exact ⟨ad, _, dx, fw, rfl, h1, k.cl, k.na, by have := z.2; omega, ins_wrote b hn (FsRep.put hf r1 h2) .non d⟩
        · cases e1
end

/-! ### making -/
section
variable {X : Cx} {CX : CXT} {G : PCfg} {W : WX} {k : Nat} {f C : Addr} {fd : FuncData} {ps : List Str} {sp : Sp} {E : XK} {x : Str} {p pos : Pos} {e : Expr} {es : List Expr} {g : Af} {F : Fn} {n : Nat}
theorem run_makeW {pins : List (Addr × Obj)} {σ : Sto} {H : Hp} {s : Shared} {Q : VK} {us : List Value} {vs : List V} (M : Mk X.K C f) (hF : FnOk X.prog X.w X.K X.mg X.base CX k f fd ps sp) (hr : Room (k + 1) X.A) (hb : Binds X.K fd ps [])
    (hx : PassesAt CX X σ E) (I : Inv X pins σ H s) (r : Vals vs us)
    (h : ∀ y dy, H y = none → H dy = none → dy ≠ y → sp (.ref y :: vs) (upd (upd H dy (.own y)) y (.ins C dy [])) (fun v H2 => v = .non ∧ Q (.ref y) H2) E) : wpAny (model X.prog X.w) X.A (call (.ref C) us) (EP X pins σ Q) X.xe s := by
  have q0 := h (s.heap.objs.size + 1) s.heap.objs.size (I.hok.fresh (Nat.le_succ _)) (I.hok.fresh (Nat.le_refl _)) (Nat.ne_of_lt (Nat.lt_succ_self _))
  have J := Inv.made (C := C) I
  have rr : Vals (V.ref (s.heap.objs.size + 1) :: vs) (Value.ref (s.heap.objs.size + 1) :: us) := .cons rfl r
  have ll : (Value.ref (s.heap.objs.size + 1) :: us).length = ps.length := by rw [← rr.length]; exact hF.len _ _ _ _ q0
  have bb := hb _ (Value.ref (s.heap.objs.size + 1) :: us) J.kIn (by rw [List.append_nil]; exact ll)
  rw [List.append_nil] at bb
  refine wpAny_call (make_map (f := f) I.kIn M.makes M.init (beq_iff_eq.mp M.fn) (codeAny_mono (hF.run _ X.stack _ _ ⟨Value.ref (s.heap.objs.size + 1) :: us, []⟩ (Value.ref (s.heap.objs.size + 1) :: us) _ _ E (hr.make C us []) (J.env0.make C us []) bb rr q0) fun z s' y => ?_))
  cases z with
  | error ev => exact hx pins _ _ ev s' J y
  | ok fl =>
    cases fl with
    | ret u =>
      obtain ⟨v, H', I3, rv, ev, q3⟩ := J.after y
      subst ev
      exact ⟨rv, ⟨V.ref (s.heap.objs.size + 1), H', I3, rfl, q3⟩⟩
    | next => exact False.elim y
    | brk => exact False.elim y
    | cont => exact False.elim y
def mkC (c : Nat) (F : Fn) : Fn := fun ps h => (F (.obj h.length :: ps) (h ++ [.ins c []])).bind fun r h2 => match r with
  | .non => .ok (.obj h.length) h2
  | _ => .bad
/-- C(e, ..) -/
def mkE (c n : Nat) (F : Fn) (g : Af) : Ef := fun env h => (g env h).bind fun ps h1 => if ps.length + 1 = n then mkC c F ps h1 else .bad
theorem made_rep {H : Hp} {ρ : List Addr} {h : PH} {c : Nat} {y dy : Addr} (b : HRep G H ρ h) (n1 : H y = none) (n2 : H dy = none) (ne : dy ≠ y) :
    HRep G (upd (upd H dy (.own y)) y (.ins (G.cls c) dy [])) (ρ ++ [y]) (h ++ [.ins c []]) ∧ Ext ρ H (ρ ++ [y]) (upd (upd H dy (.own y)) y (.ins (G.cls c) dy [])) := by
  obtain ⟨b1, x1⟩ := b.grow (upd_grow (o := .own y) n2)
  have n3 : upd H dy (.own y) y = none := by rw [upd_ne (Ne.symm ne)]; exact n1
  obtain ⟨b2, x2⟩ := b1.push n3 (u := .ins (G.cls c) dy []) (o := .ins c []) fun _ => ⟨dy, [], upd_same, .nil⟩
  exact ⟨b2, x1.trans x2⟩
theorem mk_core {c : Nat} {H : Hp} {ρ : List Addr} {h : PH} {Q : VK} {E : XK} {qs : List PV} {vs : List V} (b : HRep G H ρ h) (rs : Reps G.K H ρ qs vs) (hn : qs.length + 1 = n) (d : rd (okG (RV G) G Q ρ H) (exG G E ρ H) (mkC c F qs h)) :
    ∀ y dy, H y = none → H dy = none → dy ≠ y → spI G n F (.ref y :: vs) (upd (upd H dy (.own y)) y (.ins (G.cls c) dy [])) (fun v H2 => v = .non ∧ Q (.ref y) H2) E := by
  intro y dy n1 n2 ne
  obtain ⟨b2, x2⟩ := made_rep (c := c) b n1 n2 ne
  have hl : h.length = ρ.length := b.len.symm
  have hy : (ρ ++ [y])[h.length]? = some y := by rw [hl]; simp
  refine ⟨by rw [List.length_cons, ← Paired.length rs]; exact hn, ρ ++ [y], .obj h.length :: qs, h ++ [.ins c []], b2, .cons (.obj hy) (Reps.ext x2 rs), ?_⟩
  unfold mkC at d
  cases e : F (.obj h.length :: qs) (h ++ [.ins c []]) with
  | ok r h2 =>
    simp only [e, Rs.bind] at d
    intro v H' ρ' x' b' rv
    cases r with
    | non =>
      dsimp only at d
      refine ⟨Rep.unNon rv, d (.ref y) H' ρ' (x2.trans x') b' (.obj (x'.pre _ _ hy))⟩
    | _ => exact d.elim
  | exc c fs h2 =>
    simp only [e, Rs.bind] at d
    exact fun dd H' ρ' fv x' => d dd H' ρ' fv (x2.trans x')
  | bad => simp only [e, Rs.bind] at d; exact d.elim
theorem d_make {c : Nat} (K : Cok X G) (M : Mk X.K (G.cls c) f) (hF : FnOk X.prog X.w X.K X.mg X.base (L2.CX X.prog X.w) k f fd ps (spI G n F)) (tk : Takes X W) (hr : Room (k + 1) X.A) (hg : Gl X x) (hm : X.mg x = some (.ref (G.cls c))) (hb : Binds X.K fd ps [])
    (ha : DA X G W (e :: es) g) (hdb : (x == ("__debug__" : Str)) = false := by decide) (he : starEach (e :: es) X.env = (false, eval e X.env) :: starEach es X.env := by rfl) (hpl : (backTo pos (starEach es X.env)).any (·.1) = false := by rfl) :
    DE X G W (.Call (.Name x p) (e :: es) [] pos) (mkE c n F g) := by
  refine ⟨fun pins s σ H Q I t => ?_⟩
  refine wpAny_Call_Name_kw (ld_glob I hg hm ?_ hdb)
  have t' : tA G W g σ H fun vs H1 => ∀ y dy, H1 y = none → H1 dy = none → dy ≠ y → spI G n F (.ref y :: vs) (upd (upd H1 dy (.own y)) y (.ins (G.cls c) dy [])) (fun v H2 => v = .non ∧ Q (.ref y) H2) (WE W σ) := by
    refine tA.post (Now.bindA Mono.tt t) fun xs H1 ⟨qs, ρ, env, h, a, b, ⟨_, r⟩, d⟩ => ?_
    dsimp only at d
    by_cases z : qs.length + 1 = n
    · rw [if_pos z] at d
      exact mk_core b r z d
    · rw [if_neg z] at d; exact d.elim
  refine PySem.W.callWith_K (h₀ := X.base) I.ok.mod.kin M.kp (thn (ha.run pos pins s σ H _ I t') fun us s1 ⟨vs, H1, I1, r, q⟩ => ⟨I1.kIn, ?_⟩) he hpl
  exact run_makeW M hF hr hb (passAt tk σ) I1 r q
theorem d_make0 {c : Nat} (K : Cok X G) (M : Mk X.K (G.cls c) f) (hF : FnOk X.prog X.w X.K X.mg X.base (L2.CX X.prog X.w) k f fd ps (spI G n F)) (tk : Takes X W) (hr : Room (k + 1) X.A) (hg : Gl X x) (hm : X.mg x = some (.ref (G.cls c))) (hb : Binds X.K fd ps [])
    (hdb : (x == ("__debug__" : Str)) = false := by decide) :
    DE X G W (.Call (.Name x p) [] [] pos) (mkE c n F nilA) := by
  refine ⟨fun pins s σ H Q I t => ?_⟩
  refine wpAny_Call_Name_kw (ld_glob I hg hm ?_ hdb)
  obtain ⟨ρ, env, h, a, b, _, d⟩ := t
  have d' : rd (okG (RV G) G Q ρ H) (exG G (fun c d H' => W c d σ H') ρ H) (if ([] : List PV).length + 1 = n then mkC c F [] h else .bad) := d
  by_cases z : ([] : List PV).length + 1 = n
  · rw [if_pos z] at d'
    exact PySem.W.callWith_K0 I.kIn M.kp (run_makeW (us := []) M hF hr hb (passAt tk σ) I .nil (mk_core b .nil z d'))
  · rw [if_neg z] at d'; exact d'.elim
end

/-! ### methods, calls of instances -/
/-- a def that keeps its promise -/
structure HasM (G : PCfg) (mg : Str → Option Value) (base : Heap) (n k : Nat) (F : Fn) (f : Addr) : Prop where
  ex : ∃ (fd : FuncData) (ps : List Str), FnOk G.P G.w G.K mg base (L2.CX G.P G.w) k f fd ps (spI G n F) ∧ Binds G.K fd ps []
/-- by the class: the def -/
def metE (tab : List (Nat × Fn)) (n : Nat) (fo : Ef) (g : Af) : Ef := fun env h => (fo env h).bind fun p h1 => match insAt h1 p with
  | some (c, _) => (match tab.lookup c with
    | some F => (g env h1).bind fun qs h2 => if qs.length + 1 = n then F (p :: qs) h2 else .bad
    | none => .bad)
  | none => .bad
theorem mem_of_lookup {β : Type} {c : Nat} {F : β} : ∀ {tab : List (Nat × β)}, tab.lookup c = some F → (c, F) ∈ tab
  | [], e => by cases e
  | (j, x) :: r, e => by
    rw [List.lookup_cons] at e
    by_cases z : c = j
    · subst z
      simp only [beq_self_eq_true] at e
      cases e
      exact List.mem_cons_self ..
    · rw [beq_false_of_ne z] at e
      exact List.mem_cons_of_mem _ (mem_of_lookup e)
section
variable {X : Cx} {G : PCfg} {W : WX} {k n : Nat} {mg : Str → Option Value} {base : Heap} {m : Str} {p pos apos : Pos} {e o : Expr} {es : List Expr} {g : Af} {fo : Ef} {tab : List (Nat × Fn)}
theorem met_core {σ : Sto} {H1 : Hp} {Q : VK} {F : Fn} {q : PV} {x : V} {ρ : List Addr} {env : Env} {h : PH} (a : ERep G H1 ρ env σ) (b : HRep G H1 ρ h) (r : Rep G.K H1 ρ q x)
    (d : rd (okG (RV G) G Q ρ H1) (exG G (fun c d H' => W c d σ H') ρ H1) ((g env h).bind fun qs h2 => if qs.length + 1 = n then F (q :: qs) h2 else .bad)) :
    tA G W g σ H1 fun vs H2 => (∀ a' dx cc fs, x = .ref a' → H1 a' = some (.ins cc dx fs) → True) ∧ spI G n F (x :: vs) H2 Q (WE W σ) := by
  have t : Now (RV G) (fun H ρ => True ∧ Rep G.K H ρ q x) G W σ H1 Q (fun env h => (g env h).bind fun qs h2 => if qs.length + 1 = n then F (q :: qs) h2 else .bad) := ⟨ρ, env, h, a, b, ⟨trivial, r⟩, d⟩
  refine tA.post (Now.bindA (Mono.tt.and Mono.rep) t) fun xs H2 ⟨qs, ρ2, env2, h2, a2, b2, ⟨⟨_, r2⟩, r3⟩, d2⟩ => ⟨fun _ _ _ _ _ _ => trivial, ?_⟩
  dsimp only at d2
  by_cases z : qs.length + 1 = n
  · rw [if_pos z] at d2
    exact ⟨by rw [List.length_cons, ← Paired.length r3]; exact z, ρ2, q :: qs, h2, b2, .cons r2 r3, d2⟩
  · rw [if_neg z] at d2; exact d2.elim
/-- what a class has whose method is called -/
structure ClsM (G : PCfg) (mg : Str → Option Value) (base : Heap) (c : Nat) (m : Str) (n k : Nat) (F : Fn) : Prop where
  ex : ∃ f, Cls G.K (G.cls c) ∧ Meth G.K (G.cls c) m f ∧ HasM G mg base n k F f
theorem d_met (K : XIs X G mg base) (tk : Takes X W) (hr : Room k X.A) (hc : ∀ c F, (c, F) ∈ tab → ClsM G mg base c m n k F) (hm : m ∉ G.fld) (he : DE X G W o fo) (ha : DA X G W (e :: es) g)
    (hst : starEach (e :: es) X.env = (false, eval e X.env) :: starEach es X.env := by rfl) (hpl : (backTo pos (starEach es X.env)).any (·.1) = false := by rfl) {pl : Sem Bool}
    (ht : eval (.Call (.Attribute o m apos) (e :: es) [] pos) X.env = (do
      let ov ← eval o X.env
      standAt apos.atName
      let (f, first) ← holding [ov] (getMethod ov m pl)
      callWith pos f first (backTo pos (starEach (e :: es) X.env)) (backToKw pos (keywordEach [] X.env))) := by rfl) :
    DE X G W (.Call (.Attribute o m apos) (e :: es) [] pos) (metE tab n fo g) := by
  refine ⟨fun pins s σ H Q I t => ?_⟩
  refine PySem.W.methodCall_KW (pl := pl) (thn (he.run pins s σ H _ I (Now.bindV Mono.tt t)) fun u s1 ⟨x, H1, I1, rx, q, ρ, env, h, a, b, ⟨_, r⟩, d⟩ => ?_) ht
  dsimp only at d
  cases i : insAt h q with
  | none => rw [i] at d; exact d.elim
  | some cf =>
    obtain ⟨c, fs⟩ := cf
    rw [i] at d
    dsimp only at d
    cases l : tab.lookup c with
    | none => rw [l] at d; exact d.elim
    | some F =>
      rw [l] at d
      dsimp only at d
      obtain ⟨f, cl, mt, ⟨fd, ps, hF, hb⟩⟩ := (hc c F (mem_of_lookup l)).ex
      obtain ⟨j, ad, dx, fv, rfl, rfl, _, _, h1, h2⟩ := ins_at b r i
      obtain rfl : u = Value.ref ad := rx
      have t2 := met_core (n := n) a b r d
      rw [← K.p, ← K.w, ← K.k, ← K.m, ← K.b] at hF
      rw [← K.k] at cl mt hb
      refine getmeth_ok I1 h1 cl mt (lookup_no hm h2) ?_
      refine PySem.W.callWith_K (first := [.ref ad]) (h₀ := X.base) I.ok.mod.kin mt.kp (thn (ha.run pos pins s1 σ H1 _ I1 t2) fun us s2 ⟨vs, H2, I2, r2, _, q2⟩ => ⟨I2.kIn, ?_⟩) hst hpl
      exact run_fnS (E := fun σ => WE W σ) (us := .ref ad :: us) (vs := .ref ad :: vs) hF hr hb (passAt tk σ) I2 (.cons rfl r2) q2
theorem d_met0 (K : XIs X G mg base) (tk : Takes X W) (hr : Room k X.A) (hc : ∀ c F, (c, F) ∈ tab → ClsM G mg base c m n k F) (hm : m ∉ G.fld) (he : DE X G W o fo) {pl : Sem Bool}
    (ht : eval (.Call (.Attribute o m apos) [] [] pos) X.env = (do
      let ov ← eval o X.env
      standAt apos.atName
      let (f, first) ← holding [ov] (getMethod ov m pl)
      callWith pos f first (backTo pos (starEach [] X.env)) (backToKw pos (keywordEach [] X.env))) := by rfl) :
    DE X G W (.Call (.Attribute o m apos) [] [] pos) (metE tab n fo nilA) := by
  refine ⟨fun pins s σ H Q I t => ?_⟩
  refine PySem.W.methodCall_KW (pl := pl) (thn (he.run pins s σ H _ I (Now.bindV Mono.tt t)) fun u s1 ⟨x, H1, I1, rx, q, ρ, env, h, a, b, ⟨_, r⟩, d⟩ => ?_) ht
  dsimp only at d
  cases i : insAt h q with
  | none => rw [i] at d; exact d.elim
  | some cf =>
    obtain ⟨c, fs⟩ := cf
    rw [i] at d
    dsimp only at d
    cases l : tab.lookup c with
    | none => rw [l] at d; exact d.elim
    | some F =>
      rw [l] at d
      dsimp only at d
      obtain ⟨f, cl, mt, ⟨fd, ps, hF, hb⟩⟩ := (hc c F (mem_of_lookup l)).ex
      obtain ⟨j, ad, dx, fv, rfl, rfl, _, _, h1, h2⟩ := ins_at b r i
      obtain rfl : u = Value.ref ad := rx
      rw [← K.p, ← K.w, ← K.k, ← K.m, ← K.b] at hF
      rw [← K.k] at cl mt hb
      refine getmeth_ok I1 h1 cl mt (lookup_no hm h2) ?_
      have d' : rd (okG (RV G) G Q ρ H1) (exG G (fun c d H' => W c d σ H') ρ H1) (if ([] : List PV).length + 1 = n then F [.obj j] h else .bad) := d
      by_cases z : ([] : List PV).length + 1 = n
      · rw [if_pos z] at d'
        have q2 : spI G n F [.ref ad] H1 Q (WE W σ) := ⟨z, ρ, [.obj j], h, b, .cons r .nil, d'⟩
        exact PySem.W.callWith_K0 (first := [.ref ad]) I1.kIn mt.kp (run_fnS (E := fun σ => WE W σ) (us := [.ref ad]) (vs := [.ref ad]) hF hr hb (passAt tk σ) I1 (.cons rfl .nil) q2)
      · rw [if_neg z] at d'; exact d'.elim
/-- what a class has whose instances are called -/
structure ClsO (G : PCfg) (mg : Str → Option Value) (base : Heap) (c n k : Nat) (F : Fn) : Prop where
  ex : ∃ f, StX.CallO G.K (G.cls c) f ∧ HasM G mg base n k F f
/-- x(e, ..), x an instance -/
def calE (tab : List (Nat × Fn)) (n : Nat) (fo : Ef) (g : Af) : Ef := fun env h => (fo env h).bind fun p h1 => match insAt h1 p with
  | some (c, _) => (match tab.lookup c with
    | some F => (g env h1).bind fun qs h2 => (match insAt h2 p with
      | some (c2, _) => if c2 = c ∧ qs.length + 1 = n then F (p :: qs) h2 else .bad
      | none => .bad)
    | none => .bad)
  | none => .bad
theorem d_calO (K : XIs X G mg base) (tk : Takes X W) (hr : Room k X.A) (hc : ∀ c F, (c, F) ∈ tab → ClsO G mg base c n k F) (he : DE X G W o fo) (ha : DA X G W (e :: es) g)
    (ht : eval (.Call o (e :: es) [] pos) X.env = (do callWith pos (← eval o X.env) [] (backTo pos (starEach (e :: es) X.env)) (backToKw pos (keywordEach [] X.env))) := by rfl)
    (hst : starEach (e :: es) X.env = (false, eval e X.env) :: starEach es X.env := by rfl) (hpl : (backTo pos (starEach es X.env)).any (·.1) = false := by rfl) :
    DE X G W (.Call o (e :: es) [] pos) (calE tab n fo g) := by
  refine ⟨fun pins s σ H Q I t => ?_⟩
  refine Call_ (thn (he.run pins s σ H _ I (Now.bindV Mono.tt t)) fun u s1 ⟨x, H1, I1, rx, q, ρ, env, h, a, b, ⟨_, r⟩, d⟩ => ?_) ht
  dsimp only at d
  cases i : insAt h q with
  | none => rw [i] at d; exact d.elim
  | some cf =>
    obtain ⟨c, fs⟩ := cf
    rw [i] at d
    dsimp only at d
    cases l : tab.lookup c with
    | none => rw [l] at d; exact d.elim
    | some F =>
      rw [l] at d
      dsimp only at d
      obtain ⟨f, co, ⟨fd, ps, hF, hb⟩⟩ := (hc c F (mem_of_lookup l)).ex
      obtain ⟨j, ad, dx, fv, rfl, rfl, _, _, h1, h2⟩ := ins_at b r i
      obtain rfl : u = Value.ref ad := rx
      rw [← K.p, ← K.w, ← K.k, ← K.m, ← K.b] at hF
      rw [← K.k] at co hb
      have t1 : Now (RV G) (fun H ρ => True ∧ Rep G.K H ρ (.obj j) (.ref ad)) G W σ H1 Q (fun env h => (g env h).bind fun qs h2 => (match insAt h2 (.obj j) with
        | some (c2, _) => if c2 = c ∧ qs.length + 1 = n then F (.obj j :: qs) h2 else .bad
        | none => .bad)) := ⟨ρ, env, h, a, b, ⟨trivial, r⟩, d⟩
      have t2 : tA G W g σ H1 fun vs H2 => StX.InsC X H2 ad (G.cls c) ∧ spI G n F (.ref ad :: vs) H2 Q (WE W σ) := by
        refine tA.post (Now.bindA (Mono.tt.and Mono.rep) t1) fun xs H2 ⟨qs, ρ2, env2, h2, a2, b2, ⟨⟨_, r2⟩, r3⟩, d2⟩ => ?_
        dsimp only at d2
        cases i2 : insAt h2 (.obj j) with
        | none => rw [i2] at d2; exact d2.elim
        | some cf2 =>
          obtain ⟨c2, fs2⟩ := cf2
          rw [i2] at d2
          dsimp only at d2
          by_cases z : c2 = c ∧ qs.length + 1 = n
          · rw [if_pos z] at d2
            obtain ⟨rfl, z⟩ := z
            obtain ⟨j2, ad2, dx2, fv2, e1, e2, _, _, k1, k2⟩ := ins_at b2 r2 i2
            cases e2
            exact ⟨.inr ⟨dx2, fv2, k1⟩, by rw [List.length_cons, ← Paired.length r3]; exact z, ρ2, .obj j :: qs, h2, b2, .cons r2 r3, d2⟩
          · rw [if_neg z] at d2; exact d2.elim
      refine StX.callO_with (thn (ha.run pos pins s1 σ H1 _ I1 t2) fun us s2 ⟨vs, H2, I2, r2, hi, q2⟩ => ?_) hst hpl
      obtain ⟨ox, od, J, hd⟩ := StX.insC_at I2 hi
      refine ⟨⟨_, ox, od, J, hd⟩, ?_⟩
      have ll : (Value.ref ad :: us).length = ps.length := by
        have r4 : Vals (V.ref ad :: vs) (Value.ref ad :: us) := .cons rfl r2
        rw [← r4.length]; exact hF.len _ _ _ _ q2
      have bb := hb _ (Value.ref ad :: us) I2.kIn (by rw [List.append_nil]; exact ll)
      rw [List.append_nil] at bb
      refine wpAny_call (PySem.W.kco_code I2.kIn J hd co.at_ co.fn co.fi (codeAny_mono (hF.run X.A X.stack s2 H2 ⟨Value.ref ad :: us, []⟩ (Value.ref ad :: us) (.ref ad :: vs) Q (WE W σ) hr I2.env0 bb (.cons rfl r2) q2) fun z s' y => ?_))
      cases z with
      | error ev => exact passAt tk σ pins H2 s2 ev s' I2 y
      | ok fl =>
        cases fl with
        | ret u => exact I2.after y
        | next => exact False.elim y
        | brk => exact False.elim y
        | cont => exact False.elim y
end
end Py

end

section
/-! Short names for classes, and what the head tells of them. -/
namespace Py
open PySem PySem.Spec PyProof.Rows L2
/-- a class that is made by its __init__ -/
structure HasC (G : PCfg) (mg : Str → Option Value) (base : Heap) (x : Str) (c n k : Nat) (F : Fn) : Prop where
  ex : ∃ f, Mk G.K (G.cls c) f ∧ HasM G mg base n k F f
  at_ : mg x = some (.ref (G.cls c))
theorem tab_nil {P : Nat → Fn → Prop} : ∀ c F, (c, F) ∈ ([] : List (Nat × Fn)) → P c F := fun _ _ h => nomatch h
theorem tab_cons {P : Nat → Fn → Prop} {c : Nat} {F : Fn} {l : List (Nat × Fn)} (h : P c F) (t : ∀ c F, (c, F) ∈ l → P c F) : ∀ c' F', (c', F') ∈ (c, F) :: l → P c' F' := fun c' F' m => by
  rcases List.mem_cons.mp m with e | m
  · cases e; exact h
  · exact t c' F' m
theorem HasM.mono {G : PCfg} {mg : Str → Option Value} {base : Heap} {n j k : Nat} {F : Fn} {f : Addr} (h : HasM G mg base n j F f) (l : j ≤ k) : HasM G mg base n k F f := let ⟨fd, ps, a, b⟩ := h.ex; ⟨fd, ps, a.mono l, b⟩
section
variable {X : Cx} {G : PCfg} {W : WX} {mg : Str → Option Value} {base : Heap} {e o : Expr} {es : List Expr} {f m x : Str} {fe fo fv : Ef} {g : Af} {pos pos' p apos : Pos} {fl : List Str}
theorem fld_ {cs : List Nat} (i : Nat) (K : XIs X G mg base) (hG : G.fld = fl) (hc : ∀ c ∈ cs, ClsA G c f) (he : DE X G W e fe) (hf : fl[i]? = some f := by rfl) (hb : attributeBase e f X.env (eval e X.env) = eval e X.env := by rfl) : DE X G W (.Attribute e f pos) (fldE cs i fe) := d_fld K.cok (by rw [hG]; exact hf) hc he hb
theorem setF_ {cs : List Nat} (i : Nat) (K : XIs X G mg base) (hG : G.fld = fl) (hc : ∀ c ∈ cs, ClsA G c f) (ho : DE X G W o fo) (hv : DE X G W e fv) (hf : fl[i]? = some f := by rfl) (hs : swapsWith e (some (.Attribute o f pos')) pos.line X.env = pure false := by rfl) : DS X G W (.Assign [.Attribute o f pos'] e pos) (setF cs i fo fv) := d_setF K.cok (by rw [hG]; exact hf) hc ho hv hs
theorem make_ {c n k j : Nat} {F : Fn} (h : HasC G mg base x c n k F) (K : XIs X G mg base) (tk : Takes X W) (hr : Room j X.A) (hj : k + 1 ≤ j) (ha : DA X G W (e :: es) g) (hg : Gl X x := by rfl) (hdb : (x == ("__debug__" : Str)) = false := by decide) (he : starEach (e :: es) X.env = (false, eval e X.env) :: starEach es X.env := by rfl) (hpl : (backTo pos (starEach es X.env)).any (·.1) = false := by rfl) :
    DE X G W (.Call (.Name x p) (e :: es) [] pos) (mkE c n F g) := by
  obtain ⟨⟨f, M, ⟨fd, ps, ok, hb⟩⟩, ha_⟩ := h
  rw [← K.p, ← K.w, ← K.k, ← K.m, ← K.b] at ok
  rw [← K.k] at M hb
  rw [← K.m] at ha_
  exact d_make K.cok M ok tk (hr.mono hj) hg ha_ hb ha hdb he hpl
theorem make0_ {c n k j : Nat} {F : Fn} (h : HasC G mg base x c n k F) (K : XIs X G mg base) (tk : Takes X W) (hr : Room j X.A) (hj : k + 1 ≤ j) (hg : Gl X x := by rfl) (hdb : (x == ("__debug__" : Str)) = false := by decide) :
    DE X G W (.Call (.Name x p) [] [] pos) (mkE c n F nilA) := by
  obtain ⟨⟨f, M, ⟨fd, ps, ok, hb⟩⟩, ha_⟩ := h
  rw [← K.p, ← K.w, ← K.k, ← K.m, ← K.b] at ok
  rw [← K.k] at M hb
  rw [← K.m] at ha_
  exact d_make0 K.cok M ok tk (hr.mono hj) hg ha_ hb hdb
/-! isinstance with an own class -/
structure IsiC (G : PCfg) (mg : Str → Option Value) (x : Str) (subs others : List Nat) : Prop where
  ex : ∃ d, mg x = some (.ref d) ∧ (∀ n ∈ subs, PySem.W.kitOne G.K (.ref (G.cls n)) (.ref d) = some true) ∧ (∀ n ∈ others, PySem.W.kitOne G.K (.ref (G.cls n)) (.ref d) = some false) ∧ ∀ t : BT, PySem.W.kitOne G.K (.type t.name) (.ref d) = some false
  i : ∀ n ∈ subs ++ others, ClsI G.K (G.cls n)
def ansC (subs others : List Nat) : Ty → Option Bool
  | .b _ => some false
  | .c n => if subs.contains n then some true else if others.contains n then some false else none
theorem isiC_ {subs others : List Nat} (h : IsiC G mg x subs others) (K : XIs X G mg base) (hm : mg "isinstance" = none) (he : DE X G W e fe) {p2 : Pos} (hg : Gl X "isinstance" := by rfl) (hgx : Gl X x := by rfl) (hd : (x == ("__debug__" : Str)) = false := by decide)
    (hs : starEach [e, .Name x p2] X.env = (false, eval e X.env) :: starEach [.Name x p2] X.env := by rfl) (hs2 : starEach [.Name x p2] X.env = (false, eval (.Name x p2) X.env) :: starEach [] X.env := by rfl) (hpl : (backTo pos (starEach [.Name x p2] X.env)).any (·.1) = false := by rfl) :
    DE X G W (.Call (.Name "isinstance" p) [e, .Name x p2] [] pos) (isiE (ansC subs others) fe) := by
  obtain ⟨⟨d, h0, h1, h2, h3⟩, hi⟩ := h
  refine d_isi (cv := .ref d) (u := .ref d) K.cok hg (nb K hm) (pe_glob hgx (by rw [K.m]; exact h0) rfl hd) (.own d) he (fun n z => ?_) (fun t b z => ?_) hs hs2 hpl
  · refine hi n ?_
    unfold ansC at z
    dsimp only at z
    split at z
    · rename_i q; exact List.mem_append_left _ (by simpa using q)
    · split at z
      · rename_i q; exact List.mem_append_right _ (by simpa using q)
      · cases z
  · cases t with
    | b t => cases z; exact h3 t
    | c n =>
      unfold ansC at z
      dsimp only at z
      split at z
      · rename_i q; cases z; exact h1 n (by simpa using q)
      · split at z
        · rename_i q; cases z; exact h2 n (by simpa using q)
        · cases z
end
/-! a, b = x, y -/
def parS (i j : Nat) (g : Af) : Sf := fun env h => match g env h with
  | .ok ps h' => (match ps with
    | [p, q] => .nrm ((env.set i (some p)).set j (some q)) h'
    | _ => .bad)
  | .exc c fs h' => .exc c fs env h'
  | .bad => .bad
theorem d_par {X : Cx} {G : PCfg} {W : WX} {i j : Nat} {x y : Str} {a b : Expr} {g : Af} {px py pt pos : Pos} {kt k2 pt2} (hc : X.calm = true) (hN : X.N.Nodup) (ha : DA X G W [a, b] g) (hij : i ≠ j := by decide) (hi : X.N[i]? = some x := by rfl) (hj : X.N[j]? = some y := by rfl)
    (hx : X.env.scope.names.lookup x = some .local := by rfl) (hy : X.env.scope.names.lookup y = some .local := by rfl)
    (hw : swappedStores [.Tuple [.Name x px, .Name y py] kt pt] (.Tuple [a, b] k2 pt2) X.env = pure (some [x, y]) := by rfl)
    (hs : swapsWithSole [.Tuple [.Name x px, .Name y py] kt pt] (.Tuple [a, b] k2 pt2) pos.line X.env = pure false := by rfl) :
    DS X G W (.Assign [.Tuple [.Name x px, .Name y py] kt pt] (.Tuple [a, b] k2 pt2) pos) (parS i j g) := PS.imp (ps_par hc hN hi hj hij hx hy ha hw hs) fun D σ H t => by
  obtain ⟨ρ, env, h, a, b, c⟩ := t.un
  refine ⟨ρ, env, h, a, b, trivial, ?_⟩
  unfold parS at c
  cases e : g env h with
  | ok ps h2 =>
    rw [e] at c
    intro vs H' ρ' x' y' z
    cases z with
    | nil => exact c.elim
    | cons z1 z2 =>
      cases z2 with
      | nil => exact c.elim
      | cons z2 z3 =>
        cases z3 with
        | nil => exact ⟨_, _, rfl, c _ H' ρ' x' (((a.ext x').set z1 i).set z2 j) y'⟩
        | cons _ _ => exact c.elim
  | exc cl fs h2 => rw [e] at c; exact fun d H' ρ' fv x y z u => c d σ H' ρ' fv x (a.ext x) y z u
  | bad => rw [e] at c; exact c
theorem ws_par {i j : Nat} {g : Af} {env : Env} {h : PH} {P : Po} : ws (parS i j g env h) P ↔ wp (g env h) (fun ps h1 => match ps with
    | [p, q] => P.nx ((env.set i (some p)).set j (some q)) h1
    | _ => False) (exE P env) := by
  unfold parS
  cases g env h with
  | ok ps h1 =>
    show ws (match ps with | [p, q] => _ | _ => .bad) P ↔ _
    rcases ps with _ | ⟨p, _ | ⟨q, _ | ⟨r, s⟩⟩⟩ <;> exact Iff.rfl
  | _ => exact Iff.rfl
/-! what the head checks -/
def fldB (K : Frag) (f : Str) (Cs : List Str) : Bool := Cs.all fun C => (He.Fa.cls C).ok K && (He.Fa.noat C f).ok K
theorem fldB_ok {G : PCfg} {f : Str} {Cs : List Str} (e : fldB G.K f Cs = true) (cs : List Nat) (h : cs.map G.cls = Cs.map (He.ga G.K)) : ∀ c ∈ cs, ClsA G c f := by
  intro c hc
  have m : G.cls c ∈ Cs.map (He.ga G.K) := by rw [← h]; exact List.mem_map_of_mem hc
  obtain ⟨C, hC, e2⟩ := List.mem_map.mp m
  obtain ⟨e3, e4⟩ := He.ba (List.all_eq_true.mp e C hC)
  have a := He.cls_ok e3
  have b := He.noat_ok e4
  rw [e2] at a b
  exact ⟨a, b⟩
def metB (K : Frag) (C m : Str) : Bool := (He.Fa.cls C).ok K && (He.Fa.meth C m).ok K
theorem metB_ok {G : PCfg} {mg : Str → Option Value} {base : Heap} {C m : Str} {c n k : Nat} {F : Fn} (e : metB G.K C m = true) (hc : G.cls c = He.ga G.K C) (hM : HasM G mg base n k F (He.ma G.K (He.ga G.K C) m)) : ClsM G mg base c m n k F := by
  obtain ⟨e3, e4⟩ := He.ba e
  have a := He.cls_ok e3
  have b := He.meth_ok e4
  rw [← hc] at a b hM
  exact ⟨_, a, b, hM⟩
def calB (K : Frag) (C : Str) : Bool := He.eqO (PySem.W.findIn K (.ref (He.ga K C)) "__call__") (some (some (.ref (He.ma K (He.ga K C) "__call__")))) && (PySem.W.isFn K (.ref (He.ma K (He.ga K C) "__call__")) && PySem.W.fnIn K (He.ma K (He.ga K C) "__call__"))
theorem calB_ok {G : PCfg} {mg : Str → Option Value} {base : Heap} {C : Str} {c n k : Nat} {F : Fn} (e : calB G.K C = true) (hc : G.cls c = He.ga G.K C) (hM : HasM G mg base n k F (He.ma G.K (He.ga G.K C) "__call__")) : ClsO G mg base c n k F := by
  obtain ⟨e3, e4⟩ := He.ba e
  obtain ⟨e5, e6⟩ := He.ba e4
  have a := He.eqO_ok e3
  rw [← hc] at a e5 e6 hM
  exact ⟨_, ⟨a, e5, e6⟩, hM⟩
def mkB (K : Frag) (C : Str) : Bool := (He.Fa.mkr C).ok K && (He.Fa.glo C).ok K
theorem mkB_ok {G : PCfg} {h : Heap} {mg : Str → Option Value} {base : Heap} {C : Str} {c n k : Nat} {F : Fn} (X : G.K.In h) (N : h.Ns mainGlobals mg) (e : mkB G.K C = true) (hc : G.cls c = He.ga G.K C) (hM : HasM G mg base n k F (He.ma G.K (He.ga G.K C) "__init__")) : HasC G mg base C c n k F := by
  obtain ⟨e3, e4⟩ := He.ba e
  have a := He.mkr_ok e3
  have b := He.glo_ok X N e4
  rw [← hc] at a b hM
  exact ⟨⟨_, a, hM⟩, b⟩
def clsIB (K : Frag) (C : Str) : Bool := (He.Fa.cls C).ok K && (He.eqO (PySem.W.findIn K (.ref (He.ga K C)) "__class__") (some (some (.builtin "object.__class__"))) && (decide (PySem.W.specialIn K (.builtin "object.__class__") "__get__" = some (some (.builtin "getset_descriptor.__get__"))) && (decide (PySem.W.takesIn K (.builtin "object.__class__") = some true) && decide (PySem.W.mroIn K (He.ga K C) (.type "object") = some true))))
theorem clsIB_ok {K : Frag} {C : Str} (e : clsIB K C = true) : ClsI K (He.ga K C) := by
  obtain ⟨e1, e⟩ := He.ba e
  obtain ⟨e2, e⟩ := He.ba e
  obtain ⟨e3, e⟩ := He.ba e
  obtain ⟨e4, e5⟩ := He.ba e
  exact ⟨He.cls_ok e1, He.eqO_ok e2, of_decide_eq_true e3, of_decide_eq_true e4, of_decide_eq_true e5⟩
def isiB (K : Frag) (x : Str) (Ss Os : List Str) : Bool := (He.Fa.glo x).ok K && (Ss.all (fun C => decide (PySem.W.kitOne K (.ref (He.ga K C)) (.ref (He.ga K x)) = some true)) && (Os.all (fun C => decide (PySem.W.kitOne K (.ref (He.ga K C)) (.ref (He.ga K x)) = some false)) && ([BT.none, .bool, .int, .str, .list, .tuple].all (fun t => decide (PySem.W.kitOne K (.type t.name) (.ref (He.ga K x)) = some false)) && (Ss ++ Os).all (clsIB K))))
theorem isiB_ok {G : PCfg} {h : Heap} {mg : Str → Option Value} {x : Str} {Ss Os : List Str} {subs others : List Nat} (X : G.K.In h) (N : h.Ns mainGlobals mg) (e : isiB G.K x Ss Os = true) (h1 : subs.map G.cls = Ss.map (He.ga G.K)) (h2 : others.map G.cls = Os.map (He.ga G.K)) : IsiC G mg x subs others := by
  obtain ⟨e1, e⟩ := He.ba e
  obtain ⟨e2, e⟩ := He.ba e
  obtain ⟨e3, e⟩ := He.ba e
  obtain ⟨e4, e5⟩ := He.ba e
  have mem : ∀ {cs : List Nat} {Cs : List Str}, cs.map G.cls = Cs.map (He.ga G.K) → ∀ n ∈ cs, ∃ C ∈ Cs, He.ga G.K C = G.cls n := fun {cs Cs} h n hn => by
    have m : G.cls n ∈ Cs.map (He.ga G.K) := by rw [← h]; exact List.mem_map_of_mem hn
    obtain ⟨C, a, b⟩ := List.mem_map.mp m
    exact ⟨C, a, b⟩
  refine ⟨⟨He.ga G.K x, He.glo_ok X N e1, fun n hn => ?_, fun n hn => ?_, fun t => ?_⟩, fun n hn => ?_⟩
  · obtain ⟨C, a, b⟩ := mem h1 n hn
    rw [← b]
    exact of_decide_eq_true (List.all_eq_true.mp e2 C a)
  · obtain ⟨C, a, b⟩ := mem h2 n hn
    rw [← b]
    exact of_decide_eq_true (List.all_eq_true.mp e3 C a)
  · exact of_decide_eq_true (List.all_eq_true.mp e4 t (by cases t <;> simp))
  · rcases List.mem_append.mp hn with hn | hn
    · obtain ⟨C, a, b⟩ := mem h1 n hn
      rw [← b]
      exact clsIB_ok (List.all_eq_true.mp e5 C (List.mem_append_left _ a))
    · obtain ⟨C, a, b⟩ := mem h2 n hn
      rw [← b]
      exact clsIB_ok (List.all_eq_true.mp e5 C (List.mem_append_right _ a))
/-- a def in a class's body -/
def inCls (s : Stmt) (i : Nat) : Stmt := match s with
  | .ClassDef _ _ _ b _ _ _ _ _ _ _ => b.getD i (.Pass ⟨0, 0, 0, 0⟩)
  | _ => .Pass ⟨0, 0, 0, 0⟩
end Py

end

section
/-! The logic of instances. -/
namespace Py
open PySem
section
variable {Q : PV → PH → Prop} {X : XP} {h : PH} {P : Po} {env : Env} {cs : List Nat} {i : Nat} {f fo fv : Ef} {g : Af} {c n : Nat} {F : Fn} {tab : List (Nat × Fn)}
theorem wp_mkE (w : wp (g env h) (fun ps h1 => ps.length + 1 = n ∧ wp (F (.obj h1.length :: ps) (h1 ++ [.ins c []])) (fun r h2 => r = .non ∧ Q (.obj h1.length) h2) X) X) : wp (mkE c n F g env h) Q X := by
  unfold mkE
  rw [wp_bind]
  refine wp_mono w fun ps h1 ⟨e, w2⟩ => ?_
  rw [if_pos e]
  unfold mkC
  rw [wp_bind]
  refine wp_mono w2 fun r h2 ⟨e2, q⟩ => ?_
  subst e2
  exact q
theorem wp_fldE (w : wp (f env h) (fun p h1 => wp (fldV cs i p h1) Q X) X) : wp (fldE cs i f env h) Q X := by
  unfold fldE
  rw [wp_bind]
  exact w
theorem fldI {j : Nat} {fs : List (Nat × PV)} {q : PV} (e : h[j]? = some (.ins c fs)) (e1 : cs.contains c = true) (e2 : fs.lookup i = some q) (k : Q q h) : wp (fldV cs i (.obj j) h) Q X := by
  have : fldV cs i (.obj j) h = .ok q h := by simp only [fldV, insAt, e, e1, if_true, e2]
  rw [this]; exact k
theorem ws_setF (w : wp (fv env h) (fun v h1 => wp (fo env h1) (fun o h2 => ∃ h3, setFV cs i o v h2 = some h3 ∧ P.nx env h3) (exE P env)) (exE P env)) : ws (setF cs i fo fv env h) P := by
  unfold setF
  rw [ws_expr]
  unfold setFE
  rw [wp_bind]
  refine wp_mono w fun v h1 w1 => ?_
  rw [wp_bind]
  refine wp_mono w1 fun o h2 ⟨h3, e, q⟩ => ?_
  rw [e]
  exact q
theorem setFI {j : Nat} {fs : List (Nat × PV)} {v : PV} {R : PH → Prop} (e : h[j]? = some (.ins c fs)) (e1 : cs.contains c = true) (e2 : fs.length < 900) (q : R (h.set j (.ins c (putP i v fs)))) : ∃ h3, setFV cs i (.obj j) v h = some h3 ∧ R h3 :=
  ⟨_, by simp only [setFV, insAt, e, e1, e2, decide_true, Bool.and_self, if_true], q⟩
theorem wp_calE (w : wp (f env h) (fun p h1 => ∃ j c fs F, p = .obj j ∧ h1[j]? = some (.ins c fs) ∧ tab.lookup c = some F ∧ wp (g env h1) (fun qs h2 => (∃ fs2, h2[j]? = some (.ins c fs2)) ∧ qs.length + 1 = n ∧ wp (F (.obj j :: qs) h2) Q X) X) X) : wp (calE tab n f g env h) Q X := by
  unfold calE
  rw [wp_bind]
  refine wp_mono w fun p h1 ⟨j, c, fs, F, e, e1, e2, w1⟩ => ?_
  subst e
  simp only [insAt, e1, e2]
  rw [wp_bind]
  refine wp_mono w1 fun qs h2 ⟨⟨fs2, e3⟩, e4, w2⟩ => ?_
  simp only [insAt, e3, e4, and_self, if_true]
  exact w2
theorem calI {j : Nat} {fs : List (Nat × PV)} {R : Nat → Nat → Fn → Prop} (e : h[j]? = some (.ins c fs)) (e2 : tab.lookup c = some F) (q : R j c F) : ∃ j' c' fs' F', PV.obj j = .obj j' ∧ h[j']? = some (.ins c' fs') ∧ tab.lookup c' = some F' ∧ R j' c' F' := ⟨j, c, fs, F, rfl, e, e2, q⟩
theorem calS {j : Nat} {fs : List (Nat × PV)} {R : Prop} (e : h[j]? = some (.ins c fs)) (q : R) : (∃ fs2, h[j]? = some (.ins c fs2)) ∧ R := ⟨⟨fs, e⟩, q⟩
theorem wp_metE (w : wp (f env h) (fun p h1 => ∃ j c fs F, p = .obj j ∧ h1[j]? = some (.ins c fs) ∧ tab.lookup c = some F ∧ wp (g env h1) (fun qs h2 => qs.length + 1 = n ∧ wp (F (.obj j :: qs) h2) Q X) X) X) : wp (metE tab n f g env h) Q X := by
  unfold metE
  rw [wp_bind]
  refine wp_mono w fun p h1 ⟨j, c, fs, F, e, e1, e2, w1⟩ => ?_
  subst e
  simp only [insAt, e1, e2]
  rw [wp_bind]
  refine wp_mono w1 fun qs h2 ⟨e4, w2⟩ => ?_
  rw [if_pos e4]
  exact w2
theorem lenS1 {ps : List PV} {R : Prop} (e : ps.length + 1 = n) (q : R) : ps.length + 1 = n ∧ R := ⟨e, q⟩
theorem nonI {R : Prop} (q : R) : PV.non = .non ∧ R := ⟨rfl, q⟩
theorem tyOi {j : Nat} {fs : List (Nat × PV)} {ans : Ty → Option Bool} {b : Bool} (e : h[j]? = some (.ins c fs)) (k : ans (.c c) = some b) : (tyOf h (.obj j)).bind ans = some b := by
  simp only [tyOf, e, Option.bind, k]
theorem mulL {j : Nat} {xs : List PV} {k : Int} (e : h[j]? = some (.lst xs)) (h1 : -(2 ^ 63) ≤ k) (h2 : k < 2 ^ 63) (h3 : xs.length * k.toNat ≤ sizeLine) (q : Q (.obj h.length) (h ++ [.lst (List.replicate k.toNat xs).flatten])) : wp (mulV (.obj j) (.int k) h) Q X := by
  have : mulV (.obj j) (.int k) h = newL (List.replicate k.toNat xs).flatten h := by simp only [mulV, e, h1, h2, h3, decide_true, Bool.and_self, if_true]
  rw [this]; exact q
theorem eqD {p q : PV} {d e : PyData} (h1 : datOf h p = some d) (h2 : datOf h q = some e) (k : Q (.bl (PyData.eqv d e)) h) : wp (eqV p q h) Q X := by
  have : eqV p q h = okB (PyData.eqv d e) h := by simp only [eqV, h1, h2]
  rw [this]; exact k
theorem neD {p q : PV} {d e : PyData} (h1 : datOf h p = some d) (h2 : datOf h q = some e) (k : Q (.bl (!PyData.eqv d e)) h) : wp (neV p q h) Q X := by
  have : neV p q h = okB (!PyData.eqv d e) h := by simp only [neV, h1, h2]
  rw [this]; exact k
theorem inD {neg : Bool} {p : PV} {n : Nat} {d : PyData} {ds : List PyData} (h1 : datOf h p = some d) (h2 : datOf h (.obj n) = some (.list ds)) (k : Q (.bl (if neg then !(ds.any fun z => PyData.eqv z d) else ds.any fun z => PyData.eqv z d)) h) : wp (inV neg p (.obj n) h) Q X := by
  have : inV neg p (.obj n) h = (match datOf h p, datOf h (.obj n) with
    | some d, some (.list ds) => okB (if neg then !(ds.any fun z => PyData.eqv z d) else ds.any fun z => PyData.eqv z d) h
    | _, _ => .bad) := by cases p <;> rfl
  rw [this, h1, h2]
  exact k
end
end Py

end

section
/-! == and != of instances with an own __eq__. -/
namespace Py
open PySem PySem.Spec PyProof.Rows L2
section
variable {prog : Program} {w : World} {A : Around} {E : Value → Shared → Prop} {s : Shared} {K : PySem.W.Frag} {x C f : Addr} {ox : Obj} {od : Option Obj} {b tb : Value}
theorem ne_entry {Q : Fin → Shared → Prop} (hu : A.units < cLine) (X : K.In s.heap) (I : PySem.W.InstAt s.heap x ox C od) (he : PySem.W.findIn K (.ref C) "__eq__" = some (some (.ref f))) (hf : PySem.W.isFn K (.ref f) = true)
    (h : wpAny (model prog w) A (call (.ref f) [.ref x, b]) (fun v s' => ∃ k, v = .bool k ∧ Q (.done (.ret (.bool (!k)))) s') E s) : wpAny (model prog w) A (Builtin.«object.__ne__» ⟨[.ref x, b], []⟩) Q E s := by
  unfold Builtin.«object.__ne__»
  repeat (first
    | with_reducible refine wpAny_cRoomFor hu ?_
    | (refine wpAny_bind (m := callSpecialIfBound? (.ref x) (Str.ofString "__eq__") [b])
        (PySem.W.ifBound_K X I he hf (wpAny_mono h (fun r s' hr => by
          obtain ⟨k, rfl, hq⟩ := hr
          repeat (first | exact hq | exact wpAny_pure hq | exact wpAny_truthy_bool hq | (refine wpAny_bind (m := truthy (.bool _)) (wpAny_truthy_bool ?_)) | wp_step)) fun _ _ e => e)))
    | wp_step)
theorem ifBound_ne {M : Model} {args : List Value} {Q : Option Value → Shared → Prop} (X : K.In s.heap) (I : PySem.W.InstAt s.heap x ox C od) (hs : PySem.W.findIn K (.ref C) "__ne__" = some (some (.builtin "object.__ne__")))
    (h : wpAny M A (call (.builtin "object.__ne__") (.ref x :: args)) (fun v => Q (some v)) E s) : wpAny M A (callSpecialIfBound? (.ref x) "__ne__" args) Q E s := by
  simp only [callSpecialIfBound?, bindSpecialIfBound?]; refine wpAny_holding (wpAny_bind (wpAny_bind (wpAny_bind (I.type.here ((PySem.W.looks_findIn X hs).here (wpAny_bind (wpAny_askSetting (wpAny_ite ?_))))))))
  have last : wpAny M A (call (.builtin "object.__ne__") ([.ref x] ++ args) >>= fun v => pure (some v)) Q E s := wpAny_bind (wpAny_mono h (fun v s' h' => wpAny_pure h') fun _ _ h' => h')
  split
  · exact wpAny_bind (wpAny_of_eq (F.cmp_object.ne.bind _) (wpAny_pure (by exact last)))
  · exact wpAny_tryCatch (wpAny_bind (wpAny_of_eq (F.cmp_object.ne.bind _) (wpAny_pure (by exact last))))
theorem rc_ne {Q : Value → Shared → Prop} (hu : A.units + 1 < cLine) (X : K.In s.heap) (I : PySem.W.InstAt s.heap x ox C od) (hb : PySem.W.Looks (model prog w) s.heap (typeOf b) tb) (hn : PySem.W.notFirst K C tb = true)
    (he : PySem.W.findIn K (.ref C) "__eq__" = some (some (.ref f))) (hf : PySem.W.isFn K (.ref f) = true) (hne : PySem.W.findIn K (.ref C) "__ne__" = some (some (.builtin "object.__ne__"))) (hm : PySem.W.mroIn K C (.type "object") = some true)
    (h : wpAny (model prog w) A.in1 (call (.ref f) [.ref x, b]) (fun v s' => ∃ k, v = .bool k ∧ Q (.bool (!k)) s') E s) : wpAny (model prog w) A (richCompare .NotEq (.ref x) b) Q E s := by
  have one : wpAny (model prog w) A (tryCompare (.ref x) "__ne__" b) (fun r s' => ∃ v, r = some v ∧ Q v s') E s := by
    unfold tryCompare
    refine wpAny_bind (ifBound_ne X I hne (wpAny_call (codeAny_call_builtin F.cmp_object.ne.plain F.cmpEntry_ne (PySem.W.check_slot F.cmpKind_ne F.cmpSplit_ne (I.type.andThen (PySem.W.looks_mroIn X hm)) (F.cmpArgs_ne _ _) (ne_entry hu X I he hf (wpAny_mono h (fun v s' hv => ?_) fun _ _ e => e))))))
    obtain ⟨k, rfl, hq⟩ := hv
    exact ⟨k, rfl, wpAny_pure ⟨_, rfl, hq⟩⟩
  unfold richCompare
  simp only [oneThing_ref]
  have last : wpAny (model prog w) A (tryCompare (.ref x) "__ne__" b) (fun r s' => ∃ v, r = some v ∧ Q v s') E s := one
  refine wpAny_holding (wpAny_bind (wpAny_cRoomFor (Nat.lt_of_succ_lt hu) (wpAny_bind (I.type.here (wpAny_bind (hb.here ?_))))))
  split
  · rename_i q
    have nosub : PySem.W.subIn K tb (.ref C) = some false := (Bool.or_eq_true_iff.mp hn).elim (fun y => by rw [beq_iff_eq.mp y] at q; simp at q) fun y => beq_iff_eq.mp y
    refine wpAny_bind ((PySem.W.looks_subIn X nosub).here ?_); simp only [Bool.false_eq_true, if_false]
    refine wpAny_bind (wpAny_mono last (fun r1 s1 ⟨v1, e1, q1⟩ => ?_) fun _ _ y => y)
    subst e1; exact wpAny_pure q1
  · refine wpAny_bind (wpAny_pure ?_); simp only [Bool.false_eq_true, if_false]
    refine wpAny_bind (wpAny_mono last (fun r2 s2 ⟨v2, e2, q2⟩ => ?_) fun _ _ y => y)
    subst e2; exact wpAny_pure q2
end
/-- a class with its own __eq__, asked with values of the classes cs and of built-in types -/
structure EqC (G : PCfg) (mg : Str → Option Value) (base : Heap) (c : Nat) (cs : List Nat) (k : Nat) (F : Fn) : Prop where
  ex : ∃ f, PySem.W.findIn G.K (.ref (G.cls c)) "__eq__" = some (some (.ref f)) ∧ PySem.W.isFn G.K (.ref f) = true ∧ PySem.W.findIn G.K (.ref (G.cls c)) "__ne__" = some (some (.builtin "object.__ne__")) ∧ PySem.W.mroIn G.K (G.cls c) (.type "object") = some true ∧ HasM G mg base 2 k F f
  bt : ∀ t : BT, PySem.W.notFirst G.K (G.cls c) (.type t.name) = true
  ow : ∀ c' ∈ cs, PySem.W.notFirst G.K (G.cls c) (.ref (G.cls c')) = true ∧ ClsI G.K (G.cls c')
def inTy (cs : List Nat) : Option Ty → Bool
  | some (.b _) => true
  | some (.c c) => cs.contains c
  | none => false
/-- == (neg: !=), own classes' __eq__ by the table -/
def eqO (tab : List (Nat × Fn)) (cs : List Nat) (neg : Bool) : Op2 := fun p q h => match insAt h p with
  | some (c, _) => (match tab.lookup c with
    | some F => if inTy cs (tyOf h q) = true then (match F [p, q] h with
      | .ok (.bl k) h2 => okB (if neg then !k else k) h2
      | _ => .bad) else .bad
    | none => .bad)
  | none => if neg then neV p q h else eqV p q h
def opN (neg : Bool) : CmpOp := if neg then .NotEq else .Eq
abbrev rOwn (G : PCfg) (mg : Str → Option Value) (base : Heap) (k : Nat) (neg : Bool) : R2 := fun x y H Q => ∃ a c dx fs cs F t, x = V.ref a ∧ H a = some (.ins (G.cls c) dx fs) ∧ EqC G mg base c cs k F ∧ TyX G.K H y t ∧ PySem.W.notFirst G.K (G.cls c) t = true ∧
  spI G 2 F [x, y] H (fun v H' => ∃ b, v = .bl b ∧ Q (.bl (if neg then !b else b)) H') (fun _ _ _ => False)
section
variable {X : Cx} {G : PCfg} {W : WX} {mg : Str → Option Value} {base : Heap} {k j : Nat} {neg : Bool} {a b : Expr} {fa fb : Ef} {pos : Pos} {tab : List (Nat × Fn)} {cs : List Nat}
theorem run2 {A : Around} {pins : List (Addr × Obj)} {s : Shared} {σ : Sto} {H : Hp} {f : Addr} {F : Fn} {x y : V} {u v : Value} {Q : VK} {R : Value → Shared → Prop} {E : Value → Shared → Prop} (K : XIs X G mg base) (hA : A.frames = X.A.frames) (hr : Room k A) (hM : HasM G mg base 2 k F f) (I : Inv X pins σ H s) (rx : RelV x u) (ry : RelV y v)
    (h : spI G 2 F [x, y] H Q (fun _ _ _ => False)) (hk : ∀ w s', EP X pins σ Q w s' → R w s') : wpAny (model X.prog X.w) A (call (.ref f) [u, v]) R E s := by
  obtain ⟨fd, ps, ok, hb⟩ := hM.ex
  rw [← K.p, ← K.w, ← K.k, ← K.m, ← K.b] at ok
  rw [← K.k] at hb
  have r2 : Vals [x, y] [u, v] := .cons rx (.cons ry .nil)
  have ll : [u, v].length = ps.length := by rw [← r2.length]; exact ok.len _ _ _ _ h
  have bb := hb s [u, v] I.kIn (by rw [List.append_nil]; exact ll)
  rw [List.append_nil] at bb
  have e0 : Env0 X.prog X.w X.K X.mg X.base A X.stack s H := let e := I.env0; ⟨by rw [hA]; exact e.frames, e.mod, e.bs, e.bsz, e.funs, e.frf, e.hok, e.bare⟩
  refine wpAny_call (codeAny_mono (ok.run A X.stack s H ⟨[u, v], []⟩ [u, v] [x, y] Q (fun _ _ _ => False) hr e0 bb r2 h) fun z s' y => ?_)
  cases z with
  | error ev =>
    obtain ⟨_, _, _, _, _, _, _, _, _, _, _, _, z⟩ := y
    exact z.elim
  | ok fl =>
    cases fl with
    | ret w => exact hk w s' (I.after y)
    | next => exact False.elim y
    | brk => exact False.elim y
    | cont => exact False.elim y
theorem op_own (K : XIs X G mg base) (hr : Room (k + 1) X.A) (hu : X.A.units + 1 < cLine) : OpR X (compareOp (opN neg)) (rOwn G mg base k neg) := by
  intro pins s σ H x y v u Q I rx ry ⟨a, c, dx, fs, cs, F, t, ex, ha, hE, hT, hn, hs⟩
  subst ex
  obtain rfl : v = Value.ref a := rx
  obtain ⟨f, f1, f2, f3, f4, hM⟩ := hE.ex
  rw [← K.k] at f1 f2 f3 f4 hT hn
  obtain ⟨mA, O, _⟩ := ins_get I.hok ha
  obtain ⟨od, J, _⟩ := O.look
  obtain ⟨P, Z, hP, _⟩ := kit_of I ry hT
  have hL := Z.ty (model X.prog X.w) s.heap I.kIn hP
  obtain ⟨m, hF⟩ := I.fr
  cases neg with
  | false =>
    show wpAny (model X.prog X.w) X.A (richCompare .Eq (.ref a) u) (EP X pins σ Q) X.xe s
    refine PySem.W.cmp_K (op := .Eq) (tb := t) (by omega) hF I.ok.mod.kin J hL hn f1 f2 ?_
    refine run2 K rfl (hr.mono (Nat.le_succ k)) hM I (show RelV (.ref a) (Value.ref a) from rfl) ry hs fun w s' h => ?_
    obtain ⟨z, H', I', rz, b, ez, q⟩ := h
    subst ez
    cases rz
    exact ⟨.bl b, H', I', rfl, q⟩
  | true =>
    show wpAny (model X.prog X.w) X.A (richCompare .NotEq (.ref a) u) (EP X pins σ Q) X.xe s
    refine rc_ne hu I.kIn J hL hn f1 f2 f3 f4 ?_
    refine run2 (A := X.A.in1) K rfl hr.in1 hM I (show RelV (.ref a) (Value.ref a) from rfl) ry hs fun w s' h => ?_
    obtain ⟨z, H', I', rz, b, ez, q⟩ := h
    subst ez
    cases rz
    exact ⟨b, rfl, .bl (!b), H', I', rfl, q⟩
theorem OpR.or {op : Value → Value → Sem Value} {r r' : R2} (h1 : OpR X op r) (h2 : OpR X op r') : OpR X op fun x y H Q => r x y H Q ∨ r' x y H Q := fun pins s σ H x y v u Q I rx ry q => q.elim (h1 pins s σ H x y v u Q I rx ry) (h2 pins s σ H x y v u Q I rx ry)
theorem says_own (hc : ∀ c F, (c, F) ∈ tab → EqC G mg base c cs k F) : Says G (eqO tab cs neg) fun x y H Q => (if neg then rNeD G.K x y H Q else rEqD G.K x y H Q) ∨ rOwn G mg base k neg x y H Q := by
  intro ρ H h p q x y Q b rp rq d
  unfold eqO at d
  cases e1 : insAt h p with
  | none =>
    rw [e1] at d
    refine .inl ?_
    cases neg with
    | false => exact says_eq ρ H h p q x y Q b rp rq d
    | true => exact says_ne ρ H h p q x y Q b rp rq d
  | some cf =>
    obtain ⟨c, fs⟩ := cf
    rw [e1] at d
    dsimp only at d
    cases e2 : tab.lookup c with
    | none => rw [e2] at d; exact d.elim
    | some F =>
      rw [e2] at d
      dsimp only at d
      split at d
      · rename_i ht
        refine .inr ?_
        have hE := hc c F (mem_of_lookup e2)
        obtain ⟨n, a, dx, fv, rfl, rfl, _, hn, h1, h2⟩ := ins_at b rp e1
        cases e3 : tyOf h q with
        | none => rw [e3] at ht; cases ht
        | some ty =>
          rw [e3] at ht
          have hkk : ∀ c', ty = .c c' → ClsI G.K (G.cls c') := fun c' e => by subst e; exact (hE.ow c' (by simpa [inTy] using ht)).2
          have hT := tyOf_rep b rq e3 hkk
          refine ⟨a, c, dx, fv, cs, F, tyVal G ty, rfl, h1, hE, hT, ?_, rfl, ρ, [.obj n, q], h, b, .cons rp (.cons rq .nil), ?_⟩
          · cases ty with
            | b t => exact hE.bt t
            | c c' => exact (hE.ow c' (by simpa [inTy] using ht)).1
          · cases e4 : F [.obj n, q] h with
            | ok r h2 =>
              rw [e4] at d
              cases r with
              | bl kb => exact fun v H' ρ' x' y' z => ⟨kb, Rep.unBl z, d _ H' ρ' x' y' (.bl _)⟩
              | _ => exact d.elim
            | exc _ _ _ => rw [e4] at d; exact d.elim
            | bad => rw [e4] at d; exact d.elim
      · exact d.elim
theorem nx_own : NoEx2 (eqO tab cs neg) := by
  intro p q h c fs h' e
  unfold eqO at e
  split at e
  · split at e
    · split at e
      · split at e <;> cases e
      · cases e
    · cases e
  · split at e
    · exact nx_ne p q h c fs h' e
    · exact nx_eq p q h c fs h' e
theorem eqO_ (K : XIs X G mg base) (hr : Room j X.A) (hj : k + 1 ≤ j) (hc : ∀ c F, (c, F) ∈ tab → EqC G mg base c cs k F) (ha : DE X G W a fa) (hb : DE X G W b fb) : DE X G W (.Compare a [.Eq] [b] pos) (bin (eqO tab cs false) fa fb) :=
  d_cmp (OpR.or (r := fun x y H Q => (if false = true then rNeD G.K x y H Q else rEqD G.K x y H Q)) (by simpa [K.k] using op_eqD (X := X) (u64 hr)) (op_own (neg := false) K (hr.mono hj) (by have := u64 hr; omega))) (says_own hc) nx_own ha hb (nomark _)
theorem neO_ (K : XIs X G mg base) (hr : Room j X.A) (hj : k + 1 ≤ j) (hc : ∀ c F, (c, F) ∈ tab → EqC G mg base c cs k F) (ha : DE X G W a fa) (hb : DE X G W b fb) : DE X G W (.Compare a [.NotEq] [b] pos) (bin (eqO tab cs true) fa fb) :=
  d_cmp (OpR.or (r := fun x y H Q => (if true = true then rNeD G.K x y H Q else rEqD G.K x y H Q)) (by simpa [K.k] using op_neD (X := X) (u64 hr)) (op_own (neg := true) K (hr.mono hj) (by have := u64 hr; omega))) (says_own hc) nx_own ha hb (nomark _)
theorem t_eqO (K : XIs X G mg base) (hr : Room j X.A) (hj : k + 1 ≤ j) (hc : ∀ c F, (c, F) ∈ tab → EqC G mg base c cs k F) (ha : DE X G W a fa) (hb : DE X G W b fb) : DT X G W (.Compare a [.Eq] [b] pos) (tst (bin (eqO tab cs false) fa fb)) :=
  d_tcmp (OpR.or (r := fun x y H Q => (if false = true then rNeD G.K x y H Q else rEqD G.K x y H Q)) (by simpa [K.k] using op_eqD (X := X) (u64 hr)) (op_own (neg := false) K (hr.mono hj) (by have := u64 hr; omega))) (says_own hc) nx_own ha hb (nomark _)
theorem t_neO (K : XIs X G mg base) (hr : Room j X.A) (hj : k + 1 ≤ j) (hc : ∀ c F, (c, F) ∈ tab → EqC G mg base c cs k F) (ha : DE X G W a fa) (hb : DE X G W b fb) : DT X G W (.Compare a [.NotEq] [b] pos) (tst (bin (eqO tab cs true) fa fb)) :=
  d_tcmp (OpR.or (r := fun x y H Q => (if true = true then rNeD G.K x y H Q else rEqD G.K x y H Q)) (by simpa [K.k] using op_neD (X := X) (u64 hr)) (op_own (neg := true) K (hr.mono hj) (by have := u64 hr; omega))) (says_own hc) nx_own ha hb (nomark _)
end
/-! what the head checks -/
def eqB (K : Frag) (C : Str) (Cs : List Str) : Bool := He.eqO (PySem.W.findIn K (.ref (He.ga K C)) "__eq__") (some (some (.ref (He.ma K (He.ga K C) "__eq__")))) && (PySem.W.isFn K (.ref (He.ma K (He.ga K C) "__eq__")) && (He.eqO (PySem.W.findIn K (.ref (He.ga K C)) "__ne__") (some (some (.builtin "object.__ne__"))) &&
  (decide (PySem.W.mroIn K (He.ga K C) (.type "object") = some true) && ([BT.none, .bool, .int, .str, .list, .tuple].all (fun t => PySem.W.notFirst K (He.ga K C) (.type t.name)) && Cs.all fun D => PySem.W.notFirst K (He.ga K C) (.ref (He.ga K D)) && clsIB K D))))
theorem eqB_ok {G : PCfg} {mg : Str → Option Value} {base : Heap} {C : Str} {Cs : List Str} {c k : Nat} {cs : List Nat} {F : Fn} (e : eqB G.K C Cs = true) (hc : G.cls c = He.ga G.K C) (hcs : cs.map G.cls = Cs.map (He.ga G.K)) (hM : HasM G mg base 2 k F (He.ma G.K (He.ga G.K C) "__eq__")) : EqC G mg base c cs k F := by
  obtain ⟨e1, e⟩ := He.ba e
  obtain ⟨e2, e⟩ := He.ba e
  obtain ⟨e3, e⟩ := He.ba e
  obtain ⟨e4, e⟩ := He.ba e
  obtain ⟨e5, e6⟩ := He.ba e
  refine ⟨⟨_, by rw [hc]; exact He.eqO_ok e1, e2, by rw [hc]; exact He.eqO_ok e3, by rw [hc]; exact of_decide_eq_true e4, hM⟩, fun t => ?_, fun c' hc' => ?_⟩
  · rw [hc]
    exact List.all_eq_true.mp e5 t (by cases t <;> simp)
  · have m : G.cls c' ∈ Cs.map (He.ga G.K) := by rw [← hcs]; exact List.mem_map_of_mem hc'
    obtain ⟨D, hD, e7⟩ := List.mem_map.mp m
    obtain ⟨e8, e9⟩ := He.ba (List.all_eq_true.mp e6 D hD)
    rw [hc, ← e7]
    exact ⟨e8, clsIB_ok e9⟩
end Py

end

section
/-! str(x) of instances with an own __str__, x.extend, more of the logic. -/
namespace Py
open PySem PySem.Spec PyProof.Rows L2
structure StrC (G : PCfg) (mg : Str → Option Value) (base : Heap) (c k : Nat) (F : Fn) : Prop where
  ex : ∃ f, PySem.W.findIn G.K (.ref (G.cls c)) "__str__" = some (some (.ref f)) ∧ PySem.W.isFn G.K (.ref f) = true ∧ HasM G mg base 1 k F f
def strO (tab : List (Nat × Fn)) : List PV → PH → Rs PV := fun ps h => match ps with
  | [p] => (match insAt h p with
    | some (c, _) => (match tab.lookup c with
      | some F => (match F [p] h with
        | .ok (.str z) h2 => .ok (.str z) h2
        | _ => .bad)
      | none => .bad)
    | none => .bad)
  | _ => .bad
abbrev rStr (G : PCfg) (mg : Str → Option Value) (base : Heap) (k : Nat) : List V → Hp → VK → Prop := fun xs H Q => ∃ a c dx fs F, xs = [V.ref a] ∧ H a = some (.ins (G.cls c) dx fs) ∧ StrC G mg base c k F ∧ spI G 1 F [.ref a] H (fun v H' => ∃ z, v = .str z ∧ Q (.str z) H') (fun _ _ _ => False)
section
variable {X : Cx} {G : PCfg} {W : WX} {mg : Str → Option Value} {base : Heap} {k j : Nat} {tab : List (Nat × Fn)} {e : Expr} {es : List Expr} {g : Af} {p pos : Pos}
theorem run1 {A : Around} {pins : List (Addr × Obj)} {s : Shared} {σ : Sto} {H : Hp} {f : Addr} {F : Fn} {x : V} {u : Value} {Q : VK} {R : Value → Shared → Prop} {E : Value → Shared → Prop} (K : XIs X G mg base) (hA : A.frames = X.A.frames) (hr : Room k A) (hM : HasM G mg base 1 k F f) (I : Inv X pins σ H s) (rx : RelV x u)
    (h : spI G 1 F [x] H Q (fun _ _ _ => False)) (hk : ∀ w s', EP X pins σ Q w s' → R w s') : wpAny (model X.prog X.w) A (call (.ref f) [u]) R E s := by
  obtain ⟨fd, ps, ok, hb⟩ := hM.ex
  rw [← K.p, ← K.w, ← K.k, ← K.m, ← K.b] at ok
  rw [← K.k] at hb
  have r2 : Vals [x] [u] := .cons rx .nil
  have ll : [u].length = ps.length := by rw [← r2.length]; exact ok.len _ _ _ _ h
  have bb := hb s [u] I.kIn (by rw [List.append_nil]; exact ll)
  rw [List.append_nil] at bb
  have e0 : Env0 X.prog X.w X.K X.mg X.base A X.stack s H := let e := I.env0; ⟨by rw [hA]; exact e.frames, e.mod, e.bs, e.bsz, e.funs, e.frf, e.hok, e.bare⟩
  refine wpAny_call (codeAny_mono (ok.run A X.stack s H ⟨[u], []⟩ [u] [x] Q (fun _ _ _ => False) hr e0 bb r2 h) fun z s' y => ?_)
  cases z with
  | error ev =>
    obtain ⟨_, _, _, _, _, _, _, _, _, _, _, _, z⟩ := y
    exact z.elim
  | ok fl =>
    cases fl with
    | ret w => exact hk w s' (I.after y)
    | next => exact False.elim y
    | brk => exact False.elim y
    | cont => exact False.elim y
theorem cr_str (K : XIs X G mg base) (hr : Room (k + 2) X.A) : CallR X (.type "str") (rStr G mg base k) := by
  intro pins s σ H xs us Q I rs ⟨a, c, dx, fs, F, ex, ha, hS, hs⟩
  subst ex
  obtain ⟨u, rfl, ru⟩ : ∃ u, us = [u] ∧ RelV (.ref a) u := by
    cases rs with
    | cons r1 r2 => cases r2; exact ⟨_, rfl, r1⟩
  obtain rfl : u = Value.ref a := ru
  obtain ⟨f, f1, f2, hM⟩ := hS.ex
  rw [← K.k] at f1 f2
  obtain ⟨mA, O, _⟩ := ins_get I.hok ha
  obtain ⟨od, J, _⟩ := O.look
  have r2 : Room k X.A.in1.in1 := hr.in1.in1
  refine PySem.W.kso_call (by have := u64 r2; omega) I.kIn J f1 f2 ?_
  refine run1 (A := X.A.in1.in1) K rfl r2 hM I (show RelV (.ref a) (Value.ref a) from rfl) hs fun w s' h => ?_
  obtain ⟨z, H', I', rz, b, ez, q⟩ := h
  subst ez
  obtain ⟨t, rfl⟩ := rz
  exact ⟨.str b, H', I', ⟨t, rfl⟩, q⟩
theorem says_str (hc : ∀ c F, (c, F) ∈ tab → StrC G mg base c k F) : SaysL G (strO tab) (rStr G mg base k) := by
  intro ρ H h ps vs Q b rs d
  unfold strO at d
  cases rs with
  | nil => exact d.elim
  | cons r1 r2 =>
    cases r2 with
    | cons _ _ => exact d.elim
    | nil =>
      rename_i p v
      dsimp only at d
      cases e1 : insAt h p with
      | none => rw [e1] at d; exact d.elim
      | some cf =>
        obtain ⟨c, fs⟩ := cf
        rw [e1] at d
        dsimp only at d
        cases e2 : tab.lookup c with
        | none => rw [e2] at d; exact d.elim
        | some F =>
          rw [e2] at d
          dsimp only at d
          obtain ⟨n, a, dx, fv, rfl, rfl, _, hn, h1, h2⟩ := ins_at b r1 e1
          refine ⟨a, c, dx, fv, F, rfl, h1, hc c F (mem_of_lookup e2), rfl, ρ, [.obj n], h, b, .cons r1 .nil, ?_⟩
          cases e4 : F [.obj n] h with
          | ok r h2 =>
            rw [e4] at d
            cases r with
            | str z => exact fun v H' ρ' x' y' q => ⟨z, Rep.unStr q, d _ H' ρ' x' y' (.str _)⟩
            | _ => exact d.elim
          | exc _ _ _ => rw [e4] at d; exact d.elim
          | bad => rw [e4] at d; exact d.elim
theorem nx_str : NoExL (strO tab) := by
  intro ps h c fs h' e
  unfold strO at e
  split at e
  · split at e
    · split at e
      · split at e <;> cases e
      · cases e
    · cases e
  · cases e
theorem str_ (K : XIs X G mg base) (hr : Room j X.A) (hj : k + 2 ≤ j) (hm : mg "str" = none) (hc : ∀ c F, (c, F) ∈ tab → StrC G mg base c k F) (ha : DA X G W (e :: es) g) (hg : Gl X "str" := by rfl)
    (he : starEach (e :: es) X.env = (false, eval e X.env) :: starEach es X.env := by rfl) (hpl : (backTo pos (starEach es X.env)).any (·.1) = false := by rfl) : DE X G W (.Call (.Name "str" p) (e :: es) [] pos) (appE (strO tab) g) :=
  bt_ (T := "str") K hm (cr_str K (hr.mono hj)) (says_str hc) nx_str PyProof.Rows.boot_str ha hg (by decide) (by decide) he hpl
end
section
variable {X : Cx} {G : PCfg} {W : WX} {mg : Str → Option Value} {base : Heap} {a b : Expr} {fa : Ef} {g : Af} {pos apos : Pos}
theorem extend_ (K : XIs X G mg base) (ha : DE X G W a fa) (hb : DA X G W [b] g)
    (hbase : attributeBase a "extend" X.env (eval a X.env) = eval a X.env := by rfl)
    (hfew : ((backTo pos (starEach [b] X.env)).all (fun x => !x.1) && (backToKw pos (keywordEach [] X.env)).all (fun x => x.1.isSome)
      && decide ([b].length + ([] : List Keyword).length + (if ([] : List Keyword).isEmpty then 0 else 1) < 30)) = true := by rfl)
    (hline : (apos.endLine == pos.line) = true := by rfl) (hs1 : starEach [b] X.env = (false, eval b X.env) :: starEach [] X.env := by rfl) (hplain : (backTo pos (starEach ([] : List Expr) X.env)).any (·.1) = false := by rfl) :
    DE X G W (.Call (.Attribute a "extend" apos) [b] [] pos) (mE isLst extendM fa g) := d_bm K.cok PySem.F.plainAttrs_list PySem.F.slot_list_extend PySem.F.type_list_extend mt_extend says_isLst says_extend nx_extend ha hb hbase hfew hline hs1 hplain
end
def strB (K : Frag) (C : Str) : Bool := He.eqO (PySem.W.findIn K (.ref (He.ga K C)) "__str__") (some (some (.ref (He.ma K (He.ga K C) "__str__")))) && PySem.W.isFn K (.ref (He.ma K (He.ga K C) "__str__"))
theorem strB_ok {G : PCfg} {mg : Str → Option Value} {base : Heap} {C : Str} {c k : Nat} {F : Fn} (e : strB G.K C = true) (hc : G.cls c = He.ga G.K C) (hM : HasM G mg base 1 k F (He.ma G.K (He.ga G.K C) "__str__")) : StrC G mg base c k F := by
  obtain ⟨e1, e2⟩ := He.ba e
  exact ⟨_, by rw [hc]; exact He.eqO_ok e1, e2, hM⟩
/-! the logic -/
section
variable {Q : PV → PH → Prop} {X : XP} {h : PH} {tab : List (Nat × Fn)} {cs : List Nat} {neg : Bool} {F : Fn}
theorem eqOI {n c : Nat} {fs : List (Nat × PV)} {q : PV} (e : h[n]? = some (.ins c fs)) (e2 : tab.lookup c = some F) (e3 : inTy cs (tyOf h q) = true) (w : wp (F [.obj n, q] h) (fun r h2 => ∃ k, r = .bl k ∧ Q (.bl (if neg then !k else k)) h2) NX) : wp (eqO tab cs neg (.obj n) q h) Q X := by
  have : eqO tab cs neg (.obj n) q h = (match F [.obj n, q] h with
    | .ok (.bl k) h2 => okB (if neg then !k else k) h2
    | _ => .bad) := by simp only [eqO, insAt, e, e2, e3, if_true] <;> rfl
  rw [this]
  cases z : F [.obj n, q] h with
  | ok r h2 =>
    rw [z] at w
    obtain ⟨k, rfl, q2⟩ := w
    exact q2
  | exc c fs h2 => rw [z] at w; exact w.elim
  | bad => rw [z] at w; exact w.elim
theorem eqON {p q : PV} (e : insAt h p = none) (w : wp (if neg then neV p q h else eqV p q h) Q X) : wp (eqO tab cs neg p q h) Q X := by
  have : eqO tab cs neg p q h = (if neg then neV p q h else eqV p q h) := by simp only [eqO, e]
  rw [this]; exact w
theorem strOI {n c : Nat} {fs : List (Nat × PV)} (e : h[n]? = some (.ins c fs)) (e2 : tab.lookup c = some F) (w : wp (F [.obj n] h) (fun r h2 => ∃ z, r = .str z ∧ Q (.str z) h2) NX) : wp (strO tab [.obj n] h) Q X := by
  have : strO tab [.obj n] h = (match F [.obj n] h with
    | .ok (.str z) h2 => .ok (.str z) h2
    | _ => .bad) := by simp only [strO, insAt, e, e2]
  rw [this]
  cases z : F [.obj n] h with
  | ok r h2 =>
    rw [z] at w
    obtain ⟨k, rfl, q2⟩ := w
    exact q2
  | exc c fs h2 => rw [z] at w; exact w.elim
  | bad => rw [z] at w; exact w.elim
theorem extI {n m : Nat} {xs ys : List PV} (e : h[n]? = some (.lst xs)) (e2 : h[m]? = some (.lst ys)) (z : xs.length + ys.length ≤ sizeLine) (q : Q .non (h.set n (.lst (xs ++ ys)))) : wp (extendM (.obj n) [.obj m] h) Q X := by
  have : extendM (.obj n) [.obj m] h = .ok .non (h.set n (.lst (xs ++ ys))) := by simp only [extendM, e, e2, z, if_true]
  rw [this]; exact q
theorem addL {n m : Nat} {xs ys : List PV} (e : h[n]? = some (.lst xs)) (e2 : h[m]? = some (.lst ys)) (z : xs.length + ys.length ≤ sizeLine) (q : Q (.obj h.length) (h ++ [.lst (xs ++ ys)])) : wp (addV (.obj n) (.obj m) h) Q X := by
  have : addV (.obj n) (.obj m) h = newL (xs ++ ys) h := by simp only [addV, e, e2, z, if_true]
  rw [this]; exact q
theorem eqDT {p q : PV} {d e : PyData} (h1 : datOf h p = some d) (h2 : datOf h q = some e) (k : Q (.bl (PyData.eqv d e)) h) : wp (eqV p q h) Q X := eqD h1 h2 k
end
end Py

end

section
/-! Exceptions: what is read of a caught one, calls in a suite, try .. except (X, Y, Z) as e. -/
namespace Py
open PySem PySem.Spec PyProof.Rows L2

/-! ### what is read of a caught exception -/
abbrev Fds := List (Str × V)
def xget (ok : Str → Bool) (g : Str) : Fds → Option V := fun l => if ok g = true then l.lookup g else none
def xin (ss : List Str) (f : Fds → Option V) : Fds → Option Bool := fun l => match f l with
  | some (.str c) => some (ss.contains c)
  | _ => none
def xeq (z : Str) (f : Fds → Option V) : Fds → Option Bool := fun l => match f l with
  | some (.str c) => some (decide (c = z))
  | _ => none
def xifE (t : Fds → Option Bool) (f g : Fds → Option V) : Fds → Option V := fun l => match t l with
  | some true => f l
  | some false => g l
  | none => none
def xno : Fds → Option V := fun _ => none
/-- a block: stuck, fallen through, left with a value -/
abbrev Xs := Fds → Option (Option V)
def xret (f : Fds → Option V) : Xs := fun l => (f l).map some
def xnop : Xs := fun _ => some none
def xif (t : Fds → Option Bool) (f g : Xs) : Xs := fun l => match t l with
  | some true => f l
  | some false => g l
  | none => none
def xseq (f g : Xs) : Xs := fun l => match f l with
  | some none => g l
  | r => r
/-- later heaps -/
def Up (H H' : Hp) : Prop := ∀ b u, H b = some u → H' b = some u
theorem Up.rfl' {H : Hp} : Up H H := fun _ _ e => e
theorem Up.tr {H H1 H2 : Hp} (a : Up H H1) (b : Up H1 H2) : Up H H2 := fun c u e => b c u (a c u e)
theorem up_new {H : Hp} {p : Addr} {u : HO} (hp : H p = none) : Up H (upd H p u) := upd_grow hp
/-- slot i is the exception at a, its dict at d -/
def At (i : Nat) (a d : Addr) (l : Fds) (σ : Sto) (H : Hp) : Prop := σ[i]? = some (some (.ref a)) ∧ H d = some (.xd l)
theorem At.up {i : Nat} {a d : Addr} {l : Fds} {σ : Sto} {H H' : Hp} (h : At i a d l σ H) (k : Up H H') : At i a d l σ H' := ⟨h.1, k _ _ h.2⟩
def tX (i : Nat) (a d : Addr) (l : Fds) (f : Fds → Option V) : TE := fun σ H Q => At i a d l σ H ∧ ∃ v, f l = some v ∧ ∀ H', Up H H' → Q v H'
def tXT (i : Nat) (a d : Addr) (l : Fds) (f : Fds → Option Bool) : TT := fun σ H Q => At i a d l σ H ∧ ∃ v, f l = some v ∧ ∀ H', Up H H' → Q v H'
def tXS (i : Nat) (a d : Addr) (l : Fds) (f : Xs) : TS := fun D σ H => At i a d l σ H ∧ match f l with
  | none => False
  | some none => ∀ H', Up H H' → D.nx σ H'
  | some (some v) => ∀ H', Up H H' → D.rt v H'
section
variable {X : Cx} {i : Nat} {a d C : Addr} {oe : Obj} {l : Fds} {pos p : Pos} {e e1 e2 : Expr} {f f1 f2 : Fds → Option V} {t : Fds → Option Bool}
/-- which fields may be asked for -/
def okF (K : PySem.W.Frag) (C : Addr) (g : Str) : Bool := decide (PySem.W.findIn K (.ref C) g = some none)
/-- the exception is pinned in the context -/
structure Pin (X : Cx) (a d C : Addr) (oe : Obj) : Prop where
  mem : (a, oe) ∈ X.pn
  z : Zc (.ref C) (some d) oe
  fl : ∃ vs, oe.data = .fields vs
  xf : XfC X.K C
theorem x_get {n g : Str} (N : Pin X a d C oe) (hN : X.N[i]? = some n := by rfl) (hv : Vis X.env.scope n := by first | exact Or.inl rfl | exact Or.inr (Or.inl rfl)) (hd : (n == ("__debug__" : Str)) = false := by decide) (hcd : (n == ("__classdict__" : Str)) = false := by decide)
    (hb : attributeBase (.Name n p) g X.env (eval (.Name n p) X.env) = eval (.Name n p) X.env := by rfl) : PE X (.Attribute (.Name n p) g pos) (tX i a d l (xget (okF X.K C) g)) := by
  refine ⟨fun pins s σ H Q I ⟨⟨h1, h2⟩, v, h3, h4⟩ => ?_⟩
  refine attr_of hb (thn ((pe_var (pos := p) hN hv hd hcd).run pins s σ H (fun x H1 => x = .ref a ∧ H1 = H) I ⟨.ref a, h1, rfl, rfl⟩) fun u s1 ⟨x, H1, I1, rx, ex, eH⟩ => ?_)
  subst ex; subst eH
  obtain rfl : u = Value.ref a := rx
  unfold xget at h3
  by_cases k : okF X.K C g = true
  · rw [if_pos k] at h3
    have hno := of_decide_eq_true k
    obtain ⟨ha, _⟩ := I1.pin (a, oe) (List.mem_append_left _ N.mem)
    obtain ⟨vs, hdt⟩ := N.fl
    have ox : ObjOk X.prog X.w H1 s1.heap d (.xd l) := I1.hok d _ h2
    obtain ⟨mA, hns, hr⟩ := ox
    obtain ⟨od, ho, hl⟩ := lookIn_ns hns
    obtain ⟨u, hu, ru⟩ := RelO.some_of (v := v) (o := mA g) (by rw [← h3]; exact hr g)
    have J : PySem.W.InstAt s1.heap a oe C (some od) := ⟨ha, N.z.1, by unfold PySem.W.notCls; rw [hdt] <;> rfl, by rw [N.z.2]; exact ho⟩
    exact HandSPX.exc_get I1.kIn J N.xf.ga N.xf.gg N.xf.exC (PySem.W.findObj_own N.xf.hdC hno rfl (by rw [hl, hu])) (handed_of ru) ⟨v, H1, I1.tok _, ru, h4 _ .rfl'⟩
  · rw [if_neg k] at h3; cases h3
theorem x_no : PE X e (tX i a d l xno) := ⟨fun pins s σ H Q I ⟨_, v, z, _⟩ => by cases z⟩
/-- a list of texts -/
def IsStr (e : Expr) (z : Str) : Prop := ∃ j q, e = Expr.Constant (.str z) j q
theorem isStr_ {z : Str} {j : Nat} {q : Pos} : IsStr (.Constant (.str z) j q) z := ⟨j, q, rfl⟩
theorem x_strs : ∀ {es : List Expr} {ss : List Str}, Paired IsStr es ss → PA X es (fun _ H Q => Q (ss.map V.str) H)
  | _, _, .nil => PA.imp pa_nil fun _ _ _ h => h
  | _, _, .cons ⟨j, q, z⟩ r => by
    subst z
    exact PA.imp (pa_cons pe_str (x_strs r)) fun _ _ _ h => h
theorem eqv_strs (c : Str) : ∀ ss : List Str, (L2.inV (.str c) (ss.map V.str)) = ss.contains c := fun ss => by
  induction ss with
  | nil => rfl
  | cons s ss ih =>
    have h1 : L2.inV (.str c) ((s :: ss).map V.str) = ((s == c) || L2.inV (.str c) (ss.map V.str)) := rfl
    have h2 : (s :: ss).contains c = ((c == s) || ss.contains c) := List.contains_cons
    rw [h1, h2, ih, Bool.beq_comm]
theorem x_in {es : List Expr} {ss : List Str} {q : Pos} (he : PE X e (tX i a d l f)) (hs : Paired IsStr es ss) (hm : behindInMarks .In (.List es q) = false := by rfl) (hn : ss.length ≤ 50 := by decide) :
    PT X (.Compare e [.In] [.List es q] pos) (tXT i a d l (xin ss f)) := by
  refine PT.imp (pt_cmpR op_in_seq he (pe_lst (x_strs hs)) hm) fun σ H Q ⟨h1, k, h2, h3⟩ => ?_
  unfold xin at h2
  cases ef : f l with
  | none => rw [ef] at h2; cases h2
  | some v =>
    rw [ef] at h2
    cases v with
    | str c =>
      cases h2
      refine ⟨h1, .str c, ef, fun H' u => ⟨?_, fun r hr => ?_⟩⟩
      · rw [List.length_map, sizeLine_eq]; omega
      · refine ⟨r, ss.map V.str, rfl, .inl (.inl (.inl upd_same)), rfl, by simp [List.all_map, Function.comp_def, flatV], ?_⟩
        refine ⟨_, rfl, ?_⟩
        rw [if_neg Bool.false_ne_true, eqv_strs]
        exact h3 _ (u.tr (up_new hr))
    | _ => cases h2
theorem x_eq {z : Str} {j : Nat} {q : Pos} (he : PE X e (tX i a d l f)) : PT X (.Compare e [.Eq] [.Constant (.str z) j q] pos) (tXT i a d l (xeq z f)) := by
  refine PT.imp (pt_cmpR op_eq he pe_str (nomark _)) fun σ H Q ⟨h1, k, h2, h3⟩ => ?_
  unfold xeq at h2
  cases ef : f l with
  | none => rw [ef] at h2; cases h2
  | some v =>
    rw [ef] at h2
    cases v with
    | str c =>
      cases h2
      refine ⟨h1, .str c, ef, fun H' u => ⟨rfl, _, rfl, ?_⟩⟩
      have e0 : decide (V.str c = V.str z) = decide (c = z) := by rw [dec_str]; rfl
      rw [e0]
      exact h3 _ u
    | _ => cases h2
theorem x_ifE {c : Expr} (hc : PT X c (tXT i a d l t)) (h1 : PE X e1 (tX i a d l f1)) (h2 : PE X e2 (tX i a d l f2)) : PE X (.IfExp c e1 e2 pos) (tX i a d l (xifE t f1 f2)) := by
  refine PE.imp (pe_ifExp hc h1 h2) fun σ H Q ⟨k1, v, k2, k3⟩ => ?_
  unfold xifE at k2
  cases et : t l with
  | none => rw [et] at k2; cases k2
  | some b =>
    rw [et] at k2
    refine ⟨k1, b, et, fun H' u => ?_⟩
    cases b with
    | true => exact ⟨k1.up u, v, k2, fun H2 u2 => k3 _ (u.tr u2)⟩
    | false => exact ⟨k1.up u, v, k2, fun H2 u2 => k3 _ (u.tr u2)⟩
theorem x_ret (h : PE X e (tX i a d l f)) : PS X (.Return (some e) pos) (tXS i a d l (xret f)) := PS.imp (ps_ret h) fun D σ H ⟨k1, k2⟩ => by
  unfold xret at k2
  cases ef : f l with
  | none => rw [ef] at k2; exact k2.elim
  | some v => rw [ef] at k2; exact ⟨k1, v, ef, k2⟩
theorem x_nop : PSs X [] (tXS i a d l xnop) := PSs.imp pss_nil fun D σ H ⟨k1, k2⟩ => k2 H .rfl'
theorem x_if {c : Expr} {ss us : List Stmt} {fs gs : Xs} (hc : PT X c (tXT i a d l t)) (h1 : PSs X ss (tXS i a d l fs)) (h2 : PSs X us (tXS i a d l gs)) : PS X (.If c ss us pos) (tXS i a d l (xif t fs gs)) := PS.imp (ps_if hc h1 h2) fun D σ H ⟨k1, k2⟩ => by
  unfold xif at k2
  have go : ∀ {h : Xs} {H' : Hp}, Up H H' → (match h l with
    | none => False
    | some none => ∀ H', Up H H' → D.nx σ H'
    | some (some v) => ∀ H', Up H H' → D.rt v H') → tXS i a d l h D σ H' := fun {h H'} u z => by
    refine ⟨k1.up u, ?_⟩
    split at z
    · exact z.elim
    · exact fun H2 u2 => z _ (u.tr u2)
    · exact fun H2 u2 => z _ (u.tr u2)
  cases et : t l with
  | none => rw [et] at k2; exact k2.elim
  | some b =>
    rw [et] at k2
    refine ⟨k1, b, et, fun H' u => ?_⟩
    cases b with
    | true => exact go u k2
    | false => exact go u k2
theorem x_seq {st : Stmt} {ss : List Stmt} {fs gs : Xs} (h1 : PS X st (tXS i a d l fs)) (h2 : PSs X ss (tXS i a d l gs)) : PSs X (st :: ss) (tXS i a d l (xseq fs gs)) := PSs.imp (pss_cons h1 h2) fun D σ H ⟨k1, k2⟩ => by
  unfold xseq at k2
  refine ⟨k1, ?_⟩
  cases ef : fs l with
  | none => rw [ef] at k2; exact k2.elim
  | some o =>
    rw [ef] at k2
    cases o with
    | some v => exact k2
    | none =>
      intro H' u
      refine ⟨k1.up u, ?_⟩
      cases eg : gs l with
      | none => simp only [eg] at k2
      | some o =>
        simp only [eg] at k2
        cases o with
        | none => exact fun H2 u2 => k2 _ (u.tr u2)
        | some v => exact fun H2 u2 => k2 _ (u.tr u2)
theorem x_last {st : Stmt} {fs : Xs} (h1 : PS X st (tXS i a d l fs)) : PSs X [st] (tXS i a d l fs) := pss_one h1
end

/-! ### a def called in a suite, that raises nothing -/
/-- the promise of a def that reads the exception pinned as q -/
abbrev SpQ := Addr × Obj → List V → Hp → VK → Prop
structure FnQ (P : Program) (wd : World) (K : PySem.W.Frag) (mg : Str → Option Value) (bs : Heap) (k : Nat) (fa : Addr) (fd : FuncData) (ps : List Str) (sp : SpQ) : Prop where
  len : ∀ q vs H Q, sp q vs H Q → vs.length = ps.length
  run : ∀ (A : Around) (ou : List PySem.Env) (s : Shared) (H : Hp) (ar : Args) (us : List Value) (vs : List V) (Q : VK) (q : Addr × Obj), L2H.RoomH k A → L2H.PinOk ou H s q → Env0 P wd K mg bs A ou s H → BindsTo s fd ar (ps.zip us) → Vals vs us → sp q vs H Q →
    codeAny (model P wd) A (.call (.ref fa) ar) (CR (L2.CX P wd) ou P wd H s Q fun _ _ _ => False) s
/-- the context of such a def's body -/
abbrev cxQ (P : Program) (wd : World) (K : PySem.W.Frag) (mg : Str → Option Value) (bs : Heap) (N : List Str) (ql : Str) (sc : Scope) (fa : Addr) (cdv : Value) (A : Around) (ou : List PySem.Env) (s : Shared) (H : Hp) (q : Addr × Obj) : Cx :=
  L2H.cxH (L2.CX P wd) P wd K mg bs N ql sc fa cdv A ou s H (fun _ _ _ => False) q
theorem fnQ_of {P : Program} {wd : World} {K : PySem.W.Frag} {mg : Str → Option Value} {bs : Heap} {k : Nat} {fa : Addr} {x ql : Str} {params : Arguments} {bd : List Stmt} {sc : Scope} {fd : FuncData} {N ps : List Str} {sp : SpQ}
    (F : FunD K x ql params bd sc [] [] fa fd) (S : FnScope N ps sc) (len : ∀ q vs H Q, sp q vs H Q → vs.length = ps.length)
    (hbody : ∀ (cdv : Value) (A : Around) (ou : List PySem.Env) (s : Shared) (H : Hp) (vs : List V) (Q : VK) (q : Addr × Obj), L2H.RoomH k (A.deeper (envOfC ql sc s.heap.objs.size fa cdv)) → sp q vs H Q →
      ∃ t, PSs (cxQ P wd K mg bs N ql sc fa cdv A ou s H q) bd t ∧ t { nx := fun _ H' => Q .non H', rt := Q } (L2.start N vs) H) : FnQ P wd K mg bs (k + 1) fa fd ps sp := by
  obtain ⟨oc, od, dV, kV, doc, pm, an, cdv, ct, osl, rfl, lk, hcd, _, _⟩ := F.ex
  refine ⟨len, fun A ou s H ar us vs Q q hr hpin e0 hb r hsp => ?_⟩
  have hl := len _ _ _ _ hsp
  have KX : K.In s.heap := e0.mod.kin.keeps fun b o e => (e0.bs b o e).1; have lim : s.heap.NoLimit := e0.mod.nolimit.keeps fun b o e => (e0.bs b o e).1
  have hkind : ∀ y ∈ ps.zip us, sc.names.lookup y.1 = some .local ∨ (sc.names.lookup y.1 = some .cell ∧ ((cellsFrom (s.heap.objs.size + 1) sc.names []).lookup y.1).isSome = true) := fun ⟨n, v⟩ hy =>
    (S.par n (List.of_mem_zip hy).1).elim .inl fun z => .inr ⟨z, PySem.W.cellsFrom_some _ _ _ (.inl z)⟩
  refine codeAny_call_function (show A.depth < recursionLimit from hr.depth) (KX _ _ lk) rfl S.co S.gen rfl (PySem.W.codeRec_of KX hcd) (hb _ _ _ _ ?_)
  refine wpAny_newFunctionEnv_cells S.kind hkind fun env he s1 x => (by
    subst he
    refine ⟨lim.keeps x.toInCall.keep, codeAny_func ?_⟩
    obtain ⟨t, ht, hq⟩ := hbody cdv A ou s H vs Q q (hr.deeper _) hsp
    refine wpAny_mono (ht.run [] s1 (L2.start N vs) H _ (L2H.inv_startH S hpin e0 hl r x) hq) (fun fl s' hs => ?_) fun e s' hs => hs
    have fin : ∀ {σ' : Sto} {H' : Hp} {v : V} {u : Value}, Inv (cxQ P wd K mg bs N ql sc fa cdv A ou s H q) [] σ' H' s' → L2.RelV v u → Q v H' → CE ou P wd H s Q u s' := fun {σ' H' v u} J rv z => ⟨v, H', J.os, J.bare, J.base, J.hok, rv, z⟩
    cases fl with
    | ret u => exact (let ⟨v, σ', H', J, rv, z⟩ := hs; fin J rv z)
    | next => exact (let ⟨σ', H', J, z⟩ := hs; fin (v := V.non) (u := Value.none) J rfl z)
    | brk => exact (let ⟨_, _, _, z⟩ := hs; z.elim)
    | cont => exact (let ⟨_, _, _, z⟩ := hs; z.elim))
section
variable {X : Cx} {k : Nat} {fa : Addr} {fd : FuncData} {ps : List Str} {sp : SpQ} {x : Str} {e : Expr} {es : List Expr} {ta : TA} {q p1 : Pos}
theorem pe_callQ (F : FnQ X.prog X.w X.K X.mg X.base k fa fd ps sp) (hr : L2H.RoomH k X.A) {pn : Addr × Obj} (hpn : pn ∈ X.pn) (hg : Gl X x) (hm : X.mg x = some (.ref fa)) (hk : PySem.W.keepIn X.K (.ref fa) = true) (hb : Binds X.K fd ps []) (ha : PA X (e :: es) ta)
    (hdb : (x == ("__debug__" : Str)) = false := by decide) (he : starEach (e :: es) X.env = (false, eval e X.env) :: starEach es X.env := by rfl) (hpl : (backTo q (starEach es X.env)).any (·.1) = false := by rfl) :
    PE X (.Call (.Name x p1) (e :: es) [] q) (fun σ H Q => ta σ H fun vs H1 => sp pn vs H1 Q) := by
  refine ⟨fun pins s σ H Q I h => wpAny_Call_Name_kw (ld_glob I hg hm ?_ hdb)⟩
  refine PySem.W.callWith_K (h₀ := X.base) I.ok.mod.kin hk (thn (ha.run q pins s σ H _ I h) fun us s1 ⟨vs, H1, I1, r, z⟩ => ⟨I1.kIn, ?_⟩) he hpl
  have hl : us.length = ps.length := by rw [← r.length]; exact F.len _ _ _ _ z
  have b := hb s1 us I1.kIn (by rw [List.append_nil]; exact hl)
  rw [List.append_nil] at b
  have P1 := I1.pin pn (List.mem_append_left _ hpn)
  have hp2 : L2H.PinOk X.stack H1 s1 pn := ⟨P1.1, P1.2.1, fun hm => (List.mem_cons.mp (I1.stkSub pn.1 hm)).elim P1.2.2.1 P1.2.2.2.1, P1.2.2.2.2⟩
  refine wpAny_call (codeAny_mono (F.run X.A X.stack s1 H1 ⟨us, []⟩ us vs Q pn hr hp2 I1.env0 b r z) fun r2 s' hq => ?_)
  cases r2 with
  | error er => exact (let ⟨_, _, _, _, _, _, _, _, _, _, _, _, w⟩ := hq; w.elim)
  | ok fl =>
    cases fl with
    | ret u => exact I1.after hq
    | _ => exact False.elim hq
end

/-! ### try: body, except (X, Y, Z) as n: suite -/
theorem flyingK {B h h' : Heap} {l : List PySem.Env} {e : Addr} {Z : Obj → Prop} (R : HandSPX.FlyingZ B l e Z h) (k : ∀ b o, h.get? b = some o → h'.get? b = some o) : HandSPX.FlyingZ B l e Z h' := by
  obtain ⟨f1, f2, f3, oe, ws, T, oT, ts, he, hz, hd, h1, hn, hne, hT, hdT, h3⟩ := R
  exact ⟨fun b o q => k b o (f1 b o q), f2, f3.of_keeps fun b o q _ => ⟨o, k b o q, rfl⟩, oe, ws, T, oT, ts, k _ _ he, hz, hd, h1, hn, hne, k _ _ hT, hdT, h3⟩
def wT3 (K : PySem.W.Frag) (c1 c2 c3 : Addr) (j : Nat) (ts : Addr → Value → Option Addr → TS) (D : Ends) : WX := fun cl d σ H => PySem.W.exmAny K cl [.ref c1, .ref c2, .ref c3] = some true ∧
  ∀ a, H a = none → ts a cl d { nx := fun s2 H2 => D.nx (s2.set j none) H2, rt := D.rt, bk := fun s2 H2 => D.bk (s2.set j none) H2, ct := fun s2 H2 => D.ct (s2.set j none) H2 } (σ.set j (some (.ref a))) H
section
variable {X : Cx} {x1 x2 x3 nm : Str} {c1 c2 c3 : Addr} {j kt : Nat} {bd st : List Stmt} {b1 : Stmt} {q1 q2 q3 qt po po' : Pos} {tb : WX → TS} {ts : Addr → Value → Option Addr → TS}
theorem ps_try3 (hs : X.stack = X.env :: X.outer) (hf : X.env.frame = some X.env.locals) (hN : X.N.Nodup) (hj : X.N[j]? = some nm) (hl : X.env.kindOf nm = some .local)
    (g1 : Gl X x1) (m1 : X.mg x1 = some (.ref c1)) (d1 : (x1 == ("__debug__" : Str)) = false) (g2 : Gl X x2) (m2 : X.mg x2 = some (.ref c2)) (d2 : (x2 == ("__debug__" : Str)) = false) (g3 : Gl X x3) (m3 : X.mg x3 = some (.ref c3)) (d3 : (x3 == ("__debug__" : Str)) = false)
    (hb : ∀ (W : WX) (pn : List (Addr × Obj)) (xe : Value → Shared → Prop), Takes (X.tr pn xe) W → PassesOwn (model X.prog X.w) X.A X.env xe → PSs (X.tr pn xe) bd (tb W))
    (hu : ∀ (a : Addr) (oe : Obj) (cl : Value) (d : Option Addr) (pn : List (Addr × Obj)), Zc cl d oe → (∃ vs, oe.data = .fields vs) → PSs (X.suite a ((a, oe) :: pn)) (b1 :: st) (ts a cl d)) :
    PS X (.Try bd [.ExceptHandler (some (.Tuple [.Name x1 q1, .Name x2 q2, .Name x3 q3] kt qt)) (some nm) (b1 :: st) po'] [] [] po) (fun D σ H => tb (wT3 X.K c1 c2 c3 j ts D) D σ H) := by
  refine ⟨fun pins s σ H D I h => ?_⟩
  have ok := I.ok; have hfr : X.A.frames = some (X.env :: X.outer) := by rw [ok.frames, hs]
  refine wpAny_Try_except (wpAny_mono ((hb (wT3 X.K c1 c2 c3 j ts D) (X.pn ++ pins) (fun e s₁ => wpAny (model X.prog X.w) X.A (noteFrame e X.env) (fun _ s₂ => wpAny (model X.prog X.w) X.A (setFlight e none) (fun _ s₃ =>
    wpAny (model X.prog X.w) X.A (handleBy e X.env [.ExceptHandler (some (.Tuple [.Name x1 q1, .Name x2 q2, .Name x3 q3] kt qt)) (some nm) (b1 :: st) po']) (SP X pins D) X.xe s₃) X.xe s₂) X.xe s₁) (fun u s' xx => ?_) PassesOwn.looking).run [] s σ H D (I.toTry _) h) (fun f s1 hsp => ?_) (fun e s1 he => he))
  · obtain ⟨a, B, sI, pins', σ', H', cl, d, rfl, J', nb, up, sky, na, os, ag, hb1, hyes⟩ := xx
    have J : Inv X pins σ' H' sI := J'.ofTry ok; have sky' : Sky B (X.env :: X.outer) a (Zc cl d) X.env.locals s'.heap := by rw [← hs]; exact sky
    show wpAny (model X.prog X.w) X.A (noteFrame (.ref a) X.env) _ _ _
    refine Sky.land Zc.steady hfr hf sky' fun h0 fl0 up0 => ?_
    -- the test: a new tuple of the three classes
    have J0 : Inv X pins σ' H' { s' with heap := h0 } := J.landed nb fl0.1 (up.trans up0) os ag
    obtain ⟨oe0, vs0, he0, hz0, hd0⟩ := fl0.there
    have notFr : ∀ {h : Heap} {o : Obj} {vs : Array Value}, h.FunFrames B (X.env :: X.outer) → h.get? a = some o → o.data = .fields vs → a ∉ frs (X.env :: X.outer) := fun {h o vs} ff e dd hm => by
      obtain ⟨_, o', e', hnf⟩ := ff.mem hm; rw [e] at e'; cases e'; exact hnf _ dd
    have nfr := notFr fl0.2.2.1 he0 hd0
    have nL : a ≠ X.env.locals := fun z => nfr (List.mem_filterMap.mpr ⟨X.env, List.mem_cons_self, by rw [hf, z]⟩)
    have nF : a ∉ X.fs := fun hm => (let ⟨e, he, q⟩ := List.mem_filterMap.mp hm; nfr (List.mem_filterMap.mpr ⟨e, List.mem_cons_of_mem _ he, q⟩))
    have S0 := J0.suite he0 hd0 na nL nF
    refine wpAny_handleBy_cons (codeAny_handlers_test ?_) (by intro q; cases q)
    refine wpAny_Tuple ?_
    refine wpAny_items_cons (ld_glob (X := X.suite a ((a, oe0) :: (X.pn ++ pins))) S0 g1 m1 ?_ d1); refine wpAny_items_cons (ld_glob (X := X.suite a ((a, oe0) :: (X.pn ++ pins))) S0 g2 m2 ?_ d2)
    refine wpAny_items_cons (ld_glob (X := X.suite a ((a, oe0) :: (X.pn ++ pins))) S0 g3 m3 ?_ d3); refine wpAny_items_nil ⟨by size_fits, ?_⟩
    have kp : ∀ b o, h0.get? b = some o → (h0.push { cls := .type "tuple", data := .seq [Value.ref c1, .ref c2, .ref c3].toArray }).get? b = some o := fun _ _ z => Heap.get?_push_of_some _ z
    obtain ⟨h3, e3⟩ : ∃ h3, h3 = h0.push { cls := .type "tuple", data := .seq [Value.ref c1, .ref c2, .ref c3].toArray } := ⟨_, rfl⟩
    have hT : h3.get? h0.objs.size = some { cls := .type "tuple", data := .seq [Value.ref c1, .ref c2, .ref c3].toArray } := by rw [e3]; exact Heap.get?_push_size _ rfl
    rw [← e3] at kp ⊢
    have fl3 := flyingK fl0 kp; have up3 : s'.heap.UpToSlots h3 := up0.trans (Heap.UpToSlots.of_keeps kp)
    have J3 : Inv X pins σ' H' { s' with heap := h3 } := J.landed nb fl3.1 (up.trans up3) os ag
    obtain ⟨oe3, vs3, he3, hz3, hd3⟩ := fl3.there
    have LT : PySem.W.Looks (model X.prog X.w) h3 (typeOf (.ref a)) cl := fun A Q E s k q => wpAny_typeOf_ref (k _ _ he3) (by rw [hz3.1]; exact q)
    refine (PySem.W.exm_tup3 (M := model X.prog X.w) J3.kIn LT hT hb1).here ?_
    refine codeAny_handlers_suite_as (HandSPX.lands_againZ fl3 fun h4 fl4 up4 => ?_)
    have J4 : Inv X pins σ' H' { s' with heap := h4 } := J.landed nb fl4.1 ((up.trans up3).trans up4) os ag
    obtain ⟨oe4, vs4, he4, hz4, hd4⟩ := fl4.there
    have S4 := J4.suite he4 hd4 na nL nF
    refine store_ok (X := X.suite a ((a, oe4) :: (X.pn ++ pins))) (v := .ref a) S4 hN hj (.inl hl) rfl (fun s5 S5 => ?_) (.inr hl)
    refine wpAny_mono ((hu a oe4 cl d (X.pn ++ pins) hz4 ⟨_, hd4⟩).run [] s5 _ H' _ S5 (hyes a na)) (fun f s6 hsp => ?_) (fun _ _ z => False.elim z)
    have end_ : ∀ {σ6 : Sto} {H6 : Hp} {Q : Shared → Prop}, Inv (X.suite a ((a, oe4) :: (X.pn ++ pins))) [] σ6 H6 s6 → (∀ s7, Inv X pins (σ6.set j none) H6 s7 → Q s7) →
        wpAny (model X.prog X.w) X.A (do bindName X.env nm .none; unbindBehindTheSuite X.env nm po') (fun _ s7 => Q s7) X.xe s6 := fun {σ6 H6 Q} S6 hq => gone_ok (S6.unsuite ok) hN hj hl hq
    cases f with
    | next => exact (let ⟨σ6, H6, S6, q6⟩ := hsp; end_ S6 fun s7 J7 => ⟨_, _, J7, q6⟩)
    | brk => exact (let ⟨σ6, H6, S6, q6⟩ := hsp; end_ S6 fun s7 J7 => ⟨_, _, J7, q6⟩)
    | cont => exact (let ⟨σ6, H6, S6, q6⟩ := hsp; end_ S6 fun s7 J7 => ⟨_, _, J7, q6⟩)
    | ret u => exact (let ⟨v6, σ6, H6, S6, r6, q6⟩ := hsp; end_ S6 fun s7 J7 => ⟨_, _, _, J7, r6, q6⟩)
  · cases f with
    | next => exact (let ⟨σ', H', J', q⟩ := hsp; wpAny_execs_nil ⟨σ', H', J'.ofTry ok, q⟩)
    | brk => exact (let ⟨σ', H', J', q⟩ := hsp; ⟨σ', H', J'.ofTry ok, q⟩)
    | cont => exact (let ⟨σ', H', J', q⟩ := hsp; ⟨σ', H', J'.ofTry ok, q⟩)
    | ret u => exact (let ⟨v, σ', H', J', r, q⟩ := hsp; ⟨v, σ', H', J'.ofTry ok, r, q⟩)
end
end Py

end

section
set_option maxHeartbeats 2000000
/-! The law's end with tables of code objects; the head's facts with tables; raise; _law_try of a lambda. -/
namespace Py
open PySem PySem.Spec PyProof.Rows L2
abbrev TabB := LamX.TabB

/-! ### the end -/
theorem ro_of {K : PySem.W.Frag} {H : Hp} {ct : List (Addr × Addr)} {a : Addr} {vs : List V} (h1 : ∀ p ∈ ct, H p.2 = some (.tbl #[])) (hO : ∀ b, H b = none ∨ b ∈ ct.map (·.2) ∨ ∃ o xs, H b = some (.frz o (.lst xs))) (na : a ∉ ct.map (·.2)) (hS : SqL K H a vs) : RoL K H a vs := by
  rcases hS with (h | ⟨o, h⟩) | h
  · rcases hO a with z | z | ⟨o, xs, z⟩
    · rw [h] at z; cases z
    · exact absurd z na
    · rw [h] at z; cases z
  · exact .inl ⟨o, h⟩
  · exact .inr h
theorem law_callR {P : Program} {w : World} {K : PySem.W.Frag} {mg mb : Str → Option Value} {CX : CXT} {k : Nat} {fa a : Addr} {ct : List (Addr × Addr)} {fd : FuncData} {x : Str} {sp : Sp} {sB : Shared} {vs : List Value} {ns : List Int}
    (kx : K.In sB.heap) (nsx : sB.heap.Ns mainGlobals mg) (b0 : sB.heap.Ns builtinsNs mb) (bbx : ∀ x : Str, x ≠ "__name__" → mb x = bootBuiltins x) (limx : sB.heap.NoLimit) (gx : sB.gens = #[])
    (gT : ∀ p ∈ ct, sB.heap.get? p.2 = some { cls := .none, data := .fields #[] }) (gN : ∀ p ∈ ct, K.lookup p.2 = none) (C : ∀ p ∈ ct, PySem.W.CodeHd sB.heap p.1 p.2)
    (bmx : ∃ (bm : Addr) (ob : Obj), mg "__builtins__" = some (.ref bm) ∧ bm ≠ builtinsNs ∧ sB.heap.get? bm = some ob ∧ ob.cls = .type "module" ∧ ob.dict = some builtinsNs ∧ ob.data = .plain)
    (oA : sB.heap.get? a = some { cls := .type "list", data := .seq vs.toArray }) (iA : IntsAre vs ns) (lA : ns.length ≤ sizeLine) (rx : Room k callerA)
    (Fk : ∀ base : Heap, K.In base → base.Ns mainGlobals mg → (∀ p ∈ ct, TabB base mg p.1 p.2) → FnOk P w K mg base CX k fa fd [x] sp) (bnd : ∀ (s : Shared) (u : Value), BindsTo s fd ⟨[u], []⟩ [(x, u)])
    (wish : ∀ H : Hp, (∀ p ∈ ct, H p.2 = some (.tbl #[])) → RoL K H a (ns.map V.int) → sp [.ref a] H (fun v _ => v = .bl true) fun _ _ _ => False)
    (noX : ∀ H e9 s', CX [] H sB (fun _ _ _ => False) e9 s' → False) :
    codeAny (model P w) callerA (.call (.ref fa) ⟨[.ref a], []⟩) (fun r s' => r = .ok (.ret (.bool true)) ∧ OldK sB.heap s'.heap ∧ s'.os = sB.os ∧ AllBare s'.gens) sB := by
  have vA := vals_ints iA
  have lnA := iA.length
  have tabT : ∀ b : Addr, b ∈ ct.map (·.2) → sB.heap.get? b = some { cls := .none, data := .fields #[] } := fun b b0 => by
    obtain ⟨p, hp0, e9⟩ := List.mem_map.mp b0
    rw [← e9]
    exact gT p hp0
  have nAT : a ∉ ct.map (·.2) := fun z0 => by
    have q0 := tabT a z0
    rw [oA] at q0
    have z' : Data.seq vs.toArray _ = Data.fields #[] := congrArg Obj.data (Option.some.inj q0)
    cases z'
  have mT : ∀ p ∈ ct, p.2 ∈ ct.map (·.2) := fun p hp0 => List.mem_map.mpr ⟨p, hp0, rfl⟩
  have kern : ∀ H : Hp, (∀ p ∈ ct, H p.2 = some (.tbl #[])) → (∀ b, H b = none ∨ b ∈ ct.map (·.2) ∨ ∃ o xs, H b = some (.frz o (.lst xs))) → SqL K H a (ns.map V.int) → HOk P w H sB.heap → (∀ b, H b ≠ none → b = a ∨ b ∈ ct.map (·.2)) → (H a ≠ none → K.lookup a = none) →
      codeAny (model P w) callerA (.call (.ref fa) ⟨[.ref a], []⟩) (fun r s' => r = .ok (.ret (.bool true)) ∧ OldK sB.heap s'.heap ∧ s'.os = sB.os ∧ AllBare s'.gens) sB := by
    intro H hH0 hO0 hS0 okA hA0 hK0
    have bOf : ∀ {b : Addr} {o : Obj}, sB.heap.get? b = some o → H b = none → (hidT sB.heap H).get? b = some o := fun e9 n => hidT_get e9 n
    have nD : ∀ {b : Addr} {o : Obj}, sB.heap.get? b = some o → (∀ vs n, o.data ≠ .seq vs n) → o.data ≠ .fields #[] → H b = none := fun {b o} e9 h1 h2 => by
      cases q0 : H b with
      | none => rfl
      | some u =>
        rcases hA0 b (by rw [q0]; simp) with e' | e'
        · rw [e', oA] at e9
          cases e9
          exact (h1 _ _ rfl).elim
        · rw [tabT b e'] at e9
          cases e9
          exact (h2 rfl).elim
    have nA : ∀ {b : Addr} {o : Obj} {es : Array DictEntry} {ep : Nat}, sB.heap.get? b = some o → o.data = .dict es ep → H b = none := fun {b o es ep} e9 d => by
      refine nD e9 (fun vs n z0 => ?_) fun z0 => ?_
      · rw [d] at z0
        cases z0
      · rw [d] at z0
        cases z0
    have nSK : ∀ {b : Addr} {m : Str → Option Value}, sB.heap.Ns b m → (hidT sB.heap H).Ns b m := fun {b m} ⟨o, es, ep, e9, d, r⟩ => ⟨o, es, ep, bOf e9 (nA e9 d), d, r⟩
    have kB : K.In (hidT sB.heap H) := fun b o e9 => bOf (kx b o e9) (by
      cases q0 : H b with
      | none => rfl
      | some u =>
        rcases hA0 b (by rw [q0]; simp) with e' | e'
        · rw [e'] at e9 q0
          rw [hK0 (by rw [q0]; simp)] at e9
          cases e9
        · obtain ⟨p, hp0, ep⟩ := List.mem_map.mp e'
          rw [← ep, gN p hp0] at e9
          cases e9)
    have mdB : L2.Mod K mg (hidT sB.heap H) := ⟨kB, nSK nsx, ⟨mb, nSK b0, bbx⟩, let ⟨mc, h1, h2⟩ := limx; ⟨mc, nSK h1, h2⟩⟩
    have tbB : ∀ p ∈ ct, TabB (hidT sB.heap H) mg p.1 p.2 := fun p hp0 => by
      have hTp := gT p hp0
      refine ⟨?_, ?_, fun z0 => ?_⟩
      · obtain ⟨o, us, file, tf, flags, tg, inF, text, tt, e1, r1, r2, r3, r4, r5, r6, r7, r8, hne⟩ := C p hp0
        refine ⟨o, us, file, tf, flags, tg, inF, text, tt, bOf e1 (nD e1 (fun vs n z0 => ?_) fun z0 => ?_), r1, r2, r3, r4, r5, r6, r7, r8, hne⟩
        · rw [r2] at z0
          cases z0
        · rw [r2] at z0
          cases z0
          simp at r3
      · obtain ⟨bm, ob, b1, b2, b3, b4, b5, b6⟩ := bmx
        have nG : bm ≠ mainGlobals := fun q0 => by
          obtain ⟨o, es, ep, e9, hd, _⟩ := nsx
          rw [q0, e9] at b3
          cases b3
          rw [hd] at b6
          cases b6
        have nP : bm ≠ p.2 := fun q0 => by
          rw [q0, hTp] at b3
          cases b3
          cases b6
        refine ⟨bm, ob, b1, b2, nG, nP, bOf b3 (nD b3 (fun vs n z0 => ?_) fun z0 => ?_), b4, b5, b6⟩
        · rw [b6] at z0
          cases z0
        · rw [b6] at z0
          cases z0
      · obtain ⟨o, es, ep, e9, hd, _⟩ := nsx
        rw [z0, hTp] at e9
        cases e9
        cases hd
    have env00 : Env0 P w K mg (hidT sB.heap H) callerA [] sB H := ⟨rfl, mdB, fun b o e9 => of_hidT e9, Nat.le_of_eq (hidT_size _ _), trivial, fun b b0 => absurd (show b ∈ ([] : List Addr) from b0) (by simp), okA, .of_eq gx⟩
    refine codeAny_mono ((Fk _ kB (nSK nsx) tbB).run callerA [] sB H ⟨[.ref a], []⟩ [.ref a] [.ref a] _ _ rx env00 (bnd sB (.ref a)) (.cons rfl .nil) (wish H hH0 (ro_of hH0 hO0 nAT hS0))) fun r s' h => ?_
    cases r with
    | error e9 => exact (noX H e9 s' h).elim
    | ok fl =>
      cases fl with
      | next => exact False.elim h
      | brk => exact False.elim h
      | cont => exact False.elim h
      | ret u =>
        obtain ⟨v, H', osx, br, u9, hok', r', q0⟩ := h
        have q' : v = .bl true := q0
        subst q'
        obtain rfl : u = Value.bool true := r'; have kY : ∀ b o, b ∉ ct.map (·.2) → sB.heap.get? b = some o → s'.heap.get? b = some o := fun b o nb e9 => by
          cases q0 : H b with
          | none => exact u9.keep b o e9 q0 (by intro z0; exact absurd (show b ∈ ([] : List Addr) from z0) (by simp)) (by simp)
          | some u =>
            rcases hO0 b with z0 | z0 | ⟨ob, xs, z0⟩
            · rw [q0] at z0; cases z0
            · exact absurd z0 nb
            · have z2 := u9.frzs b ob _ z0
              obtain ⟨e1, _⟩ := okA b _ z0
              obtain ⟨e2, _⟩ := hok' b _ z2
              rw [e9] at e1; cases e1
              exact e2
        have grw : ∀ p ∈ ct, ∃ mo : Array Value, s'.heap.get? p.2 = some { cls := .none, data := .fields mo } := fun p hp0 => by
          obtain ⟨mo, z0⟩ := u9.tbls p.2 #[] (hH0 p hp0)
          exact ⟨_, hok' p.2 _ z0⟩
        refine ⟨rfl, ⟨fun b o e9 => ?_, fun b o e9 => ?_⟩, osx, br⟩
        · by_cases b0 : b ∈ ct.map (·.2)
          · obtain ⟨p, hp0, ep⟩ := List.mem_map.mp b0
            obtain ⟨mo, hm⟩ := grw p hp0
            rw [← ep] at e9 ⊢
            rw [gT p hp0] at e9
            cases e9
            exact .inr (.inl ⟨((C p hp0).tab (gT p hp0)).isCodeTable, rfl, #[], mo, rfl, by rw [Array.empty_append]; exact hm⟩)
          · exact .inl (kY b o b0 e9)
        · by_cases b0 : b ∈ ct.map (·.2)
          · obtain ⟨p, hp0, ep⟩ := List.mem_map.mp b0
            obtain ⟨mo, hm⟩ := grw p hp0
            rw [← ep]
            exact ⟨_, hm⟩
          · exact ⟨o, kY b o b0 e9⟩
  cases hk0 : K.lookup a with
  | some o =>
    have e9 := kx a o hk0
    rw [oA] at e9
    cases e9
    refine kern (fun b => if b ∈ ct.map (·.2) then some (.tbl #[]) else none) (fun p hp0 => if_pos (mT p hp0)) (fun b => ?_) (.inr ⟨_, vs.toArray, _, hk0, rfl, rfl, rfl, by rw [List.size_toArray, lnA]; exact lA, by simpa using vA⟩) (fun b u z0 => ?_) (fun b z0 => ?_) fun z0 => absurd (show (if a ∈ ct.map (·.2) then some (HO.tbl #[]) else none) = none from if_neg nAT) z0
    · by_cases b0 : b ∈ ct.map (·.2)
      · exact .inr (.inl b0)
      · exact .inl (if_neg b0)
    · by_cases b0 : b ∈ ct.map (·.2)
      · have z' := (if_pos b0).symm.trans z0
        cases z'
        exact tabT b b0
      · have z' := (if_neg b0).symm.trans z0
        cases z'
    · by_cases b0 : b ∈ ct.map (·.2)
      · exact .inr b0
      · exact absurd (if_neg b0) z0
  | none =>
    refine kern (fun b => if b = a then some (.frz { cls := .type "list", data := .seq vs.toArray } (.lst (ns.map V.int))) else if b ∈ ct.map (·.2) then some (.tbl #[]) else none) (fun p hp0 => (if_neg (show ¬ p.2 = a from fun z0 => nAT (by rw [← z0]; exact mT p hp0))).trans (if_pos (mT p hp0))) (fun b => ?_)
      (.inl (.inr ⟨{ cls := .type "list", data := .seq vs.toArray }, if_pos rfl⟩)) (fun b u z0 => ?_) (fun b z0 => ?_) fun _ => hk0
    · by_cases b0 : b = a
      · exact .inr (.inr ⟨_, _, if_pos b0⟩)
      · by_cases hb2 : b ∈ ct.map (·.2)
        · exact .inr (.inl hb2)
        · exact .inl ((if_neg b0).trans (if_neg hb2))
    · by_cases b0 : b = a
      · have z' := (if_pos b0).symm.trans z0
        cases z'
        rw [b0]
        exact ⟨oA, by rw [List.length_map]; exact lA, vs, _, vA, oA⟩
      · have z1 := (if_neg b0).symm.trans z0
        by_cases hb2 : b ∈ ct.map (·.2)
        · have z2 := (if_pos hb2).symm.trans z1
          cases z2
          exact tabT b hb2
        · have z2 := (if_neg hb2).symm.trans z1
          cases z2
    · by_cases b0 : b = a
      · exact .inl b0
      · by_cases hb2 : b ∈ ct.map (·.2)
        · exact .inr hb2
        · exact absurd ((if_neg b0).trans (if_neg hb2)) z0

/-- what is known of the law's promise at the head's heap -/
theorem law_end {lw : PySem.W.OpenLaw} {j : Nat} {vw : Program} {loose : List Str} {XPr : (Str → Option Value) → Heap → Prop} {YPr : World → Heap → Prop} {dr : DefRec} {CXw : World → CXT} {nm : Str}
    (h1 : lw.most = some 63) (h2 : dr.params.defaults = []) (h3 : Room j callerA)
    (hall : ∀ (w : World) (mg : Str → Option Value) (fa : Addr) (hp : Heap), YPr w hp → hp.Ns mainGlobals mg → mg dr.name = some (.ref fa) →
      ∃ (K : Frag) (fd : FuncData) (ct : List (Addr × Addr)) (sp : Sp), K.In hp ∧ (∀ p ∈ ct, hp.get? p.2 = some { cls := .none, data := .fields #[] }) ∧ (∀ p ∈ ct, K.lookup p.2 = none) ∧ (∀ p ∈ ct, PySem.W.CodeHd hp p.1 p.2) ∧ (∀ (s : Shared) (u : Value), BindsTo s fd ⟨[u], []⟩ [(nm, u)]) ∧
        (∀ (H : Hp) (a : Addr) (ns : List Int), ns.length ≤ 63 → (∀ p ∈ ct, H p.2 = some (.tbl #[])) → RoL K H a (ns.map V.int) → sp [.ref a] H (fun v _ => v = .bl true) fun _ _ _ => False) ∧
        ∀ bs : Heap, K.In bs → bs.Ns mainGlobals mg → (∀ p ∈ ct, TabB bs mg p.1 p.2) → FnOk lw.prog w K mg bs (CXw w) j fa fd [nm] sp)
    (hno : ∀ (w : World) (H : Hp) (s : Shared) (e : Value) (s' : Shared), CXw w [] H s (fun _ _ _ => False) e s' → False) :
    PySem.W.WalkO vw loose XPr YPr lw.row.toRowW dr [] (fun f vs => PySem.call f vs) := by
  refine Att.attach_call h1 h2 fun w s0 s1 mg mb fa o pm cd doc a vs ns G Yh ho hd hcd hmg hobj hints hlen hg => ?_
  obtain ⟨K, fd, ct, sp, q1, q2, q3, q4, q5, q6, q7⟩ := hall w mg fa _ Yh G.T.g hmg
  exact law_callR q1 G.T.g G.T.b G.T.builtins G.T.nolimit hg q2 q3 q4 G.T.bmain hobj hints (Nat.le_trans hlen (by decide)) h3 q7 q5 (fun H g1 g2 => q6 H a ns hlen g1 g2) (fun H e s' => hno w H s1 e s')

/-! ### the head's facts, with tables -/
def tabC (g : GetO) (tf : List He.Defn) (K : Frag) : Bool := tf.all fun p => PySem.W.codeHdIn K (He.cT K p).1 (He.cT K p).2 && ((K.lookup (He.cT K p).2).isNone && (match g (He.cT K p).2 with
  | some o => He.emptyTab o
  | none => false))
def obsTG (chk : Frag → Bool) (fn : List DefG) (tf : List He.Defn) (g : GetO) : He.AlD × Bool := (obsC chk fn (He.frG g (asP g)), tabC g tf (He.frG g (asP g)))
/-- the tables stand empty, out of the written part -/
structure TabF (tf : List He.Defn) (h : Heap) (K : Frag) : Prop where
  hd : ∀ p ∈ tf, PySem.W.codeHdIn K (He.cT K p).1 (He.cT K p).2 = true
  out : ∀ p ∈ tf, K.lookup (He.cT K p).2 = none
  emp : ∀ p ∈ tf, h.get? (He.cT K p).2 = some { cls := .none, data := .fields #[] }
theorem tabF_of {tf : List He.Defn} {h : Heap} {K : Frag} (e : tabC h.get? tf K = true) : TabF tf h K := by
  have key : ∀ p ∈ tf, PySem.W.codeHdIn K (He.cT K p).1 (He.cT K p).2 = true ∧ K.lookup (He.cT K p).2 = none ∧ ∃ o, h.get? (He.cT K p).2 = some o ∧ He.emptyTab o = true := fun p hp => by
    obtain ⟨h1, h2⟩ := He.ba (List.all_eq_true.mp e p hp)
    obtain ⟨h3, h4⟩ := He.ba h2
    refine ⟨h1, Option.isNone_iff_eq_none.mp h3, ?_⟩
    cases q : h.get? (He.cT K p).2 with
    | none => rw [q] at h4; cases h4
    | some o => rw [q] at h4; exact ⟨o, rfl, h4⟩
  exact ⟨fun p hp => (key p hp).1, fun p hp => (key p hp).2.1, fun p hp => (let ⟨_, _, o, q, z⟩ := key p hp; by rw [q, He.emptyTab_eq z])⟩
def hookT (chk : Frag → Bool) (fn : List DefG) (tf : List He.Defn) : PySem.W.Hook where
  α := He.AlD × Bool
  obs := fun s => obsTG chk fn tf s.heap.get?
  val := fun _ => (valG fn, true)
  says := fun _ h => ∃ K : Frag, K.In h ∧ SaysC chk fn K ∧ TabF tf h K
  of := fun _ _ e => ⟨_, He.frG_in, congrArg (fun z : He.AlD × Bool => z.1) e, tabF_of (congrArg (fun z : He.AlD × Bool => z.2) e)⟩
  keeps := fun _ _ _ ⟨K, hK, c, t⟩ k => ⟨K, PySem.W.Frag.In.keeps hK k, c, t.hd, t.out, fun p hp => k _ _ (t.emp p hp)⟩
theorem obsTG_eq {chk : Frag → Bool} {fn : List DefG} {tf : List He.Defn} {g : GetO} {s : Shared} (h : ∀ a, g a = s.heap.get? a) : obsTG chk fn tf g = (hookT chk fn tf).obs s := by
  have e : g = s.heap.get? := funext h
  rw [e] <;> rfl
/-- the def's code object and its table, as a def that makes lambdas wants them -/
structure LamT (G : PCfg) (mg : Str → Option Value) (base : Heap) (at_ : He.Defn) (ql : Str) : Prop where
  tb : TabB base mg (He.cT G.K at_).1 (He.cT G.K at_).2
  mem : ((He.cT G.K at_).2, ql ++ "<lambda>") ∈ G.tabs
  one : ∀ p ∈ G.tabs, p.1 = (He.cT G.K at_).2 → p.2 = ql ++ "<lambda>"

/-! ### a def's body, its code object told -/
theorem fn_okC {P : Program} {w : World} {K : PySem.W.Frag} {mg : Str → Option Value} {base : Heap} {G : PCfg} {x ql : Str} {params : Arguments} {body : List Stmt} {sc : Scope} {dvs : List V} {kws : List (Str × V)} {at_ : He.Defn} {fd : FuncData} (hK : K = G.K) {N ps : List Str} {k : Nat} {b : Sf} (F : FunD K x ql params body sc dvs kws (He.fAd K at_) fd) (S : FnScope N ps sc)
    (hb : ∀ (cdv : Value) (A : Around) (ou : List PySem.Env) (s : Shared) (H : Hp) (E : XK), cdv = .ref (He.cT K at_).1 → Room k (A.deeper (envOfC ql sc s.heap.objs.size (He.fAd K at_) cdv)) → DB (cxOf (L2.CX P w) P w K mg base N ql sc (He.fAd K at_) cdv A ou s H E) G (fun c d _ H => E c d H) body b) :
    FnOk P w K mg base (L2.CX P w) (k + 1) (He.fAd K at_) fd ps (spI G ps.length (runB N.length b)) := by
  obtain ⟨oc, od, dV, kV, doc, pm, an, cdv, ct, osl, rfl, lk, hcd, _, _⟩ := F.ex
  obtain ⟨c0, rfl⟩ := He.codeIn_ref hcd
  have ec : (Value.ref c0) = .ref (He.cT K at_).1 := by rw [show (He.cT K at_).1 = He.codeOf K at_ from rfl, He.codeOf_eq lk rfl]
  refine fn_of lk hcd S (fun vs H Q E h => h.1) fun A ou s H vs Q E hr ⟨hl, ρ, as, h, hR, ra, d⟩ => ⟨_, hb _ A ou s H E ec hr, ?_⟩
  refine tS.mk (erep_start (N := N) ra) hR ?_
  unfold runB at d
  cases e : b (as.map some ++ List.replicate (N.length - as.length) none) h with
  | nrm env' h' => simp only [e] at d; exact fun σ' H' ρ' x a y => d .non H' ρ' x y .non
  | ret p h' => simp only [e] at d; exact fun v H' ρ' x y r => d v H' ρ' x y r
  | exc c fs env' h' => simp only [e] at d; exact fun dd σ' H' ρ' fv x a y z u => d dd H' ρ' fv x y z u
  | _ => simp only [e] at d; exact d.elim
end Py

end

section
set_option maxHeartbeats 2000000
/-! _law_field, _law_try of a lambda, raise of an own exception. -/
namespace Py
open PySem PySem.Spec PyProof.Rows L2

/-! ### _law_field -/
def fieldX (ok : Str → Bool) : Xs :=
  xseq (xif (xin ["InvalidName", "Unreached", "UnlikeMessages", "UnknownName"] (xget ok "code")) (xret (xget ok "name")) xnop)
  (xseq (xif (xin ["InvalidState", "InvalidMove", "InvalidCrash"] (xget ok "code")) (xret (xget ok "entry")) xnop)
  (xseq (xif (xin ["InvalidCount", "NothingLeft"] (xget ok "code")) (xret (xget ok "count")) xnop)
  (xseq (xif (xin ["TooLarge", "Full"] (xget ok "code")) (xret (xget ok "most")) xnop)
  (xseq (xif (xin ["InvalidDeed", "NotReady"] (xget ok "code")) (xret (xget ok "deed")) xnop)
  (xseq (xif (xeq "InvalidLine" (xget ok "code")) (xret xno) xnop)
  (xseq (xif (xin ["InvalidText", "InvalidRow"] (xget ok "code")) (xret (xifE (xeq "InvalidText" (xget ok "code")) (xget ok "line") (xget ok "row"))) xnop)
  (xseq (xif (xin ["InvalidProcess", "InvalidView"] (xget ok "code")) (xret (xifE (xeq "InvalidProcess" (xget ok "code")) (xget ok "process") (xget ok "seen"))) xnop)
  (xseq (xif (xin ["NotCushioned", "NoRun"] (xget ok "code")) (xret (xifE (xeq "NotCushioned" (xget ok "code")) (xget ok "index") (xget ok "facts"))) xnop)
  (xseq (xif (xin ["InvalidCondition", "InvalidWish"] (xget ok "code")) (xret (xifE (xeq "InvalidCondition" (xget ok "code")) (xget ok "part") (xget ok "wish"))) xnop)
  (xret (xget ok "given")))))))))))
def spFld (K : PySem.W.Frag) : SpQ := fun q vs H Q => ∃ C d l v, vs = [.ref q.1] ∧ Zc (.ref C) (some d) q.2 ∧ (∃ ws, q.2.data = .fields ws) ∧ XfC K C ∧ H d = some (.xd l) ∧ fieldX (okF K C) l = some (some v) ∧ ∀ H', Up H H' → Q v H'
theorem field_fn {P : Program} {wd : World} {K : PySem.W.Frag} {mg : Str → Option Value} {bs : Heap} {fa : Addr} {x ql : Str} {params : Arguments} {bd : List Stmt} {sc : Scope} {fd : FuncData} (F : FunD K x ql params bd sc [] [] fa fd) (S : FnScope ["e"] ["e"] sc)
    (hb : ∀ (cdv : Value) (A : Around) (ou : List PySem.Env) (s : Shared) (H : Hp) (q : Addr × Obj) (d C : Addr) (l : Fds), Pin (cxQ P wd K mg bs ["e"] ql sc fa cdv A ou s H q) q.1 d C q.2 → PSs (cxQ P wd K mg bs ["e"] ql sc fa cdv A ou s H q) bd (tXS 0 q.1 d l (fieldX (okF K C)))) :
    FnQ P wd K mg bs 1 fa fd ["e"] (spFld K) := by
  refine fnQ_of F S (fun q vs H Q ⟨_, _, _, _, e, _⟩ => by rw [e]; rfl) fun cdv A ou s H vs Q q hr ⟨C, d, l, v, e, hz, hf, xf, hd, hv, k⟩ => ?_
  subst e
  refine ⟨_, hb cdv A ou s H q d C l ⟨List.mem_singleton.mpr rfl, hz, hf, xf⟩, ⟨rfl, hd⟩, ?_⟩
  rw [hv]
  exact k

/-! ### _law_try of a lambda -/
/-- what is done with an exception of the lambda -/
def Ech (K : PySem.W.Frag) (c1 c2 c3 : Addr) (Q : VK) : XK := fun cl dd H => PySem.W.exmAny K cl [.ref c1, .ref c2, .ref c3] = some true ∧
  ∃ C d l c v, cl = .ref C ∧ dd = some d ∧ XfC K C ∧ H d = some (.xd l) ∧ xget (okF K C) "code" l = some c ∧ fieldX (okF K C) l = some (some v) ∧ ∀ H2 p, Up H H2 → H2 p = none → Q (.ref p) (upd H2 p (.tup [c, v]))
def TTry (K : PySem.W.Frag) (c1 c2 c3 : Addr) : (XK → Hp → VK → Prop) → Hp → VK → Prop := fun tl H Q =>
  tl (Ech K c1 c2 c3 Q) H fun v H1 => [V.str "", v].length ≤ sizeLine ∧ ∀ p, H1 p = none → Q (.ref p) (upd H1 p (.tup [V.str "", v]))
theorem try_gives {X : Cx} {sg : Scope} {g c1 c2 c3 ff : Addr} {cdg : Value} {q : Str} {fdf : FuncData} {k j1 : Nat} {j2 : Pos} {p1 p2 p3 p4 p5 p6 p7 p8 p9 p10 p11 p12 p13 p14 p15 p16 p17 : Pos} {k1 k2 k3 : Nat}
    (hr : Room (k + 2) X.A) (hk1 : 1 ≤ k + 1) (F : FnQ X.prog X.w X.K X.mg X.base 1 ff fdf ["e"] (spFld X.K)) (hbf : Binds X.K fdf ["e"] []) (hkf : PySem.W.keepIn X.K (.ref ff) = true) (hmf : X.mg "_law_field" = some (.ref ff))
    (m1 : X.mg "SchemeError" = some (.ref c1)) (m2 : X.mg "UnknownName" = some (.ref c2)) (m3 : X.mg "NothingLeft" = some (.ref c3))
    (g1 : sg.names.lookup ("SchemeError" : Str) = some .globalImplicit) (g2 : sg.names.lookup ("UnknownName" : Str) = some .globalImplicit) (g3 : sg.names.lookup ("NothingLeft" : Str) = some .globalImplicit) (g4 : sg.names.lookup ("_law_field" : Str) = some .globalImplicit) (hke : sg.names.lookup ("e" : Str) = some .local) :
    LamX.GivesTo X ["ask", "e"] "_law_try" sg g cdg [.Try [.Return (some (.Tuple [.Constant (.str "") j1 p1, .Call (.Name "ask" p2) [] [] p3] k1 p4)) p5]
      [.ExceptHandler (some (.Tuple [.Name "SchemeError" p6, .Name "UnknownName" p7, .Name "NothingLeft" p8] k2 p9)) (some "e") [.Return (some (.Tuple [.Attribute (.Name "e" p10) "code" p11, .Call (.Name "_law_field" p12) [.Name "e" p13] [] p14] k3 p15)) p16] p17] [] [] j2] "ask" q (TTry X.K c1 c2 c3) := by
  intro f c' s H Q tl act hc h
  refine ⟨_, pss_one (ps_try3 (X := (cxOf C8.CX0 X.prog X.w X.K X.mg X.base ["ask", "e"] "_law_try" sg g cdg X.A X.stack s H C8.E0).nox) (j := 1) (c1 := c1) (c2 := c2) (c3 := c3)
    (tb := fun W D σ H => ∃ E, (∀ cls d σ' H', E cls d H' → W cls d σ' H') ∧ σ[0]? = some (some (.ref f)) ∧ H c' = some (LamX.CodeO c' q) ∧ tl E H fun v H1 => [V.str "", v].length ≤ sizeLine ∧ ∀ p, H1 p = none → D.rt (.ref p) (upd H1 p (.tup [V.str "", v])))
    (ts := fun a cl dd D σ H => ∃ C d l c v, cl = .ref C ∧ dd = some d ∧ XfC X.K C ∧ (1 < σ.length → σ[1]? = some (some (.ref a))) ∧ H d = some (.xd l) ∧ xget (okF X.K C) "code" l = some c ∧ fieldX (okF X.K C) l = some (some v) ∧ ∀ H2 p, Up H H2 → H2 p = none → D.rt (.ref p) (upd H2 p (.tup [c, v])))
    rfl rfl (show (["ask", "e"] : List Str).Nodup by decide) rfl hke g1 m1 (by decide) g2 m2 (by decide) g3 m3 (by decide) (fun W pn xe tk _ => ?_) (fun a oe cl d pn hz hf => ?_)), ?_⟩
  · refine ⟨fun pins s' σ H' D I h' => ?_⟩
    obtain ⟨E, hW, e1, e2, e3⟩ := h'
    exact (pss_one (ps_ret (pos := p5) (pe_tup (pos := p4) (pa_cons pe_str (pa_cons (act W pn xe E p2 p3 tk hW) pa_nil))))).run pins s' σ H' D I ⟨e1, e2, e3⟩
  · refine ⟨fun pins s' σ H' D I h' => ?_⟩
    obtain ⟨C, d', l, c, v, rfl, rfl, xf, hat, hd, hc1, hv, kk⟩ := h'
    have hl : σ.length = 2 := I.len
    have h1 := hat (by omega)
    have hr1 : L2H.RoomH 1 ((X.A.deeper (envOfC "_law_try" sg s.heap.objs.size g cdg)).mark (some (.ref a))) := (let r := (hr.deeper (envOfC "_law_try" sg s.heap.objs.size g cdg)).mono hk1; ⟨r.dp, r.un⟩)
    have N : Pin (((cxOf C8.CX0 X.prog X.w X.K X.mg X.base ["ask", "e"] "_law_try" sg g cdg X.A X.stack s H C8.E0).nox).suite a ((a, oe) :: pn)) a d' C oe := ⟨List.mem_cons_self, hz, hf, xf⟩
    have x1 := x_get (i := 1) (l := l) (g := "code") (n := "e") (p := p10) (pos := p11) N rfl (.inl hke)
    have x2 := pe_callQ (X := ((cxOf C8.CX0 X.prog X.w X.K X.mg X.base ["ask", "e"] "_law_try" sg g cdg X.A X.stack s H C8.E0).nox).suite a ((a, oe) :: pn)) (p1 := p12) (q := p14) (pn := (a, oe)) F hr1 List.mem_cons_self g4 hmf hkf hbf (pa_cons (pe_var (pos := p13) (i := 1) (x := "e") rfl (.inl hke)) pa_nil)
    exact (pss_one (ps_ret (pos := p16) (pe_tup (pos := p15) (pa_cons x1 (pa_cons x2 pa_nil))))).run pins s' σ H' D I ⟨⟨h1, hd⟩, c, hc1, fun H1 u1 => ⟨.ref a, h1, C, d', l, v, rfl, hz, hf, xf, u1 _ _ hd, hv, fun H2 u2 => ⟨by rw [sizeLine_eq]; exact Nat.le_of_ble_eq_true rfl, fun p hp => kk H2 p (u1.tr u2) hp⟩⟩⟩
  · refine ⟨Ech X.K c1 c2 c3 Q, fun cl d σ' H' ⟨e0, C, d', l, c, v, e1, e2, e3, e4, e5, e6, e7⟩ => ⟨e0, fun a _ => ⟨C, d', l, c, v, e1, e2, e3, fun hl => ?_, e4, e5, e6, e7⟩⟩, rfl, hc, h⟩
    rw [List.length_set] at hl
    exact List.getElem?_set_self hl
end Py

end

section
set_option maxHeartbeats 2000000
/-! _law_try(lambda: e) and raise C(e) in the language. -/
namespace Py
open PySem PySem.Spec PyProof.Rows L2

/-! ### _law_try(lambda: e) -/
/-- ex: the exceptions that may come: class, code, the other attribute -/
def tryE (ex : List (Nat × Str × Nat)) (ci : Nat) (f : Ef) : Ef := fun env h => match f env h with
  | .ok p h' => .ok (.tup [.str "", p]) h'
  | .exc c fs h' => (match fs with
    | [(i, p), (j, .str z)] => if ex.contains (c, z, i) && j == ci then .ok (.tup [.str z, p]) h' else .bad
    | _ => .bad)
  | .bad => .bad
structure XcOk (G : PCfg) (c1 c2 c3 : Addr) (e : Nat × Str × Nat) : Prop where
  any : PySem.W.exmAny G.K (.ref (G.cls e.1)) [.ref c1, .ref c2, .ref c3] = some true
  xf : XfC G.K (G.cls e.1)
  fx : ∃ g, G.fld[e.2.2]? = some g ∧ ∀ v, xget (okF G.K (G.cls e.1)) "code" [(g, v), ("code", .str e.2.1)] = some (.str e.2.1) ∧ fieldX (okF G.K (G.cls e.1)) [(g, v), ("code", .str e.2.1)] = some (some v)
structure TryC (G : PCfg) (mg : Str → Option Value) (base : Heap) (ex : List (Nat × Str × Nat)) (ci : Nat) : Prop where
  code : G.fld[ci]? = some ("code" : Str)
  all : ∃ (c1 c2 c3 g : Addr) (pg : Arguments) (bg : List Stmt) (sg : Scope) (fd : FuncData), (∀ e ∈ ex, XcOk G c1 c2 c3 e) ∧ mg "_law_try" = some (.ref g) ∧ FunD G.K "_law_try" "_law_try" pg bg sg [] [] g fd ∧ Binds G.K fd ["ask"] [] ∧ FnScope ["ask", "e"] ["ask"] sg ∧ sg.names.lookup ("ask" : Str) = some .local ∧
    ∀ (X : Cx) (k : Nat) (cdg : Value) (q : Str), X.K = G.K → X.prog = G.P → X.w = G.w → X.mg = mg → X.base = base → Room (k + 2) X.A → LamX.GivesTo X ["ask", "e"] "_law_try" sg g cdg bg "ask" q (TTry G.K c1 c2 c3)
theorem HRep.extN {G : PCfg} {H H1 : Hp} {ρ : List Addr} {h : PH} (b : HRep G H ρ h) (e : LamX.ExtN H H1) (t : LamX.Tabs G.tabs H1) : HRep G H1 ρ h ∧ Ext ρ H ρ H1 := by
  have x : Ext ρ H ρ H1 := ⟨fun _ _ z => z, fun a xs z => e _ _ z (fun _ y => nomatch y), fun a o u z => e _ _ z (fun _ y => nomatch y)⟩
  refine ⟨⟨t, b.nd, b.len, fun n o a h1 h2 => ?_⟩, x⟩
  have q := b.ob n o a h1 h2
  obtain ⟨u, e1, n1, _⟩ := q.trk2
  exact ORep.ext x q fun v z => e _ _ z (by rw [e1] at z; cases z; exact n1)
theorem try_core {G : PCfg} {W : WX} {ex : List (Nat × Str × Nat)} {ci : Nat} {f : Ef} {c1 c2 c3 : Addr} (hc : G.fld[ci]? = some ("code" : Str)) (hx : ∀ e ∈ ex, XcOk G c1 c2 c3 e) {σ : Sto} {H H1 : Hp} {Q : VK} (t : tE G W (tryE ex ci f) σ H Q) (eN : LamX.ExtN H H1) (T1 : LamX.Tabs G.tabs H1) :
    TTry G.K c1 c2 c3 (fun E H' Q' => tE G (fun c d _ H => E c d H) f σ H' Q') H1 Q := by
  obtain ⟨ρ, env, h, a, b, _, d⟩ := t
  obtain ⟨b1, x1⟩ := b.extN eN T1
  refine ⟨ρ, env, h, a.ext x1, b1, trivial, ?_⟩
  unfold tryE at d
  cases e : f env h with
  | ok p h' =>
    simp only [e] at d
    refine fun v H' ρ' x y r => ⟨by rw [sizeLine_eq]; exact Nat.le_of_ble_eq_true rfl, fun q hq => ?_⟩
    obtain ⟨b2, x2⟩ := y.grow (upd_grow hq (o := .tup [V.str "", v]))
    exact d (.ref q) _ ρ' ((x1.trans x).trans x2) b2 (.mkTup (.inl upd_same) (.cons (.str "") (.cons (r.ext x2) .nil)))
  | exc c fs h' =>
    simp only [e] at d
    intro dd H' ρ' fv x y hd r
    split at d
    · rename_i i p j z
      by_cases k : (ex.contains (c, z, i) && j == ci) = true
      · rw [if_pos k] at d
        obtain ⟨k1, k2⟩ := Bool.and_eq_true_iff.mp k
        have mem : (c, z, i) ∈ ex := by simpa using k1
        have ej : j = ci := by simpa using k2
        subst ej
        have xc := hx _ mem
        obtain ⟨g, hg, hv⟩ := xc.fx
        cases r with
        | cons r1 r2 =>
          cases r2 with
          | cons r2 r3 =>
            cases r3
            rename_i y1 y2
            obtain ⟨f1, v1⟩ := y1
            obtain ⟨f2, v2⟩ := y2
            obtain ⟨q1, q2⟩ := r1
            obtain ⟨q3, q4⟩ := r2
            dsimp only at q1 q2 q3 q4
            rw [hg] at q1
            cases q1
            rw [hc] at q3
            cases q3
            cases q4
            refine ⟨xc.any, G.cls c, dd, _, .str z, v1, rfl, rfl, xc.xf, hd, (hv v1).1, (hv v1).2, fun H2 q u hq => ?_⟩
            obtain ⟨b2, x2⟩ := y.grow (H' := upd H2 q (.tup [V.str z, v1])) fun b w z => by rw [upd_ne (fun e => by rw [e] at z; have := u _ _ z; rw [hq] at this; cases this)]; exact u _ _ z
            exact d (.ref q) _ ρ' ((x1.trans x).trans x2) b2 (.mkTup (.inl upd_same) (.cons (.str z) (.cons (q2.ext x2) .nil)))
      · rw [if_neg k] at d
        exact d.elim
    · exact d.elim
  | bad => simp only [e] at d; exact d.elim
section
variable {X : Cx} {G : PCfg} {W : WX} {mg : Str → Option Value} {base : Heap}
theorem d_lam {ex : List (Nat × Str × Nat)} {ci : Nat} {f : Ef} {k j : Nat} {at_ : He.Defn} {params : Arguments} {body : Expr} {scope : Scope} {p lpos pos : Pos} (T : TryC G mg base ex ci) (K : XIs X G mg base) {ql : Str} (LT : LamT G mg base at_ ql) (hq : X.env.qual = ql) (hcode : X.env.code = .ref (He.cT G.K at_).1)
    (hr : Room j X.A) (hj : k + 2 ≤ j) (L : LamX.lamSB X.env.scope scope = true) (hdef : defaultsOf params X.env = ([], []))
    (hbind : ∀ (q : Str) (cl : List (Str × Addr)) (pm cv ctv : Value), bindArgs (PySem.W.kla_fn "<lambda>" q params body scope cl pm cv ctv) ⟨[], []⟩ = pure [])
    (hbody : ∀ (A : Around) (ou : List PySem.Env) (s : Shared) (H : Hp) (E : XK) (f0 c' : Addr), Room k (A.deeper (LamX.lamEnv X scope s.heap.objs.size f0 c')) → Takes (LamX.lamCx X A ou s H E scope f0 c') (fun c d _ H => E c d H) → DE (LamX.lamCx X A ou s H E scope f0 c') G (fun c d _ H => E c d H) body f)
    (hg : Gl X "_law_try" := by rfl) : DE X G W (.Call (.Name "_law_try" p) [.Lambda params body scope lpos] [] pos) (tryE ex ci f) := by
  obtain ⟨c1, c2, c3, g, pg, bg, sg, fd, hx, hm, F, hb, S, ha, hgv⟩ := T.all
  obtain ⟨oc, od, dV, kV, doc, pm, an, cdv, ct, osl, rfl, lk, hcd, _, _⟩ := F.ex
  have hr2 := hr.mono hj
  have kp := F.kp
  rw [← K.k] at lk hcd kp hb
  have tb := LT.tb
  rw [← K.b, ← K.m] at tb
  refine PE.imp (LamX.pe_lamcall (T := G.tabs) (k := k) (TT := TTry G.K c1 c2 c3) (t := fun E => tE G (fun c d _ H => E c d H) f) hg (by rw [K.m]; exact hm) kp lk hcd hb S rfl (.inl ha) (hgv X k cdv _ K.k K.p K.w K.m K.b hr2) tb hcode (by rw [hq]; exact LT.mem) (by rw [hq]; exact LT.one) hr2 (LamX.lamS_by L) hdef hbind
    (fun A ou s H E f0 c' hr' => hbody A ou s H E f0 c' hr' (takes_of rfl rfl rfl rfl))) fun σ H Q t => ?_
  obtain ⟨ρ, env, h, a, b, _, d⟩ := t
  exact ⟨b.tb, fun H1 eN T1 => try_core T.code hx ⟨ρ, env, h, a, b, trivial, d⟩ eN T1⟩
end

/-! ### raise C(e) -/
/-- C's __init__ stores its code and its argument -/
def spEx (C : Addr) (f : Str) (z : Str) : Sp := fun vs H Q E => ∃ a v, vs = [.ref a, v] ∧ H a = some (exo a C none) ∧ ∀ dx, H dx = none → dx ≠ a → Q .non (upd (upd (upd H dx (exd dx [("code", .str z)])) a (exo a C (some dx))) dx (exd dx [(f, v), ("code", .str z)]))
theorem init2_ok {P : Program} {w : World} {K : PySem.W.Frag} {mg : Str → Option Value} {base : Heap} {C fa : Addr} {ql f pn z : Str} {params : Arguments} {sc : Scope} {fd : FuncData} {j : Nat} {p1 p2 p3 p4 p5 p6 p7 p8 : Pos}
    (F : FunD K "__init__" ql params [.Assign [.Attribute (.Name "self" p1) "code" p2] (.Constant (.str z) j p3) p4, .Assign [.Attribute (.Name "self" p5) f p6] (.Name pn p7) p8] sc [] [] fa fd) (S : FnScope ["self", pn] ["self", pn] sc) (T : OexC K C) (h1 : okF K C "code" = true) (h2 : okF K C f = true)
    (l1 : sc.names.lookup ("self" : Str) = some .local) (l2 : sc.names.lookup pn = some .local) (d2 : (pn == ("__debug__" : Str)) = false) (d3 : (pn == ("__classdict__" : Str)) = false)
    (hs1 : ∀ (cdv : Value) (L : Addr), swapsWith (.Constant (.str z) j p3) (some (.Attribute (.Name "self" p1) "code" p2)) p4.line (envOfC ql sc L fa cdv) = pure false) (hs2 : ∀ (cdv : Value) (L : Addr), swapsWith (.Name pn p7) (some (.Attribute (.Name "self" p5) f p6)) p8.line (envOfC ql sc L fa cdv) = pure false) :
    FnOk P w K mg base (L2.CX P w) 1 fa fd ["self", pn] (spEx C f z) := by
  refine F.ok S (fun vs H Q E ⟨_, _, e, _⟩ => by rw [e]; rfl) fun cdv A ou s H vs Q E hr ⟨a, v, e, ha, q⟩ => ?_
  subst e
  refine ⟨_, pss_cons (ps_ost (pe_var (i := 0) rfl (.inl l1)) pe_str (hs1 _ _)) (pss_one (ps_ost (pe_var (i := 0) rfl (.inl l1)) (pe_var (i := 1) rfl (.inl l2) d2 d3) (hs2 _ _))), ?_⟩
  refine ⟨.ref a, rfl, a, C, rfl, T, of_decide_eq_true h1, .inl ⟨ha, fun dx hn hne => ⟨v, rfl, .ref a, rfl, a, C, rfl, T, of_decide_eq_true h2, .inr ⟨dx, _, upd_same, by rw [upd_ne hne, upd_same], Nat.le_of_ble_eq_true rfl, q dx hn hne⟩⟩⟩⟩
def HasX (G : PCfg) (mg : Str → Option Value) (base : Heap) (x : Str) (c i ci : Nat) (z : Str) : Prop := ∃ (fI : Addr) (fd : FuncData) (pn f : Str), OexC G.K (G.cls c) ∧ PySem.W.findIn G.K (.ref (G.cls c)) "__init__" = some (some (.ref fI)) ∧ PySem.W.typeIn G.K (.ref fI) = some (.type "function") ∧
  FnOk G.P G.w G.K mg base (L2.CX G.P G.w) 1 fI fd ["self", pn] (spEx (G.cls c) f z) ∧ Binds G.K fd ["self", pn] [] ∧ mg x = some (.ref (G.cls c)) ∧ G.fld[i]? = some f ∧ G.fld[ci]? = some ("code" : Str)
def raiseS (c i ci : Nat) (z : Str) (g : Ef) : Sf := fun env h => match g env h with
  | .ok p h' => .exc c [(i, p), (ci, .str z)] env h'
  | .exc c fs h' => .exc c fs env h'
  | .bad => .bad
section
variable {X : Cx} {G : PCfg} {W : WX} {mg : Str → Option Value} {base : Heap}
theorem d_raise {x z : Str} {c i ci j : Nat} {e : Expr} {g : Ef} {p pos pos' : Pos} (h : HasX G mg base x c i ci z) (K : XIs X G mg base) (tk : Takes X W) (hr : Room j X.A) (hj : 2 ≤ j) (he : DE X G W e g) (hc : X.calm = true := by rfl) (hg : Gl X x := by rfl) (hdb : (x == ("__debug__" : Str)) = false := by decide)
    (hst : starEach [e] X.env = (false, eval e X.env) :: starEach [] X.env := by rfl) (hpl : (backTo pos (starEach [] X.env)).any (·.1) = false := by rfl) :
    DS X G W (.Raise (some (.Call (.Name x p) [e] [] pos)) none pos') (raiseS c i ci z g) := by
  obtain ⟨fI, fd, pn, f, T, iC, tI, F1, hb, hm, h1, h2⟩ := h
  rw [← K.k] at T iC tI hb
  rw [← K.p, ← K.w, ← K.k, ← K.m, ← K.b] at F1
  have hx : Passes (L2.CX X.prog X.w) X (fun _ _ _ => False) := fun pins σ H s e s' I ⟨_, _, _, _, _, _, _, _, _, _, _, _, y⟩ => y.elim
  refine PS.imp (ps_raise hc tk (pmk_oex (dvs := []) (ds := []) T iC tI F1 (hr.mono hj) hb .nil hx hg (by rw [K.m]; exact hm) (pa_cons he pa_nil hst) hdb hst hpl)) fun D σ H t => ?_
  obtain ⟨ρ, env, hh, a, b, d⟩ := t.un
  refine ⟨ρ, env, hh, a, b, trivial, ?_⟩
  unfold raiseS at d
  cases eg : g env hh with
  | ok p0 h' =>
    simp only [eg] at d
    intro v H' ρ' x1 y r
    refine ⟨Nat.le_of_ble_eq_true rfl, fun ad had => ?_⟩
    refine ⟨ad, v, rfl, upd_same, fun dx hn hne => ⟨rfl, dx, _, ?_, upd_same, ?_, ?_⟩⟩
    · rw [upd_ne (Ne.symm hne), upd_same]
    · rw [upd_ne hne] at hn; exact hn
    · have hn0 : H' dx = none := by rw [upd_ne hne] at hn; exact hn
      obtain ⟨b2, x2⟩ := y.grow (H' := upd (L2.del (upd (upd (upd (upd H' ad (exo ad (G.cls c) none)) dx (exd dx [("code", .str z)])) ad (exo ad (G.cls c) (some dx))) dx (exd dx [(f, v), ("code", .str z)])) ad) dx (.xd [(f, v), ("code", .str z)])) fun b u q => by
        have n1 : b ≠ dx := ne_of_none q hn0
        have n2 : b ≠ ad := ne_of_none q had
        rw [upd_ne n1, L2.del_ne n2, upd_ne n1, upd_ne n2, upd_ne n1, upd_ne n2]
        exact q
      exact d dx σ _ ρ' _ (x1.trans x2) ((a.ext x1).ext x2) b2 upd_same (.cons ⟨h1, r.ext x2⟩ (.cons ⟨h2, .str z⟩ .nil))
  | exc cl fs h' => simp only [eg] at d; exact fun dd H' ρ' fv x y z u => d dd σ H' ρ' fv x (a.ext x) y z u
  | bad => simp only [eg] at d; exact d.elim
end
end Py

end

section
set_option maxHeartbeats 2000000
/-! The head's facts of exceptions, _law_try, lambdas. -/
namespace Py
open PySem PySem.Spec PyProof.Rows L2
def oexL (K : Frag) (C : Addr) : Bool := match K.lookup C with
  | some ⟨oc, _, .cls cd, sl⟩ => decide (oc = .type "type") && (match cd.mro with
      | .ref C' :: bm => decide (C' = C) && (PySem.HandSPX.refsVE bm && (!cd.hasDel && (cd.hasDict && (match sl.toList with
          | [_, _, _, _, some (.builtin n), _] => decide (n = "ValueError.__new__")
          | _ => false))))
      | _ => false)
  | _ => false
theorem oexL_ok {K : Frag} {C : Addr} (h : oexL K C = true) : ∃ nm q N bs bm sn sub ab col dd k0 k1 k2 k3 k5, K.lookup C = some (excClassObj nm q C N bs bm true sn sub ab col dd k0 k1 k2 k3 k5 "ValueError.__new__") ∧ PySem.HandSPX.refsVE bm = true := by
  unfold oexL at h
  cases q : K.lookup C with
  | none => rw [q] at h; cases h
  | some o =>
    obtain ⟨oc, od, dt, sl⟩ := o
    rw [q] at h
    cases dt with
    | cls cd =>
      obtain ⟨h1, h2⟩ := He.ba h
      obtain ⟨nm, bs, mro, ns, qn, hd, sn, sb, ab, col, del⟩ := cd
      dsimp only at h2
      cases mro with
      | nil => cases h2
      | cons m bm =>
        cases m with
        | ref C' =>
          obtain ⟨h3, h4⟩ := He.ba h2
          obtain ⟨h5, h6⟩ := He.ba h4
          obtain ⟨h7, h8⟩ := He.ba h6
          obtain ⟨h9, h10⟩ := He.ba h8
          have e1 := of_decide_eq_true h1
          have e3 := of_decide_eq_true h3
          have e7 : del = false := by simpa using h7
          subst e1 e3 e7 h9
          split at h10
          · rename_i k0 k1 k2 k3 n k5 es
            have e10 := of_decide_eq_true h10
            subst e10
            refine ⟨nm, qn, ns, bs, bm, sn, sb, ab, col, od, k0, k1, k2, k3, k5, ?_, h5⟩
            have e2 : sl = #[k0, k1, k2, k3, some (.builtin "ValueError.__new__"), k5] := by
              apply Array.ext'
              exact es
            rw [e2]
          · cases h10
        | _ => cases h2
    | _ => cases h
/-- an own exception class of two attributes -/
def xclB (K : Frag) (x f : Str) : Bool := gloB K x && (oexL K (He.ga K x) && (xfB K (He.ga K x) && (okF K (He.ga K x) "code" && (okF K (He.ga K x) f &&
  (decide (PySem.W.findIn K (.ref (He.ga K x)) "__init__" = some (some (.ref (He.ma K (He.ga K x) "__init__")))) && (decide (PySem.W.typeIn K (.ref (He.ma K (He.ga K x) "__init__")) = some (.type "function")) &&
  (decide (PySem.W.findIn K (.ref (He.ga K x)) "__setattr__" = some (some (.builtin "object.__setattr__"))) && (decide (PySem.W.subIn K (.ref (He.ga K x)) (.type "BaseException") = some true) && (decide (PySem.W.typeIn K (.ref (He.ga K x)) = some (.type "type")) && (PySem.W.keepIn K (.ref (He.ga K x)) &&
  decide (PySem.W.exmAny K (.ref (He.ga K x)) [.ref (He.ga K "SchemeError"), .ref (He.ga K "UnknownName"), .ref (He.ga K "NothingLeft")] = some true)))))))))))
structure Xcl (K : Frag) (x f : Str) : Prop where
  glo : gloB K x = true
  oex : OexC K (He.ga K x)
  xf : XfC K (He.ga K x)
  cd : okF K (He.ga K x) "code" = true
  fo : okF K (He.ga K x) f = true
  ini : PySem.W.findIn K (.ref (He.ga K x)) "__init__" = some (some (.ref (He.ma K (He.ga K x) "__init__")))
  ty : PySem.W.typeIn K (.ref (He.ma K (He.ga K x) "__init__")) = some (.type "function")
  any : PySem.W.exmAny K (.ref (He.ga K x)) [.ref (He.ga K "SchemeError"), .ref (He.ga K "UnknownName"), .ref (He.ga K "NothingLeft")] = some true
theorem xclB_ok {K : Frag} {x f : Str} (h : xclB K x f = true) : Xcl K x f := by
  obtain ⟨h1, h⟩ := He.ba h
  obtain ⟨h2, h⟩ := He.ba h
  obtain ⟨h3, h⟩ := He.ba h
  obtain ⟨h4, h⟩ := He.ba h
  obtain ⟨h5, h⟩ := He.ba h
  obtain ⟨h6, h⟩ := He.ba h
  obtain ⟨h7, h⟩ := He.ba h
  obtain ⟨h8, h⟩ := He.ba h
  obtain ⟨h9, h⟩ := He.ba h
  obtain ⟨h10, h⟩ := He.ba h
  obtain ⟨h11, h12⟩ := He.ba h
  exact ⟨h1, ⟨oexL_ok h2, of_decide_eq_true h8, of_decide_eq_true h9, of_decide_eq_true h10, h11⟩, xfB_ok h3, h4, h5, of_decide_eq_true h6, of_decide_eq_true h7, of_decide_eq_true h12⟩
theorem hasX_of {G : PCfg} {h : Heap} {mg : Str → Option Value} {base : Heap} {x f z pn : Str} {c i ci : Nat} {fd : FuncData} (X : G.K.In h) (N : h.Ns mainGlobals mg) (e : Xcl G.K x f) (hc : G.cls c = He.ga G.K x)
    (F1 : FnOk G.P G.w G.K mg base (L2.CX G.P G.w) 1 (He.ma G.K (He.ga G.K x) "__init__") fd ["self", pn] (spEx (He.ga G.K x) f z)) (hb : Binds G.K fd ["self", pn] []) (h1 : G.fld[i]? = some f) (h2 : G.fld[ci]? = some ("code" : Str)) : HasX G mg base x c i ci z := by
  unfold HasX
  rw [hc]
  exact ⟨_, fd, pn, f, e.oex, e.ini, e.ty, F1, hb, glo_ok X N e.glo, h1, h2⟩
theorem xcOk_of {G : PCfg} {x f z : Str} {c i : Nat} (e : Xcl G.K x f) (hc : G.cls c = He.ga G.K x) (h1 : G.fld[i]? = some f)
    (fx : ∀ ok : Str → Bool, ok "code" = true → ok f = true → ∀ v : V, xget ok "code" [(f, v), ("code", .str z)] = some (.str z) ∧ fieldX ok [(f, v), ("code", .str z)] = some (some v)) : XcOk G (He.ga G.K "SchemeError") (He.ga G.K "UnknownName") (He.ga G.K "NothingLeft") (c, z, i) := by
  refine ⟨?_, ?_, f, h1, ?_⟩
  · show PySem.W.exmAny G.K (.ref (G.cls c)) _ = _
    rw [hc]; exact e.any
  · show XfC G.K (G.cls c)
    rw [hc]; exact e.xf
  · show ∀ v, xget (okF G.K (G.cls c)) "code" [(f, v), ("code", .str z)] = some (.str z) ∧ _
    rw [hc]; exact fx _ e.cd e.fo
theorem tryC_mk {G : PCfg} {mg : Str → Option Value} {base : Heap} {ex : List (Nat × Str × Nat)} {ci : Nat} {c1 c2 c3 g ff : Addr} {pg : Arguments} {sg : Scope} {fd fdf : FuncData} {j1 k1 k2 k3 : Nat} {j2 p1 p2 p3 p4 p5 p6 p7 p8 p9 p10 p11 p12 p13 p14 p15 p16 p17 : Pos}
    (code : G.fld[ci]? = some ("code" : Str)) (hx : ∀ e ∈ ex, XcOk G c1 c2 c3 e) (hm : mg "_law_try" = some (.ref g))
    (F : FunD G.K "_law_try" "_law_try" pg [.Try [.Return (some (.Tuple [.Constant (.str "") j1 p1, .Call (.Name "ask" p2) [] [] p3] k1 p4)) p5]
      [.ExceptHandler (some (.Tuple [.Name "SchemeError" p6, .Name "UnknownName" p7, .Name "NothingLeft" p8] k2 p9)) (some "e") [.Return (some (.Tuple [.Attribute (.Name "e" p10) "code" p11, .Call (.Name "_law_field" p12) [.Name "e" p13] [] p14] k3 p15)) p16] p17] [] [] j2] sg [] [] g fd)
    (hb : Binds G.K fd ["ask"] []) (S : FnScope ["ask", "e"] ["ask"] sg) (ha : sg.names.lookup ("ask" : Str) = some .local) (Fq : FnQ G.P G.w G.K mg base 1 ff fdf ["e"] (spFld G.K)) (hbf : Binds G.K fdf ["e"] []) (hkf : PySem.W.keepIn G.K (.ref ff) = true) (hmf : mg "_law_field" = some (.ref ff))
    (m1 : mg "SchemeError" = some (.ref c1)) (m2 : mg "UnknownName" = some (.ref c2)) (m3 : mg "NothingLeft" = some (.ref c3))
    (g1 : sg.names.lookup ("SchemeError" : Str) = some .globalImplicit) (g2 : sg.names.lookup ("UnknownName" : Str) = some .globalImplicit) (g3 : sg.names.lookup ("NothingLeft" : Str) = some .globalImplicit) (g4 : sg.names.lookup ("_law_field" : Str) = some .globalImplicit) (hke : sg.names.lookup ("e" : Str) = some .local) : TryC G mg base ex ci := by
  refine ⟨code, c1, c2, c3, g, pg, _, sg, fd, hx, hm, F, hb, S, ha, fun X k cdg q e1 e2 e3 e4 e5 hr => ?_⟩
  rw [← e1, ← e2, ← e3, ← e4, ← e5] at Fq
  rw [← e1] at hbf hkf ⊢
  rw [← e4] at hmf m1 m2 m3
  exact try_gives hr (Nat.succ_le_succ (Nat.zero_le _)) Fq hbf hkf hmf m1 m2 m3 g1 g2 g3 g4 hke
theorem tabs_of {G : PCfg} {tf : List (He.Defn × Str)} {H : Hp} (e : G.tabs = tf.map fun q => ((He.cT G.K q.1).2, q.2)) (h : ∀ p ∈ tf.map (fun q => He.cT G.K q.1), H p.2 = some (.tbl #[])) : LamX.Tabs G.tabs H := fun p hp => by
  rw [e] at hp
  obtain ⟨q, hq, rfl⟩ := List.mem_map.mp hp
  exact LamX.TabS.nil (h _ (List.mem_map.mpr ⟨q, hq, rfl⟩))
end Py

end

section
/-! The logic of raise and of _law_try. -/
namespace Py
open PySem
section
variable {P : Po} {env : Env} {h : PH} {g f : Ef} {Q : PV → PH → Prop} {X : XP} {ex : List (Nat × Str × Nat)}
theorem ws_raise {c i ci : Nat} {z : Str} (w : wp (g env h) (fun p h1 => P.ex c [(i, p), (ci, .str z)] env h1) (exE P env)) : ws (raiseS c i ci z g env h) P := by
  unfold raiseS
  cases e : g env h with
  | ok p h1 => rw [e] at w; exact w
  | exc c fs h1 => rw [e] at w; exact w
  | bad => rw [e] at w; exact w
theorem wp_tryE {ci : Nat} (w : wp (f env h) (fun p h1 => Q (.tup [.str "", p]) h1) (fun c fs h1 => ∃ i p z, fs = [(i, p), (ci, .str z)] ∧ ex.contains (c, z, i) = true ∧ Q (.tup [.str z, p]) h1)) : wp (tryE ex ci f env h) Q X := by
  unfold tryE
  cases e : f env h with
  | ok p h1 => rw [e] at w; exact w
  | exc c fs h1 =>
    rw [e] at w
    obtain ⟨i, p, z, rfl, hc, q⟩ := w
    show wp (if (ex.contains (c, z, i) && ci == ci) = true then _ else _) Q X
    rw [if_pos (by rw [hc, beq_self_eq_true]; rfl)]
    exact q
  | bad => rw [e] at w; exact w
theorem trI {R : Nat → PV → Str → Prop} {c i ci : Nat} {p : PV} {z : Str} {h1 : PH} (e : ex.contains (c, z, i) = true) (q : Q (.tup [.str z, p]) h1) : ∃ i' p' z', ([(i, p), (ci, .str z)] : List (Nat × PV)) = [(i', p'), (ci, .str z')] ∧ ex.contains (c, z', i') = true ∧ Q (.tup [.str z', p']) h1 := ⟨i, p, z, rfl, e, q⟩
end
end Py

end

section
/-! Classes as values: C.m(..) of a classmethod, cls(..); text.split(..). -/
namespace Py
open PySem PySem.Spec PyProof.Rows L2

/-! ### C.m(e, ..), m a classmethod -/
def cmE (x : Str) (n : Nat) (F : Fn) (g : Af) : Ef := fun env h => (g env h).bind fun ps h1 => if ps.length + 1 = n then F (.cls x :: ps) h1 else .bad
def HasCM (G : PCfg) (mg : Str → Option Value) (base : Heap) (x m : Str) (n k : Nat) (F : Fn) : Prop := ∃ (mc : Value) (p g : Addr) (fd : FuncData) (ps : List Str), ClX.CRead G.K (He.ga G.K x) mc ∧ ClX.CMet G.K (He.ga G.K x) mc m p g ∧
  FnOk G.P G.w G.K mg base (L2.CX G.P G.w) k g fd ps (spI G n F) ∧ Binds G.K fd ps [] ∧ mg x = some (.ref (He.ga G.K x))
section
variable {X : Cx} {G : PCfg} {mg : Str → Option Value} {base : Heap} {a b c e : Expr} {es : List Expr} {f : Ef} {g : Af} {pos p apos : Pos}
theorem d_cm {W : WX} {E : XK} {x m : Str} {n k j : Nat} {F : Fn} {pl : Sem Bool} (h : HasCM G mg base x m n k F) (K : XIs X G mg base) (tk : Takes X W) (hW : W = fun c d _ H => E c d H) (hr : Room j X.A) (hj : k ≤ j) (ha : DA X G W (e :: es) g) (hg : Gl X x := by rfl) (hd : (x == ("__debug__" : Str)) = false := by decide)
    (hst : starEach (e :: es) X.env = (false, eval e X.env) :: starEach es X.env := by rfl) (hpl : (backTo pos (starEach es X.env)).any (·.1) = false := by rfl)
    (ht : eval (.Call (.Attribute (.Name x p) m apos) (e :: es) [] pos) X.env = (do
      let ov ← eval (.Name x p) X.env
      standAt apos.atName
      let (f, first) ← holding [ov] (getMethod ov m pl)
      callWith pos f first (backTo pos (starEach (e :: es) X.env)) (backToKw pos (keywordEach [] X.env))) := by rfl) :
    DE X G W (.Call (.Attribute (.Name x p) m apos) (e :: es) [] pos) (cmE x n F g) := by
  subst hW
  obtain ⟨mc, q, gg, fd, ps, c1, c2, F1, hb, hm⟩ := h
  rw [← K.k] at c1 c2 hb
  rw [← K.p, ← K.w, ← K.k, ← K.m, ← K.b] at F1
  have F2 := (F1.raw hb .nil).imp (sp' := spI G n F) fun vs H Q E z => by rw [List.append_nil]; exact z
  refine PE.imp (ClX.pe_cmeth (E := E) (pe_glob (v := .ref (He.ga X.K x)) hg (by rw [K.m, hm, K.k]) rfl hd) c1 c2 (F2.mono hj) hr (passes_call tk fun _ _ _ _ z => z) ha hst hpl ht) fun σ H Q t => ?_
  refine ⟨rfl, tA.post (Now.bindA Mono.tt t) fun xs H1 ⟨qs, ρ, env, h, a, b, ⟨_, r⟩, d⟩ => ?_⟩
  dsimp only at d
  by_cases z : qs.length + 1 = n
  · rw [if_pos z] at d
    exact ⟨by rw [List.length_cons, ← Paired.length r]; exact z, ρ, .cls x :: qs, h, b, .cons (by rw [K.k]; exact .cls x) r, d⟩
  · rw [if_neg z] at d; exact d.elim

/-! ### cls(e, ..), cls a name that stands for a class -/
def mkV (tab : List (Str × Nat × Fn)) (n : Nat) (f : Ef) (g : Af) : Ef := fun env h => (f env h).bind fun p h1 => match p with
  | .cls x => (match tab.lookup x with
    | some (c, F) => (g env h1).bind fun ps h2 => if ps.length + 1 = n then mkC c F ps h2 else .bad
    | none => .bad)
  | _ => .bad
def MkV (G : PCfg) (mg : Str → Option Value) (base : Heap) (n k : Nat) (q : Str × Nat × Fn) : Prop := HasC G mg base q.1 q.2.1 n k q.2.2 ∧ G.cls q.2.1 = He.ga G.K q.1
theorem d_mkV {W : WX} {tab : List (Str × Nat × Fn)} {n k j : Nat} {y : Str} (K : XIs X G mg base) (tk : Takes X W) (hr : Room j X.A) (hj : k + 1 ≤ j) (ht : ∀ q ∈ tab, MkV G mg base n k q) (hf : DE X G W (.Name y p) f) (ha : DA X G W (e :: es) g)
    (he : starEach (e :: es) X.env = (false, eval e X.env) :: starEach es X.env := by rfl) (hpl : (backTo pos (starEach es X.env)).any (·.1) = false := by rfl) :
    DE X G W (.Call (.Name y p) (e :: es) [] pos) (mkV tab n f g) := by
  refine ⟨fun pins s σ H Q I t => ?_⟩
  refine wpAny_Call_Name_kw (thn (hf.run pins s σ H _ I (Now.bindV Mono.tt t)) fun u s1 ⟨v, H1, I1, r1, p1, t1⟩ => ?_)
  obtain ⟨ρ, env, h, a, b, ⟨_, r⟩, d⟩ := t1
  cases p1 with
  | cls x =>
    cases r
    obtain rfl : u = Value.ref (He.ga G.K x) := r1
    dsimp only at d
    cases l : tab.lookup x with
    | none => rw [l] at d; exact d.elim
    | some cF =>
      obtain ⟨c, F⟩ := cF
      rw [l] at d
      dsimp only at d
      have hmem : (x, c, F) ∈ tab := PySem.mem_of_lookup l
      obtain ⟨⟨⟨fI, M, ⟨fd, ps, hF, hb⟩⟩, hm⟩, hc⟩ := ht _ hmem
      dsimp only at M hF hb hm hc
      rw [← hc]
      rw [← K.k] at M hb
      rw [← K.p, ← K.w, ← K.k, ← K.m, ← K.b] at hF
      have n1 : Now (RV G) CT G W σ H1 Q (fun env h => (g env h).bind fun ps h2 => if ps.length + 1 = n then mkC c F ps h2 else .bad) := ⟨ρ, env, h, a, b, trivial, d⟩
      have t2 : tA G W g σ H1 fun vs H2 => ∀ y dy, H2 y = none → H2 dy = none → dy ≠ y → spI G n F (.ref y :: vs) (upd (upd H2 dy (.own y)) y (.ins (G.cls c) dy [])) (fun v H3 => v = .non ∧ Q (.ref y) H3) (WE W σ) := by
        refine tA.post (Now.bindA Mono.tt n1) fun xs H2 ⟨qs, ρ2, env2, h2, a2, b2, ⟨_, r2⟩, d2⟩ => ?_
        dsimp only at d2
        by_cases z : qs.length + 1 = n
        · rw [if_pos z] at d2
          exact mk_core b2 r2 z d2
        · rw [if_neg z] at d2; exact d2.elim
      refine PySem.W.callWith_K (h₀ := X.base) I.ok.mod.kin M.kp (thn (ha.run pos pins s1 σ H1 _ I1 t2) fun us s2 ⟨vs, H2, I2, r2, q2⟩ => ⟨I2.kIn, ?_⟩) he hpl
      exact run_makeW M hF (hr.mono hj) hb (passAt tk σ) I2 r2 q2
  | _ => exact d.elim
/-! ### text.split(e) -/
def splitM : PV → List PV → PH → Rs PV := fun p ps h => match p, ps with
  | .str a, [.str b] => if (b.length == 0) = false ∧ a.length + 2 ≤ sizeLine then newL ((Txt.split a b).map PV.str) h else .bad
  | _, _ => .bad
theorem reps_strs {K : PySem.W.Frag} {H : Hp} {ρ : List Addr} : ∀ ys : List Str, Reps K H ρ (ys.map PV.str) (ys.map V.str)
  | [] => .nil
  | y :: ys => .cons (.str y) (reps_strs ys)
theorem says_split : SaysM G splitM (fun x xs H Q => ∃ a b, x = .str a ∧ xs = [.str b] ∧ (b.length == 0) = false ∧ a.length + 2 ≤ sizeLine ∧ rNewStrs (Txt.split a b) H Q) := by
  intro ρ H h p x ps xs Q b rp rs d
  cases p with
  | str z =>
    cases rs with
    | nil => exact d.elim
    | cons ry rt =>
      rename_i q y ps' xs'
      cases rt with
      | cons _ _ => cases q <;> exact d.elim
      | nil =>
        cases q with
        | str w =>
          cases rp
          cases ry
          unfold splitM at d
          dsimp only at d
          by_cases k : (w.length == 0) = false ∧ z.length + 2 ≤ sizeLine
          · rw [if_pos k] at d
            exact ⟨z, w, rfl, rfl, k.1, k.2, fun q hq => new_list b (reps_strs _) hq d⟩
          · rw [if_neg k] at d; exact d.elim
        | _ => exact d.elim
  | _ => exact d.elim
theorem nx_split : NoExM splitM := by
  intro p ps h c fs h' e
  unfold splitM at e
  split at e
  · split at e <;> cases e
  · cases e
theorem split_ {W : WX} (K : XIs X G mg base) (ha : DE X G W a f) (hb : DA X G W [b] g)
    (hbase : attributeBase a "split" X.env (eval a X.env) = eval a X.env := by rfl)
    (hfew : ((backTo pos (starEach [b] X.env)).all (fun x => !x.1) && (backToKw pos (keywordEach [] X.env)).all (fun x => x.1.isSome)
      && decide ([b].length + ([] : List Keyword).length + (if ([] : List Keyword).isEmpty then 0 else 1) < 30)) = true := by rfl)
    (hline : (apos.endLine == pos.line) = true := by rfl) (hs1 : starEach [b] X.env = (false, eval b X.env) :: starEach [] X.env := by rfl) (hplain : (backTo pos (starEach ([] : List Expr) X.env)).any (·.1) = false := by rfl) :
    DE X G W (.Call (.Attribute a "split" apos) [b] [] pos) (mE isStr splitM f g) := d_bm K.cok PySem.F.plainAttrs_str F.slot_str_split F.type_str_split mt_split says_isStr says_split nx_split ha hb hbase hfew hline hs1 hplain
/-! the logic -/
variable {Q : PV → PH → Prop} {QA : List PV → PH → Prop} {XX : XP} {h : PH} {env : Env}
theorem splitI {a b : Str} (hb : (b.length == 0) = false) (hz : a.length + 2 ≤ sizeLine) (q : Q (.obj h.length) (h ++ [.lst ((Txt.split a b).map PV.str)])) : wp (splitM (.str a) [.str b] h) Q XX := by
  unfold splitM
  dsimp only
  rw [if_pos ⟨hb, hz⟩]
  exact q
theorem wp_cmE {x : Str} {n : Nat} {F : Fn} {g : Af} (w : wp (g env h) (fun ps h1 => ps.length + 1 = n ∧ wp (F (.cls x :: ps) h1) Q XX) XX) : wp (cmE x n F g env h) Q XX := by
  unfold cmE
  rw [wp_bind]
  cases e : g env h with
  | ok ps h1 =>
    rw [e] at w
    obtain ⟨l, w⟩ := w
    show wp (if ps.length + 1 = n then _ else _) _ _
    rw [if_pos l]
    exact w
  | exc c fs h1 => rw [e] at w; exact w
  | bad => rw [e] at w; exact w
theorem wp_mkV {tab : List (Str × Nat × Fn)} {n : Nat} {f : Ef} {g : Af} (w : wp (f env h) (fun p h1 => ∃ x c F, p = .cls x ∧ tab.lookup x = some (c, F) ∧ wp (g env h1) (fun ps h2 => ps.length + 1 = n ∧ wp (F (.obj h2.length :: ps) (h2 ++ [.ins c []])) (fun r h3 => r = .non ∧ Q (.obj h2.length) h3) XX) XX) XX) : wp (mkV tab n f g env h) Q XX := by
  unfold mkV
  rw [wp_bind]
  refine wp_mono w fun p h1 ⟨x, c, F, e1, e2, w2⟩ => ?_
  subst e1
  simp only [e2]
  rw [wp_bind]
  refine wp_mono w2 fun ps h2 ⟨l, w3⟩ => ?_
  rw [if_pos l]
  unfold mkC
  rw [wp_bind]
  refine wp_mono w3 fun r h3 ⟨er, q⟩ => ?_
  subst er
  exact q
end
end Py

end

section
/-! The head's facts of classmethods. -/
namespace Py
open PySem PySem.Spec PyProof.Rows L2
def cmAt (K : Frag) (C m : Str) : Addr := match PySem.W.recIn K (He.ma K (He.ga K C) m) "classmethod" with
  | some (.ref g :: _) => g
  | _ => 0
def cmB (K : Frag) (C m : Str) : Bool := gloB K C && (PySem.W.readsIn K (He.ga K C) (.type "type") && (decide (PySem.W.specialIn K (.ref (He.ga K C)) "__getattribute__" = some (some (.builtin "type.__getattribute__"))) &&
  ((match PySem.W.findCls K (.ref (He.ga K C)) (.type "type") m with
    | some (.get g a n c) => decide (g = .builtin "classmethod.__get__") && (decide (a = .ref (He.ma K (He.ga K C) m)) && (decide (n = .none) && decide (c = .ref (He.ga K C))))
    | _ => false) && ((match PySem.W.recIn K (He.ma K (He.ga K C) m) "classmethod" with
    | some (.ref _ :: _) => true
    | _ => false) && PySem.W.fnIn K (cmAt K C m)))))
theorem cmB_ok {G : PCfg} {h : Heap} {mg : Str → Option Value} {base : Heap} {C m : Str} {n k : Nat} {F : Fn} {fd : FuncData} {ps : List Str} (X : G.K.In h) (N : h.Ns mainGlobals mg) (e : cmB G.K C m = true)
    (F1 : FnOk G.P G.w G.K mg base (L2.CX G.P G.w) k (cmAt G.K C m) fd ps (spI G n F)) (hb : Binds G.K fd ps []) : HasCM G mg base C m n k F := by
  obtain ⟨h1, e⟩ := He.ba e
  obtain ⟨h2, e⟩ := He.ba e
  obtain ⟨h3, e⟩ := He.ba e
  obtain ⟨h4, e⟩ := He.ba e
  obtain ⟨h5, h6⟩ := He.ba e
  have q1 : PySem.W.findCls G.K (.ref (He.ga G.K C)) (.type "type") m = some (.get (.builtin "classmethod.__get__") (.ref (He.ma G.K (He.ga G.K C) m)) .none (.ref (He.ga G.K C))) := by
    split at h4
    · rename_i g a n c z
      obtain ⟨k1, h4⟩ := He.ba h4
      obtain ⟨k2, h4⟩ := He.ba h4
      obtain ⟨k3, k4⟩ := He.ba h4
      rw [z, of_decide_eq_true k1, of_decide_eq_true k2, of_decide_eq_true k3, of_decide_eq_true k4]
    · cases h4
  have q2 : ∃ rest, PySem.W.recIn G.K (He.ma G.K (He.ga G.K C) m) "classmethod" = some (.ref (cmAt G.K C m) :: rest) := by
    unfold cmAt
    split at h5
    · rename_i z
      exact ⟨_, by rw [z]⟩
    · cases h5
  exact ⟨.type "type", _, _, fd, ps, ⟨h2, of_decide_eq_true h3⟩, ⟨q1, q2, h6⟩, F1, hb, glo_ok X N h1⟩
theorem mkv_one {G : PCfg} {mg : Str → Option Value} {base : Heap} {C : Str} {c n k : Nat} {F : Fn} (h : HasC G mg base C c n k F) (hc : G.cls c = He.ga G.K C) : ∀ q ∈ [(C, c, F)], MkV G mg base n k q := fun q hq => by
  rw [List.mem_singleton.mp hq]
  exact ⟨h, hc⟩
end Py

end
section

namespace L
open PySem PySem.Spec PyProof.Rows L2 Py
def top (i : Nat) : Stmt := PySem.Challenge.pw_livingends_k07_texts_of_conditions.main.body.getD i (.Pass ⟨0, 0, 0, 0⟩)
abbrev c_LETTERS : PV := (.str "abcdefghijklmnopqrstuvwxyz")
abbrev c_MOST_DEPTH : PV := (.int 6)
abbrev c_MOST_PARTS : PV := (.int 15)
abbrev c_MOST_WORDS : PV := (.int 40)
abbrev c_PAIRS : PV := (.tup [(.str "and"), (.str "or")])
abbrev c_SIMPLE : PV := (.tup [(.str "leader"), (.str "all"), (.str "some")])
abbrev c_WORDS : PV := (.tup [(.str "all"), (.str "always"), (.str "and"), (.str "crash"), (.str "cut"), (.str "decides"), (.str "down"), (.str "end"), (.str "follower"), (.str "heard"), (.str "leader"), (.str "marks"), (.str "move"), (.str "or"), (.str "send"), (.str "some"), (.str "state"), (.str "to"), (.str "undo"), (.str "wish")])
abbrev flds : List Str := ["code", "given", "line", "most", "part", "parts", "tree"]
abbrev exl : List (Nat × Str × Nat) := [(1, "TooLarge", 3), (2, "InvalidCondition", 4), (3, "InvalidText", 2), (4, "InvalidTerm", 1)]
abbrev f_code : Nat := 0
abbrev f_given : Nat := 1
abbrev f_line : Nat := 2
abbrev f_most : Nat := 3
abbrev f_part : Nat := 4
abbrev f_parts : Nat := 5
abbrev f_tree : Nat := 6
abbrev x_TooLarge (X : XP) (p : PV) (h : PH) : Prop := X 1 [(3, p), (0, .str "TooLarge")] h
abbrev x_InvalidCondition (X : XP) (p : PV) (h : PH) : Prop := X 2 [(4, p), (0, .str "InvalidCondition")] h
abbrev x_InvalidText (X : XP) (p : PV) (h : PH) : Prop := X 3 [(2, p), (0, .str "InvalidText")] h
abbrev x_InvalidTerm (X : XP) (p : PV) (h : PH) : Prop := X 4 [(1, p), (0, .str "InvalidTerm")] h
abbrev s__law_bag : Stmt := top 26
abbrev N__law_bag : List Str := ["script", "mixed", "cell"]
noncomputable def b__law_bag : Sf :=
 seqS (asgS (cst (.int 12008)) (nameG 1))
 (seqS (forS (walkI (slE (var 0) (noneO) (someO (cst (.int 63))))) (nameG 2) (asgS (bin modV (appE intL (consA (bin addV (bin addV (bin mulV (var 1) (cst (.int 48017))) (bin mulV (bin modV (appE intL (consA (var 2) (nilA))) (cst (.int 1000159))) (cst (.int 911)))) (cst (.int 37))) (nilA))) (cst (.int 2147483587))) (nameG 1)) nopS)
 (retS (lstE (consA (appE listL (consA (slE (var 0) (noneO) (someO (cst (.int 63)))) (nilA))) (consA (cst (.int 0)) (consA (cst (.int 0)) (consA (var 1) (consA (cst (.int 0)) (nilA)))))))))
noncomputable def sem__law_bag : Fn := runB 3 b__law_bag
abbrev s__law_draw : Stmt := top 27
abbrev N__law_draw : List Str := ["bag", "many", "twice", "cell", "digit"]
noncomputable def b__law_draw : Sf :=
 seqS (setS (bin addV (bin ixV (var 0) (cst (.int 4))) (cst (.int 1))) (var 0) (cst (.int 4)))
 (seqS (ifS (andT (tst (bin eqV (bin ixV (var 0) (cst (.int 2))) (cst (.int 0)))) (tst (bin ltV (bin ixV (var 0) (cst (.int 1))) (appE lenL (consA (bin ixV (var 0) (cst (.int 0))) (nilA)))))) (seqS (asgS (bin ixV (bin ixV (var 0) (cst (.int 0))) (bin ixV (var 0) (cst (.int 1)))) (nameG 3))
 (seqS (setS (bin addV (bin ixV (var 0) (cst (.int 1))) (cst (.int 1))) (var 0) (cst (.int 1)))
 (ifS (tst (bin geV (appE absL (consA (var 3) (nilA))) (bin powV (cst (.int 10)) (cst (.int 18))))) (setS (appE absL (consA (var 3) (nilA))) (var 0) (cst (.int 2))) (setS (bin modV (appE intL (consA (bin addV (bin addV (bin mulV (bin ixV (var 0) (cst (.int 3))) (cst (.int 44027))) (bin mulV (bin modV (appE intL (consA (var 3) (nilA))) (cst (.int 1000159))) (cst (.int 769)))) (cst (.int 43))) (nilA))) (cst (.int 2147483629))) (var 0) (cst (.int 3)))))) (nopS))
 (seqS (ifS (tst (bin gtV (bin ixV (var 0) (cst (.int 2))) (cst (.int 0)))) (seqS (asgS (bin modV (appE intL (consA (bin ixV (var 0) (cst (.int 2))) (nilA))) (var 1)) (nameG 4))
 (seqS (setS (bin divV (bin ixV (var 0) (cst (.int 2))) (var 1)) (var 0) (cst (.int 2)))
 (retS (var 4)))) (nopS))
 (seqS (asgS (bin modV (appE intL (consA (bin addV (bin mulV (bin ixV (var 0) (cst (.int 3))) (bin ixV (var 0) (cst (.int 3)))) (bin mulV (bin ixV (var 0) (cst (.int 4))) (cst (.int 9137)))) (nilA))) (cst (.int 2147483549))) (nameG 2))
 (seqS (setS (bin modV (appE intL (consA (bin addV (bin addV (bin mulV (var 2) (cst (.int 18229))) (bin mulV (bin ixV (var 0) (cst (.int 3))) (cst (.int 58757)))) (cst (.int 53051))) (nilA))) (cst (.int 2147483629))) (var 0) (cst (.int 3)))
 (retS (bin modV (appE intL (consA (bin divV (bin ixV (var 0) (cst (.int 3))) (cst (.int 64))) (nilA))) (var 1)))))))
noncomputable def sem__law_draw : Fn := runB 5 b__law_draw
abbrev s__law_one : Stmt := top 28
abbrev N__law_one : List Str := ["bag", "things"]
noncomputable def b__law_one : Sf :=
 retS (bin ixV (var 1) (callE (sem__law_draw) 2 (consA (var 0) (consA (appE lenL (consA (var 1) (nilA))) (nilA)))))
noncomputable def sem__law_one : Fn := runB 2 b__law_one
abbrev s__law_tree : Stmt := top 32
abbrev N__law_tree : List Str := ["bag", "marks", "deep", "way", "first"]
noncomputable def b__law_tree (self : Fn) : Sf :=
 seqS (asgS (ifE (tst (bin gtV (var 2) (cst (.int 0)))) (callE (sem__law_draw) 2 (consA (var 0) (consA (cst (.int 6)) (nilA)))) (callE (sem__law_draw) 2 (consA (var 0) (consA (cst (.int 4)) (nilA))))) (nameG 3))
 (seqS (ifS (tst (bin eqV (var 3) (cst (.int 0)))) (retS (tupE (consA (cst (.str "always")) (nilA)))) (nopS))
 (seqS (ifS (tst (bin ltV (var 3) (cst (.int 4)))) (retS (tupE (consA (bin ixV (lstE (consA (cst (.str "leader")) (consA (cst (.str "all")) (consA (cst (.str "some")) (nilA))))) (bin subV (var 3) (cst (.int 1)))) (consA (callE (sem__law_one) 2 (consA (var 0) (consA (var 1) (nilA)))) (nilA))))) (nopS))
 (seqS (asgS (callE (self) 3 (consA (var 0) (consA (var 1) (consA (bin subV (var 2) (cst (.int 1))) (nilA))))) (nameG 4))
 (retS (tupE (consA (bin ixV (lstE (consA (cst (.str "and")) (consA (cst (.str "or")) (nilA)))) (bin subV (var 3) (cst (.int 4)))) (consA (var 4) (consA (callE (self) 3 (consA (var 0) (consA (var 1) (consA (bin subV (var 2) (cst (.int 1))) (nilA))))) (nilA)))))))))
noncomputable def sem__law_tree : Nat → Fn
  | 0 => fun _ _ => .bad
  | n + 1 => runB 5 (b__law_tree (sem__law_tree n))
abbrev s__law_wide : Stmt := top 34
abbrev N__law_wide : List Str := ["bag", "marks", "many", "first", "left_part"]
noncomputable def b__law_wide (self : Fn) : Sf :=
 seqS (ifS (tst (bin eqV (var 2) (cst (.int 1)))) (retS (callE (sem__law_tree 12) 3 (consA (var 0) (consA (var 1) (consA (cst (.int 0)) (nilA)))))) (nopS))
 (seqS (asgS (bin addV (cst (.int 1)) (callE (sem__law_draw) 2 (consA (var 0) (consA (bin subV (var 2) (cst (.int 1))) (nilA))))) (nameG 3))
 (seqS (asgS (callE (self) 3 (consA (var 0) (consA (var 1) (consA (var 3) (nilA))))) (nameG 4))
 (retS (tupE (consA (callE (sem__law_one) 2 (consA (var 0) (consA (lstE (consA (cst (.str "and")) (consA (cst (.str "or")) (nilA)))) (nilA)))) (consA (var 4) (consA (callE (self) 3 (consA (var 0) (consA (var 1) (consA (bin subV (var 2) (var 3)) (nilA))))) (nilA))))))))
noncomputable def sem__law_wide : Nat → Fn
  | 0 => fun _ _ => .bad
  | n + 1 => runB 5 (b__law_wide (sem__law_wide n))
abbrev s__law_said : Stmt := top 33
abbrev N__law_said : List Str := ["tree"]
noncomputable def b__law_said (self : Fn) : Sf :=
 seqS (ifS (tst (bin (inV false) (bin ixV (var 0) (cst (.int 0))) (tupE (consA (cst (.str "and")) (consA (cst (.str "or")) (nilA)))))) (retS (bin addV (bin addV (bin addV (bin addV (bin ixV (var 0) (cst (.int 0))) (cst (.str " "))) (callE (self) 1 (consA (bin ixV (var 0) (cst (.int 1))) (nilA)))) (cst (.str " "))) (callE (self) 1 (consA (bin ixV (var 0) (cst (.int 2))) (nilA))))) (nopS))
 (retS (mE isStr joinM (cst (.str " ")) (consA (var 0) (nilA))))
noncomputable def sem__law_said : Nat → Fn
  | 0 => fun _ _ => .bad
  | n + 1 => runB 1 (b__law_said (sem__law_said n))
abbrev s__law_same : Stmt := top 29
abbrev N__law_same : List Str := ["found", "due", "a", "b"]
noncomputable def b__law_same (self : Fn) : Sf :=
 seqS (ifS (orT (tst (bin isNV (var 1) (cst .non))) (tst (bin isNV (var 0) (cst .non)))) (retS (andE (bin isNV (var 1) (cst .non)) (bin isNV (var 0) (cst .non)))) (nopS))
 (seqS (ifS (tst (isiE (ansB .list []) (var 1))) (seqS (ifS (orT (notT (tst (isiE (ansB .list []) (var 0)))) (tst (bin neV (appE lenL (consA (var 0) (nilA))) (appE lenL (consA (var 1) (nilA)))))) (retS (cst (.bl false))) (nopS))
 (retS (appE allL (consA (lcE (zipI (consA (var 0) (consA (var 1) (nilA)))) (tupG 2 (consG (nameG 2) (consG (nameG 3) (nilG)))) [2, 3] (yesT) (callE (self) 2 (consA (var 2) (consA (var 3) (nilA))))) (nilA))))) (nopS))
 (seqS (ifS (tst (isiE (ansB .tuple []) (var 1))) (seqS (ifS (orT (notT (tst (isiE (ansB .tuple []) (var 0)))) (tst (bin neV (appE lenL (consA (var 0) (nilA))) (appE lenL (consA (var 1) (nilA)))))) (retS (cst (.bl false))) (nopS))
 (retS (appE allL (consA (lcE (zipI (consA (var 0) (consA (var 1) (nilA)))) (tupG 2 (consG (nameG 2) (consG (nameG 3) (nilG)))) [2, 3] (yesT) (callE (self) 2 (consA (var 2) (consA (var 3) (nilA))))) (nilA))))) (nopS))
 (seqS (ifS (tst (isiE (ansB .bool []) (var 1))) (retS (andE (isiE (ansB .bool []) (var 0)) (bin eqV (var 0) (var 1)))) (nopS))
 (seqS (ifS (tst (isiE (ansB .int []) (var 1))) (seqS (ifS (notT (tst (isiE (ansB .int []) (var 0)))) (retS (cst (.bl false))) (nopS))
 (retS (andE (notE (isiE (ansB .bool []) (var 0))) (bin eqV (var 0) (var 1))))) (nopS))
 (retS (andE (isiE (ansB .str []) (var 0)) (bin eqV (var 0) (var 1))))))))
noncomputable def sem__law_same : Nat → Fn
  | 0 => fun _ _ => .bad
  | n + 1 => runB 4 (b__law_same (sem__law_same n))
abbrev s_is_name : Stmt := top 11
abbrev N_is_name : List Str := ["value", "sign"]
noncomputable def b_is_name : Sf :=
 seqS (ifS (orT (notT (tst (isiE (ansB .str []) (var 0)))) (notT (tst (chain leV leV (cst (.int 1)) (appE lenL (consA (var 0) (nilA))) (cst (.int 8)))))) (retS (cst (.bl false))) (nopS))
 (seqS (ifS (tst (bin (inV false) (var 0) (cst c_WORDS))) (retS (cst (.bl false))) (nopS))
 (seqS (forS (walkI (var 0)) (nameG 1) (ifS (tst (bin (inV true) (var 1) (cst c_LETTERS))) (retS (cst (.bl false))) (nopS)) nopS)
 (retS (cst (.bl true)))))
noncomputable def sem_is_name : Fn := runB 2 b_is_name
abbrev s__law_walk : Stmt := top 36
abbrev N__law_walk : List Str := ["part", "deep", "count"]
noncomputable def b__law_walk (self : Fn) : Sf :=
 seqS (ifS (orT (tst (bin geV (var 2) (cst (.int 15)))) (tst (bin gtV (var 1) (cst (.int 6))))) (retS (tupE (consA (cst (.str "TooLarge")) (consA (cst (.int 15)) (nilA))))) (nopS))
 (seqS (ifS (orT (notT (tst (isiE (ansB .tuple []) (var 0)))) (orT (tst (bin eqV (var 0) (tupE (nilA)))) (notT (tst (isiE (ansB .str []) (bin ixV (var 0) (cst (.int 0)))))))) (retS (tupE (consA (cst (.str "InvalidCondition")) (consA (var 0) (nilA))))) (nopS))
 (seqS (ifS (andT (tst (bin (inV false) (bin ixV (var 0) (cst (.int 0))) (tupE (consA (cst (.str "and")) (consA (cst (.str "or")) (nilA)))))) (tst (bin eqV (appE lenL (consA (var 0) (nilA))) (cst (.int 3))))) (seqS (asgS (callE (self) 3 (consA (bin ixV (var 0) (cst (.int 1))) (consA (bin addV (var 1) (cst (.int 1))) (consA (bin addV (var 2) (cst (.int 1))) (nilA))))) (nameG 2))
 (retS (ifE (tst (isiE (ansB .int []) (var 2))) (callE (self) 3 (consA (bin ixV (var 0) (cst (.int 2))) (consA (bin addV (var 1) (cst (.int 1))) (consA (var 2) (nilA))))) (var 2)))) (nopS))
 (seqS (ifS (andT (tst (bin neV (var 0) (tupE (consA (cst (.str "always")) (nilA))))) (orT (tst (bin (inV true) (bin ixV (var 0) (cst (.int 0))) (tupE (consA (cst (.str "leader")) (consA (cst (.str "all")) (consA (cst (.str "some")) (nilA))))))) (orT (tst (bin neV (appE lenL (consA (var 0) (nilA))) (cst (.int 2)))) (notT (tst (callE (sem_is_name) 1 (consA (bin ixV (var 0) (cst (.int 1))) (nilA)))))))) (retS (tupE (consA (cst (.str "InvalidCondition")) (consA (var 0) (nilA))))) (nopS))
 (retS (bin addV (var 2) (cst (.int 1)))))))
noncomputable def sem__law_walk : Nat → Fn
  | 0 => fun _ _ => .bad
  | n + 1 => runB 3 (b__law_walk (sem__law_walk n))
abbrev s__law_fault : Stmt := top 35
abbrev N__law_fault : List Str := ["tree", "found"]
noncomputable def b__law_fault : Sf :=
 seqS (asgS (callE (sem__law_walk 12) 3 (consA (var 0) (consA (cst (.int 1)) (consA (cst (.int 0)) (nilA))))) (nameG 1))
 (retS (ifE (tst (isiE (ansB .int []) (var 1))) (cst .non) (var 1)))
noncomputable def sem__law_fault : Fn := runB 2 b__law_fault
abbrev s_is_part : Stmt := top 18
abbrev N_is_part : List Str := ["part"]
noncomputable def b_is_part : Sf :=
 seqS (ifS (orT (notT (tst (isiE (ansB .tuple []) (var 0)))) (orT (tst (bin eqV (appE lenL (consA (var 0) (nilA))) (cst (.int 0)))) (notT (tst (isiE (ansB .str []) (bin ixV (var 0) (cst (.int 0)))))))) (retS (cst (.bl false))) (nopS))
 (seqS (ifS (tst (bin eqV (bin ixV (var 0) (cst (.int 0))) (cst (.str "always")))) (retS (bin eqV (appE lenL (consA (var 0) (nilA))) (cst (.int 1)))) (nopS))
 (seqS (ifS (tst (bin (inV false) (bin ixV (var 0) (cst (.int 0))) (cst c_SIMPLE))) (retS (andE (bin eqV (appE lenL (consA (var 0) (nilA))) (cst (.int 2))) (callE (sem_is_name) 1 (consA (bin ixV (var 0) (cst (.int 1))) (nilA))))) (nopS))
 (retS (andE (bin (inV false) (bin ixV (var 0) (cst (.int 0))) (cst c_PAIRS)) (bin eqV (appE lenL (consA (var 0) (nilA))) (cst (.int 3)))))))
noncomputable def sem_is_part : Fn := runB 1 b_is_part
abbrev s_checked : Stmt := top 19
abbrev N_checked : List Str := ["tree", "depth", "count"]
noncomputable def b_checked (self : Fn) : Sf :=
 seqS (ifS (orT (tst (bin geV (var 2) (cst c_MOST_PARTS))) (tst (bin gtV (var 1) (cst c_MOST_DEPTH)))) (raiseS 1 3 0 "TooLarge" (cst c_MOST_PARTS)) (nopS))
 (seqS (ifS (notT (tst (callE (sem_is_part) 1 (consA (var 0) (nilA))))) (raiseS 2 4 0 "InvalidCondition" (var 0)) (nopS))
 (seqS (asgS (bin addV (var 2) (cst (.int 1))) (nameG 2))
 (seqS (ifS (tst (bin (inV false) (bin ixV (var 0) (cst (.int 0))) (cst c_PAIRS))) (seqS (asgS (callE (self) 3 (consA (bin ixV (var 0) (cst (.int 1))) (consA (bin addV (var 1) (cst (.int 1))) (consA (var 2) (nilA))))) (nameG 2))
 (asgS (callE (self) 3 (consA (bin ixV (var 0) (cst (.int 2))) (consA (bin addV (var 1) (cst (.int 1))) (consA (var 2) (nilA))))) (nameG 2))) (nopS))
 (retS (var 2)))))
noncomputable def sem_checked : Nat → Fn
  | 0 => fun _ _ => .bad
  | n + 1 => runB 3 (b_checked (sem_checked n))
abbrev s_Condition___init__ : Stmt := inCls (top 24) 0
abbrev N_Condition___init__ : List Str := ["self", "tree"]
noncomputable def b_Condition___init__ : Sf :=
 seqS (setF [0] 5 (var 0) (callE (sem_checked 12) 3 (consA (var 1) (consA (cst (.int 1)) (consA (cst (.int 0)) (nilA))))))
 (setF [0] 6 (var 0) (var 1))
noncomputable def sem_Condition___init__ : Fn := runB 2 b_Condition___init__
abbrev s_Condition___eq__ : Stmt := inCls (top 24) 5
abbrev N_Condition___eq__ : List Str := ["self", "other"]
noncomputable def b_Condition___eq__ : Sf :=
 retS (andE (isiE (ansC [0] []) (var 1)) (bin eqV (fldE [0] 6 (var 0)) (fldE [0] 6 (var 1))))
noncomputable def sem_Condition___eq__ : Fn := runB 2 b_Condition___eq__
abbrev s__law_read : Stmt := top 37
abbrev N__law_read : List Str := ["words", "at", "first", "second"]
noncomputable def b__law_read (self : Fn) : Sf :=
 seqS (ifS (tst (bin geV (var 1) (appE lenL (consA (var 0) (nilA))))) (retS (cst .non)) (nopS))
 (seqS (ifS (tst (bin eqV (bin ixV (var 0) (var 1)) (cst (.str "always")))) (retS (tupE (consA (tupE (consA (cst (.str "always")) (nilA))) (consA (bin addV (var 1) (cst (.int 1))) (nilA))))) (nopS))
 (seqS (ifS (tst (bin (inV false) (bin ixV (var 0) (var 1)) (tupE (consA (cst (.str "leader")) (consA (cst (.str "all")) (consA (cst (.str "some")) (nilA))))))) (seqS (ifS (orT (tst (bin geV (bin addV (var 1) (cst (.int 1))) (appE lenL (consA (var 0) (nilA))))) (notT (tst (callE (sem_is_name) 1 (consA (bin ixV (var 0) (bin addV (var 1) (cst (.int 1)))) (nilA)))))) (retS (cst .non)) (nopS))
 (retS (tupE (consA (tupE (consA (bin ixV (var 0) (var 1)) (consA (bin ixV (var 0) (bin addV (var 1) (cst (.int 1)))) (nilA)))) (consA (bin addV (var 1) (cst (.int 2))) (nilA)))))) (nopS))
 (seqS (ifS (tst (bin (inV true) (bin ixV (var 0) (var 1)) (tupE (consA (cst (.str "and")) (consA (cst (.str "or")) (nilA)))))) (retS (cst .non)) (nopS))
 (seqS (asgS (callE (self) 2 (consA (var 0) (consA (bin addV (var 1) (cst (.int 1))) (nilA)))) (nameG 2))
 (seqS (ifS (tst (bin isNV (var 2) (cst .non))) (retS (cst .non)) (nopS))
 (seqS (asgS (callE (self) 2 (consA (var 0) (consA (bin ixV (var 2) (cst (.int 1))) (nilA)))) (nameG 3))
 (retS (ifE (tst (bin isNV (var 3) (cst .non))) (cst .non) (tupE (consA (tupE (consA (bin ixV (var 0) (var 1)) (consA (bin ixV (var 2) (cst (.int 0))) (consA (bin ixV (var 3) (cst (.int 0))) (nilA))))) (consA (bin ixV (var 3) (cst (.int 1))) (nilA))))))))))))
noncomputable def sem__law_read : Nat → Fn
  | 0 => fun _ _ => .bad
  | n + 1 => runB 4 (b__law_read (sem__law_read n))
abbrev s__law_due : Stmt := top 38
abbrev N__law_due : List Str := ["text", "words", "found", "fault"]
noncomputable def b__law_due : Sf :=
 seqS (asgS (mE isStr splitM (var 0) (consA (cst (.str " ")) (nilA))) (nameG 1))
 (seqS (ifS (tst (bin gtV (appE lenL (consA (var 1) (nilA))) (cst (.int 40)))) (retS (tupE (consA (cst (.str "TooLarge")) (consA (cst (.int 15)) (nilA))))) (nopS))
 (seqS (asgS (callE (sem__law_read 45) 2 (consA (var 1) (consA (cst (.int 0)) (nilA)))) (nameG 2))
 (seqS (ifS (orT (tst (bin isNV (var 2) (cst .non))) (tst (bin neV (bin ixV (var 2) (cst (.int 1))) (appE lenL (consA (var 1) (nilA)))))) (retS (tupE (consA (cst (.str "InvalidText")) (consA (cst (.int 1)) (nilA))))) (nopS))
 (seqS (asgS (callE (sem__law_fault) 1 (consA (bin ixV (var 2) (cst (.int 0))) (nilA))) (nameG 3))
 (retS (ifE (tst (bin isNV (var 3) (cst .non))) (tupE (consA (cst (.str "")) (consA (bin ixV (var 2) (cst (.int 0))) (nilA)))) (var 3)))))))
noncomputable def sem__law_due : Fn := runB 4 b__law_due
abbrev s_tree_of : Stmt := top 22
abbrev N_tree_of : List Str := ["words", "at", "word", "first", "second"]
noncomputable def b_tree_of (self : Fn) : Sf :=
 seqS (ifS (tst (bin geV (var 1) (appE lenL (consA (var 0) (nilA))))) (retS (cst .non)) (nopS))
 (seqS (asgS (bin ixV (var 0) (var 1)) (nameG 2))
 (seqS (ifS (tst (bin eqV (var 2) (cst (.str "always")))) (retS (tupE (consA (tupE (consA (cst (.str "always")) (nilA))) (consA (bin addV (var 1) (cst (.int 1))) (nilA))))) (nopS))
 (seqS (ifS (tst (bin (inV false) (var 2) (cst c_SIMPLE))) (seqS (ifS (orT (tst (bin geV (bin addV (var 1) (cst (.int 1))) (appE lenL (consA (var 0) (nilA))))) (notT (tst (callE (sem_is_name) 1 (consA (bin ixV (var 0) (bin addV (var 1) (cst (.int 1)))) (nilA)))))) (retS (cst .non)) (nopS))
 (retS (tupE (consA (tupE (consA (var 2) (consA (bin ixV (var 0) (bin addV (var 1) (cst (.int 1)))) (nilA)))) (consA (bin addV (var 1) (cst (.int 2))) (nilA)))))) (nopS))
 (seqS (ifS (tst (bin (inV true) (var 2) (cst c_PAIRS))) (retS (cst .non)) (nopS))
 (seqS (asgS (callE (self) 2 (consA (var 0) (consA (bin addV (var 1) (cst (.int 1))) (nilA)))) (nameG 3))
 (seqS (ifS (tst (bin isNV (var 3) (cst .non))) (retS (cst .non)) (nopS))
 (seqS (asgS (callE (self) 2 (consA (var 0) (consA (bin ixV (var 3) (cst (.int 1))) (nilA)))) (nameG 4))
 (seqS (ifS (tst (bin isNV (var 4) (cst .non))) (retS (cst .non)) (nopS))
 (retS (tupE (consA (tupE (consA (var 2) (consA (bin ixV (var 3) (cst (.int 0))) (consA (bin ixV (var 4) (cst (.int 0))) (nilA))))) (consA (bin ixV (var 4) (cst (.int 1))) (nilA)))))))))))))
noncomputable def sem_tree_of : Nat → Fn
  | 0 => fun _ _ => .bad
  | n + 1 => runB 5 (b_tree_of (sem_tree_of n))
abbrev s_whole_tree : Stmt := top 23
abbrev N_whole_tree : List Str := ["words", "found"]
noncomputable def b_whole_tree : Sf :=
 seqS (asgS (callE (sem_tree_of 45) 2 (consA (var 0) (consA (cst (.int 0)) (nilA)))) (nameG 1))
 (seqS (ifS (orT (tst (bin isNV (var 1) (cst .non))) (tst (bin neV (bin ixV (var 1) (cst (.int 1))) (appE lenL (consA (var 0) (nilA)))))) (retS (cst .non)) (nopS))
 (retS (bin ixV (var 1) (cst (.int 0)))))
noncomputable def sem_whole_tree : Fn := runB 2 b_whole_tree
noncomputable abbrev tb_mkv_Condition : List (Str × Nat × Fn) := [("Condition", 0, sem_Condition___init__)]
abbrev s_Condition_read : Stmt := inCls (top 24) 1
abbrev N_Condition_read : List Str := ["cls", "text", "words", "tree"]
noncomputable def b_Condition_read : Sf :=
 seqS (ifS (notT (tst (isiE (ansB .str []) (var 1)))) (raiseS 3 2 0 "InvalidText" (cst (.int 1))) (nopS))
 (seqS (asgS (mE isStr splitM (var 1) (consA (cst (.str " ")) (nilA))) (nameG 2))
 (seqS (ifS (tst (bin gtV (appE lenL (consA (var 2) (nilA))) (cst c_MOST_WORDS))) (raiseS 1 3 0 "TooLarge" (cst c_MOST_PARTS)) (nopS))
 (seqS (asgS (callE (sem_whole_tree) 1 (consA (var 2) (nilA))) (nameG 3))
 (seqS (ifS (tst (bin isNV (var 3) (cst .non))) (raiseS 3 2 0 "InvalidText" (cst (.int 1))) (nopS))
 (retS (mkV tb_mkv_Condition 2 (var 0) (consA (var 3) (nilA))))))))
noncomputable def sem_Condition_read : Fn := runB 4 b_Condition_read
abbrev s_words_of : Stmt := top 21
abbrev N_words_of : List Str := ["tree", "found", "entry"]
noncomputable def b_words_of (self : Fn) : Sf :=
 seqS (asgS (lstE (nilA)) (nameG 1))
 (seqS (forS (walkI (var 0)) (nameG 2) (ifS (tst (isiE (ansB .str []) (var 2))) (exprS (mE isLst appendM (var 1) (consA (var 2) (nilA)))) (exprS (mE isLst extendM (var 1) (consA (callE (self) 1 (consA (var 2) (nilA))) (nilA))))) nopS)
 (retS (var 1)))
noncomputable def sem_words_of : Nat → Fn
  | 0 => fun _ _ => .bad
  | n + 1 => runB 3 (b_words_of (sem_words_of n))
abbrev s_Condition___str__ : Stmt := inCls (top 24) 6
abbrev N_Condition___str__ : List Str := ["self"]
noncomputable def b_Condition___str__ : Sf :=
 retS (mE isStr joinM (cst (.str " ")) (consA (callE (sem_words_of 12) 1 (consA (fldE [0] 6 (var 0)) (nilA))) (nilA)))
noncomputable def sem_Condition___str__ : Fn := runB 1 b_Condition___str__
noncomputable abbrev tb_eq : List (Nat × Fn) := [(0, sem_Condition___eq__)]
noncomputable abbrev tb_str : List (Nat × Fn) := [(0, sem_Condition___str__)]
abbrev s_law : Stmt := top 39
abbrev N_law : List Str := ["script", "bag", "lap", "tree", "text", "words", "at", "word", "texts", "one", "odd", "made"]
noncomputable def b_law : Sf :=
 seqS (asgS (callE (sem__law_bag) 1 (consA (var 0) (nilA))) (nameG 1))
 (seqS (forS (rngI rng1 (consA (cst (.int 4)) (nilA))) (nameG 2) (seqS (asgS (callE (sem__law_wide 12) 3 (consA (var 1) (consA (lstE (consA (cst (.str "a")) (consA (cst (.str "ab")) (consA (cst (.str "voted")) (nilA))))) (consA (bin addV (cst (.int 1)) (callE (sem__law_draw) 2 (consA (var 1) (consA (cst (.int 9)) (nilA))))) (nilA))))) (nameG 3))
 (seqS (asgS (callE (sem__law_said 12) 1 (consA (var 3) (nilA))) (nameG 4))
 (seqS (asgS (mE isStr splitM (var 4) (consA (cst (.str " ")) (nilA))) (nameG 5))
 (seqS (asgS (callE (sem__law_draw) 2 (consA (var 1) (consA (appE lenL (consA (var 5) (nilA))) (nilA)))) (nameG 6))
 (seqS (asgS (callE (sem__law_one) 2 (consA (var 1) (consA (lstE (consA (cst (.str "and")) (consA (cst (.str "all")) (consA (cst (.str "a")) (consA (cst (.str "")) (consA (cst (.str "always")) (consA (cst (.str "A")) (consA (cst (.str "end")) (consA (cst (.str "leader")) (consA (cst (.str "or")) (consA (cst (.str "b1")) (consA (cst (.str "abcdefghi")) (nilA))))))))))))) (nilA)))) (nameG 7))
 (seqS (asgS (lstE (consA (var 4) (consA (mE isStr joinM (cst (.str " ")) (consA (bin addV (bin addV (slE (var 5) (noneO) (someO (var 6))) (lstE (consA (var 7) (nilA)))) (slE (var 5) (someO (var 6)) (noneO))) (nilA))) (consA (mE isStr joinM (cst (.str " ")) (consA (bin addV (slE (var 5) (noneO) (someO (var 6))) (slE (var 5) (someO (bin addV (var 6) (cst (.int 1)))) (noneO))) (nilA))) (consA (mE isStr joinM (cst (.str " ")) (consA (bin addV (bin addV (slE (var 5) (noneO) (someO (var 6))) (lstE (consA (var 7) (nilA)))) (slE (var 5) (someO (bin addV (var 6) (cst (.int 1)))) (noneO))) (nilA))) (consA (bin addV (var 4) (cst (.str " "))) (consA (bin addV (cst (.str " ")) (var 4)) (consA (bin addV (var 4) (callE (sem__law_one) 2 (consA (var 1) (consA (lstE (consA (cst (.str " a")) (consA (cst (.str "\n")) (nilA)))) (nilA))))) (consA (mE isStr joinM (cst (.str " ")) (consA (bin addV (bin mulV (lstE (consA (cst (.str "and")) (consA (cst (.str "always")) (nilA)))) (bin addV (cst (.int 15)) (callE (sem__law_draw) 2 (consA (var 1) (consA (cst (.int 9)) (nilA)))))) (lstE (consA (cst (.str "always")) (nilA)))) (nilA))) (consA (mE isStr joinM (cst (.str " ")) (consA (bin mulV (lstE (consA (cst (.str "and")) (nilA))) (bin addV (cst (.int 31)) (callE (sem__law_draw) 2 (consA (var 1) (consA (cst (.int 14)) (nilA)))))) (nilA))) (consA (cst (.str "")) (nilA)))))))))))) (nameG 8))
 (seqS (forS (walkI (var 8)) (nameG 9) (ifS (notT (tst (callE (sem__law_same 48) 2 (consA (tryE exl 0 (fldE [0] 6 (cmE "Condition" 2 sem_Condition_read (consA (var 9) (nilA))))) (consA (callE (sem__law_due) 1 (consA (var 9) (nilA))) (nilA)))))) (retS (cst (.bl false))) (nopS)) nopS)
 (seqS (asgS (callE (sem__law_one) 2 (consA (var 1) (consA (lstE (consA (cst .non) (consA (cst (.int 7)) (consA (cst (.bl true)) (consA (tupE (consA (cst (.str "always")) (nilA))) (consA (lstE (consA (cst (.str "always")) (nilA))) (consA (cst (.int 0)) (nilA)))))))) (nilA)))) (nameG 10))
 (seqS (ifS (notT (tst (callE (sem__law_same 48) 2 (consA (tryE exl 0 (fldE [0] 6 (cmE "Condition" 2 sem_Condition_read (consA (var 10) (nilA))))) (consA (tupE (consA (cst (.str "InvalidText")) (consA (cst (.int 1)) (nilA)))) (nilA)))))) (retS (cst (.bl false))) (nopS))
 (ifS (tst (bin isNV (callE (sem__law_fault) 1 (consA (var 3) (nilA))) (cst .non))) (seqS (asgS (mkE 0 2 sem_Condition___init__ (consA (var 3) (nilA))) (nameG 11))
 (ifS (orT (notT (tst (callE (sem__law_same 48) 2 (consA (appE (strO tb_str) (consA (var 11) (nilA))) (consA (var 4) (nilA)))))) (tst (bin (eqO tb_eq [0] true) (cmE "Condition" 2 sem_Condition_read (consA (appE (strO tb_str) (consA (var 11) (nilA))) (nilA))) (var 11)))) (retS (cst (.bl false))) (nopS))) (nopS))))))))))) nopS)
 (retS (cst (.bl true))))
noncomputable def sem_law : Fn := runB 12 b_law
section
variable {G : PCfg} {mg : Str → Option Value} {base : Heap} {f : Addr} {fd : FuncData}
theorem sc__law_bag : FnScope N__law_bag ["script"] (defScope s__law_bag) := ⟨rfl, rfl, rfl, by decide +kernel, rfl, by decide +kernel, by decide +kernel⟩
theorem ok__law_bag (F : FunD G.K "_law_bag" "_law_bag" (defArgs s__law_bag) (defBody s__law_bag) (defScope s__law_bag) [] [] f fd) (nb_int : mg "int" = none) (nb_list : mg "list" = none) : FnOk G.P G.w G.K mg base (L2.CX G.P G.w) (0 + 1) f fd ["script"] (spI G 1 sem__law_bag) := by
  refine fn_ok (N := N__law_bag) (ps := ["script"]) (k := 0) rfl F sc__law_bag (fun cdv A outer s H E hr => ?_)
  have tk : Takes (cxOf (L2.CX G.P G.w) G.P G.w G.K mg base N__law_bag "_law_bag" (defScope s__law_bag) f cdv A outer s H E) (fun c d _ H => E c d H) := takes_of rfl rfl rfl rfl
  have hp : PassesOwn (model (cxOf (L2.CX G.P G.w) G.P G.w G.K mg base N__law_bag "_law_bag" (defScope s__law_bag) f cdv A outer s H E).prog (cxOf (L2.CX G.P G.w) G.P G.w G.K mg base N__law_bag "_law_bag" (defScope s__law_bag) f cdv A outer s H E).w) (cxOf (L2.CX G.P G.w) G.P G.w G.K mg base N__law_bag "_law_bag" (defScope s__law_bag) f cdv A outer s H E).A (cxOf (L2.CX G.P G.w) G.P G.w G.K mg base N__law_bag "_law_bag" (defScope s__law_bag) f cdv A outer s H E).env (cxOf (L2.CX G.P G.w) G.P G.w G.K mg base N__law_bag "_law_bag" (defScope s__law_bag) f cdv A outer s H E).xe := passes_of rfl
  exact (d_seq (d_asg d_int (d_nameG (i := 1) sc__law_bag.nd rfl (by first | exact Or.inl rfl | exact Or.inr rfl)))
 (d_seq (d_for hp rfl (d_walk ⟨rfl, rfl, rfl⟩ (d_sl ⟨rfl, rfl, rfl⟩ (v_ 0) d_noneO (d_someO d_int))) (d_nameG (i := 2) sc__law_bag.nd rfl (by first | exact Or.inl rfl | exact Or.inr rfl)) (d_last (d_asg (mod_ (bt_ ⟨rfl, rfl, rfl, rfl, rfl⟩ nb_int call_int1 says_int nx_int PyProof.Rows.boot_int (d_cons (add_ ⟨rfl, rfl, rfl, rfl, rfl⟩ (add_ ⟨rfl, rfl, rfl, rfl, rfl⟩ (mul_ ⟨rfl, rfl, rfl, rfl, rfl⟩ (v_ 1) d_int) (mul_ ⟨rfl, rfl, rfl, rfl, rfl⟩ (mod_ (bt_ ⟨rfl, rfl, rfl, rfl, rfl⟩ nb_int call_int1 says_int nx_int PyProof.Rows.boot_int (d_cons (v_ 2) d_nil)) d_int) d_int)) d_int) d_nil)) d_int) (d_nameG (i := 1) sc__law_bag.nd rfl (by first | exact Or.inl rfl | exact Or.inr rfl)))))
 (d_last (d_ret (d_lst (d_cons (bt_ ⟨rfl, rfl, rfl, rfl, rfl⟩ nb_list call_list_of (says_list ⟨rfl, rfl, rfl⟩) nx_list PyProof.Rows.boot_list (d_cons (d_sl ⟨rfl, rfl, rfl⟩ (v_ 0) d_noneO (d_someO d_int)) d_nil)) (d_cons d_int (d_cons d_int (d_cons (v_ 1) (d_cons d_int d_nil))))))))))

theorem sc__law_draw : FnScope N__law_draw ["bag", "many"] (defScope s__law_draw) := ⟨rfl, rfl, rfl, by decide +kernel, rfl, by decide +kernel, by decide +kernel⟩
theorem ok__law_draw (F : FunD G.K "_law_draw" "_law_draw" (defArgs s__law_draw) (defBody s__law_draw) (defScope s__law_draw) [] [] f fd) (nb_abs : mg "abs" = none) (nb_int : mg "int" = none) (nb_len : mg "len" = none) : FnOk G.P G.w G.K mg base (L2.CX G.P G.w) (0 + 1) f fd ["bag", "many"] (spI G 2 sem__law_draw) := by
  refine fn_ok (N := N__law_draw) (ps := ["bag", "many"]) (k := 0) rfl F sc__law_draw (fun cdv A outer s H E hr => ?_)
  have tk : Takes (cxOf (L2.CX G.P G.w) G.P G.w G.K mg base N__law_draw "_law_draw" (defScope s__law_draw) f cdv A outer s H E) (fun c d _ H => E c d H) := takes_of rfl rfl rfl rfl
  have hp : PassesOwn (model (cxOf (L2.CX G.P G.w) G.P G.w G.K mg base N__law_draw "_law_draw" (defScope s__law_draw) f cdv A outer s H E).prog (cxOf (L2.CX G.P G.w) G.P G.w G.K mg base N__law_draw "_law_draw" (defScope s__law_draw) f cdv A outer s H E).w) (cxOf (L2.CX G.P G.w) G.P G.w G.K mg base N__law_draw "_law_draw" (defScope s__law_draw) f cdv A outer s H E).A (cxOf (L2.CX G.P G.w) G.P G.w G.K mg base N__law_draw "_law_draw" (defScope s__law_draw) f cdv A outer s H E).env (cxOf (L2.CX G.P G.w) G.P G.w G.K mg base N__law_draw "_law_draw" (defScope s__law_draw) f cdv A outer s H E).xe := passes_of rfl
  exact (d_seq (d_set (add_ ⟨rfl, rfl, rfl, rfl, rfl⟩ (d_ix ⟨rfl, rfl, rfl⟩ (v_ 0) d_int) d_int) (v_ 0) d_int)
 (d_seq (d_ifS (d_wt (d_wand (t_eq ⟨rfl, rfl, rfl, rfl, rfl⟩ hr (d_ix ⟨rfl, rfl, rfl⟩ (v_ 0) d_int) d_int) (d_wand1 (t_lt (d_ix ⟨rfl, rfl, rfl⟩ (v_ 0) d_int) (bi_ ⟨rfl, rfl, rfl, rfl, rfl⟩ nb_len call_len (says_len ⟨rfl, rfl, rfl⟩) nx_len PySem.boot_len (d_cons (d_ix ⟨rfl, rfl, rfl⟩ (v_ 0) d_int) d_nil)))))) (d_seq (d_asg (d_ix ⟨rfl, rfl, rfl⟩ (d_ix ⟨rfl, rfl, rfl⟩ (v_ 0) d_int) (d_ix ⟨rfl, rfl, rfl⟩ (v_ 0) d_int)) (d_nameG (i := 3) sc__law_draw.nd rfl (by first | exact Or.inl rfl | exact Or.inr rfl)))
 (d_seq (d_set (add_ ⟨rfl, rfl, rfl, rfl, rfl⟩ (d_ix ⟨rfl, rfl, rfl⟩ (v_ 0) d_int) d_int) (v_ 0) d_int)
 (d_last (d_ifS (t_ge (bi_ ⟨rfl, rfl, rfl, rfl, rfl⟩ nb_abs call_abs says_abs nx_abs PyProof.Rows.boot_abs (d_cons (v_ 3) d_nil)) (pow_ d_int d_int)) (d_last (d_set (bi_ ⟨rfl, rfl, rfl, rfl, rfl⟩ nb_abs call_abs says_abs nx_abs PyProof.Rows.boot_abs (d_cons (v_ 3) d_nil)) (v_ 0) d_int)) (d_last (d_set (mod_ (bt_ ⟨rfl, rfl, rfl, rfl, rfl⟩ nb_int call_int1 says_int nx_int PyProof.Rows.boot_int (d_cons (add_ ⟨rfl, rfl, rfl, rfl, rfl⟩ (add_ ⟨rfl, rfl, rfl, rfl, rfl⟩ (mul_ ⟨rfl, rfl, rfl, rfl, rfl⟩ (d_ix ⟨rfl, rfl, rfl⟩ (v_ 0) d_int) d_int) (mul_ ⟨rfl, rfl, rfl, rfl, rfl⟩ (mod_ (bt_ ⟨rfl, rfl, rfl, rfl, rfl⟩ nb_int call_int1 says_int nx_int PyProof.Rows.boot_int (d_cons (v_ 3) d_nil)) d_int) d_int)) d_int) d_nil)) d_int) (v_ 0) d_int)))))) d_end)
 (d_seq (d_ifS (t_gt (d_ix ⟨rfl, rfl, rfl⟩ (v_ 0) d_int) d_int) (d_seq (d_asg (mod_ (bt_ ⟨rfl, rfl, rfl, rfl, rfl⟩ nb_int call_int1 says_int nx_int PyProof.Rows.boot_int (d_cons (d_ix ⟨rfl, rfl, rfl⟩ (v_ 0) d_int) d_nil)) (v_ 1)) (d_nameG (i := 4) sc__law_draw.nd rfl (by first | exact Or.inl rfl | exact Or.inr rfl)))
 (d_seq (d_set (div_ (d_ix ⟨rfl, rfl, rfl⟩ (v_ 0) d_int) (v_ 1)) (v_ 0) d_int)
 (d_last (d_ret (v_ 4))))) d_end)
 (d_seq (d_asg (mod_ (bt_ ⟨rfl, rfl, rfl, rfl, rfl⟩ nb_int call_int1 says_int nx_int PyProof.Rows.boot_int (d_cons (add_ ⟨rfl, rfl, rfl, rfl, rfl⟩ (mul_ ⟨rfl, rfl, rfl, rfl, rfl⟩ (d_ix ⟨rfl, rfl, rfl⟩ (v_ 0) d_int) (d_ix ⟨rfl, rfl, rfl⟩ (v_ 0) d_int)) (mul_ ⟨rfl, rfl, rfl, rfl, rfl⟩ (d_ix ⟨rfl, rfl, rfl⟩ (v_ 0) d_int) d_int)) d_nil)) d_int) (d_nameG (i := 2) sc__law_draw.nd rfl (by first | exact Or.inl rfl | exact Or.inr rfl)))
 (d_seq (d_set (mod_ (bt_ ⟨rfl, rfl, rfl, rfl, rfl⟩ nb_int call_int1 says_int nx_int PyProof.Rows.boot_int (d_cons (add_ ⟨rfl, rfl, rfl, rfl, rfl⟩ (add_ ⟨rfl, rfl, rfl, rfl, rfl⟩ (mul_ ⟨rfl, rfl, rfl, rfl, rfl⟩ (v_ 2) d_int) (mul_ ⟨rfl, rfl, rfl, rfl, rfl⟩ (d_ix ⟨rfl, rfl, rfl⟩ (v_ 0) d_int) d_int)) d_int) d_nil)) d_int) (v_ 0) d_int)
 (d_last (d_ret (mod_ (bt_ ⟨rfl, rfl, rfl, rfl, rfl⟩ nb_int call_int1 says_int nx_int PyProof.Rows.boot_int (d_cons (div_ (d_ix ⟨rfl, rfl, rfl⟩ (v_ 0) d_int) d_int) d_nil)) (v_ 1)))))))))

theorem sc__law_one : FnScope N__law_one ["bag", "things"] (defScope s__law_one) := ⟨rfl, rfl, rfl, by decide +kernel, rfl, by decide +kernel, by decide +kernel⟩
theorem ok__law_one (F : FunD G.K "_law_one" "_law_one" (defArgs s__law_one) (defBody s__law_one) (defScope s__law_one) [] [] f fd) (h__law_draw : Has G mg base "_law_draw" 2 1 (sem__law_draw)) (nb_len : mg "len" = none) : FnOk G.P G.w G.K mg base (L2.CX G.P G.w) (1 + 1) f fd ["bag", "things"] (spI G 2 sem__law_one) := by
  refine fn_ok (N := N__law_one) (ps := ["bag", "things"]) (k := 1) rfl F sc__law_one (fun cdv A outer s H E hr => ?_)
  have tk : Takes (cxOf (L2.CX G.P G.w) G.P G.w G.K mg base N__law_one "_law_one" (defScope s__law_one) f cdv A outer s H E) (fun c d _ H => E c d H) := takes_of rfl rfl rfl rfl
  have hp : PassesOwn (model (cxOf (L2.CX G.P G.w) G.P G.w G.K mg base N__law_one "_law_one" (defScope s__law_one) f cdv A outer s H E).prog (cxOf (L2.CX G.P G.w) G.P G.w G.K mg base N__law_one "_law_one" (defScope s__law_one) f cdv A outer s H E).w) (cxOf (L2.CX G.P G.w) G.P G.w G.K mg base N__law_one "_law_one" (defScope s__law_one) f cdv A outer s H E).A (cxOf (L2.CX G.P G.w) G.P G.w G.K mg base N__law_one "_law_one" (defScope s__law_one) f cdv A outer s H E).env (cxOf (L2.CX G.P G.w) G.P G.w G.K mg base N__law_one "_law_one" (defScope s__law_one) f cdv A outer s H E).xe := passes_of rfl
  exact (d_last (d_ret (d_ix ⟨rfl, rfl, rfl⟩ (v_ 1) (call_ h__law_draw ⟨rfl, rfl, rfl, rfl, rfl⟩ tk hr (by decide) (d_cons (v_ 0) (d_cons (bi_ ⟨rfl, rfl, rfl, rfl, rfl⟩ nb_len call_len (says_len ⟨rfl, rfl, rfl⟩) nx_len PySem.boot_len (d_cons (v_ 1) d_nil)) d_nil))))))

theorem sc__law_tree : FnScope N__law_tree ["bag", "marks", "deep"] (defScope s__law_tree) := ⟨rfl, rfl, rfl, by decide +kernel, rfl, by decide +kernel, by decide +kernel⟩
theorem ok__law_tree (F : FunD G.K "_law_tree" "_law_tree" (defArgs s__law_tree) (defBody s__law_tree) (defScope s__law_tree) [] [] f fd) (hat : mg "_law_tree" = some (.ref f)) (hb : Binds G.K fd ["bag", "marks", "deep"] []) (h__law_draw : Has G mg base "_law_draw" 2 1 (sem__law_draw)) (h__law_one : Has G mg base "_law_one" 2 2 (sem__law_one)) : ∀ n : Nat, FnOk G.P G.w G.K mg base (L2.CX G.P G.w) (2 + n + 1) f fd ["bag", "marks", "deep"] (spI G 3 (sem__law_tree n))
  | 0 => bad_ok F sc__law_tree
  | n + 1 => by
    have h__law_tree : Has G mg base "_law_tree" 3 (2 + n + 1) (sem__law_tree n) := ⟨f, fd, ["bag", "marks", "deep"], ok__law_tree F hat hb h__law_draw h__law_one n, hat, F.kp, hb⟩
    refine fn_ok (N := N__law_tree) (ps := ["bag", "marks", "deep"]) (k := 2 + n + 1) rfl F sc__law_tree (fun cdv A outer s H E hr => ?_)
    have tk : Takes (cxOf (L2.CX G.P G.w) G.P G.w G.K mg base N__law_tree "_law_tree" (defScope s__law_tree) f cdv A outer s H E) (fun c d _ H => E c d H) := takes_of rfl rfl rfl rfl
    have hp : PassesOwn (model (cxOf (L2.CX G.P G.w) G.P G.w G.K mg base N__law_tree "_law_tree" (defScope s__law_tree) f cdv A outer s H E).prog (cxOf (L2.CX G.P G.w) G.P G.w G.K mg base N__law_tree "_law_tree" (defScope s__law_tree) f cdv A outer s H E).w) (cxOf (L2.CX G.P G.w) G.P G.w G.K mg base N__law_tree "_law_tree" (defScope s__law_tree) f cdv A outer s H E).A (cxOf (L2.CX G.P G.w) G.P G.w G.K mg base N__law_tree "_law_tree" (defScope s__law_tree) f cdv A outer s H E).env (cxOf (L2.CX G.P G.w) G.P G.w G.K mg base N__law_tree "_law_tree" (defScope s__law_tree) f cdv A outer s H E).xe := passes_of rfl
    exact (d_seq (d_asg (d_if (t_gt (v_ 2) d_int) (call_ h__law_draw ⟨rfl, rfl, rfl, rfl, rfl⟩ tk hr (by omega) (d_cons (v_ 0) (d_cons d_int d_nil))) (call_ h__law_draw ⟨rfl, rfl, rfl, rfl, rfl⟩ tk hr (by omega) (d_cons (v_ 0) (d_cons d_int d_nil)))) (d_nameG (i := 3) sc__law_tree.nd rfl (by first | exact Or.inl rfl | exact Or.inr rfl)))
 (d_seq (d_ifS (t_eq ⟨rfl, rfl, rfl, rfl, rfl⟩ hr (v_ 3) d_int) (d_last (d_ret (d_tup (d_cons d_str d_nil)))) d_end)
 (d_seq (d_ifS (t_lt (v_ 3) d_int) (d_last (d_ret (d_tup (d_cons (d_ix ⟨rfl, rfl, rfl⟩ (d_lst (d_cons d_str (d_cons d_str (d_cons d_str d_nil)))) (sub_ (v_ 3) d_int)) (d_cons (call_ h__law_one ⟨rfl, rfl, rfl, rfl, rfl⟩ tk hr (by omega) (d_cons (v_ 0) (d_cons (v_ 1) d_nil))) d_nil))))) d_end)
 (d_seq (d_asg (call_ h__law_tree ⟨rfl, rfl, rfl, rfl, rfl⟩ tk hr (by omega) (d_cons (v_ 0) (d_cons (v_ 1) (d_cons (sub_ (v_ 2) d_int) d_nil)))) (d_nameG (i := 4) sc__law_tree.nd rfl (by first | exact Or.inl rfl | exact Or.inr rfl)))
 (d_last (d_ret (d_tup (d_cons (d_ix ⟨rfl, rfl, rfl⟩ (d_lst (d_cons d_str (d_cons d_str d_nil))) (sub_ (v_ 3) d_int)) (d_cons (v_ 4) (d_cons (call_ h__law_tree ⟨rfl, rfl, rfl, rfl, rfl⟩ tk hr (by omega) (d_cons (v_ 0) (d_cons (v_ 1) (d_cons (sub_ (v_ 2) d_int) d_nil)))) d_nil))))))))))

theorem sc__law_wide : FnScope N__law_wide ["bag", "marks", "many"] (defScope s__law_wide) := ⟨rfl, rfl, rfl, by decide +kernel, rfl, by decide +kernel, by decide +kernel⟩
theorem ok__law_wide (F : FunD G.K "_law_wide" "_law_wide" (defArgs s__law_wide) (defBody s__law_wide) (defScope s__law_wide) [] [] f fd) (hat : mg "_law_wide" = some (.ref f)) (hb : Binds G.K fd ["bag", "marks", "many"] []) (h__law_draw : Has G mg base "_law_draw" 2 1 (sem__law_draw)) (h__law_one : Has G mg base "_law_one" 2 2 (sem__law_one)) (h__law_tree : Has G mg base "_law_tree" 3 15 (sem__law_tree 12)) : ∀ n : Nat, FnOk G.P G.w G.K mg base (L2.CX G.P G.w) (15 + n + 1) f fd ["bag", "marks", "many"] (spI G 3 (sem__law_wide n))
  | 0 => bad_ok F sc__law_wide
  | n + 1 => by
    have h__law_wide : Has G mg base "_law_wide" 3 (15 + n + 1) (sem__law_wide n) := ⟨f, fd, ["bag", "marks", "many"], ok__law_wide F hat hb h__law_draw h__law_one h__law_tree n, hat, F.kp, hb⟩
    refine fn_ok (N := N__law_wide) (ps := ["bag", "marks", "many"]) (k := 15 + n + 1) rfl F sc__law_wide (fun cdv A outer s H E hr => ?_)
    have tk : Takes (cxOf (L2.CX G.P G.w) G.P G.w G.K mg base N__law_wide "_law_wide" (defScope s__law_wide) f cdv A outer s H E) (fun c d _ H => E c d H) := takes_of rfl rfl rfl rfl
    have hp : PassesOwn (model (cxOf (L2.CX G.P G.w) G.P G.w G.K mg base N__law_wide "_law_wide" (defScope s__law_wide) f cdv A outer s H E).prog (cxOf (L2.CX G.P G.w) G.P G.w G.K mg base N__law_wide "_law_wide" (defScope s__law_wide) f cdv A outer s H E).w) (cxOf (L2.CX G.P G.w) G.P G.w G.K mg base N__law_wide "_law_wide" (defScope s__law_wide) f cdv A outer s H E).A (cxOf (L2.CX G.P G.w) G.P G.w G.K mg base N__law_wide "_law_wide" (defScope s__law_wide) f cdv A outer s H E).env (cxOf (L2.CX G.P G.w) G.P G.w G.K mg base N__law_wide "_law_wide" (defScope s__law_wide) f cdv A outer s H E).xe := passes_of rfl
    exact (d_seq (d_ifS (t_eq ⟨rfl, rfl, rfl, rfl, rfl⟩ hr (v_ 2) d_int) (d_last (d_ret (call_ h__law_tree ⟨rfl, rfl, rfl, rfl, rfl⟩ tk hr (by omega) (d_cons (v_ 0) (d_cons (v_ 1) (d_cons d_int d_nil)))))) d_end)
 (d_seq (d_asg (add_ ⟨rfl, rfl, rfl, rfl, rfl⟩ d_int (call_ h__law_draw ⟨rfl, rfl, rfl, rfl, rfl⟩ tk hr (by omega) (d_cons (v_ 0) (d_cons (sub_ (v_ 2) d_int) d_nil)))) (d_nameG (i := 3) sc__law_wide.nd rfl (by first | exact Or.inl rfl | exact Or.inr rfl)))
 (d_seq (d_asg (call_ h__law_wide ⟨rfl, rfl, rfl, rfl, rfl⟩ tk hr (by omega) (d_cons (v_ 0) (d_cons (v_ 1) (d_cons (v_ 3) d_nil)))) (d_nameG (i := 4) sc__law_wide.nd rfl (by first | exact Or.inl rfl | exact Or.inr rfl)))
 (d_last (d_ret (d_tup (d_cons (call_ h__law_one ⟨rfl, rfl, rfl, rfl, rfl⟩ tk hr (by omega) (d_cons (v_ 0) (d_cons (d_lst (d_cons d_str (d_cons d_str d_nil))) d_nil))) (d_cons (v_ 4) (d_cons (call_ h__law_wide ⟨rfl, rfl, rfl, rfl, rfl⟩ tk hr (by omega) (d_cons (v_ 0) (d_cons (v_ 1) (d_cons (sub_ (v_ 2) (v_ 3)) d_nil)))) d_nil)))))))))

theorem sc__law_said : FnScope N__law_said ["tree"] (defScope s__law_said) := ⟨rfl, rfl, rfl, by decide +kernel, rfl, by decide +kernel, by decide +kernel⟩
theorem ok__law_said (F : FunD G.K "_law_said" "_law_said" (defArgs s__law_said) (defBody s__law_said) (defScope s__law_said) [] [] f fd) (hat : mg "_law_said" = some (.ref f)) (hb : Binds G.K fd ["tree"] []) : ∀ n : Nat, FnOk G.P G.w G.K mg base (L2.CX G.P G.w) (0 + n + 1) f fd ["tree"] (spI G 1 (sem__law_said n))
  | 0 => bad_ok F sc__law_said
  | n + 1 => by
    have h__law_said : Has G mg base "_law_said" 1 (0 + n + 1) (sem__law_said n) := ⟨f, fd, ["tree"], ok__law_said F hat hb  n, hat, F.kp, hb⟩
    refine fn_ok (N := N__law_said) (ps := ["tree"]) (k := 0 + n + 1) rfl F sc__law_said (fun cdv A outer s H E hr => ?_)
    have tk : Takes (cxOf (L2.CX G.P G.w) G.P G.w G.K mg base N__law_said "_law_said" (defScope s__law_said) f cdv A outer s H E) (fun c d _ H => E c d H) := takes_of rfl rfl rfl rfl
    have hp : PassesOwn (model (cxOf (L2.CX G.P G.w) G.P G.w G.K mg base N__law_said "_law_said" (defScope s__law_said) f cdv A outer s H E).prog (cxOf (L2.CX G.P G.w) G.P G.w G.K mg base N__law_said "_law_said" (defScope s__law_said) f cdv A outer s H E).w) (cxOf (L2.CX G.P G.w) G.P G.w G.K mg base N__law_said "_law_said" (defScope s__law_said) f cdv A outer s H E).A (cxOf (L2.CX G.P G.w) G.P G.w G.K mg base N__law_said "_law_said" (defScope s__law_said) f cdv A outer s H E).env (cxOf (L2.CX G.P G.w) G.P G.w G.K mg base N__law_said "_law_said" (defScope s__law_said) f cdv A outer s H E).xe := passes_of rfl
    exact (d_seq (d_ifS (t_in ⟨rfl, rfl, rfl, rfl, rfl⟩ hr (d_ix ⟨rfl, rfl, rfl⟩ (v_ 0) d_int) (d_tup (d_cons d_str (d_cons d_str d_nil)))) (d_last (d_ret (add_ ⟨rfl, rfl, rfl, rfl, rfl⟩ (add_ ⟨rfl, rfl, rfl, rfl, rfl⟩ (add_ ⟨rfl, rfl, rfl, rfl, rfl⟩ (add_ ⟨rfl, rfl, rfl, rfl, rfl⟩ (d_ix ⟨rfl, rfl, rfl⟩ (v_ 0) d_int) d_str) (call_ h__law_said ⟨rfl, rfl, rfl, rfl, rfl⟩ tk hr (by omega) (d_cons (d_ix ⟨rfl, rfl, rfl⟩ (v_ 0) d_int) d_nil))) d_str) (call_ h__law_said ⟨rfl, rfl, rfl, rfl, rfl⟩ tk hr (by omega) (d_cons (d_ix ⟨rfl, rfl, rfl⟩ (v_ 0) d_int) d_nil))))) d_end)
 (d_last (d_ret (join_ ⟨rfl, rfl, rfl, rfl, rfl⟩ d_str (d_cons (v_ 0) d_nil)))))

theorem sc__law_same : FnScope N__law_same ["found", "due"] (defScope s__law_same) := ⟨rfl, rfl, rfl, by decide +kernel, rfl, by decide +kernel, by decide +kernel⟩
theorem ok__law_same (F : FunD G.K "_law_same" "_law_same" (defArgs s__law_same) (defBody s__law_same) (defScope s__law_same) [] [] f fd) (hat : mg "_law_same" = some (.ref f)) (hb : Binds G.K fd ["found", "due"] []) (nb_all : mg "all" = none) (nb_bool : mg "bool" = none) (nb_int : mg "int" = none) (nb_isinstance : mg "isinstance" = none) (nb_len : mg "len" = none) (nb_list : mg "list" = none) (nb_str : mg "str" = none) (nb_tuple : mg "tuple" = none) (nb_zip : mg "zip" = none) : ∀ n : Nat, FnOk G.P G.w G.K mg base (L2.CX G.P G.w) (0 + n + 1) f fd ["found", "due"] (spI G 2 (sem__law_same n))
  | 0 => bad_ok F sc__law_same
  | n + 1 => by
    have h__law_same : Has G mg base "_law_same" 2 (0 + n + 1) (sem__law_same n) := ⟨f, fd, ["found", "due"], ok__law_same F hat hb nb_all nb_bool nb_int nb_isinstance nb_len nb_list nb_str nb_tuple nb_zip n, hat, F.kp, hb⟩
    refine fn_ok (N := N__law_same) (ps := ["found", "due"]) (k := 0 + n + 1) rfl F sc__law_same (fun cdv A outer s H E hr => ?_)
    have tk : Takes (cxOf (L2.CX G.P G.w) G.P G.w G.K mg base N__law_same "_law_same" (defScope s__law_same) f cdv A outer s H E) (fun c d _ H => E c d H) := takes_of rfl rfl rfl rfl
    have hp : PassesOwn (model (cxOf (L2.CX G.P G.w) G.P G.w G.K mg base N__law_same "_law_same" (defScope s__law_same) f cdv A outer s H E).prog (cxOf (L2.CX G.P G.w) G.P G.w G.K mg base N__law_same "_law_same" (defScope s__law_same) f cdv A outer s H E).w) (cxOf (L2.CX G.P G.w) G.P G.w G.K mg base N__law_same "_law_same" (defScope s__law_same) f cdv A outer s H E).A (cxOf (L2.CX G.P G.w) G.P G.w G.K mg base N__law_same "_law_same" (defScope s__law_same) f cdv A outer s H E).env (cxOf (L2.CX G.P G.w) G.P G.w G.K mg base N__law_same "_law_same" (defScope s__law_same) f cdv A outer s H E).xe := passes_of rfl
    exact (d_seq (d_ifS (d_wt (d_wor (t_is (v_ 1) d_non) (d_wor1 (t_is (v_ 0) d_non)))) (d_last (d_ret (d_and (is_ (v_ 1) d_non) (d_one (is_ (v_ 0) d_non))))) d_end)
 (d_seq (d_ifS (d_tval (isi_ .list [] ⟨rfl, rfl, rfl, rfl, rfl⟩ nb_isinstance nb_list (by decide +kernel) (v_ 1) (fun n h => nomatch h) (fun n h => nomatch h))) (d_seq (d_ifS (d_wt (d_wor (d_not (d_tval (isi_ .list [] ⟨rfl, rfl, rfl, rfl, rfl⟩ nb_isinstance nb_list (by decide +kernel) (v_ 0) (fun n h => nomatch h) (fun n h => nomatch h)))) (d_wor1 (t_ne ⟨rfl, rfl, rfl, rfl, rfl⟩ hr (bi_ ⟨rfl, rfl, rfl, rfl, rfl⟩ nb_len call_len (says_len ⟨rfl, rfl, rfl⟩) nx_len PySem.boot_len (d_cons (v_ 0) d_nil)) (bi_ ⟨rfl, rfl, rfl, rfl, rfl⟩ nb_len call_len (says_len ⟨rfl, rfl, rfl⟩) nx_len PySem.boot_len (d_cons (v_ 1) d_nil)))))) (d_last (d_ret d_bl)) d_end)
 (d_last (d_ret (bi_ ⟨rfl, rfl, rfl, rfl, rfl⟩ nb_all (cr_all rfl) (says_all ⟨rfl, rfl, rfl⟩) nx_all PyProof.Rows.boot_all (d_cons (d_lc (own := [("a", 2), ("b", 3)]) rfl sc__law_same.nd (d_zip ⟨rfl, rfl, rfl⟩ rfl (nb ⟨rfl, rfl, rfl, rfl, rfl⟩ nb_zip) (d_cons (v_ 0) (d_cons (v_ 1) d_nil))) (blkOk_by (N := N__law_same) (sc := defScope s__law_same) (by decide +kernel)) (fun _ _ _ _ _ => (d_tupC (n := 2) ⟨rfl, rfl, rfl⟩ rfl (d_consC (d_nameC (i := 2) sc__law_same.nd rfl (by first | exact Or.inl rfl | exact Or.inr rfl)) (d_consC (d_nameC (i := 3) sc__law_same.nd rfl (by first | exact Or.inl rfl | exact Or.inr rfl)) d_nilC)))) (fun _ _ _ _ _ => d_yes) (fun _ _ _ _ _ => (call_ h__law_same ⟨rfl, rfl, rfl, rfl, rfl⟩ takesW0 hr (by omega) (d_cons (v_ 2) (d_cons (v_ 3) d_nil))))) d_nil))))) d_end)
 (d_seq (d_ifS (d_tval (isi_ .tuple [] ⟨rfl, rfl, rfl, rfl, rfl⟩ nb_isinstance nb_tuple (by decide +kernel) (v_ 1) (fun n h => nomatch h) (fun n h => nomatch h))) (d_seq (d_ifS (d_wt (d_wor (d_not (d_tval (isi_ .tuple [] ⟨rfl, rfl, rfl, rfl, rfl⟩ nb_isinstance nb_tuple (by decide +kernel) (v_ 0) (fun n h => nomatch h) (fun n h => nomatch h)))) (d_wor1 (t_ne ⟨rfl, rfl, rfl, rfl, rfl⟩ hr (bi_ ⟨rfl, rfl, rfl, rfl, rfl⟩ nb_len call_len (says_len ⟨rfl, rfl, rfl⟩) nx_len PySem.boot_len (d_cons (v_ 0) d_nil)) (bi_ ⟨rfl, rfl, rfl, rfl, rfl⟩ nb_len call_len (says_len ⟨rfl, rfl, rfl⟩) nx_len PySem.boot_len (d_cons (v_ 1) d_nil)))))) (d_last (d_ret d_bl)) d_end)
 (d_last (d_ret (bi_ ⟨rfl, rfl, rfl, rfl, rfl⟩ nb_all (cr_all rfl) (says_all ⟨rfl, rfl, rfl⟩) nx_all PyProof.Rows.boot_all (d_cons (d_lc (own := [("a", 2), ("b", 3)]) rfl sc__law_same.nd (d_zip ⟨rfl, rfl, rfl⟩ rfl (nb ⟨rfl, rfl, rfl, rfl, rfl⟩ nb_zip) (d_cons (v_ 0) (d_cons (v_ 1) d_nil))) (blkOk_by (N := N__law_same) (sc := defScope s__law_same) (by decide +kernel)) (fun _ _ _ _ _ => (d_tupC (n := 2) ⟨rfl, rfl, rfl⟩ rfl (d_consC (d_nameC (i := 2) sc__law_same.nd rfl (by first | exact Or.inl rfl | exact Or.inr rfl)) (d_consC (d_nameC (i := 3) sc__law_same.nd rfl (by first | exact Or.inl rfl | exact Or.inr rfl)) d_nilC)))) (fun _ _ _ _ _ => d_yes) (fun _ _ _ _ _ => (call_ h__law_same ⟨rfl, rfl, rfl, rfl, rfl⟩ takesW0 hr (by omega) (d_cons (v_ 2) (d_cons (v_ 3) d_nil))))) d_nil))))) d_end)
 (d_seq (d_ifS (d_tval (isi_ .bool [] ⟨rfl, rfl, rfl, rfl, rfl⟩ nb_isinstance nb_bool (by decide +kernel) (v_ 1) (fun n h => nomatch h) (fun n h => nomatch h))) (d_last (d_ret (d_and (isi_ .bool [] ⟨rfl, rfl, rfl, rfl, rfl⟩ nb_isinstance nb_bool (by decide +kernel) (v_ 0) (fun n h => nomatch h) (fun n h => nomatch h)) (d_one (eq_ ⟨rfl, rfl, rfl, rfl, rfl⟩ hr (v_ 0) (v_ 1)))))) d_end)
 (d_seq (d_ifS (d_tval (isi_ .int [] ⟨rfl, rfl, rfl, rfl, rfl⟩ nb_isinstance nb_int (by decide +kernel) (v_ 1) (fun n h => nomatch h) (fun n h => nomatch h))) (d_seq (d_ifS (d_not (d_tval (isi_ .int [] ⟨rfl, rfl, rfl, rfl, rfl⟩ nb_isinstance nb_int (by decide +kernel) (v_ 0) (fun n h => nomatch h) (fun n h => nomatch h)))) (d_last (d_ret d_bl)) d_end)
 (d_last (d_ret (d_and (d_notV (isi_ .bool [] ⟨rfl, rfl, rfl, rfl, rfl⟩ nb_isinstance nb_bool (by decide +kernel) (v_ 0) (fun n h => nomatch h) (fun n h => nomatch h))) (d_one (eq_ ⟨rfl, rfl, rfl, rfl, rfl⟩ hr (v_ 0) (v_ 1))))))) d_end)
 (d_last (d_ret (d_and (isi_ .str [] ⟨rfl, rfl, rfl, rfl, rfl⟩ nb_isinstance nb_str (by decide +kernel) (v_ 0) (fun n h => nomatch h) (fun n h => nomatch h)) (d_one (eq_ ⟨rfl, rfl, rfl, rfl, rfl⟩ hr (v_ 0) (v_ 1)))))))))))

theorem sc_is_name : FnScope N_is_name ["value"] (defScope s_is_name) := ⟨rfl, rfl, rfl, by decide +kernel, rfl, by decide +kernel, by decide +kernel⟩
theorem ok_is_name (F : FunD G.K "is_name" "is_name" (defArgs s_is_name) (defBody s_is_name) (defScope s_is_name) [] [] f fd) (gl_LETTERS : GloC G mg "LETTERS" c_LETTERS) (gl_WORDS : GloC G mg "WORDS" c_WORDS) (nb_isinstance : mg "isinstance" = none) (nb_len : mg "len" = none) (nb_str : mg "str" = none) : FnOk G.P G.w G.K mg base (L2.CX G.P G.w) (0 + 1) f fd ["value"] (spI G 1 sem_is_name) := by
  refine fn_ok (N := N_is_name) (ps := ["value"]) (k := 0) rfl F sc_is_name (fun cdv A outer s H E hr => ?_)
  have tk : Takes (cxOf (L2.CX G.P G.w) G.P G.w G.K mg base N_is_name "is_name" (defScope s_is_name) f cdv A outer s H E) (fun c d _ H => E c d H) := takes_of rfl rfl rfl rfl
  have hp : PassesOwn (model (cxOf (L2.CX G.P G.w) G.P G.w G.K mg base N_is_name "is_name" (defScope s_is_name) f cdv A outer s H E).prog (cxOf (L2.CX G.P G.w) G.P G.w G.K mg base N_is_name "is_name" (defScope s_is_name) f cdv A outer s H E).w) (cxOf (L2.CX G.P G.w) G.P G.w G.K mg base N_is_name "is_name" (defScope s_is_name) f cdv A outer s H E).A (cxOf (L2.CX G.P G.w) G.P G.w G.K mg base N_is_name "is_name" (defScope s_is_name) f cdv A outer s H E).env (cxOf (L2.CX G.P G.w) G.P G.w G.K mg base N_is_name "is_name" (defScope s_is_name) f cdv A outer s H E).xe := passes_of rfl
  exact (d_seq (d_ifS (d_wt (d_wor (d_not (d_tval (isi_ .str [] ⟨rfl, rfl, rfl, rfl, rfl⟩ nb_isinstance nb_str (by decide +kernel) (v_ 0) (fun n h => nomatch h) (fun n h => nomatch h)))) (d_wor1 (d_not (t_le2 d_int (bi_ ⟨rfl, rfl, rfl, rfl, rfl⟩ nb_len call_len (says_len ⟨rfl, rfl, rfl⟩) nx_len PySem.boot_len (d_cons (v_ 0) d_nil)) d_int))))) (d_last (d_ret d_bl)) d_end)
 (d_seq (d_ifS (t_in ⟨rfl, rfl, rfl, rfl, rfl⟩ hr (v_ 0) (glo_ gl_WORDS ⟨rfl, rfl, rfl, rfl, rfl⟩)) (d_last (d_ret d_bl)) d_end)
 (d_seq (d_for hp rfl (d_walk ⟨rfl, rfl, rfl⟩ (v_ 0)) (d_nameG (i := 1) sc_is_name.nd rfl (by first | exact Or.inl rfl | exact Or.inr rfl)) (d_last (d_ifS (t_nin ⟨rfl, rfl, rfl, rfl, rfl⟩ hr (v_ 1) (glo_ gl_LETTERS ⟨rfl, rfl, rfl, rfl, rfl⟩)) (d_last (d_ret d_bl)) d_end)))
 (d_last (d_ret d_bl)))))

theorem sc__law_walk : FnScope N__law_walk ["part", "deep", "count"] (defScope s__law_walk) := ⟨rfl, rfl, rfl, by decide +kernel, rfl, by decide +kernel, by decide +kernel⟩
theorem ok__law_walk (F : FunD G.K "_law_walk" "_law_walk" (defArgs s__law_walk) (defBody s__law_walk) (defScope s__law_walk) [] [] f fd) (hat : mg "_law_walk" = some (.ref f)) (hb : Binds G.K fd ["part", "deep", "count"] []) (h_is_name : Has G mg base "is_name" 1 1 (sem_is_name)) (nb_int : mg "int" = none) (nb_isinstance : mg "isinstance" = none) (nb_len : mg "len" = none) (nb_str : mg "str" = none) (nb_tuple : mg "tuple" = none) : ∀ n : Nat, FnOk G.P G.w G.K mg base (L2.CX G.P G.w) (1 + n + 1) f fd ["part", "deep", "count"] (spI G 3 (sem__law_walk n))
  | 0 => bad_ok F sc__law_walk
  | n + 1 => by
    have h__law_walk : Has G mg base "_law_walk" 3 (1 + n + 1) (sem__law_walk n) := ⟨f, fd, ["part", "deep", "count"], ok__law_walk F hat hb h_is_name nb_int nb_isinstance nb_len nb_str nb_tuple n, hat, F.kp, hb⟩
    refine fn_ok (N := N__law_walk) (ps := ["part", "deep", "count"]) (k := 1 + n + 1) rfl F sc__law_walk (fun cdv A outer s H E hr => ?_)
    have tk : Takes (cxOf (L2.CX G.P G.w) G.P G.w G.K mg base N__law_walk "_law_walk" (defScope s__law_walk) f cdv A outer s H E) (fun c d _ H => E c d H) := takes_of rfl rfl rfl rfl
    have hp : PassesOwn (model (cxOf (L2.CX G.P G.w) G.P G.w G.K mg base N__law_walk "_law_walk" (defScope s__law_walk) f cdv A outer s H E).prog (cxOf (L2.CX G.P G.w) G.P G.w G.K mg base N__law_walk "_law_walk" (defScope s__law_walk) f cdv A outer s H E).w) (cxOf (L2.CX G.P G.w) G.P G.w G.K mg base N__law_walk "_law_walk" (defScope s__law_walk) f cdv A outer s H E).A (cxOf (L2.CX G.P G.w) G.P G.w G.K mg base N__law_walk "_law_walk" (defScope s__law_walk) f cdv A outer s H E).env (cxOf (L2.CX G.P G.w) G.P G.w G.K mg base N__law_walk "_law_walk" (defScope s__law_walk) f cdv A outer s H E).xe := passes_of rfl
    exact (d_seq (d_ifS (d_wt (d_wor (t_ge (v_ 2) d_int) (d_wor1 (t_gt (v_ 1) d_int)))) (d_last (d_ret (d_tup (d_cons d_str (d_cons d_int d_nil))))) d_end)
 (d_seq (d_ifS (d_wt (d_wor (d_not (d_tval (isi_ .tuple [] ⟨rfl, rfl, rfl, rfl, rfl⟩ nb_isinstance nb_tuple (by decide +kernel) (v_ 0) (fun n h => nomatch h) (fun n h => nomatch h)))) (d_wor (t_eq ⟨rfl, rfl, rfl, rfl, rfl⟩ hr (v_ 0) (d_tup d_nil)) (d_wor1 (d_not (d_tval (isi_ .str [] ⟨rfl, rfl, rfl, rfl, rfl⟩ nb_isinstance nb_str (by decide +kernel) (d_ix ⟨rfl, rfl, rfl⟩ (v_ 0) d_int) (fun n h => nomatch h) (fun n h => nomatch h)))))))) (d_last (d_ret (d_tup (d_cons d_str (d_cons (v_ 0) d_nil))))) d_end)
 (d_seq (d_ifS (d_wt (d_wand (t_in ⟨rfl, rfl, rfl, rfl, rfl⟩ hr (d_ix ⟨rfl, rfl, rfl⟩ (v_ 0) d_int) (d_tup (d_cons d_str (d_cons d_str d_nil)))) (d_wand1 (t_eq ⟨rfl, rfl, rfl, rfl, rfl⟩ hr (bi_ ⟨rfl, rfl, rfl, rfl, rfl⟩ nb_len call_len (says_len ⟨rfl, rfl, rfl⟩) nx_len PySem.boot_len (d_cons (v_ 0) d_nil)) d_int)))) (d_seq (d_asg (call_ h__law_walk ⟨rfl, rfl, rfl, rfl, rfl⟩ tk hr (by omega) (d_cons (d_ix ⟨rfl, rfl, rfl⟩ (v_ 0) d_int) (d_cons (add_ ⟨rfl, rfl, rfl, rfl, rfl⟩ (v_ 1) d_int) (d_cons (add_ ⟨rfl, rfl, rfl, rfl, rfl⟩ (v_ 2) d_int) d_nil)))) (d_nameG (i := 2) sc__law_walk.nd rfl (by first | exact Or.inl rfl | exact Or.inr rfl)))
 (d_last (d_ret (d_if (d_tval (isi_ .int [] ⟨rfl, rfl, rfl, rfl, rfl⟩ nb_isinstance nb_int (by decide +kernel) (v_ 2) (fun n h => nomatch h) (fun n h => nomatch h))) (call_ h__law_walk ⟨rfl, rfl, rfl, rfl, rfl⟩ tk hr (by omega) (d_cons (d_ix ⟨rfl, rfl, rfl⟩ (v_ 0) d_int) (d_cons (add_ ⟨rfl, rfl, rfl, rfl, rfl⟩ (v_ 1) d_int) (d_cons (v_ 2) d_nil)))) (v_ 2))))) d_end)
 (d_seq (d_ifS (d_wt (d_wand (t_ne ⟨rfl, rfl, rfl, rfl, rfl⟩ hr (v_ 0) (d_tup (d_cons d_str d_nil))) (d_wand1 (d_wt (d_wor (t_nin ⟨rfl, rfl, rfl, rfl, rfl⟩ hr (d_ix ⟨rfl, rfl, rfl⟩ (v_ 0) d_int) (d_tup (d_cons d_str (d_cons d_str (d_cons d_str d_nil))))) (d_wor (t_ne ⟨rfl, rfl, rfl, rfl, rfl⟩ hr (bi_ ⟨rfl, rfl, rfl, rfl, rfl⟩ nb_len call_len (says_len ⟨rfl, rfl, rfl⟩) nx_len PySem.boot_len (d_cons (v_ 0) d_nil)) d_int) (d_wor1 (d_not (d_tval (call_ h_is_name ⟨rfl, rfl, rfl, rfl, rfl⟩ tk hr (by omega) (d_cons (d_ix ⟨rfl, rfl, rfl⟩ (v_ 0) d_int) d_nil))))))))))) (d_last (d_ret (d_tup (d_cons d_str (d_cons (v_ 0) d_nil))))) d_end)
 (d_last (d_ret (add_ ⟨rfl, rfl, rfl, rfl, rfl⟩ (v_ 2) d_int)))))))

theorem sc__law_fault : FnScope N__law_fault ["tree"] (defScope s__law_fault) := ⟨rfl, rfl, rfl, by decide +kernel, rfl, by decide +kernel, by decide +kernel⟩
theorem ok__law_fault (F : FunD G.K "_law_fault" "_law_fault" (defArgs s__law_fault) (defBody s__law_fault) (defScope s__law_fault) [] [] f fd) (h__law_walk : Has G mg base "_law_walk" 3 14 (sem__law_walk 12)) (nb_int : mg "int" = none) (nb_isinstance : mg "isinstance" = none) : FnOk G.P G.w G.K mg base (L2.CX G.P G.w) (14 + 1) f fd ["tree"] (spI G 1 sem__law_fault) := by
  refine fn_ok (N := N__law_fault) (ps := ["tree"]) (k := 14) rfl F sc__law_fault (fun cdv A outer s H E hr => ?_)
  have tk : Takes (cxOf (L2.CX G.P G.w) G.P G.w G.K mg base N__law_fault "_law_fault" (defScope s__law_fault) f cdv A outer s H E) (fun c d _ H => E c d H) := takes_of rfl rfl rfl rfl
  have hp : PassesOwn (model (cxOf (L2.CX G.P G.w) G.P G.w G.K mg base N__law_fault "_law_fault" (defScope s__law_fault) f cdv A outer s H E).prog (cxOf (L2.CX G.P G.w) G.P G.w G.K mg base N__law_fault "_law_fault" (defScope s__law_fault) f cdv A outer s H E).w) (cxOf (L2.CX G.P G.w) G.P G.w G.K mg base N__law_fault "_law_fault" (defScope s__law_fault) f cdv A outer s H E).A (cxOf (L2.CX G.P G.w) G.P G.w G.K mg base N__law_fault "_law_fault" (defScope s__law_fault) f cdv A outer s H E).env (cxOf (L2.CX G.P G.w) G.P G.w G.K mg base N__law_fault "_law_fault" (defScope s__law_fault) f cdv A outer s H E).xe := passes_of rfl
  exact (d_seq (d_asg (call_ h__law_walk ⟨rfl, rfl, rfl, rfl, rfl⟩ tk hr (by decide) (d_cons (v_ 0) (d_cons d_int (d_cons d_int d_nil)))) (d_nameG (i := 1) sc__law_fault.nd rfl (by first | exact Or.inl rfl | exact Or.inr rfl)))
 (d_last (d_ret (d_if (d_tval (isi_ .int [] ⟨rfl, rfl, rfl, rfl, rfl⟩ nb_isinstance nb_int (by decide +kernel) (v_ 1) (fun n h => nomatch h) (fun n h => nomatch h))) d_non (v_ 1)))))

theorem sc_is_part : FnScope N_is_part ["part"] (defScope s_is_part) := ⟨rfl, rfl, rfl, by decide +kernel, rfl, by decide +kernel, by decide +kernel⟩
theorem ok_is_part (F : FunD G.K "is_part" "is_part" (defArgs s_is_part) (defBody s_is_part) (defScope s_is_part) [] [] f fd) (h_is_name : Has G mg base "is_name" 1 1 (sem_is_name)) (gl_PAIRS : GloC G mg "PAIRS" c_PAIRS) (gl_SIMPLE : GloC G mg "SIMPLE" c_SIMPLE) (nb_isinstance : mg "isinstance" = none) (nb_len : mg "len" = none) (nb_str : mg "str" = none) (nb_tuple : mg "tuple" = none) : FnOk G.P G.w G.K mg base (L2.CX G.P G.w) (1 + 1) f fd ["part"] (spI G 1 sem_is_part) := by
  refine fn_ok (N := N_is_part) (ps := ["part"]) (k := 1) rfl F sc_is_part (fun cdv A outer s H E hr => ?_)
  have tk : Takes (cxOf (L2.CX G.P G.w) G.P G.w G.K mg base N_is_part "is_part" (defScope s_is_part) f cdv A outer s H E) (fun c d _ H => E c d H) := takes_of rfl rfl rfl rfl
  have hp : PassesOwn (model (cxOf (L2.CX G.P G.w) G.P G.w G.K mg base N_is_part "is_part" (defScope s_is_part) f cdv A outer s H E).prog (cxOf (L2.CX G.P G.w) G.P G.w G.K mg base N_is_part "is_part" (defScope s_is_part) f cdv A outer s H E).w) (cxOf (L2.CX G.P G.w) G.P G.w G.K mg base N_is_part "is_part" (defScope s_is_part) f cdv A outer s H E).A (cxOf (L2.CX G.P G.w) G.P G.w G.K mg base N_is_part "is_part" (defScope s_is_part) f cdv A outer s H E).env (cxOf (L2.CX G.P G.w) G.P G.w G.K mg base N_is_part "is_part" (defScope s_is_part) f cdv A outer s H E).xe := passes_of rfl
  exact (d_seq (d_ifS (d_wt (d_wor (d_not (d_tval (isi_ .tuple [] ⟨rfl, rfl, rfl, rfl, rfl⟩ nb_isinstance nb_tuple (by decide +kernel) (v_ 0) (fun n h => nomatch h) (fun n h => nomatch h)))) (d_wor (t_eq ⟨rfl, rfl, rfl, rfl, rfl⟩ hr (bi_ ⟨rfl, rfl, rfl, rfl, rfl⟩ nb_len call_len (says_len ⟨rfl, rfl, rfl⟩) nx_len PySem.boot_len (d_cons (v_ 0) d_nil)) d_int) (d_wor1 (d_not (d_tval (isi_ .str [] ⟨rfl, rfl, rfl, rfl, rfl⟩ nb_isinstance nb_str (by decide +kernel) (d_ix ⟨rfl, rfl, rfl⟩ (v_ 0) d_int) (fun n h => nomatch h) (fun n h => nomatch h)))))))) (d_last (d_ret d_bl)) d_end)
 (d_seq (d_ifS (t_eq ⟨rfl, rfl, rfl, rfl, rfl⟩ hr (d_ix ⟨rfl, rfl, rfl⟩ (v_ 0) d_int) d_str) (d_last (d_ret (eq_ ⟨rfl, rfl, rfl, rfl, rfl⟩ hr (bi_ ⟨rfl, rfl, rfl, rfl, rfl⟩ nb_len call_len (says_len ⟨rfl, rfl, rfl⟩) nx_len PySem.boot_len (d_cons (v_ 0) d_nil)) d_int))) d_end)
 (d_seq (d_ifS (t_in ⟨rfl, rfl, rfl, rfl, rfl⟩ hr (d_ix ⟨rfl, rfl, rfl⟩ (v_ 0) d_int) (glo_ gl_SIMPLE ⟨rfl, rfl, rfl, rfl, rfl⟩)) (d_last (d_ret (d_and (eq_ ⟨rfl, rfl, rfl, rfl, rfl⟩ hr (bi_ ⟨rfl, rfl, rfl, rfl, rfl⟩ nb_len call_len (says_len ⟨rfl, rfl, rfl⟩) nx_len PySem.boot_len (d_cons (v_ 0) d_nil)) d_int) (d_one (call_ h_is_name ⟨rfl, rfl, rfl, rfl, rfl⟩ tk hr (by decide) (d_cons (d_ix ⟨rfl, rfl, rfl⟩ (v_ 0) d_int) d_nil)))))) d_end)
 (d_last (d_ret (d_and (in_ ⟨rfl, rfl, rfl, rfl, rfl⟩ hr (d_ix ⟨rfl, rfl, rfl⟩ (v_ 0) d_int) (glo_ gl_PAIRS ⟨rfl, rfl, rfl, rfl, rfl⟩)) (d_one (eq_ ⟨rfl, rfl, rfl, rfl, rfl⟩ hr (bi_ ⟨rfl, rfl, rfl, rfl, rfl⟩ nb_len call_len (says_len ⟨rfl, rfl, rfl⟩) nx_len PySem.boot_len (d_cons (v_ 0) d_nil)) d_int))))))))

theorem sc_checked : FnScope N_checked ["tree", "depth", "count"] (defScope s_checked) := ⟨rfl, rfl, rfl, by decide +kernel, rfl, by decide +kernel, by decide +kernel⟩
theorem ok_checked (F : FunD G.K "checked" "checked" (defArgs s_checked) (defBody s_checked) (defScope s_checked) [] [] f fd) (hat : mg "checked" = some (.ref f)) (hb : Binds G.K fd ["tree", "depth", "count"] []) (h_is_part : Has G mg base "is_part" 1 2 (sem_is_part)) (gl_MOST_DEPTH : GloC G mg "MOST_DEPTH" c_MOST_DEPTH) (gl_MOST_PARTS : GloC G mg "MOST_PARTS" c_MOST_PARTS) (gl_PAIRS : GloC G mg "PAIRS" c_PAIRS) (hx_InvalidCondition : HasX G mg base "InvalidCondition" 2 4 0 "InvalidCondition") (hx_TooLarge : HasX G mg base "TooLarge" 1 3 0 "TooLarge") : ∀ n : Nat, FnOk G.P G.w G.K mg base (L2.CX G.P G.w) (2 + n + 1) f fd ["tree", "depth", "count"] (spI G 3 (sem_checked n))
  | 0 => bad_ok F sc_checked
  | n + 1 => by
    have h_checked : Has G mg base "checked" 3 (2 + n + 1) (sem_checked n) := ⟨f, fd, ["tree", "depth", "count"], ok_checked F hat hb h_is_part gl_MOST_DEPTH gl_MOST_PARTS gl_PAIRS hx_InvalidCondition hx_TooLarge n, hat, F.kp, hb⟩
    refine fn_ok (N := N_checked) (ps := ["tree", "depth", "count"]) (k := 2 + n + 1) rfl F sc_checked (fun cdv A outer s H E hr => ?_)
    have tk : Takes (cxOf (L2.CX G.P G.w) G.P G.w G.K mg base N_checked "checked" (defScope s_checked) f cdv A outer s H E) (fun c d _ H => E c d H) := takes_of rfl rfl rfl rfl
    have hp : PassesOwn (model (cxOf (L2.CX G.P G.w) G.P G.w G.K mg base N_checked "checked" (defScope s_checked) f cdv A outer s H E).prog (cxOf (L2.CX G.P G.w) G.P G.w G.K mg base N_checked "checked" (defScope s_checked) f cdv A outer s H E).w) (cxOf (L2.CX G.P G.w) G.P G.w G.K mg base N_checked "checked" (defScope s_checked) f cdv A outer s H E).A (cxOf (L2.CX G.P G.w) G.P G.w G.K mg base N_checked "checked" (defScope s_checked) f cdv A outer s H E).env (cxOf (L2.CX G.P G.w) G.P G.w G.K mg base N_checked "checked" (defScope s_checked) f cdv A outer s H E).xe := passes_of rfl
    exact (d_seq (d_ifS (d_wt (d_wor (t_ge (v_ 2) (glo_ gl_MOST_PARTS ⟨rfl, rfl, rfl, rfl, rfl⟩)) (d_wor1 (t_gt (v_ 1) (glo_ gl_MOST_DEPTH ⟨rfl, rfl, rfl, rfl, rfl⟩))))) (d_last (d_raise hx_TooLarge ⟨rfl, rfl, rfl, rfl, rfl⟩ tk hr (by omega) (glo_ gl_MOST_PARTS ⟨rfl, rfl, rfl, rfl, rfl⟩))) d_end)
 (d_seq (d_ifS (d_not (d_tval (call_ h_is_part ⟨rfl, rfl, rfl, rfl, rfl⟩ tk hr (by omega) (d_cons (v_ 0) d_nil)))) (d_last (d_raise hx_InvalidCondition ⟨rfl, rfl, rfl, rfl, rfl⟩ tk hr (by omega) (v_ 0))) d_end)
 (d_seq (d_asg (add_ ⟨rfl, rfl, rfl, rfl, rfl⟩ (v_ 2) d_int) (d_nameG (i := 2) sc_checked.nd rfl (by first | exact Or.inl rfl | exact Or.inr rfl)))
 (d_seq (d_ifS (t_in ⟨rfl, rfl, rfl, rfl, rfl⟩ hr (d_ix ⟨rfl, rfl, rfl⟩ (v_ 0) d_int) (glo_ gl_PAIRS ⟨rfl, rfl, rfl, rfl, rfl⟩)) (d_seq (d_asg (call_ h_checked ⟨rfl, rfl, rfl, rfl, rfl⟩ tk hr (by omega) (d_cons (d_ix ⟨rfl, rfl, rfl⟩ (v_ 0) d_int) (d_cons (add_ ⟨rfl, rfl, rfl, rfl, rfl⟩ (v_ 1) d_int) (d_cons (v_ 2) d_nil)))) (d_nameG (i := 2) sc_checked.nd rfl (by first | exact Or.inl rfl | exact Or.inr rfl)))
 (d_last (d_asg (call_ h_checked ⟨rfl, rfl, rfl, rfl, rfl⟩ tk hr (by omega) (d_cons (d_ix ⟨rfl, rfl, rfl⟩ (v_ 0) d_int) (d_cons (add_ ⟨rfl, rfl, rfl, rfl, rfl⟩ (v_ 1) d_int) (d_cons (v_ 2) d_nil)))) (d_nameG (i := 2) sc_checked.nd rfl (by first | exact Or.inl rfl | exact Or.inr rfl))))) d_end)
 (d_last (d_ret (v_ 2)))))))

theorem sc_Condition___init__ : FnScope N_Condition___init__ ["self", "tree"] (defScope s_Condition___init__) := ⟨rfl, rfl, rfl, by decide +kernel, rfl, by decide +kernel, by decide +kernel⟩
theorem ok_Condition___init__ (F : FunD G.K "__init__" "Condition.__init__" (defArgs s_Condition___init__) (defBody s_Condition___init__) (defScope s_Condition___init__) [] [] f fd) (h_checked : Has G mg base "checked" 3 15 (sem_checked 12)) (hG : G.fld = flds) (at_parts : ∀ c ∈ [0], ClsA G c "parts") (at_tree : ∀ c ∈ [0], ClsA G c "tree") : FnOk G.P G.w G.K mg base (L2.CX G.P G.w) (15 + 1) f fd ["self", "tree"] (spI G 2 sem_Condition___init__) := by
  refine fn_ok (N := N_Condition___init__) (ps := ["self", "tree"]) (k := 15) rfl F sc_Condition___init__ (fun cdv A outer s H E hr => ?_)
  have tk : Takes (cxOf (L2.CX G.P G.w) G.P G.w G.K mg base N_Condition___init__ "Condition.__init__" (defScope s_Condition___init__) f cdv A outer s H E) (fun c d _ H => E c d H) := takes_of rfl rfl rfl rfl
  have hp : PassesOwn (model (cxOf (L2.CX G.P G.w) G.P G.w G.K mg base N_Condition___init__ "Condition.__init__" (defScope s_Condition___init__) f cdv A outer s H E).prog (cxOf (L2.CX G.P G.w) G.P G.w G.K mg base N_Condition___init__ "Condition.__init__" (defScope s_Condition___init__) f cdv A outer s H E).w) (cxOf (L2.CX G.P G.w) G.P G.w G.K mg base N_Condition___init__ "Condition.__init__" (defScope s_Condition___init__) f cdv A outer s H E).A (cxOf (L2.CX G.P G.w) G.P G.w G.K mg base N_Condition___init__ "Condition.__init__" (defScope s_Condition___init__) f cdv A outer s H E).env (cxOf (L2.CX G.P G.w) G.P G.w G.K mg base N_Condition___init__ "Condition.__init__" (defScope s_Condition___init__) f cdv A outer s H E).xe := passes_of rfl
  exact (d_seq (setF_ 5 ⟨rfl, rfl, rfl, rfl, rfl⟩ hG at_parts (v_ 0) (call_ h_checked ⟨rfl, rfl, rfl, rfl, rfl⟩ tk hr (by decide) (d_cons (v_ 1) (d_cons d_int (d_cons d_int d_nil)))))
 (d_last (setF_ 6 ⟨rfl, rfl, rfl, rfl, rfl⟩ hG at_tree (v_ 0) (v_ 1))))

theorem sc_Condition___eq__ : FnScope N_Condition___eq__ ["self", "other"] (defScope s_Condition___eq__) := ⟨rfl, rfl, rfl, by decide +kernel, rfl, by decide +kernel, by decide +kernel⟩
theorem ok_Condition___eq__ (F : FunD G.K "__eq__" "Condition.__eq__" (defArgs s_Condition___eq__) (defBody s_Condition___eq__) (defScope s_Condition___eq__) [] [] f fd) (nb_isinstance : mg "isinstance" = none) (hG : G.fld = flds) (at_tree : ∀ c ∈ [0], ClsA G c "tree") (ic_Condition : IsiC G mg "Condition" [0] []) : FnOk G.P G.w G.K mg base (L2.CX G.P G.w) (0 + 1) f fd ["self", "other"] (spI G 2 sem_Condition___eq__) := by
  refine fn_ok (N := N_Condition___eq__) (ps := ["self", "other"]) (k := 0) rfl F sc_Condition___eq__ (fun cdv A outer s H E hr => ?_)
  have tk : Takes (cxOf (L2.CX G.P G.w) G.P G.w G.K mg base N_Condition___eq__ "Condition.__eq__" (defScope s_Condition___eq__) f cdv A outer s H E) (fun c d _ H => E c d H) := takes_of rfl rfl rfl rfl
  have hp : PassesOwn (model (cxOf (L2.CX G.P G.w) G.P G.w G.K mg base N_Condition___eq__ "Condition.__eq__" (defScope s_Condition___eq__) f cdv A outer s H E).prog (cxOf (L2.CX G.P G.w) G.P G.w G.K mg base N_Condition___eq__ "Condition.__eq__" (defScope s_Condition___eq__) f cdv A outer s H E).w) (cxOf (L2.CX G.P G.w) G.P G.w G.K mg base N_Condition___eq__ "Condition.__eq__" (defScope s_Condition___eq__) f cdv A outer s H E).A (cxOf (L2.CX G.P G.w) G.P G.w G.K mg base N_Condition___eq__ "Condition.__eq__" (defScope s_Condition___eq__) f cdv A outer s H E).env (cxOf (L2.CX G.P G.w) G.P G.w G.K mg base N_Condition___eq__ "Condition.__eq__" (defScope s_Condition___eq__) f cdv A outer s H E).xe := passes_of rfl
  exact (d_last (d_ret (d_and (isiC_ ic_Condition ⟨rfl, rfl, rfl, rfl, rfl⟩ nb_isinstance (v_ 1)) (d_one (eq_ ⟨rfl, rfl, rfl, rfl, rfl⟩ hr (fld_ 6 ⟨rfl, rfl, rfl, rfl, rfl⟩ hG at_tree (v_ 0)) (fld_ 6 ⟨rfl, rfl, rfl, rfl, rfl⟩ hG at_tree (v_ 1)))))))

theorem sc__law_read : FnScope N__law_read ["words", "at"] (defScope s__law_read) := ⟨rfl, rfl, rfl, by decide +kernel, rfl, by decide +kernel, by decide +kernel⟩
theorem ok__law_read (F : FunD G.K "_law_read" "_law_read" (defArgs s__law_read) (defBody s__law_read) (defScope s__law_read) [] [] f fd) (hat : mg "_law_read" = some (.ref f)) (hb : Binds G.K fd ["words", "at"] []) (h_is_name : Has G mg base "is_name" 1 1 (sem_is_name)) (nb_len : mg "len" = none) : ∀ n : Nat, FnOk G.P G.w G.K mg base (L2.CX G.P G.w) (1 + n + 1) f fd ["words", "at"] (spI G 2 (sem__law_read n))
  | 0 => bad_ok F sc__law_read
  | n + 1 => by
    have h__law_read : Has G mg base "_law_read" 2 (1 + n + 1) (sem__law_read n) := ⟨f, fd, ["words", "at"], ok__law_read F hat hb h_is_name nb_len n, hat, F.kp, hb⟩
    refine fn_ok (N := N__law_read) (ps := ["words", "at"]) (k := 1 + n + 1) rfl F sc__law_read (fun cdv A outer s H E hr => ?_)
    have tk : Takes (cxOf (L2.CX G.P G.w) G.P G.w G.K mg base N__law_read "_law_read" (defScope s__law_read) f cdv A outer s H E) (fun c d _ H => E c d H) := takes_of rfl rfl rfl rfl
    have hp : PassesOwn (model (cxOf (L2.CX G.P G.w) G.P G.w G.K mg base N__law_read "_law_read" (defScope s__law_read) f cdv A outer s H E).prog (cxOf (L2.CX G.P G.w) G.P G.w G.K mg base N__law_read "_law_read" (defScope s__law_read) f cdv A outer s H E).w) (cxOf (L2.CX G.P G.w) G.P G.w G.K mg base N__law_read "_law_read" (defScope s__law_read) f cdv A outer s H E).A (cxOf (L2.CX G.P G.w) G.P G.w G.K mg base N__law_read "_law_read" (defScope s__law_read) f cdv A outer s H E).env (cxOf (L2.CX G.P G.w) G.P G.w G.K mg base N__law_read "_law_read" (defScope s__law_read) f cdv A outer s H E).xe := passes_of rfl
    exact (d_seq (d_ifS (t_ge (v_ 1) (bi_ ⟨rfl, rfl, rfl, rfl, rfl⟩ nb_len call_len (says_len ⟨rfl, rfl, rfl⟩) nx_len PySem.boot_len (d_cons (v_ 0) d_nil))) (d_last (d_ret d_non)) d_end)
 (d_seq (d_ifS (t_eq ⟨rfl, rfl, rfl, rfl, rfl⟩ hr (d_ix ⟨rfl, rfl, rfl⟩ (v_ 0) (v_ 1)) d_str) (d_last (d_ret (d_tup (d_cons (d_tup (d_cons d_str d_nil)) (d_cons (add_ ⟨rfl, rfl, rfl, rfl, rfl⟩ (v_ 1) d_int) d_nil))))) d_end)
 (d_seq (d_ifS (t_in ⟨rfl, rfl, rfl, rfl, rfl⟩ hr (d_ix ⟨rfl, rfl, rfl⟩ (v_ 0) (v_ 1)) (d_tup (d_cons d_str (d_cons d_str (d_cons d_str d_nil))))) (d_seq (d_ifS (d_wt (d_wor (t_ge (add_ ⟨rfl, rfl, rfl, rfl, rfl⟩ (v_ 1) d_int) (bi_ ⟨rfl, rfl, rfl, rfl, rfl⟩ nb_len call_len (says_len ⟨rfl, rfl, rfl⟩) nx_len PySem.boot_len (d_cons (v_ 0) d_nil))) (d_wor1 (d_not (d_tval (call_ h_is_name ⟨rfl, rfl, rfl, rfl, rfl⟩ tk hr (by omega) (d_cons (d_ix ⟨rfl, rfl, rfl⟩ (v_ 0) (add_ ⟨rfl, rfl, rfl, rfl, rfl⟩ (v_ 1) d_int)) d_nil))))))) (d_last (d_ret d_non)) d_end)
 (d_last (d_ret (d_tup (d_cons (d_tup (d_cons (d_ix ⟨rfl, rfl, rfl⟩ (v_ 0) (v_ 1)) (d_cons (d_ix ⟨rfl, rfl, rfl⟩ (v_ 0) (add_ ⟨rfl, rfl, rfl, rfl, rfl⟩ (v_ 1) d_int)) d_nil))) (d_cons (add_ ⟨rfl, rfl, rfl, rfl, rfl⟩ (v_ 1) d_int) d_nil)))))) d_end)
 (d_seq (d_ifS (t_nin ⟨rfl, rfl, rfl, rfl, rfl⟩ hr (d_ix ⟨rfl, rfl, rfl⟩ (v_ 0) (v_ 1)) (d_tup (d_cons d_str (d_cons d_str d_nil)))) (d_last (d_ret d_non)) d_end)
 (d_seq (d_asg (call_ h__law_read ⟨rfl, rfl, rfl, rfl, rfl⟩ tk hr (by omega) (d_cons (v_ 0) (d_cons (add_ ⟨rfl, rfl, rfl, rfl, rfl⟩ (v_ 1) d_int) d_nil))) (d_nameG (i := 2) sc__law_read.nd rfl (by first | exact Or.inl rfl | exact Or.inr rfl)))
 (d_seq (d_ifS (t_is (v_ 2) d_non) (d_last (d_ret d_non)) d_end)
 (d_seq (d_asg (call_ h__law_read ⟨rfl, rfl, rfl, rfl, rfl⟩ tk hr (by omega) (d_cons (v_ 0) (d_cons (d_ix ⟨rfl, rfl, rfl⟩ (v_ 2) d_int) d_nil))) (d_nameG (i := 3) sc__law_read.nd rfl (by first | exact Or.inl rfl | exact Or.inr rfl)))
 (d_last (d_ret (d_if (t_is (v_ 3) d_non) d_non (d_tup (d_cons (d_tup (d_cons (d_ix ⟨rfl, rfl, rfl⟩ (v_ 0) (v_ 1)) (d_cons (d_ix ⟨rfl, rfl, rfl⟩ (v_ 2) d_int) (d_cons (d_ix ⟨rfl, rfl, rfl⟩ (v_ 3) d_int) d_nil)))) (d_cons (d_ix ⟨rfl, rfl, rfl⟩ (v_ 3) d_int) d_nil)))))))))))))

theorem sc__law_due : FnScope N__law_due ["text"] (defScope s__law_due) := ⟨rfl, rfl, rfl, by decide +kernel, rfl, by decide +kernel, by decide +kernel⟩
theorem ok__law_due (F : FunD G.K "_law_due" "_law_due" (defArgs s__law_due) (defBody s__law_due) (defScope s__law_due) [] [] f fd) (h__law_fault : Has G mg base "_law_fault" 1 15 (sem__law_fault)) (h__law_read : Has G mg base "_law_read" 2 47 (sem__law_read 45)) (nb_len : mg "len" = none) : FnOk G.P G.w G.K mg base (L2.CX G.P G.w) (47 + 1) f fd ["text"] (spI G 1 sem__law_due) := by
  refine fn_ok (N := N__law_due) (ps := ["text"]) (k := 47) rfl F sc__law_due (fun cdv A outer s H E hr => ?_)
  have tk : Takes (cxOf (L2.CX G.P G.w) G.P G.w G.K mg base N__law_due "_law_due" (defScope s__law_due) f cdv A outer s H E) (fun c d _ H => E c d H) := takes_of rfl rfl rfl rfl
  have hp : PassesOwn (model (cxOf (L2.CX G.P G.w) G.P G.w G.K mg base N__law_due "_law_due" (defScope s__law_due) f cdv A outer s H E).prog (cxOf (L2.CX G.P G.w) G.P G.w G.K mg base N__law_due "_law_due" (defScope s__law_due) f cdv A outer s H E).w) (cxOf (L2.CX G.P G.w) G.P G.w G.K mg base N__law_due "_law_due" (defScope s__law_due) f cdv A outer s H E).A (cxOf (L2.CX G.P G.w) G.P G.w G.K mg base N__law_due "_law_due" (defScope s__law_due) f cdv A outer s H E).env (cxOf (L2.CX G.P G.w) G.P G.w G.K mg base N__law_due "_law_due" (defScope s__law_due) f cdv A outer s H E).xe := passes_of rfl
  exact (d_seq (d_asg (split_ ⟨rfl, rfl, rfl, rfl, rfl⟩ (v_ 0) (d_cons d_str d_nil)) (d_nameG (i := 1) sc__law_due.nd rfl (by first | exact Or.inl rfl | exact Or.inr rfl)))
 (d_seq (d_ifS (t_gt (bi_ ⟨rfl, rfl, rfl, rfl, rfl⟩ nb_len call_len (says_len ⟨rfl, rfl, rfl⟩) nx_len PySem.boot_len (d_cons (v_ 1) d_nil)) d_int) (d_last (d_ret (d_tup (d_cons d_str (d_cons d_int d_nil))))) d_end)
 (d_seq (d_asg (call_ h__law_read ⟨rfl, rfl, rfl, rfl, rfl⟩ tk hr (by decide) (d_cons (v_ 1) (d_cons d_int d_nil))) (d_nameG (i := 2) sc__law_due.nd rfl (by first | exact Or.inl rfl | exact Or.inr rfl)))
 (d_seq (d_ifS (d_wt (d_wor (t_is (v_ 2) d_non) (d_wor1 (t_ne ⟨rfl, rfl, rfl, rfl, rfl⟩ hr (d_ix ⟨rfl, rfl, rfl⟩ (v_ 2) d_int) (bi_ ⟨rfl, rfl, rfl, rfl, rfl⟩ nb_len call_len (says_len ⟨rfl, rfl, rfl⟩) nx_len PySem.boot_len (d_cons (v_ 1) d_nil)))))) (d_last (d_ret (d_tup (d_cons d_str (d_cons d_int d_nil))))) d_end)
 (d_seq (d_asg (call_ h__law_fault ⟨rfl, rfl, rfl, rfl, rfl⟩ tk hr (by decide) (d_cons (d_ix ⟨rfl, rfl, rfl⟩ (v_ 2) d_int) d_nil)) (d_nameG (i := 3) sc__law_due.nd rfl (by first | exact Or.inl rfl | exact Or.inr rfl)))
 (d_last (d_ret (d_if (t_is (v_ 3) d_non) (d_tup (d_cons d_str (d_cons (d_ix ⟨rfl, rfl, rfl⟩ (v_ 2) d_int) d_nil))) (v_ 3)))))))))

theorem sc_tree_of : FnScope N_tree_of ["words", "at"] (defScope s_tree_of) := ⟨rfl, rfl, rfl, by decide +kernel, rfl, by decide +kernel, by decide +kernel⟩
theorem ok_tree_of (F : FunD G.K "tree_of" "tree_of" (defArgs s_tree_of) (defBody s_tree_of) (defScope s_tree_of) [] [] f fd) (hat : mg "tree_of" = some (.ref f)) (hb : Binds G.K fd ["words", "at"] []) (h_is_name : Has G mg base "is_name" 1 1 (sem_is_name)) (gl_PAIRS : GloC G mg "PAIRS" c_PAIRS) (gl_SIMPLE : GloC G mg "SIMPLE" c_SIMPLE) (nb_len : mg "len" = none) : ∀ n : Nat, FnOk G.P G.w G.K mg base (L2.CX G.P G.w) (1 + n + 1) f fd ["words", "at"] (spI G 2 (sem_tree_of n))
  | 0 => bad_ok F sc_tree_of
  | n + 1 => by
    have h_tree_of : Has G mg base "tree_of" 2 (1 + n + 1) (sem_tree_of n) := ⟨f, fd, ["words", "at"], ok_tree_of F hat hb h_is_name gl_PAIRS gl_SIMPLE nb_len n, hat, F.kp, hb⟩
    refine fn_ok (N := N_tree_of) (ps := ["words", "at"]) (k := 1 + n + 1) rfl F sc_tree_of (fun cdv A outer s H E hr => ?_)
    have tk : Takes (cxOf (L2.CX G.P G.w) G.P G.w G.K mg base N_tree_of "tree_of" (defScope s_tree_of) f cdv A outer s H E) (fun c d _ H => E c d H) := takes_of rfl rfl rfl rfl
    have hp : PassesOwn (model (cxOf (L2.CX G.P G.w) G.P G.w G.K mg base N_tree_of "tree_of" (defScope s_tree_of) f cdv A outer s H E).prog (cxOf (L2.CX G.P G.w) G.P G.w G.K mg base N_tree_of "tree_of" (defScope s_tree_of) f cdv A outer s H E).w) (cxOf (L2.CX G.P G.w) G.P G.w G.K mg base N_tree_of "tree_of" (defScope s_tree_of) f cdv A outer s H E).A (cxOf (L2.CX G.P G.w) G.P G.w G.K mg base N_tree_of "tree_of" (defScope s_tree_of) f cdv A outer s H E).env (cxOf (L2.CX G.P G.w) G.P G.w G.K mg base N_tree_of "tree_of" (defScope s_tree_of) f cdv A outer s H E).xe := passes_of rfl
    exact (d_seq (d_ifS (t_ge (v_ 1) (bi_ ⟨rfl, rfl, rfl, rfl, rfl⟩ nb_len call_len (says_len ⟨rfl, rfl, rfl⟩) nx_len PySem.boot_len (d_cons (v_ 0) d_nil))) (d_last (d_ret d_non)) d_end)
 (d_seq (d_asg (d_ix ⟨rfl, rfl, rfl⟩ (v_ 0) (v_ 1)) (d_nameG (i := 2) sc_tree_of.nd rfl (by first | exact Or.inl rfl | exact Or.inr rfl)))
 (d_seq (d_ifS (t_eq ⟨rfl, rfl, rfl, rfl, rfl⟩ hr (v_ 2) d_str) (d_last (d_ret (d_tup (d_cons (d_tup (d_cons d_str d_nil)) (d_cons (add_ ⟨rfl, rfl, rfl, rfl, rfl⟩ (v_ 1) d_int) d_nil))))) d_end)
 (d_seq (d_ifS (t_in ⟨rfl, rfl, rfl, rfl, rfl⟩ hr (v_ 2) (glo_ gl_SIMPLE ⟨rfl, rfl, rfl, rfl, rfl⟩)) (d_seq (d_ifS (d_wt (d_wor (t_ge (add_ ⟨rfl, rfl, rfl, rfl, rfl⟩ (v_ 1) d_int) (bi_ ⟨rfl, rfl, rfl, rfl, rfl⟩ nb_len call_len (says_len ⟨rfl, rfl, rfl⟩) nx_len PySem.boot_len (d_cons (v_ 0) d_nil))) (d_wor1 (d_not (d_tval (call_ h_is_name ⟨rfl, rfl, rfl, rfl, rfl⟩ tk hr (by omega) (d_cons (d_ix ⟨rfl, rfl, rfl⟩ (v_ 0) (add_ ⟨rfl, rfl, rfl, rfl, rfl⟩ (v_ 1) d_int)) d_nil))))))) (d_last (d_ret d_non)) d_end)
 (d_last (d_ret (d_tup (d_cons (d_tup (d_cons (v_ 2) (d_cons (d_ix ⟨rfl, rfl, rfl⟩ (v_ 0) (add_ ⟨rfl, rfl, rfl, rfl, rfl⟩ (v_ 1) d_int)) d_nil))) (d_cons (add_ ⟨rfl, rfl, rfl, rfl, rfl⟩ (v_ 1) d_int) d_nil)))))) d_end)
 (d_seq (d_ifS (t_nin ⟨rfl, rfl, rfl, rfl, rfl⟩ hr (v_ 2) (glo_ gl_PAIRS ⟨rfl, rfl, rfl, rfl, rfl⟩)) (d_last (d_ret d_non)) d_end)
 (d_seq (d_asg (call_ h_tree_of ⟨rfl, rfl, rfl, rfl, rfl⟩ tk hr (by omega) (d_cons (v_ 0) (d_cons (add_ ⟨rfl, rfl, rfl, rfl, rfl⟩ (v_ 1) d_int) d_nil))) (d_nameG (i := 3) sc_tree_of.nd rfl (by first | exact Or.inl rfl | exact Or.inr rfl)))
 (d_seq (d_ifS (t_is (v_ 3) d_non) (d_last (d_ret d_non)) d_end)
 (d_seq (d_asg (call_ h_tree_of ⟨rfl, rfl, rfl, rfl, rfl⟩ tk hr (by omega) (d_cons (v_ 0) (d_cons (d_ix ⟨rfl, rfl, rfl⟩ (v_ 3) d_int) d_nil))) (d_nameG (i := 4) sc_tree_of.nd rfl (by first | exact Or.inl rfl | exact Or.inr rfl)))
 (d_seq (d_ifS (t_is (v_ 4) d_non) (d_last (d_ret d_non)) d_end)
 (d_last (d_ret (d_tup (d_cons (d_tup (d_cons (v_ 2) (d_cons (d_ix ⟨rfl, rfl, rfl⟩ (v_ 3) d_int) (d_cons (d_ix ⟨rfl, rfl, rfl⟩ (v_ 4) d_int) d_nil)))) (d_cons (d_ix ⟨rfl, rfl, rfl⟩ (v_ 4) d_int) d_nil))))))))))))))

theorem sc_whole_tree : FnScope N_whole_tree ["words"] (defScope s_whole_tree) := ⟨rfl, rfl, rfl, by decide +kernel, rfl, by decide +kernel, by decide +kernel⟩
theorem ok_whole_tree (F : FunD G.K "whole_tree" "whole_tree" (defArgs s_whole_tree) (defBody s_whole_tree) (defScope s_whole_tree) [] [] f fd) (h_tree_of : Has G mg base "tree_of" 2 47 (sem_tree_of 45)) (nb_len : mg "len" = none) : FnOk G.P G.w G.K mg base (L2.CX G.P G.w) (47 + 1) f fd ["words"] (spI G 1 sem_whole_tree) := by
  refine fn_ok (N := N_whole_tree) (ps := ["words"]) (k := 47) rfl F sc_whole_tree (fun cdv A outer s H E hr => ?_)
  have tk : Takes (cxOf (L2.CX G.P G.w) G.P G.w G.K mg base N_whole_tree "whole_tree" (defScope s_whole_tree) f cdv A outer s H E) (fun c d _ H => E c d H) := takes_of rfl rfl rfl rfl
  have hp : PassesOwn (model (cxOf (L2.CX G.P G.w) G.P G.w G.K mg base N_whole_tree "whole_tree" (defScope s_whole_tree) f cdv A outer s H E).prog (cxOf (L2.CX G.P G.w) G.P G.w G.K mg base N_whole_tree "whole_tree" (defScope s_whole_tree) f cdv A outer s H E).w) (cxOf (L2.CX G.P G.w) G.P G.w G.K mg base N_whole_tree "whole_tree" (defScope s_whole_tree) f cdv A outer s H E).A (cxOf (L2.CX G.P G.w) G.P G.w G.K mg base N_whole_tree "whole_tree" (defScope s_whole_tree) f cdv A outer s H E).env (cxOf (L2.CX G.P G.w) G.P G.w G.K mg base N_whole_tree "whole_tree" (defScope s_whole_tree) f cdv A outer s H E).xe := passes_of rfl
  exact (d_seq (d_asg (call_ h_tree_of ⟨rfl, rfl, rfl, rfl, rfl⟩ tk hr (by decide) (d_cons (v_ 0) (d_cons d_int d_nil))) (d_nameG (i := 1) sc_whole_tree.nd rfl (by first | exact Or.inl rfl | exact Or.inr rfl)))
 (d_seq (d_ifS (d_wt (d_wor (t_is (v_ 1) d_non) (d_wor1 (t_ne ⟨rfl, rfl, rfl, rfl, rfl⟩ hr (d_ix ⟨rfl, rfl, rfl⟩ (v_ 1) d_int) (bi_ ⟨rfl, rfl, rfl, rfl, rfl⟩ nb_len call_len (says_len ⟨rfl, rfl, rfl⟩) nx_len PySem.boot_len (d_cons (v_ 0) d_nil)))))) (d_last (d_ret d_non)) d_end)
 (d_last (d_ret (d_ix ⟨rfl, rfl, rfl⟩ (v_ 1) d_int)))))

theorem sc_Condition_read : FnScope N_Condition_read ["cls", "text"] (defScope s_Condition_read) := ⟨rfl, rfl, rfl, by decide +kernel, rfl, by decide +kernel, by decide +kernel⟩
theorem ok_Condition_read (F : FunD G.K "read" "Condition.read" (defArgs s_Condition_read) (defBody s_Condition_read) (defScope s_Condition_read) [] [] f fd) (h_whole_tree : Has G mg base "whole_tree" 1 48 (sem_whole_tree)) (gl_MOST_PARTS : GloC G mg "MOST_PARTS" c_MOST_PARTS) (gl_MOST_WORDS : GloC G mg "MOST_WORDS" c_MOST_WORDS) (nb_isinstance : mg "isinstance" = none) (nb_len : mg "len" = none) (nb_str : mg "str" = none) (mkv_Condition : ∀ q ∈ tb_mkv_Condition, MkV G mg base 2 16 q) (hx_InvalidText : HasX G mg base "InvalidText" 3 2 0 "InvalidText") (hx_TooLarge : HasX G mg base "TooLarge" 1 3 0 "TooLarge") : FnOk G.P G.w G.K mg base (L2.CX G.P G.w) (48 + 1) f fd ["cls", "text"] (spI G 2 sem_Condition_read) := by
  refine fn_ok (N := N_Condition_read) (ps := ["cls", "text"]) (k := 48) rfl F sc_Condition_read (fun cdv A outer s H E hr => ?_)
  have tk : Takes (cxOf (L2.CX G.P G.w) G.P G.w G.K mg base N_Condition_read "Condition.read" (defScope s_Condition_read) f cdv A outer s H E) (fun c d _ H => E c d H) := takes_of rfl rfl rfl rfl
  have hp : PassesOwn (model (cxOf (L2.CX G.P G.w) G.P G.w G.K mg base N_Condition_read "Condition.read" (defScope s_Condition_read) f cdv A outer s H E).prog (cxOf (L2.CX G.P G.w) G.P G.w G.K mg base N_Condition_read "Condition.read" (defScope s_Condition_read) f cdv A outer s H E).w) (cxOf (L2.CX G.P G.w) G.P G.w G.K mg base N_Condition_read "Condition.read" (defScope s_Condition_read) f cdv A outer s H E).A (cxOf (L2.CX G.P G.w) G.P G.w G.K mg base N_Condition_read "Condition.read" (defScope s_Condition_read) f cdv A outer s H E).env (cxOf (L2.CX G.P G.w) G.P G.w G.K mg base N_Condition_read "Condition.read" (defScope s_Condition_read) f cdv A outer s H E).xe := passes_of rfl
  exact (d_seq (d_ifS (d_not (d_tval (isi_ .str [] ⟨rfl, rfl, rfl, rfl, rfl⟩ nb_isinstance nb_str (by decide +kernel) (v_ 1) (fun n h => nomatch h) (fun n h => nomatch h)))) (d_last (d_raise hx_InvalidText ⟨rfl, rfl, rfl, rfl, rfl⟩ tk hr (by decide) d_int)) d_end)
 (d_seq (d_asg (split_ ⟨rfl, rfl, rfl, rfl, rfl⟩ (v_ 1) (d_cons d_str d_nil)) (d_nameG (i := 2) sc_Condition_read.nd rfl (by first | exact Or.inl rfl | exact Or.inr rfl)))
 (d_seq (d_ifS (t_gt (bi_ ⟨rfl, rfl, rfl, rfl, rfl⟩ nb_len call_len (says_len ⟨rfl, rfl, rfl⟩) nx_len PySem.boot_len (d_cons (v_ 2) d_nil)) (glo_ gl_MOST_WORDS ⟨rfl, rfl, rfl, rfl, rfl⟩)) (d_last (d_raise hx_TooLarge ⟨rfl, rfl, rfl, rfl, rfl⟩ tk hr (by decide) (glo_ gl_MOST_PARTS ⟨rfl, rfl, rfl, rfl, rfl⟩))) d_end)
 (d_seq (d_asg (call_ h_whole_tree ⟨rfl, rfl, rfl, rfl, rfl⟩ tk hr (by decide) (d_cons (v_ 2) d_nil)) (d_nameG (i := 3) sc_Condition_read.nd rfl (by first | exact Or.inl rfl | exact Or.inr rfl)))
 (d_seq (d_ifS (t_is (v_ 3) d_non) (d_last (d_raise hx_InvalidText ⟨rfl, rfl, rfl, rfl, rfl⟩ tk hr (by decide) d_int)) d_end)
 (d_last (d_ret (d_mkV ⟨rfl, rfl, rfl, rfl, rfl⟩ tk hr (by decide) mkv_Condition (v_ 0) (d_cons (v_ 3) d_nil)))))))))

theorem sc_words_of : FnScope N_words_of ["tree"] (defScope s_words_of) := ⟨rfl, rfl, rfl, by decide +kernel, rfl, by decide +kernel, by decide +kernel⟩
theorem ok_words_of (F : FunD G.K "words_of" "words_of" (defArgs s_words_of) (defBody s_words_of) (defScope s_words_of) [] [] f fd) (hat : mg "words_of" = some (.ref f)) (hb : Binds G.K fd ["tree"] []) (nb_isinstance : mg "isinstance" = none) (nb_str : mg "str" = none) : ∀ n : Nat, FnOk G.P G.w G.K mg base (L2.CX G.P G.w) (0 + n + 1) f fd ["tree"] (spI G 1 (sem_words_of n))
  | 0 => bad_ok F sc_words_of
  | n + 1 => by
    have h_words_of : Has G mg base "words_of" 1 (0 + n + 1) (sem_words_of n) := ⟨f, fd, ["tree"], ok_words_of F hat hb nb_isinstance nb_str n, hat, F.kp, hb⟩
    refine fn_ok (N := N_words_of) (ps := ["tree"]) (k := 0 + n + 1) rfl F sc_words_of (fun cdv A outer s H E hr => ?_)
    have tk : Takes (cxOf (L2.CX G.P G.w) G.P G.w G.K mg base N_words_of "words_of" (defScope s_words_of) f cdv A outer s H E) (fun c d _ H => E c d H) := takes_of rfl rfl rfl rfl
    have hp : PassesOwn (model (cxOf (L2.CX G.P G.w) G.P G.w G.K mg base N_words_of "words_of" (defScope s_words_of) f cdv A outer s H E).prog (cxOf (L2.CX G.P G.w) G.P G.w G.K mg base N_words_of "words_of" (defScope s_words_of) f cdv A outer s H E).w) (cxOf (L2.CX G.P G.w) G.P G.w G.K mg base N_words_of "words_of" (defScope s_words_of) f cdv A outer s H E).A (cxOf (L2.CX G.P G.w) G.P G.w G.K mg base N_words_of "words_of" (defScope s_words_of) f cdv A outer s H E).env (cxOf (L2.CX G.P G.w) G.P G.w G.K mg base N_words_of "words_of" (defScope s_words_of) f cdv A outer s H E).xe := passes_of rfl
    exact (d_seq (d_asg (d_lst d_nil) (d_nameG (i := 1) sc_words_of.nd rfl (by first | exact Or.inl rfl | exact Or.inr rfl)))
 (d_seq (d_for hp rfl (d_walk ⟨rfl, rfl, rfl⟩ (v_ 0)) (d_nameG (i := 2) sc_words_of.nd rfl (by first | exact Or.inl rfl | exact Or.inr rfl)) (d_last (d_ifS (d_tval (isi_ .str [] ⟨rfl, rfl, rfl, rfl, rfl⟩ nb_isinstance nb_str (by decide +kernel) (v_ 2) (fun n h => nomatch h) (fun n h => nomatch h))) (d_last (d_expr (append_ ⟨rfl, rfl, rfl, rfl, rfl⟩ (v_ 1) (d_cons (v_ 2) d_nil)))) (d_last (d_expr (extend_ ⟨rfl, rfl, rfl, rfl, rfl⟩ (v_ 1) (d_cons (call_ h_words_of ⟨rfl, rfl, rfl, rfl, rfl⟩ tk hr (by omega) (d_cons (v_ 2) d_nil)) d_nil)))))))
 (d_last (d_ret (v_ 1)))))

theorem sc_Condition___str__ : FnScope N_Condition___str__ ["self"] (defScope s_Condition___str__) := ⟨rfl, rfl, rfl, by decide +kernel, rfl, by decide +kernel, by decide +kernel⟩
theorem ok_Condition___str__ (F : FunD G.K "__str__" "Condition.__str__" (defArgs s_Condition___str__) (defBody s_Condition___str__) (defScope s_Condition___str__) [] [] f fd) (h_words_of : Has G mg base "words_of" 1 13 (sem_words_of 12)) (hG : G.fld = flds) (at_tree : ∀ c ∈ [0], ClsA G c "tree") : FnOk G.P G.w G.K mg base (L2.CX G.P G.w) (13 + 1) f fd ["self"] (spI G 1 sem_Condition___str__) := by
  refine fn_ok (N := N_Condition___str__) (ps := ["self"]) (k := 13) rfl F sc_Condition___str__ (fun cdv A outer s H E hr => ?_)
  have tk : Takes (cxOf (L2.CX G.P G.w) G.P G.w G.K mg base N_Condition___str__ "Condition.__str__" (defScope s_Condition___str__) f cdv A outer s H E) (fun c d _ H => E c d H) := takes_of rfl rfl rfl rfl
  have hp : PassesOwn (model (cxOf (L2.CX G.P G.w) G.P G.w G.K mg base N_Condition___str__ "Condition.__str__" (defScope s_Condition___str__) f cdv A outer s H E).prog (cxOf (L2.CX G.P G.w) G.P G.w G.K mg base N_Condition___str__ "Condition.__str__" (defScope s_Condition___str__) f cdv A outer s H E).w) (cxOf (L2.CX G.P G.w) G.P G.w G.K mg base N_Condition___str__ "Condition.__str__" (defScope s_Condition___str__) f cdv A outer s H E).A (cxOf (L2.CX G.P G.w) G.P G.w G.K mg base N_Condition___str__ "Condition.__str__" (defScope s_Condition___str__) f cdv A outer s H E).env (cxOf (L2.CX G.P G.w) G.P G.w G.K mg base N_Condition___str__ "Condition.__str__" (defScope s_Condition___str__) f cdv A outer s H E).xe := passes_of rfl
  exact (d_last (d_ret (join_ ⟨rfl, rfl, rfl, rfl, rfl⟩ d_str (d_cons (call_ h_words_of ⟨rfl, rfl, rfl, rfl, rfl⟩ tk hr (by decide) (d_cons (fld_ 6 ⟨rfl, rfl, rfl, rfl, rfl⟩ hG at_tree (v_ 0)) d_nil)) d_nil))))

theorem sc_law : FnScope N_law ["script"] (defScope s_law) := ⟨rfl, rfl, rfl, by decide +kernel, rfl, by decide +kernel, by decide +kernel⟩
theorem ok_law (F : FunD G.K "law" "law" (defArgs s_law) (defBody s_law) (defScope s_law) [] [] (He.fAd G.K ("law", none)) fd) (h__law_bag : Has G mg base "_law_bag" 1 1 (sem__law_bag)) (h__law_draw : Has G mg base "_law_draw" 2 1 (sem__law_draw)) (h__law_due : Has G mg base "_law_due" 1 48 (sem__law_due)) (h__law_fault : Has G mg base "_law_fault" 1 15 (sem__law_fault)) (h__law_one : Has G mg base "_law_one" 2 2 (sem__law_one)) (h__law_said : Has G mg base "_law_said" 1 13 (sem__law_said 12)) (h__law_same : Has G mg base "_law_same" 2 49 (sem__law_same 48)) (h__law_wide : Has G mg base "_law_wide" 3 28 (sem__law_wide 12)) (nb_len : mg "len" = none) (nb_range : mg "range" = none) (nb_str : mg "str" = none) (hG : G.fld = flds) (at_tree : ∀ c ∈ [0], ClsA G c "tree") (mk_Condition : HasC G mg base "Condition" 0 2 16 (sem_Condition___init__)) (eqc : ∀ c F, (c, F) ∈ tb_eq → EqC G mg base c [0] 1 F) (sto : ∀ c F, (c, F) ∈ tb_str → StrC G mg base c 14 F) (cm_Condition_read : HasCM G mg base "Condition" "read" 2 49 (sem_Condition_read)) (ltry : TryC G mg base exl 0) (lt : LamT G mg base ("law", none) (("law" : Str) ++ ".<locals>.")) : FnOk G.P G.w G.K mg base (L2.CX G.P G.w) (51 + 1) (He.fAd G.K ("law", none)) fd ["script"] (spI G 1 sem_law) := by
  refine fn_okC (N := N_law) (ps := ["script"]) (k := 51) rfl F sc_law (fun cdv A outer s H E hcd hr => ?_)
  have tk : Takes (cxOf (L2.CX G.P G.w) G.P G.w G.K mg base N_law "law" (defScope s_law) (He.fAd G.K ("law", none)) cdv A outer s H E) (fun c d _ H => E c d H) := takes_of rfl rfl rfl rfl
  have hp : PassesOwn (model (cxOf (L2.CX G.P G.w) G.P G.w G.K mg base N_law "law" (defScope s_law) (He.fAd G.K ("law", none)) cdv A outer s H E).prog (cxOf (L2.CX G.P G.w) G.P G.w G.K mg base N_law "law" (defScope s_law) (He.fAd G.K ("law", none)) cdv A outer s H E).w) (cxOf (L2.CX G.P G.w) G.P G.w G.K mg base N_law "law" (defScope s_law) (He.fAd G.K ("law", none)) cdv A outer s H E).A (cxOf (L2.CX G.P G.w) G.P G.w G.K mg base N_law "law" (defScope s_law) (He.fAd G.K ("law", none)) cdv A outer s H E).env (cxOf (L2.CX G.P G.w) G.P G.w G.K mg base N_law "law" (defScope s_law) (He.fAd G.K ("law", none)) cdv A outer s H E).xe := passes_of rfl
  exact (d_seq (d_asg (call_ h__law_bag ⟨rfl, rfl, rfl, rfl, rfl⟩ tk hr (by decide) (d_cons (v_ 0) d_nil)) (d_nameG (i := 1) sc_law.nd rfl (by first | exact Or.inl rfl | exact Or.inr rfl)))
 (d_seq (d_for hp rfl (d_range1 rfl (nb ⟨rfl, rfl, rfl, rfl, rfl⟩ nb_range) (d_cons d_int d_nil)) (d_nameG (i := 2) sc_law.nd rfl (by first | exact Or.inl rfl | exact Or.inr rfl)) (d_seq (d_asg (call_ h__law_wide ⟨rfl, rfl, rfl, rfl, rfl⟩ tk hr (by decide) (d_cons (v_ 1) (d_cons (d_lst (d_cons d_str (d_cons d_str (d_cons d_str d_nil)))) (d_cons (add_ ⟨rfl, rfl, rfl, rfl, rfl⟩ d_int (call_ h__law_draw ⟨rfl, rfl, rfl, rfl, rfl⟩ tk hr (by decide) (d_cons (v_ 1) (d_cons d_int d_nil)))) d_nil)))) (d_nameG (i := 3) sc_law.nd rfl (by first | exact Or.inl rfl | exact Or.inr rfl)))
 (d_seq (d_asg (call_ h__law_said ⟨rfl, rfl, rfl, rfl, rfl⟩ tk hr (by decide) (d_cons (v_ 3) d_nil)) (d_nameG (i := 4) sc_law.nd rfl (by first | exact Or.inl rfl | exact Or.inr rfl)))
 (d_seq (d_asg (split_ ⟨rfl, rfl, rfl, rfl, rfl⟩ (v_ 4) (d_cons d_str d_nil)) (d_nameG (i := 5) sc_law.nd rfl (by first | exact Or.inl rfl | exact Or.inr rfl)))
 (d_seq (d_asg (call_ h__law_draw ⟨rfl, rfl, rfl, rfl, rfl⟩ tk hr (by decide) (d_cons (v_ 1) (d_cons (bi_ ⟨rfl, rfl, rfl, rfl, rfl⟩ nb_len call_len (says_len ⟨rfl, rfl, rfl⟩) nx_len PySem.boot_len (d_cons (v_ 5) d_nil)) d_nil))) (d_nameG (i := 6) sc_law.nd rfl (by first | exact Or.inl rfl | exact Or.inr rfl)))
 (d_seq (d_asg (call_ h__law_one ⟨rfl, rfl, rfl, rfl, rfl⟩ tk hr (by decide) (d_cons (v_ 1) (d_cons (d_lst (d_cons d_str (d_cons d_str (d_cons d_str (d_cons d_str (d_cons d_str (d_cons d_str (d_cons d_str (d_cons d_str (d_cons d_str (d_cons d_str (d_cons d_str d_nil)))))))))))) d_nil))) (d_nameG (i := 7) sc_law.nd rfl (by first | exact Or.inl rfl | exact Or.inr rfl)))
 (d_seq (d_asg (d_lst (d_cons (v_ 4) (d_cons (join_ ⟨rfl, rfl, rfl, rfl, rfl⟩ d_str (d_cons (add_ ⟨rfl, rfl, rfl, rfl, rfl⟩ (add_ ⟨rfl, rfl, rfl, rfl, rfl⟩ (d_sl ⟨rfl, rfl, rfl⟩ (v_ 5) d_noneO (d_someO (v_ 6))) (d_lst (d_cons (v_ 7) d_nil))) (d_sl ⟨rfl, rfl, rfl⟩ (v_ 5) (d_someO (v_ 6)) d_noneO)) d_nil)) (d_cons (join_ ⟨rfl, rfl, rfl, rfl, rfl⟩ d_str (d_cons (add_ ⟨rfl, rfl, rfl, rfl, rfl⟩ (d_sl ⟨rfl, rfl, rfl⟩ (v_ 5) d_noneO (d_someO (v_ 6))) (d_sl ⟨rfl, rfl, rfl⟩ (v_ 5) (d_someO (add_ ⟨rfl, rfl, rfl, rfl, rfl⟩ (v_ 6) d_int)) d_noneO)) d_nil)) (d_cons (join_ ⟨rfl, rfl, rfl, rfl, rfl⟩ d_str (d_cons (add_ ⟨rfl, rfl, rfl, rfl, rfl⟩ (add_ ⟨rfl, rfl, rfl, rfl, rfl⟩ (d_sl ⟨rfl, rfl, rfl⟩ (v_ 5) d_noneO (d_someO (v_ 6))) (d_lst (d_cons (v_ 7) d_nil))) (d_sl ⟨rfl, rfl, rfl⟩ (v_ 5) (d_someO (add_ ⟨rfl, rfl, rfl, rfl, rfl⟩ (v_ 6) d_int)) d_noneO)) d_nil)) (d_cons (add_ ⟨rfl, rfl, rfl, rfl, rfl⟩ (v_ 4) d_str) (d_cons (add_ ⟨rfl, rfl, rfl, rfl, rfl⟩ d_str (v_ 4)) (d_cons (add_ ⟨rfl, rfl, rfl, rfl, rfl⟩ (v_ 4) (call_ h__law_one ⟨rfl, rfl, rfl, rfl, rfl⟩ tk hr (by decide) (d_cons (v_ 1) (d_cons (d_lst (d_cons d_str (d_cons d_str d_nil))) d_nil)))) (d_cons (join_ ⟨rfl, rfl, rfl, rfl, rfl⟩ d_str (d_cons (add_ ⟨rfl, rfl, rfl, rfl, rfl⟩ (mul_ ⟨rfl, rfl, rfl, rfl, rfl⟩ (d_lst (d_cons d_str (d_cons d_str d_nil))) (add_ ⟨rfl, rfl, rfl, rfl, rfl⟩ d_int (call_ h__law_draw ⟨rfl, rfl, rfl, rfl, rfl⟩ tk hr (by decide) (d_cons (v_ 1) (d_cons d_int d_nil))))) (d_lst (d_cons d_str d_nil))) d_nil)) (d_cons (join_ ⟨rfl, rfl, rfl, rfl, rfl⟩ d_str (d_cons (mul_ ⟨rfl, rfl, rfl, rfl, rfl⟩ (d_lst (d_cons d_str d_nil)) (add_ ⟨rfl, rfl, rfl, rfl, rfl⟩ d_int (call_ h__law_draw ⟨rfl, rfl, rfl, rfl, rfl⟩ tk hr (by decide) (d_cons (v_ 1) (d_cons d_int d_nil))))) d_nil)) (d_cons d_str d_nil))))))))))) (d_nameG (i := 8) sc_law.nd rfl (by first | exact Or.inl rfl | exact Or.inr rfl)))
 (d_seq (d_for hp rfl (d_walk ⟨rfl, rfl, rfl⟩ (v_ 8)) (d_nameG (i := 9) sc_law.nd rfl (by first | exact Or.inl rfl | exact Or.inr rfl)) (d_last (d_ifS (d_not (d_tval (call_ h__law_same ⟨rfl, rfl, rfl, rfl, rfl⟩ tk hr (by decide) (d_cons (d_lam ltry ⟨rfl, rfl, rfl, rfl, rfl⟩ lt rfl hcd hr (k := 49) (by decide) (by show LamX.lamSB (defScope s_law) _ = true; decide +kernel) (by rfl) (fun _ _ _ _ _ => by rfl) (fun A outer s H E f0 c0 hr tk => (fld_ 6 ⟨rfl, rfl, rfl, rfl, rfl⟩ hG at_tree (d_cm cm_Condition_read ⟨rfl, rfl, rfl, rfl, rfl⟩ tk rfl hr (by decide) (d_cons (v_ 9) d_nil))))) (d_cons (call_ h__law_due ⟨rfl, rfl, rfl, rfl, rfl⟩ tk hr (by decide) (d_cons (v_ 9) d_nil)) d_nil))))) (d_last (d_ret d_bl)) d_end)))
 (d_seq (d_asg (call_ h__law_one ⟨rfl, rfl, rfl, rfl, rfl⟩ tk hr (by decide) (d_cons (v_ 1) (d_cons (d_lst (d_cons d_non (d_cons d_int (d_cons d_bl (d_cons (d_tup (d_cons d_str d_nil)) (d_cons (d_lst (d_cons d_str d_nil)) (d_cons d_int d_nil))))))) d_nil))) (d_nameG (i := 10) sc_law.nd rfl (by first | exact Or.inl rfl | exact Or.inr rfl)))
 (d_seq (d_ifS (d_not (d_tval (call_ h__law_same ⟨rfl, rfl, rfl, rfl, rfl⟩ tk hr (by decide) (d_cons (d_lam ltry ⟨rfl, rfl, rfl, rfl, rfl⟩ lt rfl hcd hr (k := 49) (by decide) (by show LamX.lamSB (defScope s_law) _ = true; decide +kernel) (by rfl) (fun _ _ _ _ _ => by rfl) (fun A outer s H E f0 c0 hr tk => (fld_ 6 ⟨rfl, rfl, rfl, rfl, rfl⟩ hG at_tree (d_cm cm_Condition_read ⟨rfl, rfl, rfl, rfl, rfl⟩ tk rfl hr (by decide) (d_cons (v_ 10) d_nil))))) (d_cons (d_tup (d_cons d_str (d_cons d_int d_nil))) d_nil))))) (d_last (d_ret d_bl)) d_end)
 (d_last (d_ifS (t_is (call_ h__law_fault ⟨rfl, rfl, rfl, rfl, rfl⟩ tk hr (by decide) (d_cons (v_ 3) d_nil)) d_non) (d_seq (d_asg (make_ mk_Condition ⟨rfl, rfl, rfl, rfl, rfl⟩ tk hr (by decide) (d_cons (v_ 3) d_nil)) (d_nameG (i := 11) sc_law.nd rfl (by first | exact Or.inl rfl | exact Or.inr rfl)))
 (d_last (d_ifS (d_wt (d_wor (d_not (d_tval (call_ h__law_same ⟨rfl, rfl, rfl, rfl, rfl⟩ tk hr (by decide) (d_cons (str_ ⟨rfl, rfl, rfl, rfl, rfl⟩ hr (by decide) nb_str sto (d_cons (v_ 11) d_nil)) (d_cons (v_ 4) d_nil))))) (d_wor1 (t_neO ⟨rfl, rfl, rfl, rfl, rfl⟩ hr (by decide) eqc (d_cm cm_Condition_read ⟨rfl, rfl, rfl, rfl, rfl⟩ tk rfl hr (by decide) (d_cons (str_ ⟨rfl, rfl, rfl, rfl, rfl⟩ hr (by decide) nb_str sto (d_cons (v_ 11) d_nil)) d_nil)) (v_ 11))))) (d_last (d_ret d_bl)) d_end))) d_end))))))))))))
 (d_last (d_ret d_bl))))

end
abbrev s_InvalidCondition___init__ : Stmt := inCls (top 2) 0
abbrev s_InvalidTerm___init__ : Stmt := inCls (top 3) 0
abbrev s_InvalidText___init__ : Stmt := inCls (top 5) 0
abbrev s_TooLarge___init__ : Stmt := inCls (top 4) 0
abbrev s__law_field : Stmt := top 30
abbrev s__law_try : Stmt := top 31
def dd__law_bag : DefG := ⟨fun K => He.ga K "_law_bag", ⟨("_law_bag", none), "_law_bag", "_law_bag", defArgs s__law_bag, defBody s__law_bag, defScope s__law_bag, [], []⟩⟩
def dd__law_draw : DefG := ⟨fun K => He.ga K "_law_draw", ⟨("_law_draw", none), "_law_draw", "_law_draw", defArgs s__law_draw, defBody s__law_draw, defScope s__law_draw, [], []⟩⟩
def dd__law_one : DefG := ⟨fun K => He.ga K "_law_one", ⟨("_law_one", none), "_law_one", "_law_one", defArgs s__law_one, defBody s__law_one, defScope s__law_one, [], []⟩⟩
def dd__law_tree : DefG := ⟨fun K => He.ga K "_law_tree", ⟨("_law_tree", none), "_law_tree", "_law_tree", defArgs s__law_tree, defBody s__law_tree, defScope s__law_tree, [], []⟩⟩
def dd__law_wide : DefG := ⟨fun K => He.ga K "_law_wide", ⟨("_law_wide", none), "_law_wide", "_law_wide", defArgs s__law_wide, defBody s__law_wide, defScope s__law_wide, [], []⟩⟩
def dd__law_said : DefG := ⟨fun K => He.ga K "_law_said", ⟨("_law_said", none), "_law_said", "_law_said", defArgs s__law_said, defBody s__law_said, defScope s__law_said, [], []⟩⟩
def dd__law_same : DefG := ⟨fun K => He.ga K "_law_same", ⟨("_law_same", none), "_law_same", "_law_same", defArgs s__law_same, defBody s__law_same, defScope s__law_same, [], []⟩⟩
def dd_is_name : DefG := ⟨fun K => He.ga K "is_name", ⟨("is_name", none), "is_name", "is_name", defArgs s_is_name, defBody s_is_name, defScope s_is_name, [], []⟩⟩
def dd__law_walk : DefG := ⟨fun K => He.ga K "_law_walk", ⟨("_law_walk", none), "_law_walk", "_law_walk", defArgs s__law_walk, defBody s__law_walk, defScope s__law_walk, [], []⟩⟩
def dd__law_fault : DefG := ⟨fun K => He.ga K "_law_fault", ⟨("_law_fault", none), "_law_fault", "_law_fault", defArgs s__law_fault, defBody s__law_fault, defScope s__law_fault, [], []⟩⟩
def dd_is_part : DefG := ⟨fun K => He.ga K "is_part", ⟨("is_part", none), "is_part", "is_part", defArgs s_is_part, defBody s_is_part, defScope s_is_part, [], []⟩⟩
def dd_checked : DefG := ⟨fun K => He.ga K "checked", ⟨("checked", none), "checked", "checked", defArgs s_checked, defBody s_checked, defScope s_checked, [], []⟩⟩
def dd_Condition___init__ : DefG := ⟨fun K => He.ma K (He.ga K "Condition") "__init__", ⟨("Condition", some "__init__"), "__init__", "Condition.__init__", defArgs s_Condition___init__, defBody s_Condition___init__, defScope s_Condition___init__, [], []⟩⟩
def dd_Condition___eq__ : DefG := ⟨fun K => He.ma K (He.ga K "Condition") "__eq__", ⟨("Condition", some "__eq__"), "__eq__", "Condition.__eq__", defArgs s_Condition___eq__, defBody s_Condition___eq__, defScope s_Condition___eq__, [], []⟩⟩
def dd__law_read : DefG := ⟨fun K => He.ga K "_law_read", ⟨("_law_read", none), "_law_read", "_law_read", defArgs s__law_read, defBody s__law_read, defScope s__law_read, [], []⟩⟩
def dd__law_due : DefG := ⟨fun K => He.ga K "_law_due", ⟨("_law_due", none), "_law_due", "_law_due", defArgs s__law_due, defBody s__law_due, defScope s__law_due, [], []⟩⟩
def dd_tree_of : DefG := ⟨fun K => He.ga K "tree_of", ⟨("tree_of", none), "tree_of", "tree_of", defArgs s_tree_of, defBody s_tree_of, defScope s_tree_of, [], []⟩⟩
def dd_whole_tree : DefG := ⟨fun K => He.ga K "whole_tree", ⟨("whole_tree", none), "whole_tree", "whole_tree", defArgs s_whole_tree, defBody s_whole_tree, defScope s_whole_tree, [], []⟩⟩
def dd_Condition_read : DefG := ⟨fun K => cmAt K "Condition" "read", ⟨("Condition", some "read"), "read", "Condition.read", defArgs s_Condition_read, defBody s_Condition_read, defScope s_Condition_read, [], []⟩⟩
def dd_words_of : DefG := ⟨fun K => He.ga K "words_of", ⟨("words_of", none), "words_of", "words_of", defArgs s_words_of, defBody s_words_of, defScope s_words_of, [], []⟩⟩
def dd_Condition___str__ : DefG := ⟨fun K => He.ma K (He.ga K "Condition") "__str__", ⟨("Condition", some "__str__"), "__str__", "Condition.__str__", defArgs s_Condition___str__, defBody s_Condition___str__, defScope s_Condition___str__, [], []⟩⟩
def dd_law : DefG := ⟨fun K => He.ga K "law", ⟨("law", none), "law", "law", defArgs s_law, defBody s_law, defScope s_law, [], []⟩⟩
def dd_InvalidCondition___init__ : DefG := ⟨fun K => He.ma K (He.ga K "InvalidCondition") "__init__", ⟨("InvalidCondition", some "__init__"), "__init__", "InvalidCondition.__init__", defArgs s_InvalidCondition___init__, defBody s_InvalidCondition___init__, defScope s_InvalidCondition___init__, [], []⟩⟩
def dd_InvalidTerm___init__ : DefG := ⟨fun K => He.ma K (He.ga K "InvalidTerm") "__init__", ⟨("InvalidTerm", some "__init__"), "__init__", "InvalidTerm.__init__", defArgs s_InvalidTerm___init__, defBody s_InvalidTerm___init__, defScope s_InvalidTerm___init__, [], []⟩⟩
def dd_InvalidText___init__ : DefG := ⟨fun K => He.ma K (He.ga K "InvalidText") "__init__", ⟨("InvalidText", some "__init__"), "__init__", "InvalidText.__init__", defArgs s_InvalidText___init__, defBody s_InvalidText___init__, defScope s_InvalidText___init__, [], []⟩⟩
def dd_TooLarge___init__ : DefG := ⟨fun K => He.ma K (He.ga K "TooLarge") "__init__", ⟨("TooLarge", some "__init__"), "__init__", "TooLarge.__init__", defArgs s_TooLarge___init__, defBody s_TooLarge___init__, defScope s_TooLarge___init__, [], []⟩⟩
def dd__law_field : DefG := ⟨fun K => He.ga K "_law_field", ⟨("_law_field", none), "_law_field", "_law_field", defArgs s__law_field, defBody s__law_field, defScope s__law_field, [], []⟩⟩
def dd__law_try : DefG := ⟨fun K => He.ga K "_law_try", ⟨("_law_try", none), "_law_try", "_law_try", defArgs s__law_try, defBody s__law_try, defScope s__law_try, [], []⟩⟩
def fns : List DefG := [dd__law_bag, dd__law_draw, dd__law_one, dd__law_tree, dd__law_wide, dd__law_said, dd__law_same, dd_is_name, dd__law_walk, dd__law_fault, dd_is_part, dd_checked, dd_Condition___init__, dd_Condition___eq__, dd__law_read, dd__law_due, dd_tree_of, dd_whole_tree, dd_Condition_read, dd_words_of, dd_Condition___str__, dd_law, dd_InvalidCondition___init__, dd_InvalidTerm___init__, dd_InvalidText___init__, dd_TooLarge___init__, dd__law_field, dd__law_try]
theorem fx_InvalidCondition : ∀ ok : Str → Bool, ok "code" = true → ok "part" = true → ∀ v : V, xget ok "code" [("part", v), ("code", .str "InvalidCondition")] = some (.str "InvalidCondition") ∧ fieldX ok [("part", v), ("code", .str "InvalidCondition")] = some (some v) := by
  intro ok h1 h2 v
  have a1 : xget ok "code" [("part", v), ("code", .str "InvalidCondition")] = some (.str "InvalidCondition") := by unfold xget; rw [if_pos h1]; rfl
  have a2 : xget ok "part" [("part", v), ("code", .str "InvalidCondition")] = some v := by unfold xget; rw [if_pos h2]; rfl
  refine ⟨a1, ?_⟩
  simp only [fieldX, xseq, xif, xin, xeq, xret, xifE, xnop, a1, a2]
  rfl
theorem fx_InvalidTerm : ∀ ok : Str → Bool, ok "code" = true → ok "given" = true → ∀ v : V, xget ok "code" [("given", v), ("code", .str "InvalidTerm")] = some (.str "InvalidTerm") ∧ fieldX ok [("given", v), ("code", .str "InvalidTerm")] = some (some v) := by
  intro ok h1 h2 v
  have a1 : xget ok "code" [("given", v), ("code", .str "InvalidTerm")] = some (.str "InvalidTerm") := by unfold xget; rw [if_pos h1]; rfl
  have a2 : xget ok "given" [("given", v), ("code", .str "InvalidTerm")] = some v := by unfold xget; rw [if_pos h2]; rfl
  refine ⟨a1, ?_⟩
  simp only [fieldX, xseq, xif, xin, xeq, xret, xifE, xnop, a1, a2]
  rfl
theorem fx_InvalidText : ∀ ok : Str → Bool, ok "code" = true → ok "line" = true → ∀ v : V, xget ok "code" [("line", v), ("code", .str "InvalidText")] = some (.str "InvalidText") ∧ fieldX ok [("line", v), ("code", .str "InvalidText")] = some (some v) := by
  intro ok h1 h2 v
  have a1 : xget ok "code" [("line", v), ("code", .str "InvalidText")] = some (.str "InvalidText") := by unfold xget; rw [if_pos h1]; rfl
  have a2 : xget ok "line" [("line", v), ("code", .str "InvalidText")] = some v := by unfold xget; rw [if_pos h2]; rfl
  refine ⟨a1, ?_⟩
  simp only [fieldX, xseq, xif, xin, xeq, xret, xifE, xnop, a1, a2]
  rfl
theorem fx_TooLarge : ∀ ok : Str → Bool, ok "code" = true → ok "most" = true → ∀ v : V, xget ok "code" [("most", v), ("code", .str "TooLarge")] = some (.str "TooLarge") ∧ fieldX ok [("most", v), ("code", .str "TooLarge")] = some (some v) := by
  intro ok h1 h2 v
  have a1 : xget ok "code" [("most", v), ("code", .str "TooLarge")] = some (.str "TooLarge") := by unfold xget; rw [if_pos h1]; rfl
  have a2 : xget ok "most" [("most", v), ("code", .str "TooLarge")] = some v := by unfold xget; rw [if_pos h2]; rfl
  refine ⟨a1, ?_⟩
  simp only [fieldX, xseq, xif, xin, xeq, xret, xifE, xnop, a1, a2]
  rfl
def frees : List Str := (["abs", "all", "bool", "int", "isinstance", "len", "list", "range", "str", "tuple", "zip"] : List Str)
def globs : List Str := (["_law_bag", "_law_draw", "_law_one", "_law_tree", "_law_wide", "_law_said", "_law_same", "is_name", "_law_walk", "_law_fault", "is_part", "checked", "_law_read", "_law_due", "tree_of", "whole_tree", "words_of", "law", "_law_field", "_law_try", "SchemeError", "UnknownName", "NothingLeft"] : List Str)
def ck (K : Frag) : Bool := frees.all (freeB K) && (globs.all (gloB K) && (glB K "LETTERS" c_LETTERS && (glB K "MOST_DEPTH" c_MOST_DEPTH && (glB K "MOST_PARTS" c_MOST_PARTS && (glB K "MOST_WORDS" c_MOST_WORDS && (glB K "PAIRS" c_PAIRS && (glB K "SIMPLE" c_SIMPLE && (glB K "WORDS" c_WORDS && (fldB K "parts" ["Condition"] && (fldB K "tree" ["Condition"] && (eqB K "Condition" ["Condition"] && (strB K "Condition" && (mkB K "Condition" && (cmB K "Condition" "read" && (xclB K "InvalidCondition" "part" && (xclB K "InvalidTerm" "given" && (xclB K "InvalidText" "line" && (xclB K "TooLarge" "most" && (isiB K "Condition" ["Condition"] [] && (true))))))))))))))))))))
abbrev R : PySem.W.OpenRow := PySem.W.OpenLaw.row PySem.Challenge.rw_livingends_k07_texts_of_conditions
abbrev tf : List (He.Defn × Str) := [(("law", none), ("law" : Str) ++ ".<locals>." ++ "<lambda>")]
abbrev tfs : List He.Defn := [("law", none)]
abbrev hk : PySem.W.Hook := hookT ck fns tfs
def ob (s : PySem.W.SharedT) : He.AlD × Bool := obsTG ck fns tfs (HandSHeadRun.getT s)
theorem ob_eq (s : PySem.W.SharedT) : ob s = hk.obs s.abs := obsTG_eq (HandSHeadRun.getT_eq s)
def loose : List PySem.Str := (["SchemeError", "InvalidCondition", "InvalidTerm", "TooLarge", "InvalidText", "UnknownName", "NothingLeft", "LETTERS", "WORDS", "is_name", "MOST_PARTS", "MOST_DEPTH", "MOST_WORDS", "SIMPLE", "PAIRS", "is_part", "checked", "holds", "words_of", "tree_of", "whole_tree", "Condition", "_law_bag", "_law_draw", "_law_one"] : List PySem.Str) ++ (["_law_same", "_law_field", "_law_try", "_law_tree", "_law_said", "_law_wide", "_law_fault", "_law_walk", "_law_read", "_law_due"] : List PySem.Str)
theorem run (w : World) : HandSHeadRun.RunEq R (PySem.W.view R.prog [39]) hk ob 20000 loose w := by
  intro os
  kernel_rfl
abbrev Gc (K : Frag) (P : Program) (w : World) : PCfg := { K := K, P := P, w := w, cls := fun n => match n with | 0 => He.ga K "Condition" | 1 => He.ga K "TooLarge" | 2 => He.ga K "InvalidCondition" | 3 => He.ga K "InvalidText" | 4 => He.ga K "InvalidTerm" | _ => 0, fld := flds, nd := by decide, tabs := tf.map fun q => ((He.cT K q.1).2, q.2) }
theorem facts {P : Program} {w : World} {K : Frag} {h : Heap} {mg : Str → Option Value} {f : Addr} (X : K.In h) (N : h.Ns mainGlobals mg) (hfa : mg ("law" : Str) = some (.ref f)) (c : SaysC ck fns K) :
    ∃ fd : FuncData, (∀ (s : Shared) (v : Value), BindsTo s fd ⟨[v], []⟩ [("script", v)]) ∧ ∀ base : Heap, K.In base → base.Ns mainGlobals mg → (∀ p ∈ tf.map (fun q => He.cT K q.1), TabB base mg p.1 p.2) → FnOk P w K mg base (L2.CX P w) 52 f fd ["script"] (spI (Gc K P w) 1 sem_law) := by
  have e1 := He.ba c.ck
  have e2 := He.ba e1.2
  have nb_abs : mg "abs" = none := free_ok X N (all_mem e1.1 0)
  have nb_all : mg "all" = none := free_ok X N (all_mem e1.1 1)
  have nb_bool : mg "bool" = none := free_ok X N (all_mem e1.1 2)
  have nb_int : mg "int" = none := free_ok X N (all_mem e1.1 3)
  have nb_isinstance : mg "isinstance" = none := free_ok X N (all_mem e1.1 4)
  have nb_len : mg "len" = none := free_ok X N (all_mem e1.1 5)
  have nb_list : mg "list" = none := free_ok X N (all_mem e1.1 6)
  have nb_range : mg "range" = none := free_ok X N (all_mem e1.1 7)
  have nb_str : mg "str" = none := free_ok X N (all_mem e1.1 8)
  have nb_tuple : mg "tuple" = none := free_ok X N (all_mem e1.1 9)
  have nb_zip : mg "zip" = none := free_ok X N (all_mem e1.1 10)
  have at__law_bag : mg "_law_bag" = some (.ref (He.ga K "_law_bag")) := glo_ok X N (all_mem e2.1 0)
  have at__law_draw : mg "_law_draw" = some (.ref (He.ga K "_law_draw")) := glo_ok X N (all_mem e2.1 1)
  have at__law_one : mg "_law_one" = some (.ref (He.ga K "_law_one")) := glo_ok X N (all_mem e2.1 2)
  have at__law_tree : mg "_law_tree" = some (.ref (He.ga K "_law_tree")) := glo_ok X N (all_mem e2.1 3)
  have at__law_wide : mg "_law_wide" = some (.ref (He.ga K "_law_wide")) := glo_ok X N (all_mem e2.1 4)
  have at__law_said : mg "_law_said" = some (.ref (He.ga K "_law_said")) := glo_ok X N (all_mem e2.1 5)
  have at__law_same : mg "_law_same" = some (.ref (He.ga K "_law_same")) := glo_ok X N (all_mem e2.1 6)
  have at_is_name : mg "is_name" = some (.ref (He.ga K "is_name")) := glo_ok X N (all_mem e2.1 7)
  have at__law_walk : mg "_law_walk" = some (.ref (He.ga K "_law_walk")) := glo_ok X N (all_mem e2.1 8)
  have at__law_fault : mg "_law_fault" = some (.ref (He.ga K "_law_fault")) := glo_ok X N (all_mem e2.1 9)
  have at_is_part : mg "is_part" = some (.ref (He.ga K "is_part")) := glo_ok X N (all_mem e2.1 10)
  have at_checked : mg "checked" = some (.ref (He.ga K "checked")) := glo_ok X N (all_mem e2.1 11)
  have at__law_read : mg "_law_read" = some (.ref (He.ga K "_law_read")) := glo_ok X N (all_mem e2.1 12)
  have at__law_due : mg "_law_due" = some (.ref (He.ga K "_law_due")) := glo_ok X N (all_mem e2.1 13)
  have at_tree_of : mg "tree_of" = some (.ref (He.ga K "tree_of")) := glo_ok X N (all_mem e2.1 14)
  have at_whole_tree : mg "whole_tree" = some (.ref (He.ga K "whole_tree")) := glo_ok X N (all_mem e2.1 15)
  have at_words_of : mg "words_of" = some (.ref (He.ga K "words_of")) := glo_ok X N (all_mem e2.1 16)
  have at_law : mg "law" = some (.ref (He.ga K "law")) := glo_ok X N (all_mem e2.1 17)
  have at__law_field : mg "_law_field" = some (.ref (He.ga K "_law_field")) := glo_ok X N (all_mem e2.1 18)
  have at__law_try : mg "_law_try" = some (.ref (He.ga K "_law_try")) := glo_ok X N (all_mem e2.1 19)
  have at_SchemeError : mg "SchemeError" = some (.ref (He.ga K "SchemeError")) := glo_ok X N (all_mem e2.1 20)
  have at_UnknownName : mg "UnknownName" = some (.ref (He.ga K "UnknownName")) := glo_ok X N (all_mem e2.1 21)
  have at_NothingLeft : mg "NothingLeft" = some (.ref (He.ga K "NothingLeft")) := glo_ok X N (all_mem e2.1 22)
  have e3 := He.ba e2.2
  have gl_LETTERS : GloC (Gc K P w) mg "LETTERS" c_LETTERS := gl_ok X N e3.1
  have e4 := He.ba e3.2
  have gl_MOST_DEPTH : GloC (Gc K P w) mg "MOST_DEPTH" c_MOST_DEPTH := gl_ok X N e4.1
  have e5 := He.ba e4.2
  have gl_MOST_PARTS : GloC (Gc K P w) mg "MOST_PARTS" c_MOST_PARTS := gl_ok X N e5.1
  have e6 := He.ba e5.2
  have gl_MOST_WORDS : GloC (Gc K P w) mg "MOST_WORDS" c_MOST_WORDS := gl_ok X N e6.1
  have e7 := He.ba e6.2
  have gl_PAIRS : GloC (Gc K P w) mg "PAIRS" c_PAIRS := gl_ok X N e7.1
  have e8 := He.ba e7.2
  have gl_SIMPLE : GloC (Gc K P w) mg "SIMPLE" c_SIMPLE := gl_ok X N e8.1
  have e9 := He.ba e8.2
  have gl_WORDS : GloC (Gc K P w) mg "WORDS" c_WORDS := gl_ok X N e9.1
  have e10 := He.ba e9.2
  have at_parts : ∀ c ∈ [0], ClsA (Gc K P w) c "parts" := fldB_ok (G := Gc K P w) e10.1 [0] rfl
  have e11 := He.ba e10.2
  have at_tree : ∀ c ∈ [0], ClsA (Gc K P w) c "tree" := fldB_ok (G := Gc K P w) e11.1 [0] rfl
  have e12 := He.ba e11.2
  have ceq_Condition := e12.1
  have e13 := He.ba e12.2
  have cst_Condition := e13.1
  have e14 := He.ba e13.2
  have cmk_Condition := e14.1
  have e15 := He.ba e14.2
  have ccm_Condition_read := e15.1
  have e16 := He.ba e15.2
  have xc_InvalidCondition := xclB_ok e16.1
  have e17 := He.ba e16.2
  have xc_InvalidTerm := xclB_ok e17.1
  have e18 := He.ba e17.2
  have xc_InvalidText := xclB_ok e18.1
  have e19 := He.ba e18.2
  have xc_TooLarge := xclB_ok e19.1
  have e20 := He.ba e19.2
  have ic_Condition : IsiC (Gc K P w) mg "Condition" [0] [] := isiB_ok (G := Gc K P w) X N e20.1 rfl rfl
  have hG : (Gc K P w).fld = flds := rfl
  obtain ⟨fd__law_bag, F__law_bag⟩ := c.def_ 0 (d := dd__law_bag) rfl
  replace F__law_bag : FunD K "_law_bag" "_law_bag" (defArgs s__law_bag) (defBody s__law_bag) (defScope s__law_bag) [] [] (He.ga K "_law_bag") fd__law_bag := F__law_bag
  have b__law_bag : Binds K fd__law_bag ["script"] [] := F__law_bag.bindsN fun _ _ _ _ _ _ us hl => match us, hl with | [_], _ => rfl
  obtain ⟨fd__law_draw, F__law_draw⟩ := c.def_ 1 (d := dd__law_draw) rfl
  replace F__law_draw : FunD K "_law_draw" "_law_draw" (defArgs s__law_draw) (defBody s__law_draw) (defScope s__law_draw) [] [] (He.ga K "_law_draw") fd__law_draw := F__law_draw
  have b__law_draw : Binds K fd__law_draw ["bag", "many"] [] := F__law_draw.bindsN fun _ _ _ _ _ _ us hl => match us, hl with | [_, _], _ => rfl
  obtain ⟨fd__law_one, F__law_one⟩ := c.def_ 2 (d := dd__law_one) rfl
  replace F__law_one : FunD K "_law_one" "_law_one" (defArgs s__law_one) (defBody s__law_one) (defScope s__law_one) [] [] (He.ga K "_law_one") fd__law_one := F__law_one
  have b__law_one : Binds K fd__law_one ["bag", "things"] [] := F__law_one.bindsN fun _ _ _ _ _ _ us hl => match us, hl with | [_, _], _ => rfl
  obtain ⟨fd__law_tree, F__law_tree⟩ := c.def_ 3 (d := dd__law_tree) rfl
  replace F__law_tree : FunD K "_law_tree" "_law_tree" (defArgs s__law_tree) (defBody s__law_tree) (defScope s__law_tree) [] [] (He.ga K "_law_tree") fd__law_tree := F__law_tree
  have b__law_tree : Binds K fd__law_tree ["bag", "marks", "deep"] [] := F__law_tree.bindsN fun _ _ _ _ _ _ us hl => match us, hl with | [_, _, _], _ => rfl
  obtain ⟨fd__law_wide, F__law_wide⟩ := c.def_ 4 (d := dd__law_wide) rfl
  replace F__law_wide : FunD K "_law_wide" "_law_wide" (defArgs s__law_wide) (defBody s__law_wide) (defScope s__law_wide) [] [] (He.ga K "_law_wide") fd__law_wide := F__law_wide
  have b__law_wide : Binds K fd__law_wide ["bag", "marks", "many"] [] := F__law_wide.bindsN fun _ _ _ _ _ _ us hl => match us, hl with | [_, _, _], _ => rfl
  obtain ⟨fd__law_said, F__law_said⟩ := c.def_ 5 (d := dd__law_said) rfl
  replace F__law_said : FunD K "_law_said" "_law_said" (defArgs s__law_said) (defBody s__law_said) (defScope s__law_said) [] [] (He.ga K "_law_said") fd__law_said := F__law_said
  have b__law_said : Binds K fd__law_said ["tree"] [] := F__law_said.bindsN fun _ _ _ _ _ _ us hl => match us, hl with | [_], _ => rfl
  obtain ⟨fd__law_same, F__law_same⟩ := c.def_ 6 (d := dd__law_same) rfl
  replace F__law_same : FunD K "_law_same" "_law_same" (defArgs s__law_same) (defBody s__law_same) (defScope s__law_same) [] [] (He.ga K "_law_same") fd__law_same := F__law_same
  have b__law_same : Binds K fd__law_same ["found", "due"] [] := F__law_same.bindsN fun _ _ _ _ _ _ us hl => match us, hl with | [_, _], _ => rfl
  obtain ⟨fd_is_name, F_is_name⟩ := c.def_ 7 (d := dd_is_name) rfl
  replace F_is_name : FunD K "is_name" "is_name" (defArgs s_is_name) (defBody s_is_name) (defScope s_is_name) [] [] (He.ga K "is_name") fd_is_name := F_is_name
  have b_is_name : Binds K fd_is_name ["value"] [] := F_is_name.bindsN fun _ _ _ _ _ _ us hl => match us, hl with | [_], _ => rfl
  obtain ⟨fd__law_walk, F__law_walk⟩ := c.def_ 8 (d := dd__law_walk) rfl
  replace F__law_walk : FunD K "_law_walk" "_law_walk" (defArgs s__law_walk) (defBody s__law_walk) (defScope s__law_walk) [] [] (He.ga K "_law_walk") fd__law_walk := F__law_walk
  have b__law_walk : Binds K fd__law_walk ["part", "deep", "count"] [] := F__law_walk.bindsN fun _ _ _ _ _ _ us hl => match us, hl with | [_, _, _], _ => rfl
  obtain ⟨fd__law_fault, F__law_fault⟩ := c.def_ 9 (d := dd__law_fault) rfl
  replace F__law_fault : FunD K "_law_fault" "_law_fault" (defArgs s__law_fault) (defBody s__law_fault) (defScope s__law_fault) [] [] (He.ga K "_law_fault") fd__law_fault := F__law_fault
  have b__law_fault : Binds K fd__law_fault ["tree"] [] := F__law_fault.bindsN fun _ _ _ _ _ _ us hl => match us, hl with | [_], _ => rfl
  obtain ⟨fd_is_part, F_is_part⟩ := c.def_ 10 (d := dd_is_part) rfl
  replace F_is_part : FunD K "is_part" "is_part" (defArgs s_is_part) (defBody s_is_part) (defScope s_is_part) [] [] (He.ga K "is_part") fd_is_part := F_is_part
  have b_is_part : Binds K fd_is_part ["part"] [] := F_is_part.bindsN fun _ _ _ _ _ _ us hl => match us, hl with | [_], _ => rfl
  obtain ⟨fd_checked, F_checked⟩ := c.def_ 11 (d := dd_checked) rfl
  replace F_checked : FunD K "checked" "checked" (defArgs s_checked) (defBody s_checked) (defScope s_checked) [] [] (He.ga K "checked") fd_checked := F_checked
  have b_checked : Binds K fd_checked ["tree", "depth", "count"] [] := F_checked.bindsN fun _ _ _ _ _ _ us hl => match us, hl with | [_, _, _], _ => rfl
  obtain ⟨fd_Condition___init__, F_Condition___init__⟩ := c.def_ 12 (d := dd_Condition___init__) rfl
  replace F_Condition___init__ : FunD K "__init__" "Condition.__init__" (defArgs s_Condition___init__) (defBody s_Condition___init__) (defScope s_Condition___init__) [] [] (He.ma K (He.ga K "Condition") "__init__") fd_Condition___init__ := F_Condition___init__
  have b_Condition___init__ : Binds K fd_Condition___init__ ["self", "tree"] [] := F_Condition___init__.bindsN fun _ _ _ _ _ _ us hl => match us, hl with | [_, _], _ => rfl
  obtain ⟨fd_Condition___eq__, F_Condition___eq__⟩ := c.def_ 13 (d := dd_Condition___eq__) rfl
  replace F_Condition___eq__ : FunD K "__eq__" "Condition.__eq__" (defArgs s_Condition___eq__) (defBody s_Condition___eq__) (defScope s_Condition___eq__) [] [] (He.ma K (He.ga K "Condition") "__eq__") fd_Condition___eq__ := F_Condition___eq__
  have b_Condition___eq__ : Binds K fd_Condition___eq__ ["self", "other"] [] := F_Condition___eq__.bindsN fun _ _ _ _ _ _ us hl => match us, hl with | [_, _], _ => rfl
  obtain ⟨fd__law_read, F__law_read⟩ := c.def_ 14 (d := dd__law_read) rfl
  replace F__law_read : FunD K "_law_read" "_law_read" (defArgs s__law_read) (defBody s__law_read) (defScope s__law_read) [] [] (He.ga K "_law_read") fd__law_read := F__law_read
  have b__law_read : Binds K fd__law_read ["words", "at"] [] := F__law_read.bindsN fun _ _ _ _ _ _ us hl => match us, hl with | [_, _], _ => rfl
  obtain ⟨fd__law_due, F__law_due⟩ := c.def_ 15 (d := dd__law_due) rfl
  replace F__law_due : FunD K "_law_due" "_law_due" (defArgs s__law_due) (defBody s__law_due) (defScope s__law_due) [] [] (He.ga K "_law_due") fd__law_due := F__law_due
  have b__law_due : Binds K fd__law_due ["text"] [] := F__law_due.bindsN fun _ _ _ _ _ _ us hl => match us, hl with | [_], _ => rfl
  obtain ⟨fd_tree_of, F_tree_of⟩ := c.def_ 16 (d := dd_tree_of) rfl
  replace F_tree_of : FunD K "tree_of" "tree_of" (defArgs s_tree_of) (defBody s_tree_of) (defScope s_tree_of) [] [] (He.ga K "tree_of") fd_tree_of := F_tree_of
  have b_tree_of : Binds K fd_tree_of ["words", "at"] [] := F_tree_of.bindsN fun _ _ _ _ _ _ us hl => match us, hl with | [_, _], _ => rfl
  obtain ⟨fd_whole_tree, F_whole_tree⟩ := c.def_ 17 (d := dd_whole_tree) rfl
  replace F_whole_tree : FunD K "whole_tree" "whole_tree" (defArgs s_whole_tree) (defBody s_whole_tree) (defScope s_whole_tree) [] [] (He.ga K "whole_tree") fd_whole_tree := F_whole_tree
  have b_whole_tree : Binds K fd_whole_tree ["words"] [] := F_whole_tree.bindsN fun _ _ _ _ _ _ us hl => match us, hl with | [_], _ => rfl
  obtain ⟨fd_Condition_read, F_Condition_read⟩ := c.def_ 18 (d := dd_Condition_read) rfl
  replace F_Condition_read : FunD K "read" "Condition.read" (defArgs s_Condition_read) (defBody s_Condition_read) (defScope s_Condition_read) [] [] (cmAt K "Condition" "read") fd_Condition_read := F_Condition_read
  have b_Condition_read : Binds K fd_Condition_read ["cls", "text"] [] := F_Condition_read.bindsN fun _ _ _ _ _ _ us hl => match us, hl with | [_, _], _ => rfl
  obtain ⟨fd_words_of, F_words_of⟩ := c.def_ 19 (d := dd_words_of) rfl
  replace F_words_of : FunD K "words_of" "words_of" (defArgs s_words_of) (defBody s_words_of) (defScope s_words_of) [] [] (He.ga K "words_of") fd_words_of := F_words_of
  have b_words_of : Binds K fd_words_of ["tree"] [] := F_words_of.bindsN fun _ _ _ _ _ _ us hl => match us, hl with | [_], _ => rfl
  obtain ⟨fd_Condition___str__, F_Condition___str__⟩ := c.def_ 20 (d := dd_Condition___str__) rfl
  replace F_Condition___str__ : FunD K "__str__" "Condition.__str__" (defArgs s_Condition___str__) (defBody s_Condition___str__) (defScope s_Condition___str__) [] [] (He.ma K (He.ga K "Condition") "__str__") fd_Condition___str__ := F_Condition___str__
  have b_Condition___str__ : Binds K fd_Condition___str__ ["self"] [] := F_Condition___str__.bindsN fun _ _ _ _ _ _ us hl => match us, hl with | [_], _ => rfl
  obtain ⟨fd_law, F_law⟩ := c.def_ 21 (d := dd_law) rfl
  replace F_law : FunD K "law" "law" (defArgs s_law) (defBody s_law) (defScope s_law) [] [] (He.ga K "law") fd_law := F_law
  have b_law : Binds K fd_law ["script"] [] := F_law.bindsN fun _ _ _ _ _ _ us hl => match us, hl with | [_], _ => rfl
  obtain ⟨fd_InvalidCondition___init__, F_InvalidCondition___init__⟩ := c.def_ 22 (d := dd_InvalidCondition___init__) rfl
  replace F_InvalidCondition___init__ : FunD K "__init__" "InvalidCondition.__init__" (defArgs s_InvalidCondition___init__) (defBody s_InvalidCondition___init__) (defScope s_InvalidCondition___init__) [] [] (He.ma K (He.ga K "InvalidCondition") "__init__") fd_InvalidCondition___init__ := F_InvalidCondition___init__
  have b_InvalidCondition___init__ : Binds K fd_InvalidCondition___init__ ["self", "part"] [] := F_InvalidCondition___init__.bindsN fun _ _ _ _ _ _ us hl => match us, hl with | [_, _], _ => rfl
  obtain ⟨fd_InvalidTerm___init__, F_InvalidTerm___init__⟩ := c.def_ 23 (d := dd_InvalidTerm___init__) rfl
  replace F_InvalidTerm___init__ : FunD K "__init__" "InvalidTerm.__init__" (defArgs s_InvalidTerm___init__) (defBody s_InvalidTerm___init__) (defScope s_InvalidTerm___init__) [] [] (He.ma K (He.ga K "InvalidTerm") "__init__") fd_InvalidTerm___init__ := F_InvalidTerm___init__
  have b_InvalidTerm___init__ : Binds K fd_InvalidTerm___init__ ["self", "given"] [] := F_InvalidTerm___init__.bindsN fun _ _ _ _ _ _ us hl => match us, hl with | [_, _], _ => rfl
  obtain ⟨fd_InvalidText___init__, F_InvalidText___init__⟩ := c.def_ 24 (d := dd_InvalidText___init__) rfl
  replace F_InvalidText___init__ : FunD K "__init__" "InvalidText.__init__" (defArgs s_InvalidText___init__) (defBody s_InvalidText___init__) (defScope s_InvalidText___init__) [] [] (He.ma K (He.ga K "InvalidText") "__init__") fd_InvalidText___init__ := F_InvalidText___init__
  have b_InvalidText___init__ : Binds K fd_InvalidText___init__ ["self", "line"] [] := F_InvalidText___init__.bindsN fun _ _ _ _ _ _ us hl => match us, hl with | [_, _], _ => rfl
  obtain ⟨fd_TooLarge___init__, F_TooLarge___init__⟩ := c.def_ 25 (d := dd_TooLarge___init__) rfl
  replace F_TooLarge___init__ : FunD K "__init__" "TooLarge.__init__" (defArgs s_TooLarge___init__) (defBody s_TooLarge___init__) (defScope s_TooLarge___init__) [] [] (He.ma K (He.ga K "TooLarge") "__init__") fd_TooLarge___init__ := F_TooLarge___init__
  have b_TooLarge___init__ : Binds K fd_TooLarge___init__ ["self", "most"] [] := F_TooLarge___init__.bindsN fun _ _ _ _ _ _ us hl => match us, hl with | [_, _], _ => rfl
  obtain ⟨fd__law_field, F__law_field⟩ := c.def_ 26 (d := dd__law_field) rfl
  replace F__law_field : FunD K "_law_field" "_law_field" (defArgs s__law_field) (defBody s__law_field) (defScope s__law_field) [] [] (He.ga K "_law_field") fd__law_field := F__law_field
  have b__law_field : Binds K fd__law_field ["e"] [] := F__law_field.bindsN fun _ _ _ _ _ _ us hl => match us, hl with | [_], _ => rfl
  obtain ⟨fd__law_try, F__law_try⟩ := c.def_ 27 (d := dd__law_try) rfl
  replace F__law_try : FunD K "_law_try" "_law_try" (defArgs s__law_try) (defBody s__law_try) (defScope s__law_try) [] [] (He.ga K "_law_try") fd__law_try := F__law_try
  have b__law_try : Binds K fd__law_try ["ask"] [] := F__law_try.bindsN fun _ _ _ _ _ _ us hl => match us, hl with | [_], _ => rfl
  have e := hfa.symm.trans at_law
  cases e
  refine ⟨fd_law, fun s v => FunD.bindsA (ps := ["script"]) F_law (fun _ _ _ _ _ _ us hl => match us, hl with | [_], _ => rfl) s [v] rfl, fun base _ _ hTB => ?_⟩
  have ki_InvalidCondition : FnOk P w K mg base (L2.CX P w) 1 (He.ma K (He.ga K "InvalidCondition") "__init__") fd_InvalidCondition___init__ ["self", "part"] (spEx (He.ga K "InvalidCondition") "part" "InvalidCondition") := init2_ok F_InvalidCondition___init__ (⟨rfl, rfl, rfl, by decide +kernel, rfl, by decide +kernel, by decide +kernel⟩ : FnScope ["self", "part"] ["self", "part"] (defScope s_InvalidCondition___init__)) xc_InvalidCondition.oex xc_InvalidCondition.cd xc_InvalidCondition.fo rfl rfl (by decide) (by decide) (fun _ _ => rfl) (fun _ _ => rfl)
  have hx_InvalidCondition : HasX (Gc K P w) mg base "InvalidCondition" 2 4 0 "InvalidCondition" := hasX_of (G := Gc K P w) X N xc_InvalidCondition rfl ki_InvalidCondition b_InvalidCondition___init__ rfl rfl
  have ki_InvalidTerm : FnOk P w K mg base (L2.CX P w) 1 (He.ma K (He.ga K "InvalidTerm") "__init__") fd_InvalidTerm___init__ ["self", "given"] (spEx (He.ga K "InvalidTerm") "given" "InvalidTerm") := init2_ok F_InvalidTerm___init__ (⟨rfl, rfl, rfl, by decide +kernel, rfl, by decide +kernel, by decide +kernel⟩ : FnScope ["self", "given"] ["self", "given"] (defScope s_InvalidTerm___init__)) xc_InvalidTerm.oex xc_InvalidTerm.cd xc_InvalidTerm.fo rfl rfl (by decide) (by decide) (fun _ _ => rfl) (fun _ _ => rfl)
  have hx_InvalidTerm : HasX (Gc K P w) mg base "InvalidTerm" 4 1 0 "InvalidTerm" := hasX_of (G := Gc K P w) X N xc_InvalidTerm rfl ki_InvalidTerm b_InvalidTerm___init__ rfl rfl
  have ki_InvalidText : FnOk P w K mg base (L2.CX P w) 1 (He.ma K (He.ga K "InvalidText") "__init__") fd_InvalidText___init__ ["self", "line"] (spEx (He.ga K "InvalidText") "line" "InvalidText") := init2_ok F_InvalidText___init__ (⟨rfl, rfl, rfl, by decide +kernel, rfl, by decide +kernel, by decide +kernel⟩ : FnScope ["self", "line"] ["self", "line"] (defScope s_InvalidText___init__)) xc_InvalidText.oex xc_InvalidText.cd xc_InvalidText.fo rfl rfl (by decide) (by decide) (fun _ _ => rfl) (fun _ _ => rfl)
  have hx_InvalidText : HasX (Gc K P w) mg base "InvalidText" 3 2 0 "InvalidText" := hasX_of (G := Gc K P w) X N xc_InvalidText rfl ki_InvalidText b_InvalidText___init__ rfl rfl
  have ki_TooLarge : FnOk P w K mg base (L2.CX P w) 1 (He.ma K (He.ga K "TooLarge") "__init__") fd_TooLarge___init__ ["self", "most"] (spEx (He.ga K "TooLarge") "most" "TooLarge") := init2_ok F_TooLarge___init__ (⟨rfl, rfl, rfl, by decide +kernel, rfl, by decide +kernel, by decide +kernel⟩ : FnScope ["self", "most"] ["self", "most"] (defScope s_TooLarge___init__)) xc_TooLarge.oex xc_TooLarge.cd xc_TooLarge.fo rfl rfl (by decide) (by decide) (fun _ _ => rfl) (fun _ _ => rfl)
  have hx_TooLarge : HasX (Gc K P w) mg base "TooLarge" 1 3 0 "TooLarge" := hasX_of (G := Gc K P w) X N xc_TooLarge rfl ki_TooLarge b_TooLarge___init__ rfl rfl
  have fq : FnQ P w K mg base 1 (He.ga K "_law_field") fd__law_field ["e"] (spFld K) := field_fn F__law_field (⟨rfl, rfl, rfl, by decide +kernel, rfl, by decide +kernel, by decide +kernel⟩ : FnScope ["e"] ["e"] (defScope s__law_field)) (fun cdv A ou s H q d C l N => (x_seq (x_if (x_in (x_get N) (.cons isStr_ (.cons isStr_ (.cons isStr_ (.cons isStr_ .nil))))) (x_last (x_ret (x_get N))) x_nop) (x_seq (x_if (x_in (x_get N) (.cons isStr_ (.cons isStr_ (.cons isStr_ .nil)))) (x_last (x_ret (x_get N))) x_nop) (x_seq (x_if (x_in (x_get N) (.cons isStr_ (.cons isStr_ .nil))) (x_last (x_ret (x_get N))) x_nop) (x_seq (x_if (x_in (x_get N) (.cons isStr_ (.cons isStr_ .nil))) (x_last (x_ret (x_get N))) x_nop) (x_seq (x_if (x_in (x_get N) (.cons isStr_ (.cons isStr_ .nil))) (x_last (x_ret (x_get N))) x_nop) (x_seq (x_if (x_eq (x_get N)) (x_last (x_ret x_no)) x_nop) (x_seq (x_if (x_in (x_get N) (.cons isStr_ (.cons isStr_ .nil))) (x_last (x_ret (x_ifE (x_eq (x_get N)) (x_get N) (x_get N)))) x_nop) (x_seq (x_if (x_in (x_get N) (.cons isStr_ (.cons isStr_ .nil))) (x_last (x_ret (x_ifE (x_eq (x_get N)) (x_get N) (x_get N)))) x_nop) (x_seq (x_if (x_in (x_get N) (.cons isStr_ (.cons isStr_ .nil))) (x_last (x_ret (x_ifE (x_eq (x_get N)) (x_get N) (x_get N)))) x_nop) (x_seq (x_if (x_in (x_get N) (.cons isStr_ (.cons isStr_ .nil))) (x_last (x_ret (x_ifE (x_eq (x_get N)) (x_get N) (x_get N)))) x_nop) (x_last (x_ret (x_get N))))))))))))))
  have ltry : TryC (Gc K P w) mg base exl 0 := tryC_mk (G := Gc K P w) rfl (List.forall_mem_cons.mpr ⟨xcOk_of (G := Gc K P w) xc_TooLarge rfl rfl fx_TooLarge, List.forall_mem_cons.mpr ⟨xcOk_of (G := Gc K P w) xc_InvalidCondition rfl rfl fx_InvalidCondition, List.forall_mem_cons.mpr ⟨xcOk_of (G := Gc K P w) xc_InvalidText rfl rfl fx_InvalidText, List.forall_mem_cons.mpr ⟨xcOk_of (G := Gc K P w) xc_InvalidTerm rfl rfl fx_InvalidTerm, fun _ h => (List.not_mem_nil h).elim⟩⟩⟩⟩) at__law_try F__law_try b__law_try ⟨rfl, rfl, rfl, by decide +kernel, rfl, by decide +kernel, by decide +kernel⟩ rfl fq b__law_field F__law_field.kp at__law_field at_SchemeError at_UnknownName at_NothingLeft rfl rfl rfl rfl rfl
  have lt : LamT (Gc K P w) mg base ("law", none) (("law" : Str) ++ ".<locals>.") := ⟨hTB _ (List.mem_map.mpr ⟨_, List.mem_singleton.mpr rfl, rfl⟩), List.mem_map.mpr ⟨_, List.mem_singleton.mpr rfl, rfl⟩, fun p hp _ => by obtain ⟨q, hq, rfl⟩ := List.mem_map.mp hp; rw [List.mem_singleton.mp hq]⟩
  have h__law_bag : Has (Gc K P w) mg base "_law_bag" 1 1 (sem__law_bag) := ⟨He.ga K "_law_bag", fd__law_bag, ["script"], ⟨ok__law_bag (G := Gc K P w) (mg := mg) (base := base) F__law_bag nb_int nb_list, at__law_bag, F__law_bag.kp, b__law_bag⟩⟩
  have h__law_draw : Has (Gc K P w) mg base "_law_draw" 2 1 (sem__law_draw) := ⟨He.ga K "_law_draw", fd__law_draw, ["bag", "many"], ⟨ok__law_draw (G := Gc K P w) (mg := mg) (base := base) F__law_draw nb_abs nb_int nb_len, at__law_draw, F__law_draw.kp, b__law_draw⟩⟩
  have h__law_one : Has (Gc K P w) mg base "_law_one" 2 2 (sem__law_one) := ⟨He.ga K "_law_one", fd__law_one, ["bag", "things"], ⟨ok__law_one (G := Gc K P w) (mg := mg) (base := base) F__law_one h__law_draw nb_len, at__law_one, F__law_one.kp, b__law_one⟩⟩
  have h__law_tree : Has (Gc K P w) mg base "_law_tree" 3 15 (sem__law_tree 12) := ⟨He.ga K "_law_tree", fd__law_tree, ["bag", "marks", "deep"], ⟨ok__law_tree (G := Gc K P w) (mg := mg) (base := base) F__law_tree at__law_tree b__law_tree h__law_draw h__law_one 12, at__law_tree, F__law_tree.kp, b__law_tree⟩⟩
  have h__law_wide : Has (Gc K P w) mg base "_law_wide" 3 28 (sem__law_wide 12) := ⟨He.ga K "_law_wide", fd__law_wide, ["bag", "marks", "many"], ⟨ok__law_wide (G := Gc K P w) (mg := mg) (base := base) F__law_wide at__law_wide b__law_wide h__law_draw h__law_one h__law_tree 12, at__law_wide, F__law_wide.kp, b__law_wide⟩⟩
  have h__law_said : Has (Gc K P w) mg base "_law_said" 1 13 (sem__law_said 12) := ⟨He.ga K "_law_said", fd__law_said, ["tree"], ⟨ok__law_said (G := Gc K P w) (mg := mg) (base := base) F__law_said at__law_said b__law_said  12, at__law_said, F__law_said.kp, b__law_said⟩⟩
  have h__law_same : Has (Gc K P w) mg base "_law_same" 2 49 (sem__law_same 48) := ⟨He.ga K "_law_same", fd__law_same, ["found", "due"], ⟨ok__law_same (G := Gc K P w) (mg := mg) (base := base) F__law_same at__law_same b__law_same nb_all nb_bool nb_int nb_isinstance nb_len nb_list nb_str nb_tuple nb_zip 48, at__law_same, F__law_same.kp, b__law_same⟩⟩
  have h_is_name : Has (Gc K P w) mg base "is_name" 1 1 (sem_is_name) := ⟨He.ga K "is_name", fd_is_name, ["value"], ⟨ok_is_name (G := Gc K P w) (mg := mg) (base := base) F_is_name gl_LETTERS gl_WORDS nb_isinstance nb_len nb_str, at_is_name, F_is_name.kp, b_is_name⟩⟩
  have h__law_walk : Has (Gc K P w) mg base "_law_walk" 3 14 (sem__law_walk 12) := ⟨He.ga K "_law_walk", fd__law_walk, ["part", "deep", "count"], ⟨ok__law_walk (G := Gc K P w) (mg := mg) (base := base) F__law_walk at__law_walk b__law_walk h_is_name nb_int nb_isinstance nb_len nb_str nb_tuple 12, at__law_walk, F__law_walk.kp, b__law_walk⟩⟩
  have h__law_fault : Has (Gc K P w) mg base "_law_fault" 1 15 (sem__law_fault) := ⟨He.ga K "_law_fault", fd__law_fault, ["tree"], ⟨ok__law_fault (G := Gc K P w) (mg := mg) (base := base) F__law_fault h__law_walk nb_int nb_isinstance, at__law_fault, F__law_fault.kp, b__law_fault⟩⟩
  have h_is_part : Has (Gc K P w) mg base "is_part" 1 2 (sem_is_part) := ⟨He.ga K "is_part", fd_is_part, ["part"], ⟨ok_is_part (G := Gc K P w) (mg := mg) (base := base) F_is_part h_is_name gl_PAIRS gl_SIMPLE nb_isinstance nb_len nb_str nb_tuple, at_is_part, F_is_part.kp, b_is_part⟩⟩
  have h_checked : Has (Gc K P w) mg base "checked" 3 15 (sem_checked 12) := ⟨He.ga K "checked", fd_checked, ["tree", "depth", "count"], ⟨ok_checked (G := Gc K P w) (mg := mg) (base := base) F_checked at_checked b_checked h_is_part gl_MOST_DEPTH gl_MOST_PARTS gl_PAIRS hx_InvalidCondition hx_TooLarge 12, at_checked, F_checked.kp, b_checked⟩⟩
  have hm_Condition___init__ : HasM (Gc K P w) mg base 2 16 (sem_Condition___init__) (He.ma K (He.ga K "Condition") "__init__") := ⟨fd_Condition___init__, ["self", "tree"], ok_Condition___init__ (G := Gc K P w) (mg := mg) (base := base) F_Condition___init__ h_checked hG at_parts at_tree, b_Condition___init__⟩
  have hm_Condition___eq__ : HasM (Gc K P w) mg base 2 1 (sem_Condition___eq__) (He.ma K (He.ga K "Condition") "__eq__") := ⟨fd_Condition___eq__, ["self", "other"], ok_Condition___eq__ (G := Gc K P w) (mg := mg) (base := base) F_Condition___eq__ nb_isinstance hG at_tree ic_Condition, b_Condition___eq__⟩
  have h__law_read : Has (Gc K P w) mg base "_law_read" 2 47 (sem__law_read 45) := ⟨He.ga K "_law_read", fd__law_read, ["words", "at"], ⟨ok__law_read (G := Gc K P w) (mg := mg) (base := base) F__law_read at__law_read b__law_read h_is_name nb_len 45, at__law_read, F__law_read.kp, b__law_read⟩⟩
  have h__law_due : Has (Gc K P w) mg base "_law_due" 1 48 (sem__law_due) := ⟨He.ga K "_law_due", fd__law_due, ["text"], ⟨ok__law_due (G := Gc K P w) (mg := mg) (base := base) F__law_due h__law_fault h__law_read nb_len, at__law_due, F__law_due.kp, b__law_due⟩⟩
  have h_tree_of : Has (Gc K P w) mg base "tree_of" 2 47 (sem_tree_of 45) := ⟨He.ga K "tree_of", fd_tree_of, ["words", "at"], ⟨ok_tree_of (G := Gc K P w) (mg := mg) (base := base) F_tree_of at_tree_of b_tree_of h_is_name gl_PAIRS gl_SIMPLE nb_len 45, at_tree_of, F_tree_of.kp, b_tree_of⟩⟩
  have h_whole_tree : Has (Gc K P w) mg base "whole_tree" 1 48 (sem_whole_tree) := ⟨He.ga K "whole_tree", fd_whole_tree, ["words"], ⟨ok_whole_tree (G := Gc K P w) (mg := mg) (base := base) F_whole_tree h_tree_of nb_len, at_whole_tree, F_whole_tree.kp, b_whole_tree⟩⟩
  have mkx_Condition : HasC (Gc K P w) mg base "Condition" 0 2 16 (sem_Condition___init__) := mkB_ok (G := Gc K P w) X N cmk_Condition rfl hm_Condition___init__
  have mkv_Condition : ∀ q ∈ tb_mkv_Condition, MkV (Gc K P w) mg base 2 16 q := mkv_one mkx_Condition rfl
  have cm_Condition_read : HasCM (Gc K P w) mg base "Condition" "read" 2 49 (sem_Condition_read) := cmB_ok (G := Gc K P w) X N ccm_Condition_read (ok_Condition_read (G := Gc K P w) (mg := mg) (base := base) F_Condition_read h_whole_tree gl_MOST_PARTS gl_MOST_WORDS nb_isinstance nb_len nb_str mkv_Condition hx_InvalidText hx_TooLarge) b_Condition_read
  have h_words_of : Has (Gc K P w) mg base "words_of" 1 13 (sem_words_of 12) := ⟨He.ga K "words_of", fd_words_of, ["tree"], ⟨ok_words_of (G := Gc K P w) (mg := mg) (base := base) F_words_of at_words_of b_words_of nb_isinstance nb_str 12, at_words_of, F_words_of.kp, b_words_of⟩⟩
  have hm_Condition___str__ : HasM (Gc K P w) mg base 1 14 (sem_Condition___str__) (He.ma K (He.ga K "Condition") "__str__") := ⟨fd_Condition___str__, ["self"], ok_Condition___str__ (G := Gc K P w) (mg := mg) (base := base) F_Condition___str__ h_words_of hG at_tree, b_Condition___str__⟩
  have mk_Condition : HasC (Gc K P w) mg base "Condition" 0 2 16 (sem_Condition___init__) := mkB_ok (G := Gc K P w) X N cmk_Condition rfl hm_Condition___init__
  have eqc : ∀ c F, (c, F) ∈ tb_eq → EqC (Gc K P w) mg base c [0] 1 F := (tab_cons (eqB_ok (G := Gc K P w) ceq_Condition rfl rfl (hm_Condition___eq__.mono (by decide))) tab_nil)
  have sto : ∀ c F, (c, F) ∈ tb_str → StrC (Gc K P w) mg base c 14 F := (tab_cons (strB_ok (G := Gc K P w) cst_Condition rfl (hm_Condition___str__.mono (by decide))) tab_nil)
  exact ok_law (G := Gc K P w) (mg := mg) (base := base) F_law h__law_bag h__law_draw h__law_due h__law_fault h__law_one h__law_said h__law_same h__law_wide nb_len nb_range nb_str hG at_tree mk_Condition eqc sto cm_Condition_read ltry lt
end L
end
section
namespace L
open PySem Py
structure BagAt (b : Nat) (h : PH) (c : Nat) (ns : List Int) (k : Nat) (big mixed cnt : Int) : Prop where
  hb : h[b]? = some (.lst [.obj c, .int (k : Int), .int big, .int mixed, .int cnt])
  hc : h[c]? = some (.lst (ns.map PV.int))
  ne : c ≠ b
  hk : k ≤ ns.length
  h0 : 0 ≤ big
  h1 : 0 ≤ mixed
  h2 : mixed < 2147483629
def Bag (b c : Nat) (h : PH) : Prop := ∃ ns k big mixed cnt, BagAt b h c ns k big mixed cnt
/-- all but the bag stands, new things may be there -/
structure Fr (b : Nat) (h h' : PH) : Prop where
  len : h.length ≤ h'.length
  st : ∀ n, n < h.length → n ≠ b → h'[n]? = h[n]?

theorem Fr.refl {b : Nat} {h : PH} : Fr b h h := ⟨Nat.le_refl _, fun _ _ _ => rfl⟩
theorem Fr.trans {b : Nat} {h h1 h2 : PH} (f : Fr b h h1) (g : Fr b h1 h2) : Fr b h h2 := ⟨Nat.le_trans f.len g.len, fun n l ne => (g.st n (Nat.lt_of_lt_of_le l f.len) ne).trans (f.st n l ne)⟩
theorem Fr.set {b : Nat} {h h1 : PH} {o : PO} (f : Fr b h h1) : Fr b h (h1.set b o) := ⟨by rw [List.length_set]; exact f.len, fun n l ne => by rw [List.getElem?_set_ne (Ne.symm ne)]; exact f.st n l ne⟩
theorem Fr.app {b : Nat} {h h1 : PH} {o : PO} (f : Fr b h h1) : Fr b h (h1 ++ [o]) := ⟨by rw [List.length_append]; have := f.len; omega, fun n l ne => by rw [List.getElem?_append_left (Nat.lt_of_lt_of_le l f.len)]; exact f.st n l ne⟩
theorem Fr.get {b n : Nat} {h h1 : PH} {o : PO} (f : Fr b h h1) (ne : n ≠ b) (e : h[n]? = some o) : h1[n]? = some o := (f.st n (List.getElem?_eq_some_iff.mp e).1 ne).trans e
theorem atI_cell {ns : List Int} {k : Nat} (l : k < ns.length) : L2.atI (ns.map PV.int) (k : Int) = some (.int ns[k]) := by
  rw [atI_nat']
  simp [l]
theorem succ_le {ns : List Int} {k : Nat} (e : decide ((k : Int) < ((ns.map PV.int).length : Int)) = true) : k + 1 ≤ ns.length := by
  simp at e
  omega
theorem Bag.lt {b c : Nat} {h : PH} (B : Bag b c h) : b < h.length := by
  obtain ⟨ns, k, big, mixed, cnt, B⟩ := B
  exact (List.getElem?_eq_some_iff.mp B.hb).1
theorem Bag.app {b c : Nat} {h : PH} {o : PO} (B : Bag b c h) : Bag b c (h ++ [o]) := by
  obtain ⟨ns, k, big, mixed, cnt, B⟩ := B
  exact ⟨ns, k, big, mixed, cnt, ⟨getold B.hb, getold B.hc, B.ne, B.hk, B.h0, B.h1, B.h2⟩⟩
theorem Bag.ltc {b c : Nat} {h : PH} (B : Bag b c h) : c < h.length := by
  obtain ⟨ns, k, big, mixed, cnt, B⟩ := B
  exact (List.getElem?_eq_some_iff.mp B.hc).1
theorem Bag.set {b c : Nat} {h : PH} {n : Nat} {o : PO} (nb : n ≠ b) (nc : n ≠ c) (B : Bag b c h) : Bag b c (h.set n o) := by
  obtain ⟨ns, k, big, mixed, cnt, B⟩ := B
  exact ⟨ns, k, big, mixed, cnt, ⟨getne (Ne.symm nb) B.hb, getne (Ne.symm nc) B.hc, B.ne, B.hk, B.h0, B.h1, B.h2⟩⟩
/-- a thing that is new since h0 is written -/
theorem Fr.setn {b n : Nat} {h0 h1 : PH} {o : PO} (l : h0.length ≤ n) (f : Fr b h0 h1) : Fr b h0 (h1.set n o) := ⟨by rw [List.length_set]; exact f.len, fun m l' ne => by rw [List.getElem?_set_ne (by omega)]; exact f.st m l' ne⟩
theorem Bag.gr {b c : Nat} {h h' : PH} (g : Gr h h') (B : Bag b c h) : Bag b c h' := by
  obtain ⟨ns, k, big, mixed, cnt, B⟩ := B
  exact ⟨ns, k, big, mixed, cnt, ⟨g.get B.hb, g.get B.hc, B.ne, B.hk, B.h0, B.h1, B.h2⟩⟩
theorem Gr.fr {b : Nat} {h h' : PH} (g : Gr h h') : Fr b h h' := ⟨g.len, fun n l _ => g.st n l⟩
local macro_rules | `(tactic| walk_at "py1") => `(tactic| first
  | with_reducible refine ws_seq.mpr ?_
  | with_reducible refine ws_asgN.mpr ?_
  | with_reducible refine ws_asg.mpr ?_
  | with_reducible refine ws_if.mpr ?_
  | with_reducible refine ws_ret.mpr ?_
  | with_reducible refine ws_raise ?_
  | with_reducible refine ws_set.mpr ?_
  | with_reducible refine ws_expr.mpr ?_
  | with_reducible refine ws_nop.mpr ?_
  | with_reducible refine wp_bin.mpr ?_
  | with_reducible refine wp_cst.mpr ?_
  | ((with_reducible apply varI); exact rfl)
  | with_reducible refine wp_tst.mpr ?_
  | with_reducible refine wp_andT.mpr ?_
  | with_reducible refine wp_orT.mpr ?_
  | with_reducible refine wp_notT.mpr ?_
  | with_reducible refine wp_appE.mpr ?_
  | with_reducible refine wp_consA.mpr ?_
  | with_reducible refine wp_nilA.mpr ?_
  | with_reducible refine wp_addI.mpr ?_
  | with_reducible refine wp_subI.mpr ?_
  | with_reducible refine wp_intI.mpr ?_
  | with_reducible refine wp_absI.mpr ?_
  | with_reducible refine wp_cmpI.mpr ?_
  | with_reducible refine wp_eqI.mpr ?_
  | with_reducible refine wp_neI.mpr ?_
  | with_reducible refine wp_callE.mpr ?_
  | ((with_reducible refine callI ?_ ?_); exact rfl)
  | with_reducible refine ws_forW ?_
  | with_reducible refine wp_lcW ?_
  | with_reducible refine wp_walkI ?_
  | with_reducible refine srcT ?_
  | with_reducible refine srcR ?_
  | with_reducible refine srcS ?_
  | ((with_reducible apply srcL); walk_at "heap")
  | with_reducible refine wp_rngI ?_
  | ((with_reducible refine rngA ?_ ?_ ?_); (first | decide | omega); (first | decide | omega))
  | ((with_reducible refine rngB ?_ ?_ ?_ ?_ ?_); (first | decide | omega); (first | decide | omega); (first | decide | omega); (first | decide | omega))
  | with_reducible refine wp_mE.mpr ?_
  | ((with_reducible apply tyL); walk_at "heap")
  | with_reducible refine tyS ?_
  | ((with_reducible apply appI); walk_at "heap"; walk_at "size")
  | with_reducible refine wp_lstE.mpr ?_
  | with_reducible refine wp_tupE.mpr ?_
  | ((with_reducible refine szL ?_ ?_); walk_at "size")
  | with_reducible refine wp_slE.mpr ?_
  | with_reducible refine wp_noneO.mpr ?_
  | with_reducible refine wp_someO.mpr ?_
  | ((with_reducible apply cutL); (walk_at "lst"))
  | ((with_reducible apply cutSt); walk_at "size")
  | ((with_reducible apply listI); walk_at "seq")
  | ((with_reducible apply tupleI); walk_at "seq")
  | with_reducible refine wp_andE.mpr ?_
  | with_reducible refine wp_orE.mpr ?_
  | with_reducible refine wp_notE.mpr ?_
  | with_reducible refine wp_ifE.mpr ?_
  | with_reducible refine wp_chain.mpr ?_
  | with_reducible refine wp_isiE.mpr ?_
  | with_reducible refine wp_yes ?_
  | with_reducible refine ws_brk.mpr ?_
  | with_reducible refine ws_par.mpr ?_
  | with_reducible refine wp_tryE ?_
  | with_reducible refine wp_cmE ?_
  | with_reducible refine wp_mkV ?_
  | with_reducible refine wp_mkE ?_
  | with_reducible refine wp_fldE ?_
  | ((with_reducible apply fldI); walk_at "heap"; exact rfl; exact rfl)
  | with_reducible refine ws_setF ?_
  | ((with_reducible apply setFI); walk_at "heap"; exact rfl; exact Nat.le_of_ble_eq_true rfl)
  | with_reducible refine wp_calE ?_
  | ((with_reducible apply calI); walk_at "heap"; exact rfl)
  | ((with_reducible apply calS); walk_at "heap")
  | with_reducible refine wp_metE ?_
  | ((with_reducible refine lenS1 ?_ ?_); exact rfl)
  | with_reducible refine nonI ?_
  | with_reducible refine ws_cnt.mpr ?_
  | with_reducible refine brT ?_
  | with_reducible refine brF ?_
  | ((with_reducible refine br (fun hc => ?_) (fun hc => ?_)) <;> (try (first | (cases hc; done) | (exfalso; revert hc; decide +kernel))))
  | with_reducible refine isNoneI ?_
  | with_reducible refine notNoneI ?_
  | with_reducible refine eqI_ ?_
  | with_reducible refine neI_ ?_
  | with_reducible refine eqBl ?_
  | ((with_reducible apply isiQ); walk_at "ty")
  | with_reducible refine inSS ?_
  | with_reducible refine exB ?_
  | with_reducible refine exI ?_
  | ((with_reducible refine modI ?_ ?_); (first | decide | omega))
  | ((with_reducible refine powI ?_ ?_); decide)
  | ((with_reducible refine divI ?_ ?_); exact div_ok (by first | decide | omega) (by first | decide | omega))
  | ((with_reducible refine mulI ?_ ?_); walk_at "mul")
  | ((with_reducible apply ixO); walk_at "heap"; walk_at "at")
  | ((with_reducible apply lenO); walk_at "heap")
  | with_reducible refine lenT ?_
  | ((with_reducible apply lenS); walk_at "size")
  | ((with_reducible apply setO); walk_at "heap"; exact rfl)
  | walk_at "pyx")
local macro_rules | `(tactic| walk_at "heap") => `(tactic| first | assumption | (refine getset ?_; (try simp only [List.length_set]); assumption) | (refine getne ?_ ?_; (focus first | assumption | omega); walk_at "heap") | exact getnew | (refine getold ?_; walk_at "heap") | walk_at "heapx")
local macro_rules | `(tactic| walk_at "mul") => `(tactic| first | exact mul_r (by decide) (by decide) | exact mul_l (by omega) (by omega) | exact mul_r (by omega) (by omega))
local macro_rules | `(tactic| walk_at "py") => `(tactic| repeat' (walk_at "py1"))
local macro_rules | `(tactic| walk_at "pyx") => `(tactic| fail)
local macro_rules | `(tactic| walk_at "at") => `(tactic| first | exact rfl | walk_at "atx")
local macro_rules | `(tactic| walk_at "atx") => `(tactic| fail)
local macro_rules | `(tactic| walk_at "ty") => `(tactic| first | exact rfl | ((apply tyO); (walk_at "heap"); exact rfl) | ((apply tyOi); (walk_at "heap"); exact rfl))
local macro_rules | `(tactic| walk_at "heapx") => `(tactic| fail)
local macro_rules | `(tactic| walk_at "size") => `(tactic| first | exact Nat.le_of_ble_eq_true rfl | assumption | walk_at "sizex")
local macro_rules | `(tactic| walk_at "sizex") => `(tactic| fail)
local macro_rules | `(tactic| walk_at "lst") => `(tactic| first | exact rfl | (apply lstO; walk_at "heap"))
local macro_rules | `(tactic| walk_at "seq") => `(tactic| first | exact rfl | (apply seqO; walk_at "heap"))
section
local macro_rules | `(tactic| walk_at "atx") => `(tactic| exact atI_cell (succ_le (by assumption)))
theorem draw_spec {b c : Nat} {h : PH} {many : Int} (hm : 0 < many) (hd : many < 1000000000000000000) (B : Bag b c h) :
    wp (sem__law_draw [.obj b, .int many] h) (fun v h' => ∃ d : Int, v = .int d ∧ 0 ≤ d ∧ d < many ∧ Bag b c h' ∧ h'.length = h.length ∧ Fr b h h') NX := by
  obtain ⟨ns, k, big, mixed, cnt, hb, hc, ne, hk, h0, h1, h2⟩ := B
  have hlt : b < h.length := (List.getElem?_eq_some_iff.mp hb).1
  have hcl : c < h.length := (List.getElem?_eq_some_iff.mp hc).1
  have hne : ∀ L, (h.set b L)[c]? = some (.lst (ns.map PV.int)) := fun L => by rw [List.getElem?_set_ne (Ne.symm ne)]; exact hc
  have hse : ∀ L, (h.set b L)[b]? = some L := fun L => List.getElem?_set_self hlt
  unfold sem__law_draw
  refine wp_runB ?_
  unfold b__law_draw
  walk_at "py"
  all_goals first
    | refine ⟨Int.emod_nonneg _ (by omega), Int.emod_lt_of_pos _ hm, ⟨ns, k, _, _, _, getset (by simp only [List.length_set]; exact hlt), ?_, ne, hk, ?_, ?_, ?_⟩, by simp only [List.length_set], ?_⟩
    | refine ⟨Int.emod_nonneg _ (by omega), Int.emod_lt_of_pos _ hm, ⟨ns, k + 1, _, _, _, getset (by simp only [List.length_set]; exact hlt), ?_, ne, succ_le (by assumption), ?_, ?_, ?_⟩, by simp only [List.length_set], ?_⟩
  all_goals first
    | walk_at "heap"
    | exact Fr.set (Fr.refl)
    | exact Fr.set (Fr.set (Fr.refl))
    | exact Fr.set (Fr.set (Fr.set (Fr.refl)))
    | exact Fr.set (Fr.set (Fr.set (Fr.set (Fr.refl))))
    | exact Int.emod_nonneg _ (by decide)
    | exact Int.emod_lt_of_pos _ (by decide)
    | assumption
    | exact Int.ediv_nonneg (by first | assumption | (split <;> omega)) (by omega)
    | (split <;> omega)
theorem cutP_map {α : Type} {f : α → PV} {xs : List α} {lo hi : Option Int} : ∃ ys : List α, cutP (xs.map f) lo hi = ys.map f := by
  unfold cutP
  exact ⟨_, by rw [← List.map_drop, ← List.map_take]⟩
theorem bag_spec {h : PH} {ns : List Int} : wp (sem__law_bag [.rol (ns.map PV.int)] h) (fun v h' => ∃ b c, v = .obj b ∧ Bag b c h') NX := by
  unfold sem__law_bag
  refine wp_runB ?_
  show ws (b__law_bag [some (.rol (ns.map PV.int)), none, none] h) _
  unfold b__law_bag
  walk_at "py"
  obtain ⟨cs, hcs⟩ := cutP_map (f := PV.int) (xs := ns) (lo := none) (hi := some 63)
  rw [hcs]
  refine ws_forIn (fun _ env h' => ∃ (m : Int) (t : Option PV), env = [some (.rol (ns.map PV.int)), some (.int m), t] ∧ 0 ≤ m ∧ m < 2147483587 ∧ h' = h ++ [.lst (cs.map PV.int)]) ⟨12008, none, rfl, by decide, by decide, rfl⟩ ?_ ?_
  · rintro i x env h' hx ⟨m, t, rfl, a, b, rfl⟩
    obtain ⟨d, hd⟩ : ∃ d, x = .int d := by
      have : (cs.map PV.int)[i]? = some x := hx
      rw [List.getElem?_map] at this
      cases e : cs[i]? with
      | none => rw [e] at this; cases this
      | some d => rw [e] at this; cases this; exact ⟨d, rfl⟩
    subst hd
    refine ⟨getnew, _, rfl, ?_⟩
    walk_at "py"
    exact ⟨_, _, rfl, Int.emod_nonneg _ (by decide), Int.emod_lt_of_pos _ (by decide), rfl⟩
  · rintro env h' ⟨m, t, rfl, a, b, rfl⟩
    refine ⟨getnew, ?_⟩
    walk_at "py"
    rw [hcs]
    refine ⟨_, _, rfl, cs, 0, 0, m, 0, ⟨getnew, ?_, ?_, Nat.zero_le _, by decide, a, by omega⟩⟩
    · refine getold ?_
      exact getnew
    · simp
theorem bag_I {h : PH} {ns : List Int} {Q : PV → PH → Prop} {X : XP} (k : ∀ (b c : Nat) (h' : PH), Bag b c h' → Q (.obj b) h') : wp (sem__law_bag [.rol (ns.map PV.int)] h) Q X := wp_use bag_spec fun v h ⟨b, c, e, B⟩ => by subst e; exact k b c h B
theorem draw_I {b c : Nat} {h : PH} {many : Int} {Q : PV → PH → Prop} {X : XP} (hm : 0 < many) (hd : many < 1000000000000000000) (B : Bag b c h) (k : ∀ (d : Int) (h' : PH), 0 ≤ d → d < many → Bag b c h' → h'.length = h.length → Fr b h h' → Q (.int d) h') :
    wp (sem__law_draw [.obj b, .int many] h) Q X := wp_use (draw_spec hm hd B) fun v h' ⟨d, e, a0, a1, B', l, f⟩ => by subst e; exact k d h' a0 a1 B' l f
theorem one_L {b c : Nat} {h : PH} {n : Nat} {xs : List PV} {Q : PV → PH → Prop} {X : XP} (B : Bag b c h) (ne : n ≠ b) (e : h[n]? = some (.lst xs)) (l0 : 0 < xs.length) (l1 : xs.length < 1000000000000000000)
    (k : ∀ (v : PV) (h' : PH), v ∈ xs → Bag b c h' → h'.length = h.length → Fr b h h' → Q v h') : wp (sem__law_one [.obj b, .obj n] h) Q X := by
  unfold sem__law_one
  refine wp_runB ?_
  show ws (b__law_one [some (.obj b), some (.obj n)] h) _
  unfold b__law_one
  walk_at "py"
  refine draw_I (by omega) (by omega) B fun d h' a0 a1 B' hl f => ?_
  have e' := f.get ne e
  have lt : d.toNat < xs.length := by omega
  refine ixO e' (p := xs[d.toNat]) ?_ (k _ _ (List.getElem_mem lt) B' hl f)
  exact atI_dec a0 lt
theorem one_T {b c : Nat} {h : PH} {xs : List PV} {Q : PV → PH → Prop} {X : XP} (B : Bag b c h) (l0 : 0 < xs.length) (l1 : xs.length < 1000000000000000000)
    (k : ∀ (v : PV) (h' : PH), v ∈ xs → Bag b c h' → h'.length = h.length → Fr b h h' → Q v h') : wp (sem__law_one [.obj b, .tup xs] h) Q X := by
  unfold sem__law_one
  refine wp_runB ?_
  show ws (b__law_one [some (.obj b), some (.tup xs)] h) _
  unfold b__law_one
  walk_at "py"
  refine draw_I (by omega) (by omega) B fun d h' a0 a1 B' hl f => ?_
  have lt : d.toNat < xs.length := by omega
  refine ixT (p := xs[d.toNat]) ?_ (k _ _ (List.getElem_mem lt) B' hl f)
  exact atI_dec a0 lt
theorem one_S {b c : Nat} {h : PH} {z : Str} {Q : PV → PH → Prop} {X : XP} (B : Bag b c h) (l0 : 0 < z.length) (l1 : z.length ≤ sizeLine)
    (k : ∀ (x : Nat) (h' : PH), x ∈ z.cps.toList → Bag b c h' → h'.length = h.length → Fr b h h' → Q (chrP x) h') : wp (sem__law_one [.obj b, .str z] h) Q X := by
  have l2 : z.length < 1000000000000000000 := Nat.lt_of_le_of_lt l1 (by decide)
  unfold sem__law_one
  refine wp_runB ?_
  show ws (b__law_one [some (.obj b), some (.str z)] h) _
  unfold b__law_one
  walk_at "py"
  refine draw_I (by omega) (by omega) B fun d h' a0 a1 B' hl f => ?_
  have hz : z.length = z.cps.toList.length := by simp [Str.length]
  have lt : d.toNat < z.cps.toList.length := by omega
  refine ixS (p := chrP z.cps.toList[d.toNat]) ?_ (k _ _ (List.getElem_mem lt) B' hl f)
  have e : L2.atI z.cps.toList d = some z.cps.toList[d.toNat] := atI_dec a0 lt
  simp only [ixV, l1, if_true, e]
abbrev words : List Str := ["all", "always", "and", "crash", "cut", "decides", "down", "end", "follower", "heard", "leader", "marks", "move", "or", "send", "some", "state", "to", "undo", "wish"]
def nameB (z : Str) : Bool := decide (1 ≤ z.length) && decide (z.length ≤ 8) && !(words.any fun w => decide (w = z)) && z.cps.toList.all fun c => strIn ⟨#[c]⟩ "abcdefghijklmnopqrstuvwxyz"
theorem is_name_S {h : PH} {z : Str} {Q : PV → PH → Prop} {X : XP} (l1 : z.length ≤ sizeLine) (k : Q (.bl (nameB z)) h) : wp (sem_is_name [.str z] h) Q X := by
  refine wp_use (Q := fun v h' => v = .bl (nameB z) ∧ h' = h) ?_ fun v h' ⟨e1, e2⟩ => by subst e1 e2; exact k
  clear k
  unfold sem_is_name
  refine wp_runB ?_
  show ws (b_is_name [some (.str z), none] h) _
  unfold b_is_name
  walk_at "py"
  · rename_i e1 e2 e3
    refine ⟨?_, rfl⟩
    congr 1
    unfold nameB
    have : decide (z.length ≤ 8) = false := by simp at e3 ⊢; omega
    rw [this]; simp
  · refine inTS (ws := words) rfl ?_
    walk_at "py"
    · rename_i e0 e1 e2 e3
      refine ⟨?_, rfl⟩
      congr 1
      unfold nameB
      rw [show (words.any fun w => decide (w = z)) = true from e3]
      simp
    · rename_i e0 e1 e2 e3
      have c1 : decide (1 ≤ z.length) = true := by simp at e1 ⊢; omega
      have c2 : decide (z.length ≤ 8) = true := by simp at e2 ⊢; omega
      have c3 : (words.any fun w => decide (w = z)) = false := e3
      have en : nameB z = z.cps.toList.all fun c => strIn ⟨#[c]⟩ "abcdefghijklmnopqrstuvwxyz" := by
        unfold nameB
        rw [c1, c2, c3]
        rfl
      refine ws_forIn (fun i env h' => h' = h ∧ (∃ t, env = [some (.str z), t]) ∧ ∀ j, j < i → ∀ c, z.cps.toList[j]? = some c → strIn ⟨#[c]⟩ "abcdefghijklmnopqrstuvwxyz" = true) ⟨rfl, ⟨_, rfl⟩, fun j hj => absurd hj (Nat.not_lt_zero _)⟩ ?_ ?_
      · rintro i x env h' hx ⟨rfl, ⟨t, rfl⟩, hj⟩
        obtain ⟨c, hc, rfl⟩ : ∃ c, z.cps.toList[i]? = some c ∧ chrP c = x := by
          have hx' : (z.cps.toList.map chrP)[i]? = some x := hx
          rw [List.getElem?_map] at hx'
          cases e : z.cps.toList[i]? with
          | none => rw [e] at hx'; cases hx'
          | some c => rw [e] at hx'; cases hx'; exact ⟨c, rfl, rfl⟩
        refine ⟨trivial, _, rfl, ?_⟩
        walk_at "py"
        · rename_i e4
          refine ⟨?_, rfl⟩
          congr 1
          rw [en]
          symm
          rw [List.all_eq_false]
          exact ⟨c, List.mem_of_getElem? hc, by simpa using e4⟩
        · rename_i e4
          refine ⟨rfl, ⟨_, rfl⟩, fun j hj' c' hc' => ?_⟩
          by_cases ej : j = i
          · subst ej
            rw [hc] at hc'
            cases hc'
            simpa using e4
          · exact hj j (by omega) c' hc'
      · rintro env h' ⟨rfl, ⟨t, rfl⟩, hj⟩
        refine ⟨trivial, ?_⟩
        walk_at "py"
        refine ⟨?_, rfl⟩
        congr 1
        rw [en]
        symm
        rw [List.all_eq_true]
        intro c hc
        obtain ⟨j, hjl, rfl⟩ := List.mem_iff_getElem.mp hc
        refine hj j ?_ _ (List.getElem?_eq_getElem hjl)
        show j < (chars z).length
        simpa [chars] using hjl
  · rename_i e1 e2 e3
    refine ⟨?_, rfl⟩
    congr 1
    unfold nameB
    have : decide (1 ≤ z.length) = false := by simp at e2 ⊢; omega
    rw [this]; simp
theorem is_name_N {h : PH} {p : PV} {t : Ty} {Q : PV → PH → Prop} {X : XP} (ht : tyOf h p = some t) (hn : ansB .str [] t = some false) (k : Q (.bl false) h) : wp (sem_is_name [p] h) Q X := by
  unfold sem_is_name
  refine wp_runB ?_
  show ws (b_is_name [some p, none] h) _
  unfold b_is_name
  walk_at "py"
  refine isiQ (b := false) (by rw [ht]; exact hn) ?_
  walk_at "py"
  exact k
end
section
/-- what a value tells as data (script lists aside) -/
def dv (h : PH) : Nat → PV → Option PyData
  | 0, _ => none
  | n + 1, p => match p with
    | .non => some .none
    | .bl b => some (.bool b)
    | .int i => some (.int i)
    | .str x => if PyData.strOk x = true then some (.str x) else none
    | .tup xs => if xs.length ≤ 1000 then (xs.mapM (dv h n)).map .tuple else none
    | .obj k => match h[k]? with
      | some (.lst xs) => if xs.length ≤ 1000 then (xs.mapM (dv h n)).map .list else none
      | _ => none
    | .rol _ => none
    | .cls _ => none
theorem mapM_get {α β : Type} {f : α → Option β} : ∀ {xs : List α} {ys : List β}, xs.mapM f = some ys → xs.length = ys.length ∧ ∀ (i : Nat) (x : α), xs[i]? = some x → ∃ y, ys[i]? = some y ∧ f x = some y
  | [], ys, e => by
    have e' : some [] = some ys := e
    cases e'
    exact ⟨rfl, fun i x h => by cases h⟩
  | x :: xs, ys, e => by
    rw [List.mapM_cons] at e
    cases e1 : f x with
    | none => rw [e1] at e; cases e
    | some y =>
      rw [e1] at e
      cases e2 : xs.mapM f with
      | none => rw [e2] at e; cases e
      | some zs =>
        rw [e2] at e
        cases e
        obtain ⟨l, k⟩ := mapM_get e2
        refine ⟨by simp [l], fun i z hz => ?_⟩
        cases i with
        | zero => cases hz; exact ⟨y, rfl, e1⟩
        | succ i => exact k i z hz
theorem mapM_of {α β : Type} {f g : α → Option β} (k : ∀ x y, f x = some y → g x = some y) : ∀ {xs : List α} {ys : List β}, xs.mapM f = some ys → xs.mapM g = some ys
  | [], ys, e => e
  | x :: xs, ys, e => by
    rw [List.mapM_cons] at e ⊢
    cases e1 : f x with
    | none => rw [e1] at e; cases e
    | some y =>
      rw [e1] at e
      rw [k x y e1]
      cases e2 : xs.mapM f with
      | none => rw [e2] at e; cases e
      | some zs =>
        rw [e2] at e
        rw [mapM_of k e2]
        exact e
theorem dv_gr {h h' : PH} (g : ∀ (n : Nat) (xs : List PV), h[n]? = some (PO.lst xs) → h'[n]? = some (PO.lst xs)) : ∀ (n : Nat) (p : PV) (d : PyData), dv h n p = some d → dv h' n p = some d
  | 0, _, _, e => by cases e
  | n + 1, p, d, e => by
    cases p with
    | tup xs =>
      unfold dv at e ⊢
      dsimp only at e ⊢
      split at e
      · rename_i z
        rw [if_pos z]
        cases e1 : xs.mapM (dv h n) with
        | none => rw [e1] at e; cases e
        | some ds => rw [e1] at e; rw [mapM_of (dv_gr g n) e1]; exact e
      · cases e
    | obj k =>
      unfold dv at e ⊢
      dsimp only at e ⊢
      cases e0 : h[k]? with
      | none => rw [e0] at e; cases e
      | some o =>
        cases o with
        | lst xs =>
          rw [e0] at e
          rw [g k xs e0]
          dsimp only at e ⊢
          split at e
          · rename_i z
            rw [if_pos z]
            cases e1 : xs.mapM (dv h n) with
            | none => rw [e1] at e; cases e
            | some ds => rw [e1] at e; rw [mapM_of (dv_gr g n) e1]; exact e
          · cases e
        | _ => rw [e0] at e; cases e
    | cls _ => cases e
    | _ => exact e
theorem dv_Gr {h h' : PH} (g : Gr h h') {n : Nat} {p : PV} {d : PyData} (e : dv h n p = some d) : dv h' n p = some d := dv_gr (fun n xs e => g.get e) n p d e
theorem zipP_at {xs ys : List PV} {i : Nat} {p : PV} (h : (zipP xs ys)[i]? = some p) : ∃ x y, xs[i]? = some x ∧ ys[i]? = some y ∧ p = .tup [x, y] := by
  have hl := (List.getElem?_eq_some_iff.mp h).1
  obtain ⟨x, y, h1, h2, h3⟩ := zipP_get hl
  rw [h3] at h
  cases h
  exact ⟨x, y, h1, h2, rfl⟩
theorem zipP_len : ∀ xs ys : List PV, (zipP xs ys).length = min xs.length ys.length
  | [], ys => by simp [zipP]
  | _ :: _, [] => by simp [zipP]
  | x :: xs, y :: ys => by
    have ih := zipP_len xs ys
    simp only [zipP, List.length_cons, ih]
    omega
/-- the comprehension of _law_same -/
theorem same_lc {n : Nat} (ih : ∀ (p q : PV) (d : PyData) (h : PH), dv h n p = some d → dv h n q = some d → wp (sem__law_same n [p, q] h) (fun v h' => v = .bl true ∧ Gr h h') NX)
    {h0 h : PH} {env : Py.Env} {src : Src} {xs ys : List PV} {ds : List PyData} {Q : PV → PH → Prop} {X : XP} (he : env.length = 4) (g0 : Gr h0 h) (hs : src.items = zipP xs ys) (st : ∀ h2, Gr h h2 → src.Stands h2) (hl : xs.length ≤ 1000)
    (hx : xs.mapM (dv h n) = some ds) (hy : ys.mapM (dv h n) = some ds) (k : ∀ (p : PV) (h' : PH) (bs : List Bool), Gr h h' → blsAt h' p = some bs → bs.all id = true → Q p h') :
    lcIn src (tupG 2 (consG (nameG 2) (consG (nameG 3) (nilG)))) [2, 3] (yesT) (callE (sem__law_same n) 2 (consA (var 2) (consA (var 3) (nilA)))) Q X env h := by
  obtain ⟨e0, e1, e2, e3, rfl⟩ : ∃ e0 e1 e2 e3, env = [e0, e1, e2, e3] := by
    match env, he with
    | [a, b, c, d], _ => exact ⟨a, b, c, d, rfl⟩
  obtain ⟨lx, kx⟩ := mapM_get hx
  obtain ⟨ly, ky⟩ := mapM_get hy
  refine wp_lcIn (fun i h2 => Gr h h2 ∧ i ≤ 1000 ∧ h2[h.length]? = some (.lst ((List.replicate i true).map PV.bl))) ⟨Gr.refl.app, by omega, getnew⟩ ?_ ?_
  · rintro i x h2 hx2 ⟨g, hi, hn⟩
    rw [hs] at hx2
    obtain ⟨a, b, ha, hb, rfl⟩ := zipP_at hx2
    have hlt := (List.getElem?_eq_some_iff.mp ha).1
    obtain ⟨d1, hd1, va⟩ := kx i a ha
    obtain ⟨d2, hd2, vb⟩ := ky i b hb
    rw [hd1] at hd2
    cases hd2
    refine ⟨st h2 g, _, rfl, ?_⟩
    walk_at "py"
    refine wp_use (ih a b d1 h2 (dv_Gr g va) (dv_Gr g vb)) fun v h3 ⟨ev, g3⟩ => ?_
    subst ev
    refine ⟨_, g3.get hn, ?_, (g.trans g3).setn (Nat.le_refl _), by omega, ?_⟩
    · simp only [List.length_map, List.length_replicate]
      show i < 16777216
      omega
    · rw [getset (List.getElem?_eq_some_iff.mp (g3.get hn)).1, List.replicate_succ', List.map_append]
      rfl
  · rintro h2 ⟨g, hi, hn⟩
    exact ⟨st h2 g, k _ h2 _ g (blsO hn) (by simp)⟩
theorem dv_inv {h : PH} {n : Nat} {q : PV} {d : PyData} (e : dv h (n + 1) q = some d) : match d with
    | .none => q = .non
    | .bool b => q = .bl b
    | .int i => q = .int i
    | .str x => q = .str x ∧ PyData.strOk x = true
    | .tuple ds => ∃ xs, q = .tup xs ∧ xs.length ≤ 1000 ∧ xs.mapM (dv h n) = some ds
    | .list ds => ∃ k xs, q = .obj k ∧ h[k]? = some (PO.lst xs) ∧ xs.length ≤ 1000 ∧ xs.mapM (dv h n) = some ds
    | .dict _ => False := by
  cases q with
  | non => cases e; rfl
  | bl b => cases e; rfl
  | int b => cases e; rfl
  | rol xs => cases e
  | cls x => cases e
  | str x =>
    unfold dv at e
    dsimp only at e
    split at e
    · cases e; exact ⟨rfl, by assumption⟩
    · cases e
  | tup xs =>
    unfold dv at e
    dsimp only at e
    split at e
    · cases e1 : xs.mapM (dv h n) with
      | none => rw [e1] at e; cases e
      | some ds => rw [e1] at e; cases e; exact ⟨xs, rfl, by assumption, e1⟩
    · cases e
  | obj k =>
    unfold dv at e
    dsimp only at e
    cases e0 : h[k]? with
    | none => rw [e0] at e; cases e
    | some o =>
      cases o with
      | lst xs =>
        rw [e0] at e
        dsimp only at e
        split at e
        · cases e1 : xs.mapM (dv h n) with
          | none => rw [e1] at e; cases e
          | some ds => rw [e1] at e; cases e; exact ⟨k, xs, rfl, e0, by assumption, e1⟩
        · cases e
      | _ => rw [e0] at e; cases e
local macro_rules | `(tactic| walk_at "pyx") => `(tactic| first
  | ((with_reducible refine eqSS ?_ ?_ ?_); assumption; assumption)
  | with_reducible refine wp_zipI ?_)
theorem same_true : ∀ (n : Nat) (p q : PV) (d : PyData) (h : PH), dv h n p = some d → dv h n q = some d → wp (sem__law_same n [p, q] h) (fun v h' => v = .bl true ∧ Gr h h') NX
  | 0, p, q, d, h, e, _ => by cases e
  | n + 1, p, q, d, h, e1, e2 => by
    have ih := same_true n
    show wp (runB 4 (b__law_same (sem__law_same n)) [p, q] h) _ NX
    refine wp_runB ?_
    show ws (b__law_same _ [some p, some q, none, none] h) _
    unfold b__law_same
    have i1 := dv_inv e1
    have i2 := dv_inv e2
    cases d with
    | dict kv => exact i1.elim
    | none =>
      cases i1; cases i2
      walk_at "py"
      exact ⟨rfl, Gr.refl⟩
    | bool b =>
      cases i1; cases i2
      walk_at "py"
      exact ⟨by rw [beq_self_eq_true], Gr.refl⟩
    | int b =>
      cases i1; cases i2
      walk_at "py"
      exact ⟨by rw [beq_self_eq_true], Gr.refl⟩
    | str x =>
      obtain ⟨rfl, hx⟩ := i1
      obtain ⟨rfl, _⟩ := i2
      walk_at "py"
      exact ⟨by rw [beq_self_eq_true], Gr.refl⟩
    | tuple ds =>
      obtain ⟨xs, rfl, l1, m1⟩ := i1
      obtain ⟨ys, rfl, l2, m2⟩ := i2
      have hl : xs.length = ys.length := (mapM_get m1).1.trans (mapM_get m2).1.symm
      walk_at "py"
      · rename_i e
        simp [hl] at e
      · refine same_lc ih (xs := xs) (ys := ys) rfl (Gr.refl (h := h)) rfl (fun _ _ => trivial) l1 m1 m2 fun p h' bs g hb ha => ?_
        walk_at "py"
        refine allI hb ?_
        exact ⟨by rw [ha], g⟩
    | list ds =>
      obtain ⟨k1, xs, rfl, h1, l1, m1⟩ := i1
      obtain ⟨k2, ys, rfl, h2, l2, m2⟩ := i2
      have hl : xs.length = ys.length := (mapM_get m1).1.trans (mapM_get m2).1.symm
      walk_at "py"
      · rename_i e
        simp [hl] at e
      · refine ⟨xs, ys, h1, h2, ?_⟩
        refine same_lc ih (xs := xs) (ys := ys) rfl (Gr.refl (h := h)) rfl (fun _ g => ⟨g.get h1, g.get h2⟩) l1 m1 m2 fun p h' bs g hb ha => ?_
        walk_at "py"
        refine allI hb ?_
        exact ⟨by rw [ha], g⟩
end
section
inductive Tr where
  | alw
  | ld (x : Str)
  | al (x : Str)
  | sm (x : Str)
  | an (l r : Tr)
  | oo (l r : Tr)
def Tr.pv : Tr → PV
  | .alw => .tup [.str "always"]
  | .ld x => .tup [.str "leader", .str x]
  | .al x => .tup [.str "all", .str x]
  | .sm x => .tup [.str "some", .str x]
  | .an l r => .tup [.str "and", l.pv, r.pv]
  | .oo l r => .tup [.str "or", l.pv, r.pv]
def Tr.dt : Tr → PyData
  | .alw => .tuple [.str "always"]
  | .ld x => .tuple [.str "leader", .str x]
  | .al x => .tuple [.str "all", .str x]
  | .sm x => .tuple [.str "some", .str x]
  | .an l r => .tuple [.str "and", l.dt, r.dt]
  | .oo l r => .tuple [.str "or", l.dt, r.dt]
def Tr.size : Tr → Nat
  | .an l r => 1 + l.size + r.size
  | .oo l r => 1 + l.size + r.size
  | _ => 1
def Tr.high : Tr → Nat
  | .an l r => 1 + max l.high r.high
  | .oo l r => 1 + max l.high r.high
  | _ => 1
structure NOk (x : Str) : Prop where
  nm : nameB x = true
  ok : PyData.strOk x = true
  sz : x.length ≤ sizeLine
def Tr.Ok : Tr → Prop
  | .alw => True
  | .ld x => NOk x
  | .al x => NOk x
  | .sm x => NOk x
  | .an l r => l.Ok ∧ r.Ok
  | .oo l r => l.Ok ∧ r.Ok
theorem Tr.high_pos : ∀ t : Tr, 1 ≤ t.high
  | .alw => Nat.le_refl _
  | .ld _ => Nat.le_refl _
  | .al _ => Nat.le_refl _
  | .sm _ => Nat.le_refl _
  | .an _ _ => Nat.le_add_right ..
  | .oo _ _ => Nat.le_add_right ..
theorem Tr.dv_ok {h : PH} : ∀ (t : Tr) (n : Nat), t.Ok → t.high + 1 ≤ n → dv h n t.pv = some t.dt
  | .alw, n, k, l => by
    obtain ⟨n, rfl⟩ : ∃ m, n = m + 2 := ⟨n - 2, by have : Tr.high .alw = 1 := rfl; omega⟩
    simp [Tr.pv, Tr.dt, dv, show PyData.strOk "always" = true by decide +kernel]
  | .ld x, n, k, l => by
    obtain ⟨n, rfl⟩ : ∃ m, n = m + 2 := ⟨n - 2, by have : Tr.high (.ld x) = 1 := rfl; omega⟩
    simp [Tr.pv, Tr.dt, dv, NOk.ok k, show PyData.strOk "leader" = true by decide +kernel]
  | .al x, n, k, l => by
    obtain ⟨n, rfl⟩ : ∃ m, n = m + 2 := ⟨n - 2, by have : Tr.high (.al x) = 1 := rfl; omega⟩
    simp [Tr.pv, Tr.dt, dv, NOk.ok k, show PyData.strOk "all" = true by decide +kernel]
  | .sm x, n, k, l => by
    obtain ⟨n, rfl⟩ : ∃ m, n = m + 2 := ⟨n - 2, by have : Tr.high (.sm x) = 1 := rfl; omega⟩
    simp [Tr.pv, Tr.dt, dv, NOk.ok k, show PyData.strOk "some" = true by decide +kernel]
  | .an t1 t2, n, k, l => by
    have hh : Tr.high (.an t1 t2) = 1 + max t1.high t2.high := rfl
    obtain ⟨n, rfl⟩ : ∃ m, n = m + 1 := ⟨n - 1, by omega⟩
    have i1 := Tr.dv_ok (h := h) t1 n k.1 (by omega)
    have i2 := Tr.dv_ok (h := h) t2 n k.2 (by omega)
    obtain ⟨n, rfl⟩ : ∃ m, n = m + 1 := ⟨n - 1, by have := t1.high_pos; omega⟩
    have e : dv h (n + 1) (.str "and") = some (.str "and") := by
      show (if PyData.strOk "and" = true then _ else _) = _
      rw [if_pos (by decide +kernel)]
    rw [Tr.pv, dv]
    simp [e, i1, i2, Tr.dt]
  | .oo t1 t2, n, k, l => by
    have hh : Tr.high (.oo t1 t2) = 1 + max t1.high t2.high := rfl
    obtain ⟨n, rfl⟩ : ∃ m, n = m + 1 := ⟨n - 1, by omega⟩
    have i1 := Tr.dv_ok (h := h) t1 n k.1 (by omega)
    have i2 := Tr.dv_ok (h := h) t2 n k.2 (by omega)
    obtain ⟨n, rfl⟩ : ∃ m, n = m + 1 := ⟨n - 1, by have := t1.high_pos; omega⟩
    have e : dv h (n + 1) (.str "or") = some (.str "or") := by
      show (if PyData.strOk "or" = true then _ else _) = _
      rw [if_pos (by decide +kernel)]
    rw [Tr.pv, dv]
    simp [e, i1, i2, Tr.dt]
local macro_rules | `(tactic| walk_at "pyx") => `(tactic| first
  | ((with_reducible refine eqSS ?_ ?_ ?_); (first | assumption | decide +kernel); (first | assumption | decide +kernel))
  | (with_reducible refine inTS (ws := ["leader", "all", "some"]) rfl ?_)
  | (with_reducible refine inTS (ws := ["and", "or"]) rfl ?_)
  | ((with_reducible apply ixT); exact rfl))
theorem is_part_I {h : PH} {t : Tr} {Q : PV → PH → Prop} {X : XP} (ok : t.Ok) (k : Q (.bl true) h) : wp (sem_is_part [t.pv] h) Q X := by
  unfold sem_is_part
  refine wp_runB ?_
  show ws (b_is_part [some t.pv] h) _
  unfold b_is_part
  cases t with
  | alw =>
    unfold Tr.pv
    walk_at "py"
    exact k
  | ld x =>
    unfold Tr.pv
    walk_at "py"
    refine is_name_S (NOk.sz ok) ?_
    rw [NOk.nm ok]
    walk_at "py"
    exact k
  | al x =>
    unfold Tr.pv
    walk_at "py"
    refine is_name_S (NOk.sz ok) ?_
    rw [NOk.nm ok]
    walk_at "py"
    exact k
  | sm x =>
    unfold Tr.pv
    walk_at "py"
    refine is_name_S (NOk.sz ok) ?_
    rw [NOk.nm ok]
    walk_at "py"
    exact k
  | an l r =>
    unfold Tr.pv
    walk_at "py"
    exact k
  | oo l r =>
    unfold Tr.pv
    walk_at "py"
    exact k
structure Marks (h : PH) (m : Nat) (ms : List Str) : Prop where
  at_ : h[m]? = some (.lst (ms.map PV.str))
  ok : ∀ x ∈ ms, NOk x
  pos : 0 < ms.length
  big : ms.length ≤ 1000
theorem Marks.fr {b m : Nat} {h h' : PH} {ms : List Str} (M : Marks h m ms) (f : Fr b h h') (ne : m ≠ b) : Marks h' m ms := ⟨f.get ne M.at_, M.ok, M.pos, M.big⟩
theorem one_M {b c m : Nat} {h : PH} {ms : List Str} {Q : PV → PH → Prop} {X : XP} (B : Bag b c h) (M : Marks h m ms) (ne : m ≠ b) (k : ∀ (x : Str) (h' : PH), x ∈ ms → NOk x → Bag b c h' → h'.length = h.length → Fr b h h' → Q (.str x) h') : wp (sem__law_one [.obj b, .obj m] h) Q X := by
  refine one_L B ne M.at_ (by simpa using M.pos) (by have := M.big; simp; omega) fun v h' hv B' l f => ?_
  obtain ⟨x, hx, rfl⟩ := List.mem_map.mp hv
  exact k x h' hx (M.ok x hx) B' l f
theorem tree_I {n : Nat} {b c m : Nat} {h : PH} {ms : List Str} {Q : PV → PH → Prop} {X : XP} (B : Bag b c h) (M : Marks h m ms) (ne : m ≠ b) (k : ∀ (t : Tr) (h' : PH), t.Ok → t.size = 1 → t.high = 1 → Bag b c h' → Fr b h h' → Q t.pv h') : wp (sem__law_tree (n + 1) [.obj b, .obj m, .int 0] h) Q X := by
  show wp (runB 5 (b__law_tree (sem__law_tree n)) [.obj b, .obj m, .int 0] h) Q X
  refine wp_runB ?_
  show ws (b__law_tree _ [some (.obj b), some (.obj m), some (.int 0), none, none] h) _
  unfold b__law_tree
  walk_at "py"
  refine draw_I (by decide) (by decide) B fun d h1 a0 a1 B1 hl1 f1 => ?_
  walk_at "py"
  · exact k .alw h1 trivial rfl rfl B1 f1
  · rename_i e0 e1
    have hd : d = 1 ∨ d = 2 ∨ d = 3 := by simp at e0 e1; omega
    have hb := B1.lt
    have hm := (List.getElem?_eq_some_iff.mp M.at_).1
    rcases hd with rfl | rfl | rfl
    · refine ixO (p := .str "leader") getnew rfl ?_
      walk_at "py"
      refine one_M B1.app (M.fr f1.app ne) ne fun x h2 hx nx B2 hl2 f2 => ?_
      walk_at "py"
      exact k (.ld x) h2 nx rfl rfl B2 (f1.app.trans f2)
    · refine ixO (p := .str "all") getnew rfl ?_
      walk_at "py"
      refine one_M B1.app (M.fr f1.app ne) ne fun x h2 hx nx B2 hl2 f2 => ?_
      walk_at "py"
      exact k (.al x) h2 nx rfl rfl B2 (f1.app.trans f2)
    · refine ixO (p := .str "some") getnew rfl ?_
      walk_at "py"
      refine one_M B1.app (M.fr f1.app ne) ne fun x h2 hx nx B2 hl2 f2 => ?_
      walk_at "py"
      exact k (.sm x) h2 nx rfl rfl B2 (f1.app.trans f2)
  · rename_i e0 e1
    simp at e1
    omega
theorem wide_I : ∀ (n : Nat) {b c m : Nat} {h : PH} {ms : List Str} {many : Int} {Q : PV → PH → Prop} {X : XP}, Bag b c h → Marks h m ms → m ≠ b → 1 ≤ many → many ≤ n → many ≤ 1000 →
    (∀ (t : Tr) (h' : PH), t.Ok → (t.size : Int) = 2 * many - 1 → (t.high : Int) ≤ many → Bag b c h' → Fr b h h' → Q t.pv h') → wp (sem__law_wide n [.obj b, .obj m, .int many] h) Q X
  | 0, b, c, m, h, ms, many, Q, X, B, M, ne, l0, l1, l2, k => by omega
  | n + 1, b, c, m, h, ms, many, Q, X, B, M, ne, l0, l1, l2, k => by
    show wp (runB 5 (b__law_wide (sem__law_wide n)) [.obj b, .obj m, .int many] h) Q X
    refine wp_runB ?_
    show ws (b__law_wide _ [some (.obj b), some (.obj m), some (.int many), none, none] h) _
    unfold b__law_wide
    walk_at "py"
    · rename_i e
      have e : many = 1 := by simpa using e
      subst e
      refine tree_I B M ne fun t h1 ok sz hi B1 f1 => ?_
      walk_at "py"
      exact k t h1 ok (by rw [sz]; rfl) (by rw [hi]; decide) B1 f1
    · rename_i e
      have e : many ≠ 1 := by simpa using e
      refine draw_I (by omega) (by omega) B fun d h1 a0 a1 B1 hl1 f1 => ?_
      walk_at "py"
      refine wide_I n B1 (M.fr f1 ne) ne (by omega) (by omega) (by omega) fun t1 h2 ok1 sz1 hi1 B2 f2 => ?_
      walk_at "py"
      have hb := B2.lt
      refine one_L B2.app (by omega) getnew (by decide) (by decide) fun v h3 hv B3 hl3 f3 => ?_
      have f03 := (f1.trans f2).app.trans f3
      walk_at "py"
      refine wide_I n B3 (M.fr f03 ne) ne (by omega) (by omega) (by omega) fun t2 h4 ok2 sz2 hi2 B4 f4 => ?_
      walk_at "py"
      have hv' : v = .str "and" ∨ v = .str "or" := by simpa using hv
      rcases hv' with rfl | rfl
      · have e1 : Tr.size (.an t1 t2) = 1 + t1.size + t2.size := rfl
        have e2 : Tr.high (.an t1 t2) = 1 + max t1.high t2.high := rfl
        exact k (.an t1 t2) h4 ⟨ok1, ok2⟩ (by omega) (by omega) B4 (f03.trans f4)
      · have e1 : Tr.size (.oo t1 t2) = 1 + t1.size + t2.size := rfl
        have e2 : Tr.high (.oo t1 t2) = 1 + max t1.high t2.high := rfl
        exact k (.oo t1 t2) h4 ⟨ok1, ok2⟩ (by omega) (by omega) B4 (f03.trans f4)
/-- plain data of a bounded height -/
def gd : Nat → PV → Bool
  | 0, _ => false
  | n + 1, p => match p with
    | .non => true
    | .bl _ => true
    | .int _ => true
    | .str x => PyData.strOk x && decide (x.length ≤ 1000)
    | .tup xs => decide (xs.length ≤ 1000) && xs.all (gd n)
    | _ => false
def gdD : Nat → PV → PyData
  | 0, _ => .none
  | n + 1, p => match p with
    | .bl b => .bool b
    | .int i => .int i
    | .str x => .str x
    | .tup xs => .tuple (xs.map (gdD n))
    | _ => .none
theorem gd_tup {n : Nat} {xs : List PV} : gd (n + 1) (.tup xs) = true ↔ xs.length ≤ 1000 ∧ ∀ x ∈ xs, gd n x = true := by
  show (decide (xs.length ≤ 1000) && xs.all (gd n)) = true ↔ _
  rw [Bool.and_eq_true, decide_eq_true_eq, List.all_eq_true]
theorem gd_str {n : Nat} {x : Str} : gd (n + 1) (.str x) = true ↔ PyData.strOk x = true ∧ x.length ≤ 1000 := by
  show (PyData.strOk x && decide (x.length ≤ 1000)) = true ↔ _
  rw [Bool.and_eq_true, decide_eq_true_eq]
theorem gd_step : ∀ (n : Nat) (p : PV), gd n p = true → gd (n + 1) p = true ∧ gdD (n + 1) p = gdD n p
  | 0, p, e => by cases e
  | n + 1, p, e => by
    cases p with
    | tup xs =>
      obtain ⟨l, a⟩ := gd_tup.mp e
      refine ⟨gd_tup.mpr ⟨l, fun x hx => (gd_step n x (a x hx)).1⟩, ?_⟩
      show PyData.tuple (xs.map (gdD (n + 1))) = .tuple (xs.map (gdD n))
      rw [List.map_congr_left fun x hx => (gd_step n x (a x hx)).2]
    | _ => exact ⟨e, rfl⟩
theorem gd_mono {n m : Nat} {p : PV} (h : n ≤ m) (e : gd n p = true) : gd m p = true := by
  obtain ⟨k, rfl⟩ := Nat.exists_eq_add_of_le h
  clear h
  induction k with
  | zero => exact e
  | succ k ih => exact (gd_step _ p ih).1
theorem gdD_eq {n m : Nat} {p : PV} (h : n ≤ m) (e : gd n p = true) : gdD m p = gdD n p := by
  obtain ⟨k, rfl⟩ := Nat.exists_eq_add_of_le h
  clear h
  induction k with
  | zero => rfl
  | succ k ih => exact ((gd_step _ p (gd_mono (Nat.le_add_right n k) e)).2).trans ih
theorem mapM_all {f : PV → Option PyData} {g : PV → PyData} : ∀ {xs : List PV}, (∀ x ∈ xs, f x = some (g x)) → xs.mapM f = some (xs.map g)
  | [], _ => rfl
  | x :: xs, h => by
    rw [List.mapM_cons, h x List.mem_cons_self, mapM_all fun y hy => h y (List.mem_cons_of_mem _ hy)]
    rfl
theorem dv_gd {h : PH} : ∀ (n : Nat) (p : PV), gd n p = true → dv h n p = some (gdD n p)
  | 0, p, e => by cases e
  | n + 1, p, e => by
    cases p with
    | tup xs =>
      obtain ⟨l, a⟩ := gd_tup.mp e
      unfold dv
      dsimp only
      rw [if_pos l, mapM_all fun x hx => dv_gd n x (a x hx)]
      rfl
    | str x =>
      obtain ⟨k, l⟩ := gd_str.mp e
      unfold dv
      dsimp only
      rw [if_pos k]
      rfl
    | obj _ => cases e
    | rol _ => cases e
    | cls _ => cases e
    | _ => rfl
theorem toD_gd {h : PH} : ∀ (n : Nat) (p : PV), gd n p = true → toD h n p = some (gdD n p)
  | 0, p, e => by cases e
  | n + 1, p, e => by
    cases p with
    | tup xs =>
      obtain ⟨l, a⟩ := gd_tup.mp e
      unfold toD
      dsimp only
      rw [mapM_all fun x hx => toD_gd n x (a x hx)]
      rfl
    | obj _ => cases e
    | rol _ => cases e
    | cls _ => cases e
    | _ => rfl
theorem layAll : ∀ ds : List PyData, (∀ d ∈ ds, PyData.canLay0 d = true) → PyData.canLayAll0 ds = true
  | [], _ => rfl
  | d :: ds, h => by
    rw [PyData.canLayAll0, h d List.mem_cons_self, layAll ds fun e he => h e (List.mem_cons_of_mem _ he)]
    rfl
theorem depAll {n : Nat} : ∀ ds : List PyData, (∀ d ∈ ds, PyData.depth d ≤ n) → PyData.depthAll ds ≤ n
  | [], _ => Nat.zero_le _
  | d :: ds, h => Nat.max_le.mpr ⟨h d List.mem_cons_self, depAll ds fun e he => h e (List.mem_cons_of_mem _ he)⟩
theorem lay_gd : ∀ (n : Nat) (p : PV), gd n p = true → PyData.canLay0 (gdD n p) = true ∧ PyData.depth (gdD n p) ≤ n
  | 0, p, e => by cases e
  | n + 1, p, e => by
    cases p with
    | tup xs =>
      obtain ⟨l, a⟩ := gd_tup.mp e
      refine ⟨layAll _ fun d hd => ?_, Nat.succ_le_succ (depAll _ fun d hd => ?_)⟩
      · obtain ⟨x, hx, rfl⟩ := List.mem_map.mp hd
        exact (lay_gd n x (a x hx)).1
      · obtain ⟨x, hx, rfl⟩ := List.mem_map.mp hd
        exact (lay_gd n x (a x hx)).2
    | str x => exact ⟨(gd_str.mp e).1, Nat.zero_le _⟩
    | obj _ => cases e
    | rol _ => cases e
    | cls _ => cases e
    | _ => exact ⟨rfl, Nat.zero_le _⟩
/-- as == sees it -/
theorem datG {h : PH} {n : Nat} {p : PV} (e : gd n p = true) (hn : n ≤ 60) : datOf h p = some (gdD n p) := by
  unfold datOf
  rw [toD_gd 66 p (gd_mono (by omega) e), gdD_eq (by omega) e]
  obtain ⟨a, b⟩ := lay_gd n p e
  have s : SeqAt.shaped (gdD n p) = true := by
    show (PyData.canLay0 (gdD n p) && decide (PyData.depth (gdD n p) ≤ 64)) = true
    rw [a, Bool.true_and, decide_eq_true_eq]
    omega
  show (if SeqAt.shaped (gdD n p) = true then _ else _) = _
  rw [if_pos s]
theorem eqG {h : PH} {n m : Nat} {p q : PV} {Q : PV → PH → Prop} {X : XP} (e1 : gd n p = true) (h1 : n ≤ 60) (e2 : gd m q = true) (h2 : m ≤ 60) (k : Q (.bl (PyData.eqv (gdD n p) (gdD m q))) h) : wp (eqV p q h) Q X := eqD (datG e1 h1) (datG e2 h2) k
theorem neG {h : PH} {n m : Nat} {p q : PV} {Q : PV → PH → Prop} {X : XP} (e1 : gd n p = true) (h1 : n ≤ 60) (e2 : gd m q = true) (h2 : m ≤ 60) (k : Q (.bl (!PyData.eqv (gdD n p) (gdD m q))) h) : wp (neV p q h) Q X := neD (datG e1 h1) (datG e2 h2) k
theorem Tr.gd_ok : ∀ t : Tr, (∀ x, NOk x → x.length ≤ 1000) → t.Ok → gd (t.high + 1) t.pv = true
  | .alw, _, _ => by decide +kernel
  | .ld x, s, k => gd_tup.mpr ⟨Nat.le_of_ble_eq_true rfl, fun y hy => by
    simp only [List.mem_cons, List.not_mem_nil, or_false] at hy
    rcases hy with rfl | rfl
    · exact gd_str.mpr ⟨by decide +kernel, Nat.le_of_ble_eq_true rfl⟩
    · exact gd_str.mpr ⟨NOk.ok k, s x k⟩⟩
  | .al x, s, k => gd_tup.mpr ⟨Nat.le_of_ble_eq_true rfl, fun y hy => by
    simp only [List.mem_cons, List.not_mem_nil, or_false] at hy
    rcases hy with rfl | rfl
    · exact gd_str.mpr ⟨by decide +kernel, Nat.le_of_ble_eq_true rfl⟩
    · exact gd_str.mpr ⟨NOk.ok k, s x k⟩⟩
  | .sm x, s, k => gd_tup.mpr ⟨Nat.le_of_ble_eq_true rfl, fun y hy => by
    simp only [List.mem_cons, List.not_mem_nil, or_false] at hy
    rcases hy with rfl | rfl
    · exact gd_str.mpr ⟨by decide +kernel, Nat.le_of_ble_eq_true rfl⟩
    · exact gd_str.mpr ⟨NOk.ok k, s x k⟩⟩
  | .an l r, s, k => gd_tup.mpr ⟨Nat.le_of_ble_eq_true rfl, fun y hy => by
    have hh : Tr.high (.an l r) = 1 + max l.high r.high := rfl
    simp only [List.mem_cons, List.not_mem_nil, or_false] at hy
    rcases hy with rfl | rfl | rfl
    · exact gd_mono (n := 1) (by omega) (by decide +kernel)
    · exact gd_mono (by omega) (Tr.gd_ok l s k.1)
    · exact gd_mono (by omega) (Tr.gd_ok r s k.2)⟩
  | .oo l r, s, k => gd_tup.mpr ⟨Nat.le_of_ble_eq_true rfl, fun y hy => by
    have hh : Tr.high (.oo l r) = 1 + max l.high r.high := rfl
    simp only [List.mem_cons, List.not_mem_nil, or_false] at hy
    rcases hy with rfl | rfl | rfl
    · exact gd_mono (n := 1) (by omega) (by decide +kernel)
    · exact gd_mono (by omega) (Tr.gd_ok l s k.1)
    · exact gd_mono (by omega) (Tr.gd_ok r s k.2)⟩
theorem nameB_len {x : Str} (h : nameB x = true) : x.length ≤ 1000 := by
  unfold nameB at h
  simp only [Bool.and_eq_true, decide_eq_true_eq] at h
  omega
theorem NOk.len {x : Str} (h : NOk x) : x.length ≤ 1000 := nameB_len h.nm
end
section
/-! texts -/
abbrev tl (x : Str) : List Nat := x.cps.toList
/-- a text of plain signs, of a bounded length -/
def Tx (n : Nat) (x : Str) : Prop := (∀ c ∈ x.cps.toList, c < 1000) ∧ x.length ≤ n
def txB (n : Nat) (x : Str) : Bool := x.cps.toList.all (fun c => decide (c < 1000)) && decide (x.length ≤ n)
theorem Tx.of {n : Nat} {x : Str} (h : txB n x = true) : Tx n x := by
  unfold txB at h
  rw [Bool.and_eq_true, decide_eq_true_eq, List.all_eq_true] at h
  exact ⟨fun c hc => of_decide_eq_true (h.1 c hc), h.2⟩
theorem Tx.ok {n : Nat} {x : Str} (h : Tx n x) : PyData.strOk x = true := strOk_of fun c hc => Nat.lt_trans (h.1 c hc) (by decide)
theorem Tx.mono {n m : Nat} {x : Str} (h : Tx n x) (k : n ≤ m) : Tx m x := ⟨h.1, Nat.le_trans h.2 k⟩
theorem Tx.app {n m : Nat} {x y : Str} (h : Tx n x) (k : Tx m y) : Tx (n + m) (x ++ y) := ⟨fun c hc => by
  have : c ∈ x.cps.toList ++ y.cps.toList := by rw [← Array.toList_append]; exact hc
  exact (List.mem_append.mp this).elim (h.1 c) (k.1 c), by rw [Str.length_append]; exact Nat.add_le_add h.2 k.2⟩
theorem joinL_mem {s : List Nat} {c : Nat} : ∀ {ps : List (List Nat)}, c ∈ TL.joinL s ps → c ∈ s ∨ ∃ p ∈ ps, c ∈ p
  | [], h => by cases h
  | [p], h => .inr ⟨p, List.mem_singleton.mpr rfl, h⟩
  | p :: q :: r, h => by
    have h' : c ∈ p ++ (s ++ TL.joinL s (q :: r)) := h
    rcases List.mem_append.mp h' with h | h
    · exact .inr ⟨p, List.mem_cons_self, h⟩
    · rcases List.mem_append.mp h with h | h
      · exact .inl h
      · rcases joinL_mem h with h | ⟨p', hp, h⟩
        · exact .inl h
        · exact .inr ⟨p', List.mem_cons_of_mem _ hp, h⟩
theorem joinL_sub {s : List Nat} : ∀ {ps : List (List Nat)} {p : List Nat}, p ∈ ps → (∀ c ∈ p, c ∈ TL.joinL s ps) ∧ p.length ≤ (TL.joinL s ps).length
  | [q], p, h => by
    rw [List.mem_singleton.mp h]
    exact ⟨fun c hc => hc, Nat.le_refl _⟩
  | q :: q2 :: r, p, h => by
    have e : TL.joinL s (q :: q2 :: r) = q ++ (s ++ TL.joinL s (q2 :: r)) := rfl
    rw [e]
    rcases List.mem_cons.mp h with rfl | h
    · exact ⟨fun c hc => List.mem_append_left _ hc, by simp⟩
    · obtain ⟨a, b⟩ := joinL_sub (s := s) h
      exact ⟨fun c hc => List.mem_append_right _ (List.mem_append_right _ (a c hc)), by simp; omega⟩
theorem join_cps' (y : Str) (ps : List Str) : (Txt.join y ps).cps.toList = TL.joinL (y.cps.toList) (ps.map fun p => p.cps.toList) := by
  rw [TL.join_eq]
  exact TL.tl_join y ps
theorem len_cps (x : Str) : x.length = x.cps.toList.length := by simp [Str.length]
theorem Tx.join {k : Nat} : ∀ {ps : List Str}, (∀ p ∈ ps, Tx k p) → Tx ((k + 1) * ps.length) (Txt.join " " ps) := fun {ps} h => by
  refine ⟨fun c hc => ?_, ?_⟩
  · rw [join_cps'] at hc
    rcases joinL_mem hc with hc | ⟨p, hp, hc⟩
    · rw [show (" " : Str).cps.toList = [32] by decide +kernel] at hc
      have : c = 32 := List.mem_singleton.mp hc
      omega
    · obtain ⟨p', hp', rfl⟩ := List.mem_map.mp hp
      exact (h p' hp').1 c hc
  · rw [len_cps, join_cps']
    induction ps with
    | nil => exact Nat.zero_le _
    | cons p ps ih =>
      have i := ih fun q hq => h q (List.mem_cons_of_mem _ hq)
      have hp := (h p List.mem_cons_self).2
      rw [len_cps] at hp
      cases ps with
      | nil => show p.cps.toList.length ≤ (k + 1) * 1; omega
      | cons q r =>
        have e : TL.joinL ((" " : Str).cps.toList) ((p :: q :: r).map fun p => p.cps.toList) = p.cps.toList ++ ((" " : Str).cps.toList ++ TL.joinL ((" " : Str).cps.toList) ((q :: r).map fun p => p.cps.toList)) := rfl
        rw [e, List.length_append, List.length_append, show (" " : Str).cps.toList.length = 1 from by decide +kernel]
        have e2 : (p :: q :: r).length = (q :: r).length + 1 := rfl
        rw [e2, Nat.mul_succ]
        omega
theorem Tx.split {n : Nat} {x : Str} (h : Tx n x) : ∀ w ∈ Txt.split x " ", Tx n w := fun w hw => by
  have e : (Str.join " " (Txt.split x " ")).cps.toList = x.cps.toList := by rw [StrLaws.join_split]
  have e2 : (Str.join " " (Txt.split x " ")).cps.toList = TL.joinL ((" " : Str).cps.toList) ((Txt.split x " ").map fun p => p.cps.toList) := TL.tl_join " " _
  obtain ⟨a, b⟩ := joinL_sub (s := (" " : Str).cps.toList) (List.mem_map.mpr ⟨w, hw, rfl⟩ : w.cps.toList ∈ (Txt.split x " ").map fun p => p.cps.toList)
  rw [← e2, e] at a b
  exact ⟨fun c hc => h.1 c (a c hc), Nat.le_trans (by rw [len_cps]; exact b) (by rw [← len_cps]; exact h.2)⟩
theorem joinL_app {s : List Nat} : ∀ {a b : List (List Nat)}, a ≠ [] → b ≠ [] → TL.joinL s (a ++ b) = TL.joinL s a ++ (s ++ TL.joinL s b)
  | [p], b, _, hb => by
    cases b with
    | nil => exact absurd rfl hb
    | cons q r => rfl
  | p :: q :: r, b, _, hb => by
    have e : TL.joinL s (p :: q :: r ++ b) = p ++ (s ++ TL.joinL s (q :: r ++ b)) := rfl
    have e2 : TL.joinL s (p :: q :: r) = p ++ (s ++ TL.joinL s (q :: r)) := rfl
    rw [e, e2, joinL_app (by simp) hb]
    simp [List.append_assoc]
theorem str_ext {x y : Str} (h : x.cps.toList = y.cps.toList) : x = y := by
  obtain ⟨x⟩ := x
  obtain ⟨y⟩ := y
  have : x = y := Array.ext' h
  rw [this]
theorem app_cps (x y : Str) : (x ++ y).cps.toList = x.cps.toList ++ y.cps.toList := by
  show (x.cps ++ y.cps).toList = _
  exact Array.toList_append
/-- the words of a tree -/
def Tr.ww : Tr → List Str
  | .alw => ["always"]
  | .ld x => ["leader", x]
  | .al x => ["all", x]
  | .sm x => ["some", x]
  | .an l r => "and" :: (l.ww ++ r.ww)
  | .oo l r => "or" :: (l.ww ++ r.ww)
theorem Tr.ww_ne : ∀ t : Tr, t.ww ≠ []
  | .alw => by simp [Tr.ww]
  | .ld _ => by simp [Tr.ww]
  | .al _ => by simp [Tr.ww]
  | .sm _ => by simp [Tr.ww]
  | .an _ _ => by simp [Tr.ww]
  | .oo _ _ => by simp [Tr.ww]
theorem Tr.ww_len : ∀ t : Tr, 1 ≤ t.ww.length ∧ t.ww.length ≤ 2 * t.size
  | .alw => ⟨by decide, by decide⟩
  | .ld _ => ⟨Nat.le_add_left .., Nat.le_refl _⟩
  | .al _ => ⟨Nat.le_add_left .., Nat.le_refl _⟩
  | .sm _ => ⟨Nat.le_add_left .., Nat.le_refl _⟩
  | .an l r => by
    have a := l.ww_len
    have b := r.ww_len
    simp only [Tr.ww, Tr.size, List.length_cons, List.length_append]
    omega
  | .oo l r => by
    have a := l.ww_len
    have b := r.ww_len
    simp only [Tr.ww, Tr.size, List.length_cons, List.length_append]
    omega
/-- a word: short, without blanks -/
def Wd (w : Str) : Prop := Tx 9 w ∧ 32 ∉ w.cps.toList
theorem letters_lt : ∀ c : Nat, strIn ⟨#[c]⟩ "abcdefghijklmnopqrstuvwxyz" = true → c < 1000 ∧ c ≠ 32 := by
  intro c h
  have e : strIn ⟨#[c]⟩ "abcdefghijklmnopqrstuvwxyz" = decide (c ∈ ("abcdefghijklmnopqrstuvwxyz" : Str).cps.toList) := StrLaws.found_one _ c
  rw [e] at h
  have m := of_decide_eq_true h
  have a : ∀ c ∈ ("abcdefghijklmnopqrstuvwxyz" : Str).cps.toList, c < 1000 ∧ c ≠ 32 := by decide +kernel
  exact a c m
theorem NOk.wd {x : Str} (h : NOk x) : Wd x := by
  have n := h.nm
  unfold nameB at n
  simp only [Bool.and_eq_true, decide_eq_true_eq, List.all_eq_true] at n
  refine ⟨⟨fun c hc => (letters_lt c (n.2 c hc)).1, by omega⟩, fun hc => (letters_lt 32 (n.2 32 hc)).2 rfl⟩
theorem wd_by {w : Str} (h : (txB 9 w && !w.cps.toList.contains 32) = true) : Wd w := by
  rw [Bool.and_eq_true] at h
  exact ⟨Tx.of h.1, by simpa using h.2⟩
theorem Tr.ww_wd : ∀ t : Tr, t.Ok → ∀ w ∈ t.ww, Wd w
  | .alw, _, w, hw => by
    rw [List.mem_singleton.mp hw]
    exact wd_by (by decide +kernel)
  | .ld x, k, w, hw => by
    simp only [Tr.ww, List.mem_cons, List.not_mem_nil, or_false] at hw
    rcases hw with rfl | rfl
    · exact wd_by (by decide +kernel)
    · exact NOk.wd k
  | .al x, k, w, hw => by
    simp only [Tr.ww, List.mem_cons, List.not_mem_nil, or_false] at hw
    rcases hw with rfl | rfl
    · exact wd_by (by decide +kernel)
    · exact NOk.wd k
  | .sm x, k, w, hw => by
    simp only [Tr.ww, List.mem_cons, List.not_mem_nil, or_false] at hw
    rcases hw with rfl | rfl
    · exact wd_by (by decide +kernel)
    · exact NOk.wd k
  | .an l r, k, w, hw => by
    simp only [Tr.ww, List.mem_cons, List.mem_append] at hw
    rcases hw with rfl | hw | hw
    · exact wd_by (by decide +kernel)
    · exact l.ww_wd k.1 w hw
    · exact r.ww_wd k.2 w hw
  | .oo l r, k, w, hw => by
    simp only [Tr.ww, List.mem_cons, List.mem_append] at hw
    rcases hw with rfl | hw | hw
    · exact wd_by (by decide +kernel)
    · exact l.ww_wd k.1 w hw
    · exact r.ww_wd k.2 w hw
/-- the text of a tree -/
def Tr.tx (t : Tr) : Str := Txt.join " " t.ww
theorem Tr.tx_split {t : Tr} (ok : t.Ok) : Txt.split t.tx " " = t.ww :=
  TL.split_join (s := 32) (S := []) (by decide +kernel) (by decide +kernel) t.ww_ne fun p hp => (t.ww_wd ok p hp).2
theorem node_tx {w : Str} {l r : Tr} : Txt.join " " (w :: (l.ww ++ r.ww)) = w ++ " " ++ l.tx ++ " " ++ r.tx := by
  refine str_ext ?_
  have e : (w :: (l.ww ++ r.ww)).map (fun p : Str => p.cps.toList) = [w.cps.toList] ++ (l.ww.map (fun p : Str => p.cps.toList) ++ r.ww.map (fun p : Str => p.cps.toList)) := by simp
  have n1 : l.ww.map (fun p : Str => p.cps.toList) ≠ [] := by simp [l.ww_ne]
  have n2 : r.ww.map (fun p : Str => p.cps.toList) ≠ [] := by simp [r.ww_ne]
  rw [join_cps', e, joinL_app (by simp) (by simp [n1]), joinL_app n1 n2]
  simp only [app_cps, Tr.tx, join_cps', List.append_assoc]
  rfl
theorem Tr.tx_Tx {t : Tr} (ok : t.Ok) (hs : t.size ≤ 100) : Tx 5000 t.tx := (Tx.join (k := 9) fun p hp => (t.ww_wd ok p hp).1).mono (by have := t.ww_len; omega)
end
section
/-- what kind of part it is -/
inductive KD where
  | bad
  | leaf
  | pair (l r : PV)
def nmP : PV → Bool
  | .str z => nameB z
  | _ => false
def kd : PV → KD
  | .tup (.str s :: xs) => if s = "and" ∨ s = "or" then (match xs with | [l, r] => .pair l r | _ => .bad) else if s = "always" then (match xs with | [] => .leaf | _ => .bad)
    else if s = "leader" ∨ s = "all" ∨ s = "some" then (match xs with | [y] => if nmP y = true then .leaf else .bad | _ => .bad) else .bad
  | _ => .bad
def KD.good : KD → Bool
  | .bad => false
  | _ => true
theorem is_name_G {h : PH} {n : Nat} {y : PV} {Q : PV → PH → Prop} {X : XP} (g : gd n y = true) (k : Q (.bl (nmP y)) h) : wp (sem_is_name [y] h) Q X := by
  cases n with
  | zero => cases g
  | succ n =>
    cases y with
    | str z => exact is_name_S (Nat.le_trans (gd_str.mp g).2 (Nat.le_of_ble_eq_true rfl)) k
    | obj _ => cases g
    | rol _ => cases g
    | cls _ => cases g
    | _ => exact is_name_N rfl rfl k
theorem at0 {x : PV} {xs : List PV} : L2.atI (x :: xs) (0 : Int) = some x := by
  show L2.atI (x :: xs) ((0 : Nat) : Int) = _
  rw [atI_nat']
  rfl
theorem at1 {x y : PV} {xs : List PV} : L2.atI (x :: y :: xs) (1 : Int) = some y := by
  show L2.atI (x :: y :: xs) ((1 : Nat) : Int) = _
  rw [atI_nat']
  rfl
theorem at2 {x y z : PV} {xs : List PV} : L2.atI (x :: y :: z :: xs) (2 : Int) = some z := by
  show L2.atI (x :: y :: z :: xs) ((2 : Nat) : Int) = _
  rw [atI_nat']
  rfl
local macro_rules | `(tactic| walk_at "pyx") => `(tactic| first
  | ((with_reducible refine eqSS ?_ ?_ ?_); (first | assumption | decide +kernel); (first | assumption | decide +kernel))
  | (with_reducible refine inTS (ws := ["leader", "all", "some"]) rfl ?_)
  | (with_reducible refine inTS (ws := ["and", "or"]) rfl ?_)
  | ((with_reducible apply ixT); (first | exact rfl | exact at0 | exact at1 | exact at2)))
set_option maxHeartbeats 4000000 in
theorem is_part_G {h : PH} {n : Nat} {p : PV} {Q : PV → PH → Prop} {X : XP} (g : gd n p = true) (k : Q (.bl (kd p).good) h) : wp (sem_is_part [p] h) Q X := by
  unfold sem_is_part
  refine wp_runB ?_
  show ws (b_is_part [some p] h) _
  unfold b_is_part
  cases n with
  | zero => cases g
  | succ n =>
    cases p with
    | obj _ => cases g
    | rol _ => cases g
    | cls _ => cases g
    | tup xs =>
      obtain ⟨l1, a1⟩ := gd_tup.mp g
      cases xs with
      | nil =>
        walk_at "py"
        exact k
      | cons x xs =>
        have gx := a1 x List.mem_cons_self
        cases n with
        | zero => cases gx
        | succ n =>
          cases x with
          | str s =>
            have ks := (gd_str.mp gx).1
            by_cases e1 : s = "always"
            · subst e1
              cases xs with
              | nil => walk_at "py"; exact k
              | cons y ys =>
                walk_at "py"
                have e : ((((PV.str "always" :: y :: ys).length : Nat) : Int) == 1) = false := by simp; omega
                rw [e]
                exact k
            · by_cases e2 : s = "leader" ∨ s = "all" ∨ s = "some"
              · have kk : ∀ ys, kd (.tup (.str s :: ys)) = (match (generalizing := false) ys with | [y] => if nmP y = true then .leaf else .bad | _ => .bad) := fun ys => by
                  have n1 : ¬ (s = "and" ∨ s = "or") := by rcases e2 with rfl | rfl | rfl <;> decide +kernel
                  show (if s = "and" ∨ s = "or" then _ else _) = _
                  rw [if_neg n1, if_neg e1, if_pos e2]
                rw [kk] at k
                match xs, k, l1, g, a1 with
                | [], k, l1, g, a1 =>
                  rcases e2 with rfl | rfl | rfl
                  all_goals
                    walk_at "py"
                    exact k
                | [y], k, l1, g, a1 =>
                  have e : (match (generalizing := false) [y] with | [y] => if nmP y = true then KD.leaf else .bad | _ => .bad).good = nmP y := by
                    show (if nmP y = true then KD.leaf else .bad).good = nmP y
                    cases nmP y <;> rfl
                  rw [e] at k
                  rcases e2 with rfl | rfl | rfl
                  all_goals
                    walk_at "py"
                    refine is_name_G (a1 y (List.mem_cons_of_mem _ List.mem_cons_self)) ?_
                    walk_at "py"
                    exact k
                | y :: y2 :: ys, k, l1, g, a1 =>
                  rcases e2 with rfl | rfl | rfl
                  all_goals
                    walk_at "py"
                    first
                    | exact k
                    | (rename_i z; simp at z; omega)
              · have f1 : (s == "always") = false := by simpa using e1
                have f2 : ((["leader", "all", "some"] : List Str).any fun w => decide (w = s)) = false := by
                  simp only [not_or] at e2
                  simp [Ne.symm e2.1, Ne.symm e2.2.1, Ne.symm e2.2.2]
                by_cases e3 : s = "and" ∨ s = "or"
                · have kk : ∀ ys, kd (.tup (.str s :: ys)) = (match (generalizing := false) ys with | [l, r] => .pair l r | _ => .bad) := fun ys => by
                    show (if s = "and" ∨ s = "or" then _ else _) = _
                    rw [if_pos e3]
                  rw [kk] at k
                  match xs, k, l1, g, a1 with
                  | [], k, l1, g, a1 =>
                    rcases e3 with rfl | rfl
                    all_goals
                      walk_at "py"
                      exact k
                  | [y], k, l1, g, a1 =>
                    rcases e3 with rfl | rfl
                    all_goals
                      walk_at "py"
                      exact k
                  | [y, y2], k, l1, g, a1 =>
                    rcases e3 with rfl | rfl
                    all_goals
                      walk_at "py"
                      exact k
                  | y :: y2 :: y3 :: ys, k, l1, g, a1 =>
                    have e : ((((PV.str s :: y :: y2 :: y3 :: ys).length : Nat) : Int) == 3) = false := by simp; omega
                    rcases e3 with rfl | rfl
                    all_goals
                      walk_at "py"
                      rw [e]
                      exact k
                · have f3 : ((["and", "or"] : List Str).any fun w => decide (w = s)) = false := by
                    simp only [not_or] at e3
                    simp [Ne.symm e3.1, Ne.symm e3.2]
                  have kk : kd (.tup (.str s :: xs)) = .bad := by
                    show (if s = "and" ∨ s = "or" then _ else _) = _
                    rw [if_neg e3, if_neg e1, if_neg e2]
                  rw [kk] at k
                  walk_at "py"
                  all_goals first
                    | exact k
                    | (rename_i z; rw [f1] at z; cases z; done)
                    | (rename_i z; rw [if_neg Bool.false_ne_true, f2] at z; cases z; done)
                    | (rename_i z _; rw [if_neg Bool.false_ne_true, f2] at z; cases z; done)
                    | (rename_i z; rw [if_neg Bool.false_ne_true, f3] at z; cases z; done)
          | obj _ => cases gx
          | rol _ => cases gx
          | cls _ => cases gx
          | _ =>
            walk_at "py"
            exact k
    | _ =>
      walk_at "py"
      exact k
end
section
inductive CR where
  | ok (c : Int)
  | big
  | inv (q : PV)
def chk : Nat → PV → Int → Int → CR
  | 0, _, _, _ => .big
  | n + 1, p, d, c => if 15 ≤ c ∨ 6 < d then .big else match kd p with
    | .bad => .inv p
    | .leaf => .ok (c + 1)
    | .pair l r => match chk n l (d + 1) (c + 1) with
      | .ok c2 => chk n r (d + 1) c2
      | e => e
theorem kd_pair {m : Nat} {p l r : PV} (g : gd m p = true) (e : kd p = .pair l r) : ∃ s, p = .tup [.str s, l, r] ∧ (s = "and" ∨ s = "or") ∧ gd m l = true ∧ gd m r = true := by
  unfold kd at e
  split at e
  · rename_i s xs
    split at e
    · rename_i hs
      split at e
      · cases e
        cases m with
        | zero => cases g
        | succ m =>
          obtain ⟨_, a⟩ := gd_tup.mp g
          exact ⟨s, rfl, hs, gd_mono (Nat.le_succ m) (a _ (by simp)), gd_mono (Nat.le_succ m) (a _ (by simp))⟩
      · cases e
    · split at e
      · split at e <;> cases e
      · split at e
        · split at e
          · split at e <;> cases e
          · cases e
        · cases e
  · cases e
theorem kd_leaf {p : PV} (e : kd p = .leaf) : p = .tup [.str "always"] ∨ ∃ s y, p = .tup [.str s, y] ∧ (s = "leader" ∨ s = "all" ∨ s = "some") ∧ nmP y = true := by
  unfold kd at e
  split at e
  · rename_i s xs
    split at e
    · split at e <;> cases e
    · split at e
      · rename_i h1
        split at e
        · exact .inl (by rw [h1])
        · cases e
      · split at e
        · rename_i h2
          split at e
          · split at e
            · rename_i y hy
              exact .inr ⟨s, y, rfl, h2, hy⟩
            · cases e
          · cases e
        · cases e
  · cases e
local macro_rules | `(tactic| walk_at "pyx") => `(tactic| first
  | ((with_reducible refine eqSS ?_ ?_ ?_); (first | assumption | decide +kernel); (first | assumption | decide +kernel))
  | (with_reducible refine inTS (ws := ["leader", "all", "some"]) rfl ?_)
  | (with_reducible refine inTS (ws := ["and", "or"]) rfl ?_)
  | ((with_reducible apply ixT); (first | exact rfl | exact at0 | exact at1 | exact at2)))
def CR.ends (r : CR) (h : PH) (Q : PV → PH → Prop) (X : XP) : Prop := match r with
  | .ok c => Q (.int c) h
  | .big => x_TooLarge X (.int 15) h
  | .inv q => x_InvalidCondition X q h
theorem checked_G : ∀ (n m : Nat) {p : PV} {d c : Int} {h : PH} {Q : PV → PH → Prop} {X : XP}, gd m p = true → 8 ≤ d + n → d ≤ 7 → (chk n p d c).ends h Q X → wp (sem_checked n [p, .int d, .int c] h) Q X
  | 0, m, p, d, c, h, Q, X, g, h1, h2, k => by omega
  | n + 1, m, p, d, c, h, Q, X, g, h1, h2, k => by
    show wp (runB 3 (b_checked (sem_checked n)) [p, .int d, .int c] h) Q X
    refine wp_runB ?_
    show ws (b_checked _ [some p, some (.int d), some (.int c)] h) _
    unfold b_checked
    unfold chk at k
    walk_at "py"
    · rename_i e
      rw [if_pos (.inl (by simpa using e))] at k
      exact k
    · rename_i e
      rw [if_pos (.inr (by simpa using e))] at k
      exact k
    · rename_i e1 e2
      have n1 : ¬ (15 ≤ c ∨ 6 < d) := by simp at e1 e2; omega
      rw [if_neg n1] at k
      refine is_part_G g ?_
      cases e : kd p with
      | bad =>
        rw [e] at k
        walk_at "py"
        exact k
      | leaf =>
        rw [e] at k
        rcases kd_leaf e with rfl | ⟨s, y, rfl, hs, _⟩
        · walk_at "py"
          exact k
        · rcases hs with rfl | rfl | rfl
          all_goals
            walk_at "py"
            exact k
      | pair l r =>
        rw [e] at k
        dsimp only at k
        obtain ⟨s, rfl, hs, gl, gr⟩ := kd_pair g e
        have go : ∀ {Q : PV → PH → Prop}, (∀ c2, chk n l (d + 1) (c + 1) = .ok c2 → Q (.int c2) h) → ((∀ c2, chk n l (d + 1) (c + 1) ≠ .ok c2) → (chk n l (d + 1) (c + 1)).ends h Q X) → wp (sem_checked n [l, .int (d + 1), .int (c + 1)] h) Q X := fun {Q} k1 k2 => by
          refine checked_G n m gl (by omega) (by omega) ?_
          cases e2 : chk n l (d + 1) (c + 1) with
          | ok c2 => exact k1 c2 e2
          | big => rw [e2] at k2; exact k2 (fun _ z => nomatch z)
          | inv q => rw [e2] at k2; exact k2 (fun _ z => nomatch z)
        rcases hs with rfl | rfl
        all_goals
          walk_at "py"
          refine go (fun c2 e2 => ?_) (fun ne => ?_)
          · walk_at "py"
            rw [e2] at k
            refine checked_G n m gr (by omega) (by omega) ?_
            dsimp only at k
            cases e3 : chk n r (d + 1) c2 with
            | ok c3 => rw [e3] at k; walk_at "py"; exact k
            | big => rw [e3] at k; exact k
            | inv q => rw [e3] at k; exact k
          · cases e2 : chk n l (d + 1) (c + 1) with
            | ok c2 => exact absurd e2 (ne c2)
            | big => rw [e2] at k; exact k
            | inv q => rw [e2] at k; exact k
def CR.due : CR → PV
  | .ok c => .int c
  | .big => .tup [.str "TooLarge", .int 15]
  | .inv q => .tup [.str "InvalidCondition", q]
end
section
theorem eq_nil {m : Nat} {x : PV} {xs : List PV} {h : PH} {Q : PV → PH → Prop} {X : XP} (g : gd m (.tup (x :: xs)) = true) (hm : m ≤ 60) (k : Q (.bl false) h) : wp (eqV (.tup (x :: xs)) (.tup []) h) Q X := by
  refine eqG g hm (show gd 1 (.tup []) = true by decide +kernel) (by omega) ?_
  cases m with
  | zero => cases g
  | succ m => exact k
theorem eq_nil0 {h : PH} {Q : PV → PH → Prop} {X : XP} (k : Q (.bl true) h) : wp (eqV (.tup []) (.tup []) h) Q X :=
  eqG (show gd 1 (.tup []) = true by decide +kernel) (by omega) (show gd 1 (.tup []) = true by decide +kernel) (by omega) k
theorem ne_alw0 {h : PH} {Q : PV → PH → Prop} {X : XP} (k : Q (.bl false) h) : wp (neV (.tup [.str "always"]) (.tup [.str "always"]) h) Q X :=
  neG (show gd 2 (.tup [.str "always"]) = true by decide +kernel) (by omega) (show gd 2 (.tup [.str "always"]) = true by decide +kernel) (by omega) k
theorem ne_alw {m : Nat} {s : Str} {xs : List PV} {h : PH} {Q : PV → PH → Prop} {X : XP} (g : gd m (.tup (.str s :: xs)) = true) (hm : m ≤ 60) (ne : s ≠ "always" ∨ xs ≠ []) (k : Q (.bl true) h) : wp (neV (.tup (.str s :: xs)) (.tup [.str "always"]) h) Q X := by
  refine neG g hm (show gd 2 (.tup [.str "always"]) = true by decide +kernel) (by omega) ?_
  match m, g with
  | 0, g => cases g
  | 1, g => exact absurd ((gd_tup.mp g).2 (.str s) List.mem_cons_self) (fun z => by cases z)
  | m + 2, g =>
    have e : PyData.eqv (gdD (m + 2) (.tup (.str s :: xs))) (gdD 2 (.tup [.str "always"])) = false := by
      show ((s == "always") && PyData.eqvAll (xs.map (gdD (m + 1))) []) = false
      rcases ne with ne | ne
      · rw [show (s == "always") = false by simpa using ne]; rfl
      · cases xs with
        | nil => exact absurd rfl ne
        | cons x xs => exact Bool.and_false _
    rw [e]
    exact k
/-- the bad ones -/
theorem kd_bad {s : Str} {xs : List PV} (e : kd (.tup (.str s :: xs)) = .bad) : (s ≠ "always" ∨ xs ≠ []) ∧ (¬ (s = "and" ∨ s = "or") ∨ xs.length ≠ 2) ∧ (¬ (s = "leader" ∨ s = "all" ∨ s = "some") ∨ ∀ y, xs = [y] → nmP y = false) := by
  refine ⟨?_, ?_, ?_⟩
  · by_cases h : s = "always"
    · right
      rintro rfl
      have : kd (.tup (.str s :: [])) = .leaf := by rw [h]; rfl
      rw [this] at e
      cases e
    · exact .inl h
  · by_cases h : s = "and" ∨ s = "or"
    · right
      intro l
      match xs, l, e with
      | [a, b], _, e =>
        have : kd (.tup (.str s :: [a, b])) = .pair a b := by
          show (if s = "and" ∨ s = "or" then _ else _) = _
          rw [if_pos h]
        rw [this] at e
        cases e
    · exact .inl h
  · by_cases h : s = "leader" ∨ s = "all" ∨ s = "some"
    · right
      rintro y rfl
      have : kd (.tup (.str s :: [y])) = if nmP y = true then .leaf else .bad := by
        show (if s = "and" ∨ s = "or" then _ else _) = _
        rw [if_neg (by rcases h with rfl | rfl | rfl <;> decide +kernel), if_neg (by rcases h with rfl | rfl | rfl <;> decide +kernel), if_pos h]
      rw [this] at e
      cases hy : nmP y with
      | false => rfl
      | true => rw [hy] at e; cases e
    · exact .inl h
theorem dec_sym (a b : Str) : decide (a = b) = decide (b = a) := decide_eq_decide.mpr eq_comm
theorem any3 (s : Str) : ((["leader", "all", "some"] : List Str).any fun w => decide (w = s)) = decide (s = "leader" ∨ s = "all" ∨ s = "some") := by
  show (decide (("leader" : Str) = s) || (decide (("all" : Str) = s) || (decide (("some" : Str) = s) || false))) = _
  rw [dec_sym "leader", dec_sym "all", dec_sym "some", Bool.or_false, ← Bool.decide_or, ← Bool.decide_or]
theorem any2 (s : Str) : ((["and", "or"] : List Str).any fun w => decide (w = s)) = decide (s = "and" ∨ s = "or") := by
  show (decide (("and" : Str) = s) || (decide (("or" : Str) = s) || false)) = _
  rw [dec_sym "and", dec_sym "or", Bool.or_false, ← Bool.decide_or]
theorem any3' (s : Str) : (if false = true then !((["leader", "all", "some"] : List Str).any fun w => decide (w = s)) else ((["leader", "all", "some"] : List Str).any fun w => decide (w = s))) = decide (s = "leader" ∨ s = "all" ∨ s = "some") := any3 s
theorem any2' (s : Str) : (if false = true then !((["and", "or"] : List Str).any fun w => decide (w = s)) else ((["and", "or"] : List Str).any fun w => decide (w = s))) = decide (s = "and" ∨ s = "or") := any2 s
theorem any3n (s : Str) : (if true = true then !((["leader", "all", "some"] : List Str).any fun w => decide (w = s)) else ((["leader", "all", "some"] : List Str).any fun w => decide (w = s))) = !decide (s = "leader" ∨ s = "all" ∨ s = "some") := by rw [if_pos rfl, any3]
local macro_rules | `(tactic| walk_at "pyx") => `(tactic| first
  | ((with_reducible refine eqSS ?_ ?_ ?_); (first | assumption | decide +kernel); (first | assumption | decide +kernel))
  | (with_reducible refine eq_nil0 ?_)
  | ((with_reducible apply eq_nil); assumption; assumption)
  | (with_reducible refine ne_alw0 ?_)
  | ((with_reducible apply ne_alw); assumption; assumption; (first | assumption | (left; decide +kernel)))
  | (with_reducible refine inTS (ws := ["leader", "all", "some"]) rfl ?_)
  | (with_reducible refine inTS (ws := ["and", "or"]) rfl ?_)
  | ((with_reducible apply ixT); (first | exact rfl | exact at0 | exact at1 | exact at2)))
set_option maxHeartbeats 4000000 in
theorem walk_bad {F : Fn} {m : Nat} {s : Str} {xs : List PV} {d c : Int} {h : PH} {Q : PV → PH → Prop} {X : XP} (g : gd m (.tup (.str s :: xs)) = true) (hm : m ≤ 60) (e0 : ¬ (15 ≤ c ∨ 6 < d)) (e : kd (.tup (.str s :: xs)) = .bad) (k : Q (.tup [.str "InvalidCondition", .tup (.str s :: xs)]) h) :
    ws (b__law_walk F [some (.tup (.str s :: xs)), some (.int d), some (.int c)] h) { nx := fun _ h' => Q .non h', rt := Q, ex := fun c fs _ h' => X c fs h' } := by
  unfold b__law_walk
  have f1 : decide (15 ≤ c) = false := by simp; omega
  have f2 : decide (6 < d) = false := by simp; omega
  obtain ⟨b1, b2, b3⟩ := kd_bad e
  match m, g with
  | 0, g => cases g
  | m + 1, g =>
    obtain ⟨l1, a1⟩ := gd_tup.mp g
    have gx := a1 (.str s) List.mem_cons_self
    match m, gx with
    | 0, gx => cases gx
    | m + 1, gx =>
      have ks := (gd_str.mp gx).1
      walk_at "py"
      all_goals first
        | exact k
        | (rename_i z; rw [show decide (c ≥ 15) = false from f1] at z; cases z; done)
        | (rename_i z; rw [show decide (d > 6) = false from f2] at z; cases z; done)
        | skip
      · rename_i z1 z2
        rw [any2'] at z1
        have z3 := of_decide_eq_true z1
        exact b2.elim (fun b => absurd z3 b) fun b => absurd (show xs.length = 2 by simp at z2; omega) b
      all_goals
        rename_i z1 z2
        rw [any3n] at z1
        have z3 : s = "leader" ∨ s = "all" ∨ s = "some" := by
          have z4 : decide (s = "leader" ∨ s = "all" ∨ s = "some") = true := by
            cases hz : decide (s = "leader" ∨ s = "all" ∨ s = "some") with
            | true => rfl
            | false => rw [hz] at z1; cases z1
          exact of_decide_eq_true z4
        have z5 : xs.length = 1 := by simp at z2; omega
        match xs, z5, b3, a1, k with
        | [y], _, b3, a1, k =>
          have hy := b3.elim (fun b => absurd z3 b) fun b => b y rfl
          refine ixT at1 ?_
          walk_at "py"
          refine is_name_G (a1 y (by simp)) ?_
          rw [hy]
          walk_at "py"
          exact k
set_option maxHeartbeats 4000000 in
theorem walk_G : ∀ (n m : Nat) {p : PV} {d c : Int} {h : PH} {Q : PV → PH → Prop} {X : XP}, gd m p = true → m ≤ 60 → 8 ≤ d + n → d ≤ 7 → Q (chk n p d c).due h → wp (sem__law_walk n [p, .int d, .int c] h) Q X
  | 0, m, p, d, c, h, Q, X, g, hm, h1, h2, k => by omega
  | n + 1, m, p, d, c, h, Q, X, g, hm, h1, h2, k => by
    show wp (runB 3 (b__law_walk (sem__law_walk n)) [p, .int d, .int c] h) Q X
    refine wp_runB ?_
    show ws (b__law_walk _ [some p, some (.int d), some (.int c)] h) _
    unfold b__law_walk
    unfold chk at k
    by_cases e0 : 15 ≤ c ∨ 6 < d
    · rw [if_pos e0] at k
      walk_at "py"
      · exact k
      · exact k
      · rename_i e1 e2
        simp at e1 e2
        omega
    · rw [if_neg e0] at k
      have f1 : decide (15 ≤ c) = false := by simp; omega
      have f2 : decide (6 < d) = false := by simp; omega
      cases e : kd p with
      | leaf =>
        rw [e] at k
        rcases kd_leaf e with rfl | ⟨s, y, rfl, hs, hy⟩
        · walk_at "py"
          · rename_i z; rw [show decide (c ≥ 15) = false from f1] at z; cases z
          · rename_i z; rw [show decide (d > 6) = false from f2] at z; cases z
          · exact k
        · cases m with
          | zero => cases g
          | succ m =>
            have gy := (gd_tup.mp g).2 y (by simp)
            rcases hs with rfl | rfl | rfl
            all_goals
              walk_at "py"
              · rename_i z; rw [show decide (c ≥ 15) = false from f1] at z; cases z
              · rename_i z; rw [show decide (d > 6) = false from f2] at z; cases z
              · refine is_name_G gy ?_
                rw [hy]
                walk_at "py"
                exact k
      | pair l r =>
        rw [e] at k
        dsimp only at k
        obtain ⟨s, rfl, hs, gl, gr⟩ := kd_pair g e
        rcases hs with rfl | rfl
        all_goals
          walk_at "py"
          · rename_i z; rw [show decide (c ≥ 15) = false from f1] at z; cases z
          · rename_i z; rw [show decide (d > 6) = false from f2] at z; cases z
          · refine walk_G n m gl hm (by omega) (by omega) ?_
            cases e2 : chk n l (d + 1) (c + 1) with
            | ok c2 =>
              rw [e2] at k
              dsimp only [CR.due]
              walk_at "py"
              exact walk_G n m gr hm (by omega) (by omega) k
            | big =>
              rw [e2] at k
              dsimp only [CR.due]
              walk_at "py"
              exact k
            | inv q =>
              rw [e2] at k
              dsimp only [CR.due]
              walk_at "py"
              exact k
      | bad =>
        rw [e] at k
        match m, g with
        | 0, g => cases g
        | m + 1, g =>
          cases p with
          | obj _ => cases g
          | rol _ => cases g
          | cls _ => cases g
          | tup xs =>
            obtain ⟨l1, a1⟩ := gd_tup.mp g
            cases xs with
            | nil =>
              walk_at "py"
              · rename_i z; rw [show decide (c ≥ 15) = false from f1] at z; cases z
              · rename_i z; rw [show decide (d > 6) = false from f2] at z; cases z
              · exact k
            | cons x xs =>
              have gx := a1 x List.mem_cons_self
              match m, gx with
              | 0, gx => cases gx
              | m + 1, gx =>
                cases x with
                | obj _ => cases gx
                | rol _ => cases gx
                | cls _ => cases gx
                | str s =>
                  have ks := (gd_str.mp gx).1
                  exact walk_bad g hm e0 e k
                | _ =>
                  walk_at "py"
                  · rename_i z; rw [show decide (c ≥ 15) = false from f1] at z; cases z
                  · rename_i z; rw [show decide (d > 6) = false from f2] at z; cases z
                  · exact k
          | _ =>
            walk_at "py"
            · rename_i z; rw [show decide (c ≥ 15) = false from f1] at z; cases z
            · rename_i z; rw [show decide (d > 6) = false from f2] at z; cases z
            · exact k
end
section
theorem fault_G {m : Nat} {p : PV} {h : PH} {Q : PV → PH → Prop} {X : XP} (g : gd m p = true) (hm : m ≤ 60) (k : Q (match chk 12 p 1 0 with | .ok _ => .non | e => e.due) h) : wp (sem__law_fault [p] h) Q X := by
  unfold sem__law_fault
  refine wp_runB ?_
  show ws (b__law_fault [some p, none] h) _
  unfold b__law_fault
  walk_at "py"
  refine walk_G 12 m g hm (by omega) (by omega) ?_
  cases e : chk 12 p 1 0 with
  | ok c =>
    rw [e] at k
    dsimp only [CR.due]
    walk_at "py"
    exact k
  | big =>
    rw [e] at k
    dsimp only [CR.due]
    walk_at "py"
    exact k
  | inv q =>
    rw [e] at k
    dsimp only [CR.due]
    walk_at "py"
    exact k
theorem Tr.gdp (t : Tr) (ok : t.Ok) : gd (t.high + 1) t.pv = true := Tr.gd_ok t (fun _ h => h.len) ok
theorem cond_G {m : Nat} {p : PV} {h : PH} {Q : PH → Prop} {X : XP} (g : gd m p = true) (k : match chk 12 p 1 0 with | .ok c => Q (h ++ [.ins 0 [(f_parts, .int c), (f_tree, p)]]) | e => e.ends (h ++ [.ins 0 []]) (fun _ _ => False) X) :
    wp (sem_Condition___init__ [.obj h.length, p] (h ++ [.ins 0 []])) (fun r h2 => r = .non ∧ Q h2) X := by
  unfold sem_Condition___init__
  refine wp_runB ?_
  unfold b_Condition___init__
  walk_at "py"
  refine checked_G 12 m g (by omega) (by omega) ?_
  cases e : chk 12 p 1 0 with
  | big => rw [e] at k; exact k
  | inv q => rw [e] at k; exact k
  | ok c =>
    rw [e] at k
    dsimp only [CR.ends] at k ⊢
    walk_at "py"
    refine setFI (c := 0) (fs := [(f_parts, .int c)]) ?_ rfl (Nat.le_of_ble_eq_true rfl) ?_
    · rw [getset (by simp)]
      rfl
    · refine ⟨rfl, ?_⟩
      have e2 : (((h ++ [PO.ins 0 []]).set h.length (.ins 0 (putP f_parts (.int c) []))).set h.length (.ins 0 (putP f_tree p [(f_parts, .int c)]))) = h ++ [.ins 0 [(f_parts, .int c), (f_tree, p)]] := by
        rw [List.set_set, List.set_append_right _ _ (Nat.le_refl _), Nat.sub_self]
        rfl
      rw [e2]
      exact k
theorem chk_gd : ∀ (n m : Nat) {p q : PV} {d c : Int}, gd m p = true → chk n p d c = .inv q → gd m q = true
  | 0, m, p, q, d, c, g, e => by cases e
  | n + 1, m, p, q, d, c, g, e => by
    unfold chk at e
    split at e
    · cases e
    · split at e
      · cases e; exact g
      · cases e
      · rename_i l r hk
        obtain ⟨s, _, _, gl, gr⟩ := kd_pair g hk
        split at e
        · exact chk_gd n m gr e
        · exact chk_gd n m gl e
theorem gd2 {m : Nat} {x : Str} {p : PV} (hx : gd 1 (.str x) = true) (g : gd m p = true) : gd (m + 1) (.tup [.str x, p]) = true := gd_tup.mpr ⟨Nat.le_of_ble_eq_true rfl, fun y hy => by
  simp only [List.mem_cons, List.not_mem_nil, or_false] at hy
  rcases hy with rfl | rfl
  · cases m with
    | zero => cases g
    | succ m => exact gd_mono (by omega) hx
  · exact g⟩
end
section
/-- what a list of words tells, from a place on -/
def prs : Nat → List Str → Nat → Option (PV × Nat)
  | 0, _, _ => none
  | n + 1, wz, k => match wz[k]? with
    | none => none
    | some w => if w = "always" then some (.tup [.str "always"], k + 1)
      else if w = "leader" ∨ w = "all" ∨ w = "some" then (match wz[k + 1]? with
        | some x => if nameB x = true then some (.tup [.str w, .str x], k + 2) else none
        | none => none)
      else if w = "and" ∨ w = "or" then (match prs n wz (k + 1) with
        | none => none
        | some (l, k1) => match prs n wz k1 with
          | none => none
          | some (r, k2) => some (.tup [.str w, l, r], k2))
      else none
def prP : Option (PV × Nat) → PV
  | none => .non
  | some (p, k) => .tup [p, .int (k : Int)]
theorem prs_facts : ∀ (n : Nat) {wz : List Str} {k k2 : Nat} {p : PV}, (∀ w ∈ wz, Tx 1000 w) → prs n wz k = some (p, k2) → k < k2 ∧ k2 ≤ wz.length ∧ gd (n + 2) p = true ∧ p ≠ .non
  | 0, wz, k, k2, p, hw, e => by cases e
  | n + 1, wz, k, k2, p, hw, e => by
    unfold prs at e
    cases e0 : wz[k]? with
    | none => rw [e0] at e; cases e
    | some w =>
      rw [e0] at e
      dsimp only at e
      have lk := (List.getElem?_eq_some_iff.mp e0).1
      have tw := hw w (List.mem_of_getElem? e0)
      have gw : ∀ m, gd (m + 1) (.str w) = true := fun m => gd_str.mpr ⟨tw.ok, tw.2⟩
      split at e
      · cases e
        exact ⟨Nat.lt_succ_self _, lk, gd_mono (n := 2) (by omega) (by decide +kernel), fun z => nomatch z⟩
      · split at e
        · cases e1 : wz[k + 1]? with
          | none => rw [e1] at e; cases e
          | some x =>
            rw [e1] at e
            dsimp only at e
            have lx := (List.getElem?_eq_some_iff.mp e1).1
            have tx := hw x (List.mem_of_getElem? e1)
            split at e
            · cases e
              refine ⟨by omega, lx, gd_tup.mpr ⟨Nat.le_of_ble_eq_true rfl, fun y hy => ?_⟩, fun z => nomatch z⟩
              simp only [List.mem_cons, List.not_mem_nil, or_false] at hy
              rcases hy with rfl | rfl
              · exact gw _
              · exact gd_str.mpr ⟨tx.ok, tx.2⟩
            · cases e
        · split at e
          · cases e1 : prs n wz (k + 1) with
            | none => rw [e1] at e; cases e
            | some q =>
              obtain ⟨l, k1⟩ := q
              rw [e1] at e
              dsimp only at e
              cases e2 : prs n wz k1 with
              | none => rw [e2] at e; cases e
              | some q =>
                obtain ⟨r, k3⟩ := q
                rw [e2] at e
                cases e
                obtain ⟨a1, a2, a3, _⟩ := prs_facts n hw e1
                obtain ⟨b1, b2, b3, _⟩ := prs_facts n hw e2
                refine ⟨by omega, b2, gd_tup.mpr ⟨Nat.le_of_ble_eq_true rfl, fun y hy => ?_⟩, fun z => nomatch z⟩
                simp only [List.mem_cons, List.not_mem_nil, or_false] at hy
                rcases hy with rfl | rfl | rfl
                · exact gw _
                · exact a3
                · exact b3
          · cases e
structure WL (h : PH) (nw : Nat) (wz : List Str) : Prop where
  at_ : h[nw]? = some (.lst (wz.map PV.str))
  tx : ∀ w ∈ wz, Tx 1000 w
theorem ixW {h : PH} {nw k : Nat} {wz : List Str} {i : Int} {w : Str} {Q : PV → PH → Prop} {X : XP} (W : WL h nw wz) (e : wz[k]? = some w) (hi : i = (k : Int)) (q : Q (.str w) h) : wp (ixV (.obj nw) (.int i) h) Q X := by
  subst hi
  refine ixO W.at_ ?_ q
  rw [atI_nat', List.getElem?_map, e]
  rfl
theorem ixW' {h : PH} {nw k : Nat} {wz : List Str} {i : Int} {w : Str} {Q : PV → PH → Prop} {X : XP} (hi : i = (k : Int)) (W : WL h nw wz) (e : wz[k]? = some w) (q : Q (.str w) h) : wp (ixV (.obj nw) (.int i) h) Q X := ixW W e hi q
local macro_rules | `(tactic| walk_at "pyx") => `(tactic| first
  | ((with_reducible refine eqSS ?_ ?_ ?_); (first | assumption | decide +kernel); (first | assumption | decide +kernel))
  | (with_reducible refine inTS (ws := ["leader", "all", "some"]) rfl ?_)
  | (with_reducible refine inTS (ws := ["and", "or"]) rfl ?_)
  | ((with_reducible apply ixW'); (with_reducible exact rfl); assumption; assumption)
  | ((with_reducible apply ixT); (first | exact rfl | exact at0 | exact at1 | exact at2)))
set_option maxHeartbeats 4000000 in
theorem tree_of_G : ∀ (n : Nat) {h : PH} {nw k : Nat} {wz : List Str} {Q : PV → PH → Prop} {X : XP}, WL h nw wz → wz.length + 1 ≤ k + n → k ≤ wz.length → Q (prP (prs n wz k)) h → wp (sem_tree_of n [.obj nw, .int (k : Int)] h) Q X
  | 0, h, nw, k, wz, Q, X, W, hn, hk, q => by omega
  | n + 1, h, nw, k, wz, Q, X, W, hn, hk, q => by
    show wp (runB 5 (b_tree_of (sem_tree_of n)) [.obj nw, .int (k : Int)] h) Q X
    refine wp_runB ?_
    show ws (b_tree_of _ [some (.obj nw), some (.int (k : Int)), none, none, none] h) _
    unfold b_tree_of
    unfold prs at q
    have at1 := W.at_
    cases e0 : wz[k]? with
    | none =>
      rw [e0] at q
      have : wz.length ≤ k := by simpa using e0
      walk_at "py"
      · exact q
      · rename_i z
        simp at z
        omega
    | some w =>
      rw [e0] at q
      dsimp only at q
      have lk := (List.getElem?_eq_some_iff.mp e0).1
      have tw := W.tx w (List.mem_of_getElem? e0)
      have kw := tw.ok
      by_cases c1 : w = "always"
      · subst c1
        rw [if_pos rfl] at q
        walk_at "py"
        · rename_i z; simp at z; omega
        · exact q
      · rw [if_neg c1] at q
        have f1 : (w == "always") = false := by simpa using c1
        by_cases c2 : w = "leader" ∨ w = "all" ∨ w = "some"
        · rw [if_pos c2] at q
          cases e1 : wz[k + 1]? with
          | none =>
            rw [e1] at q
            have l2 : wz.length ≤ k + 1 := by simpa using e1
            rcases c2 with rfl | rfl | rfl
            all_goals
              walk_at "py"
              all_goals first
                | exact q
                | (rename_i z; simp at z; omega)
          | some x =>
            rw [e1] at q
            dsimp only at q
            have l2 := (List.getElem?_eq_some_iff.mp e1).1
            have tx := W.tx x (List.mem_of_getElem? e1)
            rcases c2 with rfl | rfl | rfl
            all_goals
              walk_at "py"
              all_goals first
                | (rename_i z; simp at z; omega)
                | skip
              refine ixW W e1 rfl ?_
              walk_at "py"
              refine is_name_S (Nat.le_trans tx.2 (Nat.le_of_ble_eq_true rfl)) ?_
              cases hx : nameB x with
              | true =>
                rw [if_pos hx] at q
                walk_at "py"
                refine ixW W e1 rfl ?_
                walk_at "py"
                exact q
              | false =>
                rw [if_neg (by rw [hx]; exact Bool.false_ne_true)] at q
                walk_at "py"
                exact q
        · rw [if_neg c2] at q
          have f2 := any3 w
          rw [decide_eq_false c2] at f2
          by_cases c3 : w = "and" ∨ w = "or"
          · rw [if_pos c3] at q
            have go : ∀ {k1 : Nat} {Q : PV → PH → Prop}, k < k1 → k1 ≤ wz.length → Q (prP (prs n wz k1)) h → wp (sem_tree_of n [.obj nw, .int (k1 : Int)] h) Q X := fun {k1 Q} a b c => tree_of_G n W (by omega) b c
            rcases c3 with rfl | rfl
            all_goals
              walk_at "py"
              all_goals first
                | (rename_i z; simp at z; omega)
                | skip
              refine go (k1 := k + 1) (by omega) (by omega) ?_
              cases e3 : prs n wz (k + 1) with
              | none =>
                rw [e3] at q
                dsimp only [prP]
                walk_at "py"
                exact q
              | some r1 =>
                obtain ⟨l, k1⟩ := r1
                rw [e3] at q
                dsimp only at q
                obtain ⟨a1, a2, a3, a4⟩ := prs_facts n W.tx e3
                dsimp only [prP]
                walk_at "py"
                refine go (k1 := k1) (by omega) a2 ?_
                cases e4 : prs n wz k1 with
                | none =>
                  rw [e4] at q
                  dsimp only [prP]
                  walk_at "py"
                  exact q
                | some r2 =>
                  obtain ⟨r, k2⟩ := r2
                  rw [e4] at q
                  dsimp only [prP]
                  walk_at "py"
                  exact q
          · rw [if_neg c3] at q
            have f3 := any2 w
            rw [decide_eq_false c3] at f3
            walk_at "py"
            all_goals first
              | exact q
              | (rename_i z; simp at z; omega)
              | (rename_i z; rw [f1] at z; cases z; done)
              | (rename_i z; rw [if_neg Bool.false_ne_true, f2] at z; cases z; done)
              | (rename_i z _; rw [if_neg Bool.false_ne_true, f2] at z; cases z; done)
              | (rename_i z _ _; rw [if_neg Bool.false_ne_true, f2] at z; cases z; done)
              | (rename_i z; rw [if_pos rfl, f3] at z; cases z; done)
              | skip
end
section
local macro_rules | `(tactic| walk_at "pyx") => `(tactic| first
  | ((with_reducible refine eqSS ?_ ?_ ?_); (first | assumption | decide +kernel); (first | assumption | decide +kernel))
  | (with_reducible refine inTS (ws := ["leader", "all", "some"]) rfl ?_)
  | (with_reducible refine inTS (ws := ["and", "or"]) rfl ?_)
  | ((with_reducible apply ixW'); (with_reducible exact rfl); assumption; assumption)
  | ((with_reducible apply ixT); (first | exact rfl | exact at0 | exact at1 | exact at2)))
set_option maxHeartbeats 4000000 in
theorem read_G : ∀ (n : Nat) {h : PH} {nw k : Nat} {wz : List Str} {Q : PV → PH → Prop} {X : XP}, WL h nw wz → wz.length + 1 ≤ k + n → k ≤ wz.length → Q (prP (prs n wz k)) h → wp (sem__law_read n [.obj nw, .int (k : Int)] h) Q X
  | 0, h, nw, k, wz, Q, X, W, hn, hk, q => by omega
  | n + 1, h, nw, k, wz, Q, X, W, hn, hk, q => by
    show wp (runB 4 (b__law_read (sem__law_read n)) [.obj nw, .int (k : Int)] h) Q X
    refine wp_runB ?_
    show ws (b__law_read _ [some (.obj nw), some (.int (k : Int)), none, none] h) _
    unfold b__law_read
    unfold prs at q
    have at1 := W.at_
    cases e0 : wz[k]? with
    | none =>
      rw [e0] at q
      have : wz.length ≤ k := by simpa using e0
      walk_at "py"
      · exact q
      · rename_i z
        simp at z
        omega
    | some w =>
      rw [e0] at q
      dsimp only at q
      have lk := (List.getElem?_eq_some_iff.mp e0).1
      have tw := W.tx w (List.mem_of_getElem? e0)
      have kw := tw.ok
      by_cases c1 : w = "always"
      · subst c1
        rw [if_pos rfl] at q
        walk_at "py"
        · rename_i z; simp at z; omega
        · exact q
      · rw [if_neg c1] at q
        have f1 : (w == "always") = false := by simpa using c1
        by_cases c2 : w = "leader" ∨ w = "all" ∨ w = "some"
        · rw [if_pos c2] at q
          cases e1 : wz[k + 1]? with
          | none =>
            rw [e1] at q
            have l2 : wz.length ≤ k + 1 := by simpa using e1
            rcases c2 with rfl | rfl | rfl
            all_goals
              walk_at "py"
              all_goals first
                | exact q
                | (rename_i z; simp at z; omega)
          | some x =>
            rw [e1] at q
            dsimp only at q
            have l2 := (List.getElem?_eq_some_iff.mp e1).1
            have tx := W.tx x (List.mem_of_getElem? e1)
            rcases c2 with rfl | rfl | rfl
            all_goals
              walk_at "py"
              all_goals first
                | (rename_i z; simp at z; omega)
                | skip
              refine ixW W e1 rfl ?_
              walk_at "py"
              refine is_name_S (Nat.le_trans tx.2 (Nat.le_of_ble_eq_true rfl)) ?_
              cases hx : nameB x with
              | true =>
                rw [if_pos hx] at q
                walk_at "py"
                refine ixW W e1 rfl ?_
                walk_at "py"
                exact q
              | false =>
                rw [if_neg (by rw [hx]; exact Bool.false_ne_true)] at q
                walk_at "py"
                exact q
        · rw [if_neg c2] at q
          have f2 := any3 w
          rw [decide_eq_false c2] at f2
          by_cases c3 : w = "and" ∨ w = "or"
          · rw [if_pos c3] at q
            have go : ∀ {k1 : Nat} {Q : PV → PH → Prop}, k < k1 → k1 ≤ wz.length → Q (prP (prs n wz k1)) h → wp (sem__law_read n [.obj nw, .int (k1 : Int)] h) Q X := fun {k1 Q} a b c => read_G n W (by omega) b c
            rcases c3 with rfl | rfl
            all_goals
              walk_at "py"
              all_goals first
                | (rename_i z; simp at z; omega)
                | skip
              refine go (k1 := k + 1) (by omega) (by omega) ?_
              cases e3 : prs n wz (k + 1) with
              | none =>
                rw [e3] at q
                dsimp only [prP]
                walk_at "py"
                exact q
              | some r1 =>
                obtain ⟨l, k1⟩ := r1
                rw [e3] at q
                dsimp only at q
                obtain ⟨a1, a2, a3, a4⟩ := prs_facts n W.tx e3
                dsimp only [prP]
                walk_at "py"
                refine go (k1 := k1) (by omega) a2 ?_
                cases e4 : prs n wz k1 with
                | none =>
                  rw [e4] at q
                  dsimp only [prP]
                  walk_at "py"
                  exact q
                | some r2 =>
                  obtain ⟨r, k2⟩ := r2
                  rw [e4] at q
                  dsimp only [prP]
                  walk_at "py"
                  exact q
          · rw [if_neg c3] at q
            have f3 := any2 w
            rw [decide_eq_false c3] at f3
            walk_at "py"
            all_goals first
              | exact q
              | (rename_i z; simp at z; omega)
              | (rename_i z; rw [f1] at z; cases z; done)
              | (rename_i z; rw [if_neg Bool.false_ne_true, f2] at z; cases z; done)
              | (rename_i z _; rw [if_neg Bool.false_ne_true, f2] at z; cases z; done)
              | (rename_i z _ _; rw [if_neg Bool.false_ne_true, f2] at z; cases z; done)
              | (rename_i z; rw [if_pos rfl, f3] at z; cases z; done)
              | skip
end
section
def wht (wz : List Str) : Option PV := match prs 45 wz 0 with
  | some (p, k) => if k = wz.length then some p else none
  | none => none
def whP : Option PV → PV
  | some p => p
  | none => .non
theorem wht_facts {wz : List Str} {p : PV} (tx : ∀ w ∈ wz, Tx 1000 w) (e : wht wz = some p) : gd 47 p = true ∧ p ≠ .non := by
  unfold wht at e
  cases e1 : prs 45 wz 0 with
  | none => rw [e1] at e; cases e
  | some r =>
    obtain ⟨q, k⟩ := r
    rw [e1] at e
    dsimp only at e
    split at e
    · cases e
      obtain ⟨_, _, a, b⟩ := prs_facts 45 tx e1
      exact ⟨a, b⟩
    · cases e
theorem isN_gd {p : PV} (h : p ≠ .non) : isN p = false := by rw [← isN_dec]; simpa using h
theorem whole_G {h : PH} {nw : Nat} {wz : List Str} {Q : PV → PH → Prop} {X : XP} (W : WL h nw wz) (hl : wz.length ≤ 44) (q : Q (whP (wht wz)) h) : wp (sem_whole_tree [.obj nw] h) Q X := by
  unfold sem_whole_tree
  refine wp_runB ?_
  show ws (b_whole_tree [some (.obj nw), none] h) _
  unfold b_whole_tree
  have at1 := W.at_
  walk_at "py"
  refine tree_of_G 45 (k := 0) W (by omega) (by omega) ?_
  unfold wht at q
  cases e : prs 45 wz 0 with
  | none =>
    rw [e] at q
    dsimp only [prP]
    walk_at "py"
    exact q
  | some r =>
    obtain ⟨p, k⟩ := r
    rw [e] at q
    dsimp only [prP] at q ⊢
    walk_at "py"
    refine ixT L.at1 ?_
    walk_at "py"
    · rename_i z
      have n : ¬ k = wz.length := by simp at z; omega
      rw [if_neg n] at q
      exact q
    · rename_i z
      have n : k = wz.length := by simp at z; omega
      rw [if_pos n] at q
      refine ixT at0 ?_
      exact q
def dueP (z : Str) : PV := if 40 < (Txt.split z " ").length then .tup [.str "TooLarge", .int 15] else match wht (Txt.split z " ") with
  | none => .tup [.str "InvalidText", .int 1]
  | some p => match chk 12 p 1 0 with
    | .ok _ => .tup [.str "", p]
    | e => e.due
theorem WL.new {h : PH} {z : Str} (t : Tx 1000 z) : WL (h ++ [.lst ((Txt.split z " ").map PV.str)]) h.length (Txt.split z " ") := ⟨getnew, t.split⟩
theorem due_G {h : PH} {z : Str} {Q : PV → PH → Prop} {X : XP} (t : Tx 1000 z) (q : ∀ h', Gr h h' → Q (dueP z) h') : wp (sem__law_due [.str z] h) Q X := by
  unfold sem__law_due
  refine wp_runB ?_
  show ws (b__law_due [some (.str z), none, none, none] h) _
  unfold b__law_due
  have q := q (h ++ [.lst ((Txt.split z " ").map PV.str)]) Gr.refl.app
  have W := WL.new (h := h) t
  walk_at "py"
  refine splitI (by decide +kernel) (by have := t.2; show _ ≤ 16777216; omega) ?_
  unfold dueP at q
  generalize Txt.split z " " = wz at q W ⊢
  generalize h ++ [PO.lst (wz.map PV.str)] = h1 at q W ⊢
  generalize h.length = nw at W ⊢
  have at1 := W.at_
  walk_at "py"
  · rename_i z1
    rw [if_pos (by simp at z1; omega)] at q
    exact q
  · rename_i z1
    have l40 : ¬ 40 < wz.length := by simp at z1; omega
    rw [if_neg l40] at q
    refine read_G 45 (k := 0) W (by omega) (by omega) ?_
    have whq : wht wz = match prs 45 wz 0 with | some (p, k) => if k = wz.length then some p else none | none => none := rfl
    cases e : prs 45 wz 0 with
    | none =>
      rw [whq, e] at q
      dsimp only [prP]
      walk_at "py"
      exact q
    | some r =>
      obtain ⟨p, k⟩ := r
      obtain ⟨_, _, gp, np⟩ := prs_facts 45 W.tx e
      rw [whq, e] at q
      dsimp only [prP] at q ⊢
      walk_at "py"
      refine ixT L.at1 ?_
      walk_at "py"
      · rename_i z
        have n : ¬ k = wz.length := by simp at z; omega
        rw [if_neg n] at q
        exact q
      · rename_i z
        have n : k = wz.length := by simp at z; omega
        rw [if_pos n] at q
        dsimp only at q
        refine ixT at0 ?_
        walk_at "py"
        refine fault_G gp (by omega) ?_
        cases e2 : chk 12 p 1 0 with
        | ok c =>
          rw [e2] at q
          dsimp only at q ⊢
          walk_at "py"
          refine ixT at0 ?_
          walk_at "py"
          exact q
        | big =>
          rw [e2] at q
          dsimp only [CR.due] at q ⊢
          walk_at "py"
          exact q
        | inv r =>
          rw [e2] at q
          dsimp only [CR.due] at q ⊢
          walk_at "py"
          exact q
def rdEnds (z : Str) (h : PH) (Q : PV → PH → Prop) (X : XP) : Prop := if 40 < (Txt.split z " ").length then x_TooLarge X (.int 15) (h ++ [.lst ((Txt.split z " ").map PV.str)]) else match wht (Txt.split z " ") with
  | none => x_InvalidText X (.int 1) (h ++ [.lst ((Txt.split z " ").map PV.str)])
  | some p => match chk 12 p 1 0 with
    | .ok c => Q (.obj (h.length + 1)) (h ++ [.lst ((Txt.split z " ").map PV.str)] ++ [.ins 0 [(f_parts, .int c), (f_tree, p)]])
    | e => e.ends (h ++ [.lst ((Txt.split z " ").map PV.str)] ++ [.ins 0 []]) (fun _ _ => False) X
theorem cread_G {h : PH} {z : Str} {Q : PV → PH → Prop} {X : XP} (t : Tx 1000 z) (q : rdEnds z h Q X) : wp (sem_Condition_read [.cls "Condition", .str z] h) Q X := by
  unfold sem_Condition_read
  refine wp_runB ?_
  show ws (b_Condition_read [some (.cls "Condition"), some (.str z), none, none] h) _
  unfold b_Condition_read
  have W := WL.new (h := h) t
  walk_at "py"
  refine splitI (by decide +kernel) (by have := t.2; show _ ≤ 16777216; omega) ?_
  unfold rdEnds at q
  have e9 : h.length + 1 = (h ++ [PO.lst ((Txt.split z " ").map PV.str)]).length := by simp
  rw [e9] at q
  generalize Txt.split z " " = wz at q W ⊢
  generalize h ++ [PO.lst (wz.map PV.str)] = h1 at q W ⊢
  generalize h.length = nw at W ⊢
  have at1 := W.at_
  walk_at "py"
  · rename_i z1
    rw [if_pos (by simp at z1; omega)] at q
    exact q
  · rename_i z1
    have l40 : ¬ 40 < wz.length := by simp at z1; omega
    rw [if_neg l40] at q
    refine whole_G W (by omega) ?_
    cases e : wht wz with
    | none =>
      rw [e] at q
      dsimp only [whP]
      walk_at "py"
      exact q
    | some p =>
      obtain ⟨gp, np⟩ := wht_facts W.tx e
      rw [e] at q
      dsimp only [whP] at q ⊢
      walk_at "py"
      · rename_i z2
        rw [isN_gd np] at z2
        cases z2
      · refine ⟨"Condition", 0, _, rfl, rfl, ?_⟩
        walk_at "py"
        refine cond_G gp ?_
        cases e2 : chk 12 p 1 0 with
        | ok c => rw [e2] at q; exact q
        | big => rw [e2] at q; exact q
        | inv r => rw [e2] at q; exact q
theorem try_G {h : PH} {z : Str} {env : Py.Env} {i : Nat} {Q : PV → PH → Prop} {X : XP} (t : Tx 1000 z) (he : env[i]? = some (some (.str z))) (q : ∀ h', Gr h h' → Q (dueP z) h') : wp (tryE exl 0 (fldE [0] 6 (cmE "Condition" 2 sem_Condition_read (consA (var i) (nilA)))) env h) Q X := by
  refine wp_tryE (wp_fldE (wp_cmE (wp_consA.mpr (varI he (wp_nilA.mpr ⟨rfl, cread_G t ?_⟩)))))
  unfold rdEnds
  have q1 := q (h ++ [.lst ((Txt.split z " ").map PV.str)]) Gr.refl.app
  unfold dueP at q q1
  by_cases l40 : 40 < (Txt.split z " ").length
  · rw [if_pos l40] at q1 ⊢
    exact ⟨_, _, _, rfl, by decide +kernel, q1⟩
  · rw [if_neg l40] at q q1 ⊢
    cases e : wht (Txt.split z " ") with
    | none =>
      rw [e] at q1
      exact ⟨_, _, _, rfl, by decide +kernel, q1⟩
    | some p =>
      rw [e] at q
      dsimp only at q ⊢
      cases e2 : chk 12 p 1 0 with
      | ok c =>
        rw [e2] at q
        dsimp only at q ⊢
        exact fldI (getnew' (by simp)) rfl rfl (q _ Gr.refl.app.app)
      | big =>
        rw [e2] at q
        exact ⟨_, _, _, rfl, by decide +kernel, q _ Gr.refl.app.app⟩
      | inv r =>
        rw [e2] at q
        exact ⟨_, _, _, rfl, by decide +kernel, q _ Gr.refl.app.app⟩
theorem due_gd {z : Str} (t : Tx 1000 z) : gd 48 (dueP z) = true := by
  unfold dueP
  split
  · exact gd_mono (n := 2) (by omega) (by decide +kernel)
  · cases e : wht (Txt.split z " ") with
    | none => exact gd_mono (n := 2) (by omega) (by decide +kernel)
    | some p =>
      obtain ⟨gp, _⟩ := wht_facts t.split e
      dsimp only
      cases e2 : chk 12 p 1 0 with
      | ok c => exact gd2 (by decide +kernel) gp
      | big => exact gd_mono (n := 2) (by omega) (show gd 2 (.tup [.str "TooLarge", .int 15]) = true by decide +kernel)
      | inv r => exact gd2 (by decide +kernel) (chk_gd 12 47 gp e2)
end
section
theorem strs_tup {h : PH} {wz : List Str} : strsAt h (.tup (wz.map PV.str)) = some wz := by
  have k : ∀ wz : List Str, (wz.map PV.str).mapM unStr = some wz := fun wz => by
    induction wz with
    | nil => rfl
    | cons w wz ih =>
      rw [List.map_cons, List.mapM_cons, ih]
      rfl
  exact k wz
theorem joinLen {k : Nat} {ps : List Str} (h : ∀ p ∈ ps, Tx k p) : (ps.map (·.length)).sum ≤ k * ps.length := by
  induction ps with
  | nil => exact Nat.zero_le _
  | cons p ps ih =>
    have i := ih fun q hq => h q (List.mem_cons_of_mem _ hq)
    have hp := (h p List.mem_cons_self).2
    rw [List.map_cons, List.sum_cons, List.length_cons, Nat.mul_succ]
    omega
theorem joinG {h : PH} {p : PV} {ys : List Str} {Q : PV → PH → Prop} {X : XP} (e : strsAt h p = some ys) (tx : ∀ y ∈ ys, Tx 9 y) (hl : ys.length ≤ 1000) (q : Q (.str (Txt.join " " ys)) h) : wp (joinM (.str " ") [p] h) Q X := by
  refine joinI e ?_ q
  have := joinLen tx
  have e1 : (" " : Str).length = 1 := by decide +kernel
  rw [e1]
  omega
local macro_rules | `(tactic| walk_at "pyx") => `(tactic| first
  | (with_reducible refine inTS (ws := ["and", "or"]) rfl ?_)
  | ((with_reducible apply ixT); (first | exact rfl | exact at0 | exact at1 | exact at2)))
theorem said_G : ∀ (n : Nat) {h : PH} {t : Tr} {Q : PV → PH → Prop} {X : XP}, t.Ok → t.high ≤ n → t.size ≤ 100 → Q (.str t.tx) h → wp (sem__law_said n [t.pv] h) Q X
  | 0, h, t, Q, X, ok, hn, _, q => by have := t.high_pos; omega
  | n + 1, h, t, Q, X, ok, hn, hs, q => by
    show wp (runB 1 (b__law_said (sem__law_said n)) [t.pv] h) Q X
    refine wp_runB ?_
    show ws (b__law_said _ [some t.pv] h) _
    unfold b__law_said
    have wd := t.ww_wd ok
    cases t with
    | an l r =>
      have e1 : Tr.high (.an l r) = 1 + max l.high r.high := rfl
      have e2 : Tr.size (.an l r) = 1 + l.size + r.size := rfl
      have tl := (l.tx_Tx ok.1 (by omega)).2
      have tr := (r.tx_Tx ok.2 (by omega)).2
      have q' : Q (.str ("and" ++ " " ++ l.tx ++ " " ++ r.tx)) h := by rw [← node_tx]; exact q
      have sz : ∀ {x : Nat}, x ≤ 20000 → x ≤ sizeLine := fun hx => Nat.le_trans hx (Nat.le_of_ble_eq_true rfl)
      have c1 : ("and" : Str).length = 3 := by decide +kernel
      have c2 : (" " : Str).length = 1 := by decide +kernel
      unfold Tr.pv
      walk_at "py"
      refine addS (sz (by omega)) ?_
      walk_at "py"
      refine said_G n ok.1 (by omega) (by omega) ?_
      walk_at "py"
      refine addS (sz (by rw [Str.length_append]; omega)) ?_
      walk_at "py"
      refine addS (sz (by simp only [Str.length_append]; omega)) ?_
      walk_at "py"
      refine said_G n ok.2 (by omega) (by omega) ?_
      walk_at "py"
      refine addS (sz (by simp only [Str.length_append]; omega)) ?_
      exact q'
    | oo l r =>
      have e1 : Tr.high (.oo l r) = 1 + max l.high r.high := rfl
      have e2 : Tr.size (.oo l r) = 1 + l.size + r.size := rfl
      have tl := (l.tx_Tx ok.1 (by omega)).2
      have tr := (r.tx_Tx ok.2 (by omega)).2
      have q' : Q (.str ("or" ++ " " ++ l.tx ++ " " ++ r.tx)) h := by rw [← node_tx]; exact q
      have sz : ∀ {x : Nat}, x ≤ 20000 → x ≤ sizeLine := fun hx => Nat.le_trans hx (Nat.le_of_ble_eq_true rfl)
      have c1 : ("or" : Str).length = 2 := by decide +kernel
      have c2 : (" " : Str).length = 1 := by decide +kernel
      unfold Tr.pv
      walk_at "py"
      refine addS (sz (by omega)) ?_
      walk_at "py"
      refine said_G n ok.1 (by omega) (by omega) ?_
      walk_at "py"
      refine addS (sz (by rw [Str.length_append]; omega)) ?_
      walk_at "py"
      refine addS (sz (by simp only [Str.length_append]; omega)) ?_
      walk_at "py"
      refine said_G n ok.2 (by omega) (by omega) ?_
      walk_at "py"
      refine addS (sz (by simp only [Str.length_append]; omega)) ?_
      exact q'
    | alw =>
      unfold Tr.pv
      walk_at "py"
      refine joinG (strs_tup (wz := ["always"])) (fun y hy => (wd y hy).1) (by decide) ?_
      exact q
    | ld x =>
      unfold Tr.pv
      walk_at "py"
      refine joinG (strs_tup (wz := ["leader", x])) (fun y hy => (wd y hy).1) (Nat.le_of_ble_eq_true rfl) ?_
      exact q
    | al x =>
      unfold Tr.pv
      walk_at "py"
      refine joinG (strs_tup (wz := ["all", x])) (fun y hy => (wd y hy).1) (Nat.le_of_ble_eq_true rfl) ?_
      exact q
    | sm x =>
      unfold Tr.pv
      walk_at "py"
      refine joinG (strs_tup (wz := ["some", x])) (fun y hy => (wd y hy).1) (Nat.le_of_ble_eq_true rfl) ?_
      exact q
/-- the text read back -/
theorem prs_ww : ∀ (t : Tr) (n : Nat) (a b : List Str), t.Ok → t.high ≤ n → prs n (a ++ (t.ww ++ b)) a.length = some (t.pv, a.length + t.ww.length)
  | t, 0, a, b, ok, hn => by have := t.high_pos; omega
  | t, n + 1, a, b, ok, hn => by
    unfold prs
    have at0' : ∀ (w : Str) (r : List Str), (a ++ (w :: r ++ b))[a.length]? = some w := fun w r => by simp
    have at1' : ∀ (w x : Str) (r : List Str), (a ++ (w :: x :: r ++ b))[a.length + 1]? = some x := fun w x r => by
      rw [List.getElem?_append_right (by omega)]; simp
    cases t with
    | alw =>
      rw [show Tr.ww .alw = [("always" : Str)] from rfl, at0']
      rfl
    | ld x =>
      rw [show Tr.ww (.ld x) = [("leader" : Str), x] from rfl, at0', at1']
      dsimp only
      rw [if_neg (by decide +kernel), if_pos (.inl rfl), if_pos (NOk.nm ok)]
      rfl
    | al x =>
      rw [show Tr.ww (.al x) = [("all" : Str), x] from rfl, at0', at1']
      dsimp only
      rw [if_neg (by decide +kernel), if_pos (.inr (.inl rfl)), if_pos (NOk.nm ok)]
      rfl
    | sm x =>
      rw [show Tr.ww (.sm x) = [("some" : Str), x] from rfl, at0', at1']
      dsimp only
      rw [if_neg (by decide +kernel), if_pos (.inr (.inr rfl)), if_pos (NOk.nm ok)]
      rfl
    | an l r =>
      have e1 : Tr.high (.an l r) = 1 + max l.high r.high := rfl
      have i1 := prs_ww l n (a ++ [("and" : Str)]) (r.ww ++ b) ok.1 (by omega)
      have i2 := prs_ww r n (a ++ ("and" : Str) :: l.ww) b ok.2 (by omega)
      have f0 : a ++ (("and" : Str) :: (l.ww ++ r.ww) ++ b) = a ++ [("and" : Str)] ++ (l.ww ++ (r.ww ++ b)) := by simp
      have f1 : a ++ (("and" : Str) :: (l.ww ++ r.ww) ++ b) = a ++ ("and" : Str) :: l.ww ++ (r.ww ++ b) := by simp
      rw [← f0] at i1
      rw [← f1] at i2
      rw [show Tr.ww (.an l r) = ("and" : Str) :: (l.ww ++ r.ww) from rfl, at0']
      dsimp only
      rw [if_neg (by decide +kernel), if_neg (by decide +kernel), if_pos (.inl rfl)]
      rw [show (a ++ [("and" : Str)]).length = a.length + 1 by simp] at i1
      rw [i1]
      dsimp only
      rw [show (a ++ ("and" : Str) :: l.ww).length = a.length + 1 + l.ww.length by simp; omega] at i2
      rw [i2]
      dsimp only
      rw [show a.length + 1 + l.ww.length + r.ww.length = a.length + (("and" : Str) :: (l.ww ++ r.ww)).length by simp; omega]
      rfl
    | oo l r =>
      have e1 : Tr.high (.oo l r) = 1 + max l.high r.high := rfl
      have i1 := prs_ww l n (a ++ [("or" : Str)]) (r.ww ++ b) ok.1 (by omega)
      have i2 := prs_ww r n (a ++ ("or" : Str) :: l.ww) b ok.2 (by omega)
      have f0 : a ++ (("or" : Str) :: (l.ww ++ r.ww) ++ b) = a ++ [("or" : Str)] ++ (l.ww ++ (r.ww ++ b)) := by simp
      have f1 : a ++ (("or" : Str) :: (l.ww ++ r.ww) ++ b) = a ++ ("or" : Str) :: l.ww ++ (r.ww ++ b) := by simp
      rw [← f0] at i1
      rw [← f1] at i2
      rw [show Tr.ww (.oo l r) = ("or" : Str) :: (l.ww ++ r.ww) from rfl, at0']
      dsimp only
      rw [if_neg (by decide +kernel), if_neg (by decide +kernel), if_pos (.inr rfl)]
      rw [show (a ++ [("or" : Str)]).length = a.length + 1 by simp] at i1
      rw [i1]
      dsimp only
      rw [show (a ++ ("or" : Str) :: l.ww).length = a.length + 1 + l.ww.length by simp; omega] at i2
      rw [i2]
      dsimp only
      rw [show a.length + 1 + l.ww.length + r.ww.length = a.length + (("or" : Str) :: (l.ww ++ r.ww)).length by simp; omega]
      rfl
theorem wht_ww {t : Tr} (ok : t.Ok) (hn : t.high ≤ 45) : wht t.ww = some t.pv := by
  have e := prs_ww t 45 [] [] ok hn
  rw [List.nil_append, List.append_nil, List.length_nil, Nat.zero_add] at e
  unfold wht
  rw [e]
  dsimp only
  rw [if_pos rfl]
end
section
theorem tyT {h : PH} (t : Tr) : tyOf h t.pv = some (.b .tuple) := by cases t <;> rfl
theorem take_snoc {α : Type} {xs : List α} {i : Nat} {x : α} (h : xs[i]? = some x) : xs.take (i + 1) = xs.take i ++ [x] := by
  rw [List.take_add_one, h]
  rfl
theorem words_leaf {F : Fn} {h : PH} {es : List Str} {Q : PV → PH → Prop} {X : XP} (hl : es.length ≤ 100) (k : ∀ (m : Nat) (h' : PH), h'[m]? = some (.lst (es.map PV.str)) → Gr h h' → Q (.obj m) h') : wp (runB 3 (b_words_of F) [.tup (es.map PV.str)] h) Q X := by
  refine wp_runB ?_
  show ws (b_words_of _ [some (.tup (es.map PV.str)), none, none] h) _
  unfold b_words_of
  walk_at "py"
  refine ws_forIn (fun i env h' => (∃ e2, env = [some (.tup (es.map PV.str)), some (.obj h.length), e2]) ∧ h'[h.length]? = some (.lst ((es.take i).map PV.str)) ∧ Gr h h') ⟨⟨_, rfl⟩, getnew, Gr.refl.app⟩ ?_ ?_
  · rintro i x env h' hx ⟨⟨e2, rfl⟩, w, g⟩
    have hx' : (es.map PV.str)[i]? = some x := hx
    rw [List.getElem?_map] at hx'
    obtain ⟨y, hy, rfl⟩ : ∃ y, es[i]? = some y ∧ PV.str y = x := by
      cases e : es[i]? with
      | none => rw [e] at hx'; cases hx'
      | some y => rw [e] at hx'; cases hx'; exact ⟨y, rfl, rfl⟩
    refine ⟨trivial, _, rfl, ?_⟩
    walk_at "py"
    refine appI w (by simp only [List.length_map, List.length_take]; show _ < 16777216; omega) ?_
    refine ⟨⟨_, rfl⟩, ?_, g.setn (Nat.le_refl _)⟩
    rw [getset (List.getElem?_eq_some_iff.mp w).1, take_snoc hy, List.map_append]
    rfl
  · rintro env h' ⟨⟨e2, rfl⟩, w, g⟩
    refine ⟨trivial, ?_⟩
    walk_at "py"
    refine k _ _ ?_ g
    have e : (Src.vals (es.map PV.str)).items.length = es.length := by simp [Src.items]
    rw [e, List.take_length] at w
    exact w
theorem words_node {F : Fn} {h : PH} {u : Str} {l r : Tr} {Q : PV → PH → Prop} {X : XP} (hl : l.ww.length ≤ 300) (hr : r.ww.length ≤ 300)
    (f1 : ∀ {h : PH} {Q : PV → PH → Prop}, (∀ (m : Nat) (h' : PH), h'[m]? = some (.lst (l.ww.map PV.str)) → Gr h h' → Q (.obj m) h') → wp (F [l.pv] h) Q X) (f2 : ∀ {h : PH} {Q : PV → PH → Prop}, (∀ (m : Nat) (h' : PH), h'[m]? = some (.lst (r.ww.map PV.str)) → Gr h h' → Q (.obj m) h') → wp (F [r.pv] h) Q X)
    (k : ∀ (m : Nat) (h' : PH), h'[m]? = some (.lst ((u :: (l.ww ++ r.ww)).map PV.str)) → Gr h h' → Q (.obj m) h') : wp (runB 3 (b_words_of F) [.tup [.str u, l.pv, r.pv]] h) Q X := by
  refine wp_runB ?_
  show ws (b_words_of _ [some (.tup [.str u, l.pv, r.pv]), none, none] h) _
  unfold b_words_of
  have tl := fun h => tyT (h := h) l
  have tr := fun h => tyT (h := h) r
  walk_at "py"
  refine ws_forIn (fun i env h' => (∃ e2, env = [some (.tup [.str u, l.pv, r.pv]), some (.obj h.length), e2]) ∧ h'[h.length]? = some (.lst (((match i with | 0 => [] | 1 => [u] | 2 => u :: l.ww | _ => u :: (l.ww ++ r.ww)) : List Str).map PV.str)) ∧ Gr h h') ⟨⟨_, rfl⟩, getnew, Gr.refl.app⟩ ?_ ?_
  · rintro i x env h' hx ⟨⟨e2, rfl⟩, w, g⟩
    have hi : i = 0 ∧ x = .str u ∨ i = 1 ∧ x = l.pv ∨ i = 2 ∧ x = r.pv := by
      have hx' : ([PV.str u, l.pv, r.pv])[i]? = some x := hx
      match i, hx' with
      | 0, e => cases e; exact .inl ⟨rfl, rfl⟩
      | 1, e => cases e; exact .inr (.inl ⟨rfl, rfl⟩)
      | 2, e => cases e; exact .inr (.inr ⟨rfl, rfl⟩)
      | n + 3, e => simp at e
    refine ⟨trivial, _, rfl, ?_⟩
    rcases hi with ⟨rfl, rfl⟩ | ⟨rfl, rfl⟩ | ⟨rfl, rfl⟩
    · walk_at "py"
      refine ⟨⟨_, rfl⟩, ?_, g.setn (Nat.le_refl _)⟩
      rw [getset (List.getElem?_eq_some_iff.mp w).1]
      rfl
    · generalize hp : l.pv = lp at f1 tl ⊢
      walk_at "py"
      refine isiQ (b := false) (by rw [tl]; rfl) ?_
      walk_at "py"
      refine f1 fun m h2 w2 g2 => ?_
      walk_at "py"
      refine extI (g2.get w) w2 (by simp only [List.length_map, List.length_cons, List.length_nil]; show _ ≤ 16777216; omega) ?_
      refine ⟨⟨_, rfl⟩, ?_, (g.trans g2).setn (Nat.le_refl _)⟩
      rw [getset (List.getElem?_eq_some_iff.mp (g2.get w)).1, ← List.map_append]
      rfl
    · generalize hp : r.pv = rp at f2 tr ⊢
      walk_at "py"
      refine isiQ (b := false) (by rw [tr]; rfl) ?_
      walk_at "py"
      refine f2 fun m h2 w2 g2 => ?_
      walk_at "py"
      refine extI (g2.get w) w2 (by simp only [List.length_map, List.length_cons]; show _ ≤ 16777216; omega) ?_
      refine ⟨⟨_, rfl⟩, ?_, (g.trans g2).setn (Nat.le_refl _)⟩
      rw [getset (List.getElem?_eq_some_iff.mp (g2.get w)).1, ← List.map_append]
      rfl
  · rintro env h' ⟨⟨e2, rfl⟩, w, g⟩
    refine ⟨trivial, ?_⟩
    walk_at "py"
    exact k _ _ w g
theorem words_W : ∀ (n : Nat) {h : PH} {t : Tr} {Q : PV → PH → Prop} {X : XP}, t.high ≤ n → t.size ≤ 100 → (∀ (m : Nat) (h' : PH), h'[m]? = some (.lst (t.ww.map PV.str)) → Gr h h' → Q (.obj m) h') → wp (sem_words_of n [t.pv] h) Q X
  | 0, h, t, Q, X, hn, _, k => by have := t.high_pos; omega
  | n + 1, h, t, Q, X, hn, hs, k => by
    show wp (runB 3 (b_words_of (sem_words_of n)) [t.pv] h) Q X
    cases t with
    | alw => exact words_leaf (es := ["always"]) (by decide) k
    | ld x => exact words_leaf (es := ["leader", x]) (Nat.le_of_ble_eq_true rfl) k
    | al x => exact words_leaf (es := ["all", x]) (Nat.le_of_ble_eq_true rfl) k
    | sm x => exact words_leaf (es := ["some", x]) (Nat.le_of_ble_eq_true rfl) k
    | an l r =>
      have e1 : Tr.high (.an l r) = 1 + max l.high r.high := rfl
      have e2 : Tr.size (.an l r) = 1 + l.size + r.size := rfl
      have wl := l.ww_len
      have wr := r.ww_len
      exact words_node (by omega) (by omega) (fun k => words_W n (by omega) (by omega) k) (fun k => words_W n (by omega) (by omega) k) k
    | oo l r =>
      have e1 : Tr.high (.oo l r) = 1 + max l.high r.high := rfl
      have e2 : Tr.size (.oo l r) = 1 + l.size + r.size := rfl
      have wl := l.ww_len
      have wr := r.ww_len
      exact words_node (by omega) (by omega) (fun k => words_W n (by omega) (by omega) k) (fun k => words_W n (by omega) (by omega) k) k
theorem str_W {h : PH} {n : Nat} {t : Tr} {a : PV} {Q : PV → PH → Prop} {X : XP} (ok : t.Ok) (hi : t.high ≤ 12) (hs : t.size ≤ 100) (e : h[n]? = some (.ins 0 [(f_parts, a), (f_tree, t.pv)])) (k : ∀ (h' : PH), Gr h h' → Q (.str t.tx) h') : wp (sem_Condition___str__ [.obj n] h) Q X := by
  unfold sem_Condition___str__
  refine wp_runB ?_
  show ws (b_Condition___str__ [some (.obj n)] h) _
  unfold b_Condition___str__
  generalize hp : t.pv = tp at e
  walk_at "py"
  rw [← hp]
  refine words_W 12 hi hs fun m h' w g => ?_
  walk_at "py"
  refine joinG (strsO w) (fun y hy => (t.ww_wd ok y hy).1) (by have := t.ww_len; omega) ?_
  exact k h' g
theorem eqv_refl : ∀ (n : Nat) (p : PV), gd n p = true → PyData.eqv (gdD n p) (gdD n p) = true
  | 0, p, e => by cases e
  | n + 1, p, e => by
    cases p with
    | tup xs =>
      obtain ⟨_, a⟩ := gd_tup.mp e
      show PyData.eqvAll (xs.map (gdD n)) (xs.map (gdD n)) = true
      have key : ∀ ys : List PV, (∀ y ∈ ys, gd n y = true) → PyData.eqvAll (ys.map (gdD n)) (ys.map (gdD n)) = true := fun ys => by
        induction ys with
        | nil => intro _; rfl
        | cons y ys ih =>
          intro h
          show (PyData.eqv (gdD n y) (gdD n y) && PyData.eqvAll (ys.map (gdD n)) (ys.map (gdD n))) = true
          rw [eqv_refl n y (h y List.mem_cons_self), ih fun z hz => h z (List.mem_cons_of_mem _ hz)]
          rfl
      exact key xs a
    | str x => show (x == x) = true; exact beq_self_eq_true x
    | int x => show (x == x) = true; exact beq_self_eq_true x
    | bl x => show (x == x) = true; exact beq_self_eq_true x
    | non => rfl
    | obj _ => cases e
    | rol _ => cases e
    | cls _ => cases e
theorem eq_W {h : PH} {i j m : Nat} {a b p : PV} {Q : PV → PH → Prop} {X : XP} (g : gd m p = true) (hm : m ≤ 60) (e1 : h[i]? = some (.ins 0 [(f_parts, a), (f_tree, p)])) (e2 : h[j]? = some (.ins 0 [(f_parts, b), (f_tree, p)])) (k : Q (.bl true) h) : wp (sem_Condition___eq__ [.obj i, .obj j] h) Q X := by
  unfold sem_Condition___eq__
  refine wp_runB ?_
  show ws (b_Condition___eq__ [some (.obj i), some (.obj j)] h) _
  unfold b_Condition___eq__
  walk_at "py"
  refine eqG g hm g hm ?_
  rw [eqv_refl m p g]
  exact k
end
section
theorem cut_strs (wz : List Str) (lo hi : Option Int) : ∃ ys : List Str, cutP (wz.map PV.str) lo hi = ys.map PV.str ∧ (∀ y ∈ ys, y ∈ wz) ∧ ys.length ≤ wz.length := by
  unfold cutP
  refine ⟨_, by rw [← List.map_drop, ← List.map_take], fun y hy => ?_, ?_⟩
  · exact List.mem_of_mem_drop (List.mem_of_mem_take hy)
  · rw [List.length_take, List.length_drop]
    omega
/-- a list of short words -/
def LSt (h h1 : PH) (L : Nat) (p : PV) : Prop := ∃ (n : Nat) (ys : List Str), p = .obj n ∧ h1[n]? = some (.lst (ys.map PV.str)) ∧ (∀ y ∈ ys, Tx 9 y) ∧ ys.length ≤ L ∧ Gr h h1
theorem cutG {h : PH} {nw : Nat} {wz : List Str} {lo hi : Option Int} {Q : PV → PH → Prop} {X : XP} (W : h[nw]? = some (.lst (wz.map PV.str))) (tx : ∀ y ∈ wz, Tx 9 y) (k : ∀ p h1, LSt h h1 wz.length p → Q p h1) : wp (cutOf (.obj nw) lo hi h) Q X := by
  obtain ⟨ys, e, m, l⟩ := cut_strs wz lo hi
  refine cutL (lstO W) ?_
  rw [e]
  exact k _ _ ⟨h.length, ys, rfl, getnew, fun y hy => tx y (m y hy), l, Gr.refl.app⟩
theorem addG {h0 h1 h2 : PH} {L1 L2 : Nat} {p q : PV} {Q : PV → PH → Prop} {X : XP} (a : LSt h0 h1 L1 p) (b : LSt h1 h2 L2 q) (hl : L1 + L2 ≤ 1000) (k : ∀ r h3, LSt h0 h3 (L1 + L2) r → Q r h3) : wp (addV p q h2) Q X := by
  obtain ⟨n, xs, rfl, e1, t1, l1, g1⟩ := a
  obtain ⟨m, ys, rfl, e2, t2, l2, g2⟩ := b
  refine addL (g2.get e1) e2 (by simp only [List.length_map]; show _ ≤ 16777216; omega) ?_
  refine k _ _ ⟨h2.length, xs ++ ys, rfl, by rw [List.map_append]; exact getnew, fun y hy => (List.mem_append.mp hy).elim (t1 y) (t2 y), by rw [List.length_append]; omega, (g1.trans g2).app⟩
theorem LSt.one {h : PH} {w : Str} (t : Tx 9 w) : LSt h (h ++ [.lst [.str w]]) 1 (.obj h.length) := ⟨_, [w], rfl, getnew, fun y hy => by rw [List.mem_singleton.mp hy]; exact t, Nat.le_refl _, Gr.refl.app⟩
theorem LSt.gr {h h1 : PH} {L : Nat} {p : PV} (a : LSt h h1 L p) : Gr h h1 := let ⟨_, _, _, _, _, _, g⟩ := a; g
theorem joinL_G {h0 h1 : PH} {L : Nat} {p : PV} {Q : PV → PH → Prop} {X : XP} (a : LSt h0 h1 L p) (hl : L ≤ 100) (k : ∀ z, Tx 1000 z → Q (.str z) h1) : wp (joinM (.str " ") [p] h1) Q X := by
  obtain ⟨n, xs, rfl, e1, t1, l1, g1⟩ := a
  exact joinG (strsO e1) t1 (by omega) (k _ ((Tx.join (k := 9) t1).mono (by omega)))
section
variable {h : PH} {env : Py.Env} {nw : Nat} {a : Int} {w : Str} {wz : List Str} {Q : PV → PH → Prop} {X : XP}
theorem text2 (he5 : env[5]? = some (some (.obj nw))) (he6 : env[6]? = some (some (.int a))) (he7 : env[7]? = some (some (.str w))) (W : h[nw]? = some (.lst (wz.map PV.str))) (tx : ∀ y ∈ wz, Tx 9 y) (tw : Tx 9 w) (hl : wz.length ≤ 40) (k : ∀ z h', Tx 1000 z → Gr h h' → Q (.str z) h') :
    wp (mE isStr joinM (cst (.str " ")) (consA (bin addV (bin addV (slE (var 5) (noneO) (someO (var 6))) (lstE (consA (var 7) (nilA)))) (slE (var 5) (someO (var 6)) (noneO))) (nilA)) env h) Q X := by
  refine wp_mE.mpr (wp_cst.mpr (tyS (wp_consA.mpr (wp_bin.mpr (wp_bin.mpr ?_)))))
  refine wp_slE.mpr (varI he5 (wp_noneO.mpr (wp_someO.mpr (varI he6 ?_))))
  refine exI (cutG W tx fun p1 h1 a1 => ?_)
  refine wp_lstE.mpr (wp_consA.mpr (varI he7 (wp_nilA.mpr ⟨Nat.le_of_ble_eq_true rfl, ?_⟩)))
  refine addG a1 (LSt.one tw) (by omega) fun p2 h2 a2 => ?_
  refine wp_slE.mpr (varI he5 (wp_someO.mpr (varI he6 (exI (wp_noneO.mpr ?_)))))
  refine cutG (a2.gr.get W) tx fun p3 h3 a3 => ?_
  refine addG a2 a3 (by omega) fun p4 h4 a4 => ?_
  refine wp_nilA.mpr (joinL_G a4 (by omega) fun z tz => k z h4 tz a4.gr)
theorem text3 (he5 : env[5]? = some (some (.obj nw))) (he6 : env[6]? = some (some (.int a))) (W : h[nw]? = some (.lst (wz.map PV.str))) (tx : ∀ y ∈ wz, Tx 9 y) (hl : wz.length ≤ 40) (k : ∀ z h', Tx 1000 z → Gr h h' → Q (.str z) h') :
    wp (mE isStr joinM (cst (.str " ")) (consA (bin addV (slE (var 5) (noneO) (someO (var 6))) (slE (var 5) (someO (bin addV (var 6) (cst (.int 1)))) (noneO))) (nilA)) env h) Q X := by
  refine wp_mE.mpr (wp_cst.mpr (tyS (wp_consA.mpr (wp_bin.mpr ?_))))
  refine wp_slE.mpr (varI he5 (wp_noneO.mpr (wp_someO.mpr (varI he6 ?_))))
  refine exI (cutG W tx fun p1 h1 a1 => ?_)
  refine wp_slE.mpr (varI he5 (wp_someO.mpr (wp_bin.mpr (varI he6 (wp_cst.mpr (wp_addI.mpr (exI (wp_noneO.mpr ?_))))))))
  refine cutG (a1.gr.get W) tx fun p3 h3 a3 => ?_
  refine addG a1 a3 (by omega) fun p4 h4 a4 => ?_
  refine wp_nilA.mpr (joinL_G a4 (by omega) fun z tz => k z h4 tz a4.gr)
theorem text4 (he5 : env[5]? = some (some (.obj nw))) (he6 : env[6]? = some (some (.int a))) (he7 : env[7]? = some (some (.str w))) (W : h[nw]? = some (.lst (wz.map PV.str))) (tx : ∀ y ∈ wz, Tx 9 y) (tw : Tx 9 w) (hl : wz.length ≤ 40) (k : ∀ z h', Tx 1000 z → Gr h h' → Q (.str z) h') :
    wp (mE isStr joinM (cst (.str " ")) (consA (bin addV (bin addV (slE (var 5) (noneO) (someO (var 6))) (lstE (consA (var 7) (nilA)))) (slE (var 5) (someO (bin addV (var 6) (cst (.int 1)))) (noneO))) (nilA)) env h) Q X := by
  refine wp_mE.mpr (wp_cst.mpr (tyS (wp_consA.mpr (wp_bin.mpr (wp_bin.mpr ?_)))))
  refine wp_slE.mpr (varI he5 (wp_noneO.mpr (wp_someO.mpr (varI he6 ?_))))
  refine exI (cutG W tx fun p1 h1 a1 => ?_)
  refine wp_lstE.mpr (wp_consA.mpr (varI he7 (wp_nilA.mpr ⟨Nat.le_of_ble_eq_true rfl, ?_⟩)))
  refine addG a1 (LSt.one tw) (by omega) fun p2 h2 a2 => ?_
  refine wp_slE.mpr (varI he5 (wp_someO.mpr (wp_bin.mpr (varI he6 (wp_cst.mpr (wp_addI.mpr (exI (wp_noneO.mpr ?_))))))))
  refine cutG (a2.gr.get W) tx fun p3 h3 a3 => ?_
  refine addG a2 a3 (by omega) fun p4 h4 a4 => ?_
  refine wp_nilA.mpr (joinL_G a4 (by omega) fun z tz => k z h4 tz a4.gr)
/-- a list, doubled -/
theorem mulG {j : Nat} {ys : List Str} {c : Int} (e : h[j]? = some (.lst (ys.map PV.str))) (tx : ∀ y ∈ ys, Tx 9 y) (c0 : 0 ≤ c) (c1 : c ≤ 60) (hl : ys.length ≤ 2) (k : ∀ p h1, LSt h h1 (ys.length * c.toNat) p → Q p h1) : wp (mulV (.obj j) (.int c) h) Q X := by
  refine mulL e (by omega) (by omega) (by rw [List.length_map]; show _ ≤ 16777216; have : ys.length * c.toNat ≤ 2 * 60 := Nat.mul_le_mul hl (by omega); omega) ?_
  have e1 : (List.replicate c.toNat (ys.map PV.str)).flatten = ((List.replicate c.toNat ys).flatten).map PV.str := by
    rw [List.map_flatten, List.map_replicate]
  rw [e1]
  refine k _ _ ⟨h.length, (List.replicate c.toNat ys).flatten, rfl, getnew, fun y hy => ?_, ?_, Gr.refl.app⟩
  · obtain ⟨l, hl, hy⟩ := List.mem_flatten.mp hy
    rw [(List.mem_replicate.mp hl).2] at hy
    exact tx y hy
  · rw [List.length_flatten]
    simp
    rw [Nat.mul_comm]
    exact Nat.le_refl _
end
end
section
theorem NOk.of {x : Str} (h : nameB x = true ∧ PyData.strOk x = true ∧ decide (x.length ≤ sizeLine) = true) : NOk x := ⟨h.1, h.2.1, of_decide_eq_true h.2.2⟩
theorem marks_v : ∀ x ∈ (["a", "ab", "voted"] : List Str), nameB x = true ∧ PyData.strOk x = true ∧ decide (x.length ≤ sizeLine) = true := by decide +kernel
theorem words_tx : ∀ x ∈ (["and", "all", "a", "", "always", "A", "end", "leader", "or", "b1", "abcdefghi"] : List Str), txB 9 x = true := by decide +kernel
theorem sfx_tx : ∀ x ∈ ([" a", "\n"] : List Str), txB 2 x = true := by decide +kernel
theorem try_odd {h : PH} {v : PV} {ty : Ty} {env : Py.Env} {i : Nat} {Q : PV → PH → Prop} {X : XP} (ht : tyOf h v = some ty) (hn : ansB .str [] ty = some false) (he : env[i]? = some (some v)) (q : Q (.tup [.str "InvalidText", .int 1]) h) : wp (tryE exl 0 (fldE [0] 6 (cmE "Condition" 2 sem_Condition_read (consA (var i) (nilA)))) env h) Q X := by
  refine wp_tryE (wp_fldE (wp_cmE (wp_consA.mpr (varI he (wp_nilA.mpr ⟨rfl, ?_⟩)))))
  unfold sem_Condition_read
  refine wp_runB ?_
  show ws (b_Condition_read [some (.cls "Condition"), some v, none, none] h) _
  unfold b_Condition_read
  walk_at "py"
  refine isiQ (b := false) (by rw [ht]; exact hn) ?_
  walk_at "py"
  exact ⟨_, _, _, rfl, by decide +kernel, q⟩
theorem law_true : ∀ ns : List Int, ns.length ≤ 63 → ∃ h', sem_law [.rol (ns.map PV.int)] [] = .ok (.bl true) h' := by
  intro ns hns
  have w : wp (sem_law [.rol (ns.map PV.int)] []) (fun v h' => v = .bl true) NX := by
    unfold sem_law
    refine wp_runB ?_
    show ws (b_law [some (.rol (ns.map PV.int)), none, none, none, none, none, none, none, none, none, none, none] []) _
    unfold b_law
    walk_at "py"
    refine bag_I fun b c h B => ?_
    walk_at "py"
    refine ws_forIn (fun _ env h' => (∃ e2 e3 e4 e5 e6 e7 e8 e9 e10 e11, env = [some (.rol (ns.map PV.int)), some (.obj b), e2, e3, e4, e5, e6, e7, e8, e9, e10, e11]) ∧ Bag b c h') ⟨⟨_, _, _, _, _, _, _, _, _, _, rfl⟩, B⟩ ?_ ?_
    · clear B h
      rintro i x env h hx ⟨⟨e2, e3, e4, e5, e6, e7, e8, e9, e10, e11, rfl⟩, B⟩
      refine ⟨trivial, _, rfl, ?_⟩
      walk_at "py"
      have lb := B.lt
      refine draw_I (by decide) (by decide) B.app fun d1 h1 a10 a11 B1 hl1 f1 => ?_
      walk_at "py"
      refine wide_I 12 B1 ⟨f1.get (by omega) getnew, fun x hx => NOk.of (marks_v x hx), by decide, by decide⟩ (by omega) (by omega) (by omega) (by omega) fun t h2 ok sz hi B2 f2 => ?_
      generalize hp : t.pv = tp
      walk_at "py"
      rw [← hp]
      refine said_G 12 ok (by omega) (by omega) ?_
      rw [hp]
      walk_at "py"
      have hww : t.ww.length ≤ 34 := by have := t.ww_len; omega
      have ttx : Tx 340 t.tx := (Tx.join (k := 9) fun p hp => (t.ww_wd ok p hp).1).mono (by omega)
      refine splitI (by decide +kernel) (by have := ttx.2; show _ ≤ 16777216; omega) ?_
      rw [Tr.tx_split ok]
      have nw2 : (h2 ++ [PO.lst (t.ww.map PV.str)])[h2.length]? = some (PO.lst (t.ww.map PV.str)) := getnew
      have B3 := B2.app (o := PO.lst (t.ww.map PV.str))
      have lb2 := B2.lt
      have ne : h2.length ≠ b := by omega
      generalize h2 ++ [PO.lst (t.ww.map PV.str)] = h3 at nw2 B3 ⊢
      generalize h2.length = nw at nw2 ne ⊢
      walk_at "py"
      refine draw_I (by have := t.ww_len; simp; omega) (by simp; omega) B3 fun at4 h4 a40 a41 B4 hl4 f4 => ?_
      have nw4 := f4.get ne nw2
      walk_at "py"
      refine one_L B4.app (by have := B4.lt; omega) getnew (by decide) (by decide) fun v5 h5 hv5 B5 hl5 f5 => ?_
      have nw5 := f5.get ne (getold nw4)
      obtain ⟨w5, tw5, rfl⟩ : ∃ w, Tx 9 w ∧ PV.str w = v5 := by
        have : v5 ∈ (["and", "all", "a", "", "always", "A", "end", "leader", "or", "b1", "abcdefghi"] : List Str).map PV.str := hv5
        obtain ⟨w, hw, e⟩ := List.mem_map.mp this
        exact ⟨w, Tx.of (words_tx w hw), e⟩
      iterate 6 walk_at "py1"
      refine text2 rfl rfl rfl nw5 (fun y hy => (t.ww_wd ok y hy).1) tw5 (by omega) fun z6 h6 tz6 g6 => ?_
      have nw6 := g6.get nw5
      have B6 := B5.gr g6
      walk_at "py1"
      refine text3 rfl rfl nw6 (fun y hy => (t.ww_wd ok y hy).1) (by omega) fun z7 h7 tz7 g7 => ?_
      have nw7 := g7.get nw6
      have B7 := B6.gr g7
      walk_at "py1"
      refine text4 rfl rfl rfl nw7 (fun y hy => (t.ww_wd ok y hy).1) tw5 (by omega) fun z8 h8 tz8 g8 => ?_
      have B8 := B7.gr g8
      have c1 : (" " : Str).length = 1 := by decide +kernel
      have t1 : Tx 1 (" " : Str) := Tx.of (by decide +kernel)
      have big : ∀ {x : Nat}, x ≤ 2000 → x ≤ sizeLine := fun hx => Nat.le_trans hx (Nat.le_of_ble_eq_true rfl)
      have lt := ttx.2
      walk_at "py"
      refine addS (big (by omega)) ?_
      walk_at "py"
      refine addS (big (by omega)) ?_
      walk_at "py"
      refine one_L B8.app (by have := B8.lt; omega) getnew (by decide) (by decide) fun v9 h9 hv9 B9 hl9 f9 => ?_
      obtain ⟨w9, tw9, rfl⟩ : ∃ w, Tx 2 w ∧ PV.str w = v9 := by
        have : v9 ∈ ([" a", "\n"] : List Str).map PV.str := hv9
        obtain ⟨w, hw, e⟩ := List.mem_map.mp this
        exact ⟨w, Tx.of (sfx_tx w hw), e⟩
      have l9 := tw9.2
      walk_at "py"
      refine addS (big (by omega)) ?_
      walk_at "py"
      refine draw_I (by decide) (by decide) B9.app fun d10 h10 a100 a101 B10 hl10 f10 => ?_
      walk_at "py"
      have n10 := f10.get (n := h9.length) (by have := B9.lt; omega) getnew
      refine mulG (ys := ["and", "always"]) n10 (fun y hy => Tx.of ((by decide +kernel : ∀ y ∈ (["and", "always"] : List Str), txB 9 y = true) y hy)) (by omega) (by omega) (by decide) fun p11 h11 a11 => ?_
      walk_at "py"
      refine addG a11 (LSt.one (w := "always") (Tx.of (by decide +kernel))) (by simp; omega) fun p12 h12 a12 => ?_
      walk_at "py"
      refine joinL_G a12 (by simp; omega) fun z12 tz12 => ?_
      have B12 := B10.gr a12.gr
      walk_at "py"
      refine draw_I (by decide) (by decide) B12.app fun d13 h13 a130 a131 B13 hl13 f13 => ?_
      walk_at "py"
      have n13 := f13.get (n := h12.length) (by have := B12.lt; omega) getnew
      refine mulG (ys := ["and"]) n13 (fun y hy => Tx.of ((by decide +kernel : ∀ y ∈ (["and"] : List Str), txB 9 y = true) y hy)) (by omega) (by omega) (by decide) fun p14 h14 a14 => ?_
      walk_at "py"
      refine joinL_G a14 (by simp; omega) fun z14 tz14 => ?_
      have B14 := B13.gr a14.gr
      walk_at "py"
      have gs : ∀ v ∈ [PV.str t.tx, PV.str z6, PV.str z7, PV.str z8, PV.str (t.tx ++ " "), PV.str (" " ++ t.tx), PV.str (t.tx ++ w9), PV.str z12, PV.str z14, PV.str ""], ∃ z, Tx 1000 z ∧ PV.str z = v := fun v hv => by
        simp only [List.mem_cons, List.not_mem_nil, or_false] at hv
        rcases hv with rfl | rfl | rfl | rfl | rfl | rfl | rfl | rfl | rfl | rfl
        · exact ⟨_, ttx.mono (by omega), rfl⟩
        · exact ⟨_, tz6, rfl⟩
        · exact ⟨_, tz7, rfl⟩
        · exact ⟨_, tz8, rfl⟩
        · exact ⟨_, (ttx.app t1).mono (by omega), rfl⟩
        · exact ⟨_, (t1.app ttx).mono (by omega), rfl⟩
        · exact ⟨_, (ttx.app tw9).mono (by omega), rfl⟩
        · exact ⟨_, tz12, rfl⟩
        · exact ⟨_, tz14, rfl⟩
        · exact ⟨_, Tx.of (by decide +kernel), rfl⟩
      generalize [PV.str t.tx, PV.str z6, PV.str z7, PV.str z8, PV.str (t.tx ++ " "), PV.str (" " ++ t.tx), PV.str (t.tx ++ w9), PV.str z12, PV.str z14, PV.str ""] = xs at gs ⊢
      have x15 : (h14 ++ [PO.lst xs])[h14.length]? = some (PO.lst xs) := getnew
      have B15 := B14.app (o := PO.lst xs)
      generalize h14 ++ [PO.lst xs] = h15 at x15 B15 ⊢
      generalize h14.length = nt at x15 ⊢
      refine ws_forIn (fun _ env h' => (∃ e9 e10 e11, env = [some (.rol (ns.map PV.int)), some (.obj b), some x, some tp, some (.str t.tx), some (.obj nw), some (.int at4), some (.str w5), some (.obj nt), e9, e10, e11]) ∧ Gr h15 h') ⟨⟨_, _, _, rfl⟩, Gr.refl⟩ ?_ ?_
      · rintro i2 v env2 h' hv ⟨⟨e9, e10, e11, rfl⟩, g⟩
        refine ⟨g.get x15, _, rfl, ?_⟩
        obtain ⟨z, tz, rfl⟩ := gs v (List.mem_of_getElem? hv)
        iterate 5 walk_at "py1"
        refine try_G tz rfl fun h1 g1 => ?_
        walk_at "py"
        refine due_G tz fun h2 g2 => ?_
        walk_at "py"
        have gz := due_gd tz
        refine wp_use (same_true 48 _ _ _ _ (dv_gd 48 _ gz) (dv_gd 48 _ gz)) fun r h5 ⟨er, g5⟩ => ?_
        subst er
        walk_at "py"
        exact ⟨⟨_, _, _, rfl⟩, ((g.trans g1).trans g2).trans g5⟩
      · rintro env2 h' ⟨⟨e9, e10, e11, rfl⟩, g⟩
        refine ⟨g.get x15, ?_⟩
        have B16 := B15.gr g
        walk_at "py"
        have lb16 := B16.lt
        refine one_L B16.app.app (by simp; omega) (getnew' (by simp)) (Nat.le_of_ble_eq_true rfl) (Nat.le_of_ble_eq_true rfl) fun v17 h17 hv17 B17 hl17 f17 => ?_
        have n17 := f17.get (n := h'.length) (by omega) (getold getnew)
        obtain ⟨ty, ht, hty⟩ : ∃ ty, tyOf h17 v17 = some ty ∧ ansB .str [] ty = some false := by
          simp only [List.mem_cons, List.not_mem_nil, or_false] at hv17
          rcases hv17 with rfl | rfl | rfl | rfl | rfl | rfl
          · exact ⟨_, rfl, rfl⟩
          · exact ⟨_, rfl, rfl⟩
          · exact ⟨_, rfl, rfl⟩
          · exact ⟨_, rfl, rfl⟩
          · exact ⟨.b .list, by simp only [tyOf, n17], rfl⟩
          · exact ⟨_, rfl, rfl⟩
        clear hv17 n17 f17
        iterate 6 walk_at "py1"
        refine try_odd ht hty rfl ?_
        walk_at "py"
        refine wp_use (same_true 48 _ _ _ _ (dv_gd 48 _ (gd_mono (n := 2) (by omega) (by decide +kernel))) (dv_gd 48 _ (gd_mono (n := 2) (by omega) (by decide +kernel)))) fun r h18 ⟨er, g18⟩ => ?_
        subst er
        have B18 := B17.gr g18
        walk_at "py"
        have gt := Tr.gdp t ok
        have gx : gd 1 (.str t.tx) = true := gd_str.mpr ⟨ttx.ok, by omega⟩
        rw [← hp]
        refine fault_G gt (by omega) ?_
        rw [hp]
        have fin : ∀ {a9 a10 a11 : Option PV} {h : PH}, Bag b c h → (∃ e2 e3 e4 e5 e6 e7 e8 e9 e10 e11, ([some (.rol (ns.map PV.int)), some (.obj b), some x, some tp, some (.str t.tx), some (.obj nw), some (.int at4), some (.str w5), some (.obj nt), a9, a10, a11] : Py.Env) = [some (.rol (ns.map PV.int)), some (.obj b), e2, e3, e4, e5, e6, e7, e8, e9, e10, e11]) ∧ Bag b c h := fun B => ⟨⟨_, _, _, _, _, _, _, _, _, _, rfl⟩, B⟩
        cases e : chk 12 tp 1 0 with
        | big =>
          dsimp only [CR.due]
          walk_at "py"
          exact fin B18
        | inv q =>
          dsimp only [CR.due]
          walk_at "py"
          exact fin B18
        | ok c9 =>
          dsimp only
          walk_at "py"
          refine cond_G (m := t.high + 1) (by rw [← hp]; exact gt) ?_
          rw [e]
          dsimp only
          have i19 : (h18 ++ [PO.ins 0 [(f_parts, .int c9), (f_tree, t.pv)]])[h18.length]? = some (.ins 0 [(f_parts, .int c9), (f_tree, t.pv)]) := getnew
          have B19 := B18.app (o := PO.ins 0 [(f_parts, .int c9), (f_tree, t.pv)])
          rw [hp] at i19 B19
          generalize h18 ++ [PO.ins 0 [(f_parts, .int c9), (f_tree, tp)]] = h19 at i19 B19 ⊢
          generalize h18.length = n19 at i19 ⊢
          walk_at "py"
          refine strOI i19 rfl (str_W ok (by omega) (by omega) (by rw [hp]; exact i19) fun h20 g20 => ⟨_, rfl, ?_⟩)
          walk_at "py"
          refine wp_use (same_true 48 _ _ _ _ (dv_gd 48 _ (gd_mono (by omega) gx)) (dv_gd 48 _ (gd_mono (by omega) gx))) fun r h21 ⟨er, g21⟩ => ?_
          subst er
          have g2 := g20.trans g21
          walk_at "py"
          refine strOI (g2.get i19) rfl (str_W ok (by omega) (by omega) (by rw [hp]; exact g2.get i19) fun h22 g22 => ⟨_, rfl, ?_⟩)
          have g3 := g2.trans g22
          walk_at "py"
          refine cread_G (ttx.mono (by omega)) ?_
          unfold rdEnds
          rw [Tr.tx_split ok, if_neg (by omega), wht_ww ok (by omega), hp]
          dsimp only
          rw [e]
          dsimp only
          have i23 : (h22 ++ [PO.lst (t.ww.map PV.str)] ++ [PO.ins 0 [(f_parts, .int c9), (f_tree, tp)]])[h22.length + 1]? = some (.ins 0 [(f_parts, .int c9), (f_tree, tp)]) := getnew' (by simp)
          have g4 : Gr h19 (h22 ++ [PO.lst (t.ww.map PV.str)] ++ [PO.ins 0 [(f_parts, .int c9), (f_tree, tp)]]) := g3.app.app
          generalize h22 ++ [PO.lst (t.ww.map PV.str)] ++ [PO.ins 0 [(f_parts, .int c9), (f_tree, tp)]] = h23 at i23 g4 ⊢
          generalize h22.length + 1 = n23 at i23 ⊢
          have i24 := g4.get i19
          walk_at "py"
          refine eqOI i23 rfl (by simp only [tyOf, i24]; rfl) (eq_W (m := t.high + 1) (by rw [← hp]; exact gt) (by omega) i23 i24 ⟨_, rfl, ?_⟩)
          walk_at "py"
          exact fin (B19.gr g4)
    · rintro env h ⟨⟨e2, e3, e4, e5, e6, e7, e8, e9, e10, e11, rfl⟩, B⟩
      refine ⟨trivial, ?_⟩
      walk_at "py"
      rfl
  obtain ⟨a, h', e, e2⟩ := wp_get w
  subst e2
  exact ⟨h', e⟩
end
end L
end
open PySem PySem.W PySem.Calls PyProof.Rows
set_option maxHeartbeats 0 in
theorem PySem.Challenge.cw_livingends_k07_texts_of_conditions_holds : PySem.Challenge.rw_livingends_k07_texts_of_conditions.Holds := by
  w_on; o_law
  refine HandSHeadRun.head_any (r := OpenLaw.row PySem.Challenge.rw_livingends_k07_texts_of_conditions) (q := view (OpenLaw.row PySem.Challenge.rw_livingends_k07_texts_of_conditions).prog [39]) (H := L.hk) (ob := L.ob) (M := 20000) (loose := L.loose) (d := HandSHeadRun.topDef (OpenLaw.row PySem.Challenge.rw_livingends_k07_texts_of_conditions).prog 39) (kwd := []) L.ob_eq
    (by kernel_rfl) (fun s => by kernel_rfl) L.run (by kernel_rfl) (by kernel_rfl) (by kernel_rfl) (by rfl) (by first | assumption | decide +kernel) (by decide +kernel) ⟨rfl, rfl, rfl, rfl, rfl, by decide +kernel⟩ ?hw ?hc
  case hw => w_witness2
  case hc =>
    refine Py.law_end (lw := PySem.Challenge.rw_livingends_k07_texts_of_conditions) (j := 52) (nm := "script") (CXw := fun w => L2.CX (PySem.Challenge.rw_livingends_k07_texts_of_conditions).prog w) rfl (by kernel_rfl) ⟨rfl, by decide, by decide⟩ ?F (fun _ _ _ _ _ z => Py.cx_none z)
    intro w mg fa h Y G hmg0
    obtain ⟨K, KX, c, ct⟩ := Y
    have hmg : mg ("law" : PySem.Str) = some (.ref fa) := by
      have e : (HandSHeadRun.topDef (OpenLaw.row PySem.Challenge.rw_livingends_k07_texts_of_conditions).prog 39).name = ("law" : PySem.Str) := by kernel_rfl
      rw [← e]
      exact hmg0
    obtain ⟨fd, hb, hF⟩ := L.facts (P := (PySem.Challenge.rw_livingends_k07_texts_of_conditions).prog) (w := w) KX G hmg c
    exact ⟨K, fd, L.tf.map (fun q => He.cT K q.1), Py.spI (L.Gc K (PySem.Challenge.rw_livingends_k07_texts_of_conditions).prog w) 1 L.sem_law, KX, fun p hp => by obtain ⟨q, hq, rfl⟩ := List.mem_map.mp hp; exact ct.emp q.1 (List.mem_map.mpr ⟨q, hq, rfl⟩), fun p hp => by obtain ⟨q, hq, rfl⟩ := List.mem_map.mp hp; exact ct.out q.1 (List.mem_map.mpr ⟨q, hq, rfl⟩),
      fun p hp => by obtain ⟨q, hq, rfl⟩ := List.mem_map.mp hp; exact PySem.W.codeHd_of_K KX (ct.hd q.1 (List.mem_map.mpr ⟨q, hq, rfl⟩)), hb, fun H a ns hl hT hR => Py.law_sp L.law_true hl (Py.tabs_of (G := L.Gc K (PySem.Challenge.rw_livingends_k07_texts_of_conditions).prog w) rfl hT) hR, hF⟩
