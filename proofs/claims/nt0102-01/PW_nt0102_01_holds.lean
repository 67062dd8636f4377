import PyProof.Rows.All
import Wide.All
import OpenK.AllK
import Wide.FinOn
import PySem.Challenge.RW_nt0102_01

set_option Elab.async false

section
set_option maxRecDepth 100000
set_option linter.unusedVariables false
set_option genSizeOf false
set_option genInjectivity false
open PySem PySem.W PyProof.Rows
namespace Mine

/-! patterns: what is found, and the thing told again by what is found -/
structure Pat (α : Type) where
  D : Type
  im : D → α
  get : α → Option D
  ok : ∀ x d, get x = some d → x = im d
noncomputable def Pat.m {α : Type} (P : Pat α) (x : α) : Bool := (P.get x).isSome
theorem Pat.of {α : Type} {P : Pat α} {x : α} (h : P.m x = true) : ∃ d, x = P.im d := by
  cases e : P.get x with
  | none => rw [Pat.m, e] at h; cases h
  | some d => exact ⟨d, P.ok x d e⟩
noncomputable def pAny (α : Type) : Pat α := ⟨α, fun d => d, some, fun x d h => Option.some.inj h⟩
theorem dite_some {τ σ : Type} {x : τ} {im : σ → τ} {c : Prop} [Decidable c] {f : c → σ} (hf : ∀ h, x = im (f h)) (s : σ) (h : (if h : c then some (f h) else none) = some s) : x = im s := by
  by_cases hc : c
  · rw [dif_pos hc] at h; cases h; exact hf hc
  · rw [dif_neg hc] at h; cases h
noncomputable def pIs {α : Type} (c : α → Bool) : Pat α := ⟨{x // c x = true}, fun d => d.1, fun x => if h : c x = true then some ⟨x, h⟩ else none, fun x => dite_some (im := fun d : {x // c x = true} => d.1) fun _ => rfl⟩
noncomputable def pEq {α : Type} [BEq α] [LawfulBEq α] (a : α) : Pat α := ⟨Unit, fun _ => a, fun x => if h : (x == a) = true then some () else none, fun x => dite_some (im := fun _ => a) fun h => eq_of_beq h⟩
noncomputable def Pat.comp {α : Type} (P : Pat α) (Q : Pat P.D) : Pat α := ⟨Q.D, fun d => P.im (Q.im d), fun x => (P.get x).bind Q.get, fun x d h => by
  obtain ⟨y, hy, h⟩ := Option.bind_eq_some_iff.mp h
  rw [P.ok _ _ hy, Q.ok _ _ h]⟩
noncomputable def pp {α β : Type} (P : Pat α) (Q : Pat β) : Pat (α × β) := ⟨P.D × Q.D, fun d => (P.im d.1, Q.im d.2), fun x => (P.get x.1).bind fun a => (Q.get x.2).bind fun b => some (a, b), fun x d h => by
  obtain ⟨y, hy, h⟩ := Option.bind_eq_some_iff.mp h
  obtain ⟨z, hz, h⟩ := Option.bind_eq_some_iff.mp h
  cases h
  show x = (P.im y, Q.im z)
  rw [← P.ok _ _ hy, ← Q.ok _ _ hz]⟩
noncomputable def pUp {α : Type} (P : Pat α) (c : α → Bool) : Pat α := P.comp (pIs fun d => c (P.im d))
noncomputable def pOr {α : Type} (P Q : Pat α) : Pat α := ⟨P.D ⊕ Q.D, fun d => Sum.rec P.im Q.im d, fun x => Option.rec ((Q.get x).map Sum.inr) (fun d => some (Sum.inl d)) (P.get x), fun x d h => by
  cases e : P.get x with
  | some y => rw [e] at h; cases h; exact P.ok _ _ e
  | none =>
    rw [e] at h
    obtain ⟨z, hz, rfl⟩ := Option.map_eq_some_iff.mp h
    exact Q.ok _ _ hz⟩

/-! lists, options -/
noncomputable def pNil {α : Type} : Pat (List α) := ⟨Unit, fun _ => [], fun x => List.rec (some ()) (fun _ _ _ => none) x, fun x d h => by cases x with | nil => rfl | cons => cases h⟩
noncomputable def cCons {α : Type} : Pat (List α) := ⟨α × List α, fun d => d.1 :: d.2, fun x => List.rec none (fun a l _ => some (a, l)) x, fun x d h => by cases x with | nil => cases h | cons => cases h; rfl⟩
noncomputable def pCons {α : Type} (P : Pat α) (Q : Pat (List α)) : Pat (List α) := cCons.comp (pp P Q)
noncomputable def pOne {α : Type} (P : Pat α) : Pat (List α) := ⟨P.D, fun d => [P.im d], fun x => ((pCons P pNil).get x).bind fun d => some d.1, fun x d h => by
  obtain ⟨y, hy, h⟩ := Option.bind_eq_some_iff.mp h
  cases h
  exact (pCons P pNil).ok _ _ hy⟩
noncomputable def pTwo {α : Type} (P Q : Pat α) : Pat (List α) := pCons P (pOne Q)
noncomputable def pThree {α : Type} (P Q R : Pat α) : Pat (List α) := pCons P (pTwo Q R)
noncomputable def pNone {α : Type} : Pat (Option α) := ⟨Unit, fun _ => none, fun x => Option.rec (some ()) (fun _ => none) x, fun x d h => by cases x with | none => rfl | some => cases h⟩
noncomputable def cSome {α : Type} : Pat (Option α) := ⟨α, fun d => some d, fun x => x, fun x d h => h⟩
noncomputable def pSome {α : Type} (P : Pat α) : Pat (Option α) := cSome.comp P

/-! constructors: what is found is a product of the parts -/
noncomputable def eName : Pat PySem.Expr := ⟨Str × Pos, fun d : Str × Pos => PySem.Expr.Name d.1 d.2, fun x => if h : x.ctorIdx = 23 then some (PySem.Expr.Name.elim (motive_1 := fun _ => Str × Pos) x h fun a b => (a, b)) else none,
  fun x => dite_some (im := fun d : Str × Pos => PySem.Expr.Name d.1 d.2) fun h => PySem.Expr.Name.elim (motive_1 := fun x => ∀ h : x.ctorIdx = 23, x = (fun d : Str × Pos => PySem.Expr.Name d.1 d.2) (PySem.Expr.Name.elim (motive_1 := fun _ => Str × Pos) x h fun a b => (a, b))) x h (fun _ _ _ => rfl) h⟩
noncomputable def eCall : Pat PySem.Expr := ⟨Expr × (List Expr) × (List Keyword) × Pos, fun d : Expr × (List Expr) × (List Keyword) × Pos => PySem.Expr.Call d.1 d.2.1 d.2.2.1 d.2.2.2, fun x => if h : x.ctorIdx = 16 then some (PySem.Expr.Call.elim (motive_1 := fun _ => Expr × (List Expr) × (List Keyword) × Pos) x h fun a b c d => (a, b, c, d)) else none,
  fun x => dite_some (im := fun d : Expr × (List Expr) × (List Keyword) × Pos => PySem.Expr.Call d.1 d.2.1 d.2.2.1 d.2.2.2) fun h => PySem.Expr.Call.elim (motive_1 := fun x => ∀ h : x.ctorIdx = 16, x = (fun d : Expr × (List Expr) × (List Keyword) × Pos => PySem.Expr.Call d.1 d.2.1 d.2.2.1 d.2.2.2) (PySem.Expr.Call.elim (motive_1 := fun _ => Expr × (List Expr) × (List Keyword) × Pos) x h fun a b c d => (a, b, c, d))) x h (fun _ _ _ _ _ => rfl) h⟩
noncomputable def eConstant : Pat PySem.Expr := ⟨Const × Nat × Pos, fun d : Const × Nat × Pos => PySem.Expr.Constant d.1 d.2.1 d.2.2, fun x => if h : x.ctorIdx = 19 then some (PySem.Expr.Constant.elim (motive_1 := fun _ => Const × Nat × Pos) x h fun a b c => (a, b, c)) else none,
  fun x => dite_some (im := fun d : Const × Nat × Pos => PySem.Expr.Constant d.1 d.2.1 d.2.2) fun h => PySem.Expr.Constant.elim (motive_1 := fun x => ∀ h : x.ctorIdx = 19, x = (fun d : Const × Nat × Pos => PySem.Expr.Constant d.1 d.2.1 d.2.2) (PySem.Expr.Constant.elim (motive_1 := fun _ => Const × Nat × Pos) x h fun a b c => (a, b, c))) x h (fun _ _ _ _ => rfl) h⟩
noncomputable def eBinOp : Pat PySem.Expr := ⟨Expr × Operator × Expr × Pos, fun d : Expr × Operator × Expr × Pos => PySem.Expr.BinOp d.1 d.2.1 d.2.2.1 d.2.2.2, fun x => if h : x.ctorIdx = 2 then some (PySem.Expr.BinOp.elim (motive_1 := fun _ => Expr × Operator × Expr × Pos) x h fun a b c d => (a, b, c, d)) else none,
  fun x => dite_some (im := fun d : Expr × Operator × Expr × Pos => PySem.Expr.BinOp d.1 d.2.1 d.2.2.1 d.2.2.2) fun h => PySem.Expr.BinOp.elim (motive_1 := fun x => ∀ h : x.ctorIdx = 2, x = (fun d : Expr × Operator × Expr × Pos => PySem.Expr.BinOp d.1 d.2.1 d.2.2.1 d.2.2.2) (PySem.Expr.BinOp.elim (motive_1 := fun _ => Expr × Operator × Expr × Pos) x h fun a b c d => (a, b, c, d))) x h (fun _ _ _ _ _ => rfl) h⟩
noncomputable def eCompare : Pat PySem.Expr := ⟨Expr × (List CmpOp) × (List Expr) × Pos, fun d : Expr × (List CmpOp) × (List Expr) × Pos => PySem.Expr.Compare d.1 d.2.1 d.2.2.1 d.2.2.2, fun x => if h : x.ctorIdx = 15 then some (PySem.Expr.Compare.elim (motive_1 := fun _ => Expr × (List CmpOp) × (List Expr) × Pos) x h fun a b c d => (a, b, c, d)) else none,
  fun x => dite_some (im := fun d : Expr × (List CmpOp) × (List Expr) × Pos => PySem.Expr.Compare d.1 d.2.1 d.2.2.1 d.2.2.2) fun h => PySem.Expr.Compare.elim (motive_1 := fun x => ∀ h : x.ctorIdx = 15, x = (fun d : Expr × (List CmpOp) × (List Expr) × Pos => PySem.Expr.Compare d.1 d.2.1 d.2.2.1 d.2.2.2) (PySem.Expr.Compare.elim (motive_1 := fun _ => Expr × (List CmpOp) × (List Expr) × Pos) x h fun a b c d => (a, b, c, d))) x h (fun _ _ _ _ _ => rfl) h⟩
noncomputable def eUnaryOp : Pat PySem.Expr := ⟨UnaryOp × Expr × Pos, fun d : UnaryOp × Expr × Pos => PySem.Expr.UnaryOp d.1 d.2.1 d.2.2, fun x => if h : x.ctorIdx = 3 then some (PySem.Expr.UnaryOp.elim (motive_1 := fun _ => UnaryOp × Expr × Pos) x h fun a b c => (a, b, c)) else none,
  fun x => dite_some (im := fun d : UnaryOp × Expr × Pos => PySem.Expr.UnaryOp d.1 d.2.1 d.2.2) fun h => PySem.Expr.UnaryOp.elim (motive_1 := fun x => ∀ h : x.ctorIdx = 3, x = (fun d : UnaryOp × Expr × Pos => PySem.Expr.UnaryOp d.1 d.2.1 d.2.2) (PySem.Expr.UnaryOp.elim (motive_1 := fun _ => UnaryOp × Expr × Pos) x h fun a b c => (a, b, c))) x h (fun _ _ _ _ => rfl) h⟩
noncomputable def eBoolOp : Pat PySem.Expr := ⟨BoolOp × (List Expr) × Pos, fun d : BoolOp × (List Expr) × Pos => PySem.Expr.BoolOp d.1 d.2.1 d.2.2, fun x => if h : x.ctorIdx = 0 then some (PySem.Expr.BoolOp.elim (motive_1 := fun _ => BoolOp × (List Expr) × Pos) x h fun a b c => (a, b, c)) else none,
  fun x => dite_some (im := fun d : BoolOp × (List Expr) × Pos => PySem.Expr.BoolOp d.1 d.2.1 d.2.2) fun h => PySem.Expr.BoolOp.elim (motive_1 := fun x => ∀ h : x.ctorIdx = 0, x = (fun d : BoolOp × (List Expr) × Pos => PySem.Expr.BoolOp d.1 d.2.1 d.2.2) (PySem.Expr.BoolOp.elim (motive_1 := fun _ => BoolOp × (List Expr) × Pos) x h fun a b c => (a, b, c))) x h (fun _ _ _ _ => rfl) h⟩
noncomputable def eList : Pat PySem.Expr := ⟨(List Expr) × Pos, fun d : (List Expr) × Pos => PySem.Expr.List d.1 d.2, fun x => if h : x.ctorIdx = 24 then some (PySem.Expr.List.elim (motive_1 := fun _ => (List Expr) × Pos) x h fun a b => (a, b)) else none,
  fun x => dite_some (im := fun d : (List Expr) × Pos => PySem.Expr.List d.1 d.2) fun h => PySem.Expr.List.elim (motive_1 := fun x => ∀ h : x.ctorIdx = 24, x = (fun d : (List Expr) × Pos => PySem.Expr.List d.1 d.2) (PySem.Expr.List.elim (motive_1 := fun _ => (List Expr) × Pos) x h fun a b => (a, b))) x h (fun _ _ _ => rfl) h⟩
noncomputable def eTuple : Pat PySem.Expr := ⟨(List Expr) × Nat × Pos, fun d : (List Expr) × Nat × Pos => PySem.Expr.Tuple d.1 d.2.1 d.2.2, fun x => if h : x.ctorIdx = 25 then some (PySem.Expr.Tuple.elim (motive_1 := fun _ => (List Expr) × Nat × Pos) x h fun a b c => (a, b, c)) else none,
  fun x => dite_some (im := fun d : (List Expr) × Nat × Pos => PySem.Expr.Tuple d.1 d.2.1 d.2.2) fun h => PySem.Expr.Tuple.elim (motive_1 := fun x => ∀ h : x.ctorIdx = 25, x = (fun d : (List Expr) × Nat × Pos => PySem.Expr.Tuple d.1 d.2.1 d.2.2) (PySem.Expr.Tuple.elim (motive_1 := fun _ => (List Expr) × Nat × Pos) x h fun a b c => (a, b, c))) x h (fun _ _ _ _ => rfl) h⟩
noncomputable def eAttribute : Pat PySem.Expr := ⟨Expr × Str × Pos, fun d : Expr × Str × Pos => PySem.Expr.Attribute d.1 d.2.1 d.2.2, fun x => if h : x.ctorIdx = 20 then some (PySem.Expr.Attribute.elim (motive_1 := fun _ => Expr × Str × Pos) x h fun a b c => (a, b, c)) else none,
  fun x => dite_some (im := fun d : Expr × Str × Pos => PySem.Expr.Attribute d.1 d.2.1 d.2.2) fun h => PySem.Expr.Attribute.elim (motive_1 := fun x => ∀ h : x.ctorIdx = 20, x = (fun d : Expr × Str × Pos => PySem.Expr.Attribute d.1 d.2.1 d.2.2) (PySem.Expr.Attribute.elim (motive_1 := fun _ => Expr × Str × Pos) x h fun a b c => (a, b, c))) x h (fun _ _ _ _ => rfl) h⟩
noncomputable def eSubscript : Pat PySem.Expr := ⟨Expr × Expr × Pos, fun d : Expr × Expr × Pos => PySem.Expr.Subscript d.1 d.2.1 d.2.2, fun x => if h : x.ctorIdx = 21 then some (PySem.Expr.Subscript.elim (motive_1 := fun _ => Expr × Expr × Pos) x h fun a b c => (a, b, c)) else none,
  fun x => dite_some (im := fun d : Expr × Expr × Pos => PySem.Expr.Subscript d.1 d.2.1 d.2.2) fun h => PySem.Expr.Subscript.elim (motive_1 := fun x => ∀ h : x.ctorIdx = 21, x = (fun d : Expr × Expr × Pos => PySem.Expr.Subscript d.1 d.2.1 d.2.2) (PySem.Expr.Subscript.elim (motive_1 := fun _ => Expr × Expr × Pos) x h fun a b c => (a, b, c))) x h (fun _ _ _ _ => rfl) h⟩
noncomputable def eLambda : Pat PySem.Expr := ⟨Arguments × Expr × Scope × Pos, fun d : Arguments × Expr × Scope × Pos => PySem.Expr.Lambda d.1 d.2.1 d.2.2.1 d.2.2.2, fun x => if h : x.ctorIdx = 4 then some (PySem.Expr.Lambda.elim (motive_1 := fun _ => Arguments × Expr × Scope × Pos) x h fun a b c d => (a, b, c, d)) else none,
  fun x => dite_some (im := fun d : Arguments × Expr × Scope × Pos => PySem.Expr.Lambda d.1 d.2.1 d.2.2.1 d.2.2.2) fun h => PySem.Expr.Lambda.elim (motive_1 := fun x => ∀ h : x.ctorIdx = 4, x = (fun d : Arguments × Expr × Scope × Pos => PySem.Expr.Lambda d.1 d.2.1 d.2.2.1 d.2.2.2) (PySem.Expr.Lambda.elim (motive_1 := fun _ => Arguments × Expr × Scope × Pos) x h fun a b c d => (a, b, c, d))) x h (fun _ _ _ _ _ => rfl) h⟩
noncomputable def eIfExp : Pat PySem.Expr := ⟨Expr × Expr × Expr × Pos, fun d : Expr × Expr × Expr × Pos => PySem.Expr.IfExp d.1 d.2.1 d.2.2.1 d.2.2.2, fun x => if h : x.ctorIdx = 5 then some (PySem.Expr.IfExp.elim (motive_1 := fun _ => Expr × Expr × Expr × Pos) x h fun a b c d => (a, b, c, d)) else none,
  fun x => dite_some (im := fun d : Expr × Expr × Expr × Pos => PySem.Expr.IfExp d.1 d.2.1 d.2.2.1 d.2.2.2) fun h => PySem.Expr.IfExp.elim (motive_1 := fun x => ∀ h : x.ctorIdx = 5, x = (fun d : Expr × Expr × Expr × Pos => PySem.Expr.IfExp d.1 d.2.1 d.2.2.1 d.2.2.2) (PySem.Expr.IfExp.elim (motive_1 := fun _ => Expr × Expr × Expr × Pos) x h fun a b c d => (a, b, c, d))) x h (fun _ _ _ _ _ => rfl) h⟩
noncomputable def eDict : Pat PySem.Expr := ⟨(List (Option Expr)) × (List Expr) × Pos, fun d : (List (Option Expr)) × (List Expr) × Pos => PySem.Expr.Dict d.1 d.2.1 d.2.2, fun x => if h : x.ctorIdx = 6 then some (PySem.Expr.Dict.elim (motive_1 := fun _ => (List (Option Expr)) × (List Expr) × Pos) x h fun a b c => (a, b, c)) else none,
  fun x => dite_some (im := fun d : (List (Option Expr)) × (List Expr) × Pos => PySem.Expr.Dict d.1 d.2.1 d.2.2) fun h => PySem.Expr.Dict.elim (motive_1 := fun x => ∀ h : x.ctorIdx = 6, x = (fun d : (List (Option Expr)) × (List Expr) × Pos => PySem.Expr.Dict d.1 d.2.1 d.2.2) (PySem.Expr.Dict.elim (motive_1 := fun _ => (List (Option Expr)) × (List Expr) × Pos) x h fun a b c => (a, b, c))) x h (fun _ _ _ _ => rfl) h⟩
noncomputable def eSlice : Pat PySem.Expr := ⟨(Option Expr) × (Option Expr) × (Option Expr) × Pos, fun d : (Option Expr) × (Option Expr) × (Option Expr) × Pos => PySem.Expr.Slice d.1 d.2.1 d.2.2.1 d.2.2.2, fun x => if h : x.ctorIdx = 26 then some (PySem.Expr.Slice.elim (motive_1 := fun _ => (Option Expr) × (Option Expr) × (Option Expr) × Pos) x h fun a b c d => (a, b, c, d)) else none,
  fun x => dite_some (im := fun d : (Option Expr) × (Option Expr) × (Option Expr) × Pos => PySem.Expr.Slice d.1 d.2.1 d.2.2.1 d.2.2.2) fun h => PySem.Expr.Slice.elim (motive_1 := fun x => ∀ h : x.ctorIdx = 26, x = (fun d : (Option Expr) × (Option Expr) × (Option Expr) × Pos => PySem.Expr.Slice d.1 d.2.1 d.2.2.1 d.2.2.2) (PySem.Expr.Slice.elim (motive_1 := fun _ => (Option Expr) × (Option Expr) × (Option Expr) × Pos) x h fun a b c d => (a, b, c, d))) x h (fun _ _ _ _ _ => rfl) h⟩
noncomputable def eListComp : Pat PySem.Expr := ⟨Expr × (List Comprehension) × Scope × Pos, fun d : Expr × (List Comprehension) × Scope × Pos => PySem.Expr.ListComp d.1 d.2.1 d.2.2.1 d.2.2.2, fun x => if h : x.ctorIdx = 8 then some (PySem.Expr.ListComp.elim (motive_1 := fun _ => Expr × (List Comprehension) × Scope × Pos) x h fun a b c d => (a, b, c, d)) else none,
  fun x => dite_some (im := fun d : Expr × (List Comprehension) × Scope × Pos => PySem.Expr.ListComp d.1 d.2.1 d.2.2.1 d.2.2.2) fun h => PySem.Expr.ListComp.elim (motive_1 := fun x => ∀ h : x.ctorIdx = 8, x = (fun d : Expr × (List Comprehension) × Scope × Pos => PySem.Expr.ListComp d.1 d.2.1 d.2.2.1 d.2.2.2) (PySem.Expr.ListComp.elim (motive_1 := fun _ => Expr × (List Comprehension) × Scope × Pos) x h fun a b c d => (a, b, c, d))) x h (fun _ _ _ _ _ => rfl) h⟩
noncomputable def sAssign : Pat PySem.Stmt := ⟨(List Expr) × Expr × Pos, fun d : (List Expr) × Expr × Pos => PySem.Stmt.Assign d.1 d.2.1 d.2.2, fun x => if h : x.ctorIdx = 5 then some (PySem.Stmt.Assign.elim (motive_2 := fun _ => (List Expr) × Expr × Pos) x h fun a b c => (a, b, c)) else none,
  fun x => dite_some (im := fun d : (List Expr) × Expr × Pos => PySem.Stmt.Assign d.1 d.2.1 d.2.2) fun h => PySem.Stmt.Assign.elim (motive_2 := fun x => ∀ h : x.ctorIdx = 5, x = (fun d : (List Expr) × Expr × Pos => PySem.Stmt.Assign d.1 d.2.1 d.2.2) (PySem.Stmt.Assign.elim (motive_2 := fun _ => (List Expr) × Expr × Pos) x h fun a b c => (a, b, c))) x h (fun _ _ _ _ => rfl) h⟩
noncomputable def sAugAssign : Pat PySem.Stmt := ⟨Expr × Operator × Expr × Pos, fun d : Expr × Operator × Expr × Pos => PySem.Stmt.AugAssign d.1 d.2.1 d.2.2.1 d.2.2.2, fun x => if h : x.ctorIdx = 7 then some (PySem.Stmt.AugAssign.elim (motive_2 := fun _ => Expr × Operator × Expr × Pos) x h fun a b c d => (a, b, c, d)) else none,
  fun x => dite_some (im := fun d : Expr × Operator × Expr × Pos => PySem.Stmt.AugAssign d.1 d.2.1 d.2.2.1 d.2.2.2) fun h => PySem.Stmt.AugAssign.elim (motive_2 := fun x => ∀ h : x.ctorIdx = 7, x = (fun d : Expr × Operator × Expr × Pos => PySem.Stmt.AugAssign d.1 d.2.1 d.2.2.1 d.2.2.2) (PySem.Stmt.AugAssign.elim (motive_2 := fun _ => Expr × Operator × Expr × Pos) x h fun a b c d => (a, b, c, d))) x h (fun _ _ _ _ _ => rfl) h⟩
noncomputable def sFor : Pat PySem.Stmt := ⟨Expr × Expr × (List Stmt) × (List Stmt) × Pos, fun d : Expr × Expr × (List Stmt) × (List Stmt) × Pos => PySem.Stmt.For d.1 d.2.1 d.2.2.1 d.2.2.2.1 d.2.2.2.2, fun x => if h : x.ctorIdx = 9 then some (PySem.Stmt.For.elim (motive_2 := fun _ => Expr × Expr × (List Stmt) × (List Stmt) × Pos) x h fun a b c d e => (a, b, c, d, e)) else none,
  fun x => dite_some (im := fun d : Expr × Expr × (List Stmt) × (List Stmt) × Pos => PySem.Stmt.For d.1 d.2.1 d.2.2.1 d.2.2.2.1 d.2.2.2.2) fun h => PySem.Stmt.For.elim (motive_2 := fun x => ∀ h : x.ctorIdx = 9, x = (fun d : Expr × Expr × (List Stmt) × (List Stmt) × Pos => PySem.Stmt.For d.1 d.2.1 d.2.2.1 d.2.2.2.1 d.2.2.2.2) (PySem.Stmt.For.elim (motive_2 := fun _ => Expr × Expr × (List Stmt) × (List Stmt) × Pos) x h fun a b c d e => (a, b, c, d, e))) x h (fun _ _ _ _ _ _ => rfl) h⟩
noncomputable def sIf : Pat PySem.Stmt := ⟨Expr × (List Stmt) × (List Stmt) × Pos, fun d : Expr × (List Stmt) × (List Stmt) × Pos => PySem.Stmt.If d.1 d.2.1 d.2.2.1 d.2.2.2, fun x => if h : x.ctorIdx = 12 then some (PySem.Stmt.If.elim (motive_2 := fun _ => Expr × (List Stmt) × (List Stmt) × Pos) x h fun a b c d => (a, b, c, d)) else none,
  fun x => dite_some (im := fun d : Expr × (List Stmt) × (List Stmt) × Pos => PySem.Stmt.If d.1 d.2.1 d.2.2.1 d.2.2.2) fun h => PySem.Stmt.If.elim (motive_2 := fun x => ∀ h : x.ctorIdx = 12, x = (fun d : Expr × (List Stmt) × (List Stmt) × Pos => PySem.Stmt.If d.1 d.2.1 d.2.2.1 d.2.2.2) (PySem.Stmt.If.elim (motive_2 := fun _ => Expr × (List Stmt) × (List Stmt) × Pos) x h fun a b c d => (a, b, c, d))) x h (fun _ _ _ _ _ => rfl) h⟩
noncomputable def sWhile : Pat PySem.Stmt := ⟨Expr × (List Stmt) × (List Stmt) × Pos, fun d : Expr × (List Stmt) × (List Stmt) × Pos => PySem.Stmt.While d.1 d.2.1 d.2.2.1 d.2.2.2, fun x => if h : x.ctorIdx = 11 then some (PySem.Stmt.While.elim (motive_2 := fun _ => Expr × (List Stmt) × (List Stmt) × Pos) x h fun a b c d => (a, b, c, d)) else none,
  fun x => dite_some (im := fun d : Expr × (List Stmt) × (List Stmt) × Pos => PySem.Stmt.While d.1 d.2.1 d.2.2.1 d.2.2.2) fun h => PySem.Stmt.While.elim (motive_2 := fun x => ∀ h : x.ctorIdx = 11, x = (fun d : Expr × (List Stmt) × (List Stmt) × Pos => PySem.Stmt.While d.1 d.2.1 d.2.2.1 d.2.2.2) (PySem.Stmt.While.elim (motive_2 := fun _ => Expr × (List Stmt) × (List Stmt) × Pos) x h fun a b c d => (a, b, c, d))) x h (fun _ _ _ _ _ => rfl) h⟩
noncomputable def sReturn : Pat PySem.Stmt := ⟨(Option Expr) × Pos, fun d : (Option Expr) × Pos => PySem.Stmt.Return d.1 d.2, fun x => if h : x.ctorIdx = 3 then some (PySem.Stmt.Return.elim (motive_2 := fun _ => (Option Expr) × Pos) x h fun a b => (a, b)) else none,
  fun x => dite_some (im := fun d : (Option Expr) × Pos => PySem.Stmt.Return d.1 d.2) fun h => PySem.Stmt.Return.elim (motive_2 := fun x => ∀ h : x.ctorIdx = 3, x = (fun d : (Option Expr) × Pos => PySem.Stmt.Return d.1 d.2) (PySem.Stmt.Return.elim (motive_2 := fun _ => (Option Expr) × Pos) x h fun a b => (a, b))) x h (fun _ _ _ => rfl) h⟩
noncomputable def sExpr : Pat PySem.Stmt := ⟨Expr × Pos, fun d : Expr × Pos => PySem.Stmt.Expr d.1 d.2, fun x => if h : x.ctorIdx = 24 then some (PySem.Stmt.Expr.elim (motive_2 := fun _ => Expr × Pos) x h fun a b => (a, b)) else none,
  fun x => dite_some (im := fun d : Expr × Pos => PySem.Stmt.Expr d.1 d.2) fun h => PySem.Stmt.Expr.elim (motive_2 := fun x => ∀ h : x.ctorIdx = 24, x = (fun d : Expr × Pos => PySem.Stmt.Expr d.1 d.2) (PySem.Stmt.Expr.elim (motive_2 := fun _ => Expr × Pos) x h fun a b => (a, b))) x h (fun _ _ _ => rfl) h⟩
noncomputable def sRaise : Pat PySem.Stmt := ⟨(Option Expr) × (Option Expr) × Pos, fun d : (Option Expr) × (Option Expr) × Pos => PySem.Stmt.Raise d.1 d.2.1 d.2.2, fun x => if h : x.ctorIdx = 16 then some (PySem.Stmt.Raise.elim (motive_2 := fun _ => (Option Expr) × (Option Expr) × Pos) x h fun a b c => (a, b, c)) else none,
  fun x => dite_some (im := fun d : (Option Expr) × (Option Expr) × Pos => PySem.Stmt.Raise d.1 d.2.1 d.2.2) fun h => PySem.Stmt.Raise.elim (motive_2 := fun x => ∀ h : x.ctorIdx = 16, x = (fun d : (Option Expr) × (Option Expr) × Pos => PySem.Stmt.Raise d.1 d.2.1 d.2.2) (PySem.Stmt.Raise.elim (motive_2 := fun _ => (Option Expr) × (Option Expr) × Pos) x h fun a b c => (a, b, c))) x h (fun _ _ _ _ => rfl) h⟩
noncomputable def sTry : Pat PySem.Stmt := ⟨(List Stmt) × (List ExceptHandler) × (List Stmt) × (List Stmt) × Pos, fun d : (List Stmt) × (List ExceptHandler) × (List Stmt) × (List Stmt) × Pos => PySem.Stmt.Try d.1 d.2.1 d.2.2.1 d.2.2.2.1 d.2.2.2.2, fun x => if h : x.ctorIdx = 17 then some (PySem.Stmt.Try.elim (motive_2 := fun _ => (List Stmt) × (List ExceptHandler) × (List Stmt) × (List Stmt) × Pos) x h fun a b c d e => (a, b, c, d, e)) else none,
  fun x => dite_some (im := fun d : (List Stmt) × (List ExceptHandler) × (List Stmt) × (List Stmt) × Pos => PySem.Stmt.Try d.1 d.2.1 d.2.2.1 d.2.2.2.1 d.2.2.2.2) fun h => PySem.Stmt.Try.elim (motive_2 := fun x => ∀ h : x.ctorIdx = 17, x = (fun d : (List Stmt) × (List ExceptHandler) × (List Stmt) × (List Stmt) × Pos => PySem.Stmt.Try d.1 d.2.1 d.2.2.1 d.2.2.2.1 d.2.2.2.2) (PySem.Stmt.Try.elim (motive_2 := fun _ => (List Stmt) × (List ExceptHandler) × (List Stmt) × (List Stmt) × Pos) x h fun a b c d e => (a, b, c, d, e))) x h (fun _ _ _ _ _ _ => rfl) h⟩
noncomputable def kStr : Pat PySem.Const := ⟨Str, fun d : Str => PySem.Const.str d, fun x => if h : x.ctorIdx = 5 then some (PySem.Const.str.elim (motive := fun _ => Str) x h fun a => (a)) else none,
  fun x => dite_some (im := fun d : Str => PySem.Const.str d) fun h => PySem.Const.str.elim (motive := fun x => ∀ h : x.ctorIdx = 5, x = (fun d : Str => PySem.Const.str d) (PySem.Const.str.elim (motive := fun _ => Str) x h fun a => (a))) x h (fun _ _ => rfl) h⟩
noncomputable def kBool : Pat PySem.Const := ⟨Bool, fun d : Bool => PySem.Const.bool d, fun x => if h : x.ctorIdx = 1 then some (PySem.Const.bool.elim (motive := fun _ => Bool) x h fun a => (a)) else none,
  fun x => dite_some (im := fun d : Bool => PySem.Const.bool d) fun h => PySem.Const.bool.elim (motive := fun x => ∀ h : x.ctorIdx = 1, x = (fun d : Bool => PySem.Const.bool d) (PySem.Const.bool.elim (motive := fun _ => Bool) x h fun a => (a))) x h (fun _ _ => rfl) h⟩
noncomputable def kInt : Pat PySem.Const := ⟨Int, fun d : Int => PySem.Const.int d, fun x => if h : x.ctorIdx = 2 then some (PySem.Const.int.elim (motive := fun _ => Int) x h fun a => (a)) else none,
  fun x => dite_some (im := fun d : Int => PySem.Const.int d) fun h => PySem.Const.int.elim (motive := fun x => ∀ h : x.ctorIdx = 2, x = (fun d : Int => PySem.Const.int d) (PySem.Const.int.elim (motive := fun _ => Int) x h fun a => (a))) x h (fun _ _ => rfl) h⟩
noncomputable def kBytes : Pat PySem.Const := ⟨(List UInt8), fun d : (List UInt8) => PySem.Const.bytes d, fun x => if h : x.ctorIdx = 6 then some (PySem.Const.bytes.elim (motive := fun _ => (List UInt8)) x h fun a => (a)) else none,
  fun x => dite_some (im := fun d : (List UInt8) => PySem.Const.bytes d) fun h => PySem.Const.bytes.elim (motive := fun x => ∀ h : x.ctorIdx = 6, x = (fun d : (List UInt8) => PySem.Const.bytes d) (PySem.Const.bytes.elim (motive := fun _ => (List UInt8)) x h fun a => (a))) x h (fun _ _ => rfl) h⟩
noncomputable def dFunc : Pat PySem.Data := ⟨FuncData, fun d : FuncData => PySem.Data.func d, fun x => if h : x.ctorIdx = 7 then some (PySem.Data.func.elim (motive := fun _ => FuncData) x h fun a => (a)) else none,
  fun x => dite_some (im := fun d : FuncData => PySem.Data.func d) fun h => PySem.Data.func.elim (motive := fun x => ∀ h : x.ctorIdx = 7, x = (fun d : FuncData => PySem.Data.func d) (PySem.Data.func.elim (motive := fun _ => FuncData) x h fun a => (a))) x h (fun _ _ => rfl) h⟩
noncomputable def bStmts : Pat PySem.FuncBody := ⟨(List Stmt), fun d : (List Stmt) => PySem.FuncBody.stmts d, fun x => if h : x.ctorIdx = 0 then some (PySem.FuncBody.stmts.elim (motive := fun _ => (List Stmt)) x h fun a => (a)) else none,
  fun x => dite_some (im := fun d : (List Stmt) => PySem.FuncBody.stmts d) fun h => PySem.FuncBody.stmts.elim (motive := fun x => ∀ h : x.ctorIdx = 0, x = (fun d : (List Stmt) => PySem.FuncBody.stmts d) (PySem.FuncBody.stmts.elim (motive := fun _ => (List Stmt)) x h fun a => (a))) x h (fun _ _ => rfl) h⟩
noncomputable def dCls : Pat PySem.Data := ⟨ClassData, fun d : ClassData => PySem.Data.cls d, fun x => if h : x.ctorIdx = 8 then some (PySem.Data.cls.elim (motive := fun _ => ClassData) x h fun a => (a)) else none,
  fun x => dite_some (im := fun d : ClassData => PySem.Data.cls d) fun h => PySem.Data.cls.elim (motive := fun x => ∀ h : x.ctorIdx = 8, x = (fun d : ClassData => PySem.Data.cls d) (PySem.Data.cls.elim (motive := fun _ => ClassData) x h fun a => (a))) x h (fun _ _ => rfl) h⟩
noncomputable def vBuiltin : Pat PySem.Value := ⟨String, fun d : String => PySem.Value.builtin d, fun x => if h : x.ctorIdx = 9 then some (PySem.Value.builtin.elim (motive := fun _ => String) x h fun a => (a)) else none,
  fun x => dite_some (im := fun d : String => PySem.Value.builtin d) fun h => PySem.Value.builtin.elim (motive := fun x => ∀ h : x.ctorIdx = 9, x = (fun d : String => PySem.Value.builtin d) (PySem.Value.builtin.elim (motive := fun _ => String) x h fun a => (a))) x h (fun _ _ => rfl) h⟩

/-! shapes -/
theorem andL {a b : Bool} (h : (a && b) = true) : a = true := (Bool.and_eq_true_iff.mp h).1
theorem andR {a b : Bool} (h : (a && b) = true) : b = true := (Bool.and_eq_true_iff.mp h).2
noncomputable def cArg : Pat Arg := ⟨Str × Option Expr × Pos, fun d => ⟨d.1, d.2.1, d.2.2⟩, fun c => some (c.arg, c.annotation, c.pos), fun c d h => by cases c; cases h; rfl⟩
noncomputable def cArgs : Pat Arguments := ⟨List Arg × List Arg × Option Arg × List Arg × List (Option Expr) × Option Arg × List Expr, fun d => ⟨d.1, d.2.1, d.2.2.1, d.2.2.2.1, d.2.2.2.2.1, d.2.2.2.2.2.1, d.2.2.2.2.2.2⟩, fun c => some (c.posonlyargs, c.args, c.vararg, c.kwonlyargs, c.kw_defaults, c.kwarg, c.defaults), fun c d h => by cases c; cases h; rfl⟩
noncomputable def cHan : Pat ExceptHandler := ⟨Option Expr × Option Str × List Stmt × Pos, fun d => .ExceptHandler d.1 d.2.1 d.2.2.1 d.2.2.2, fun c => match c with | .ExceptHandler a b c p => some (a, b, c, p), fun c d h => by cases c; cases h; rfl⟩
noncomputable def kNone : Pat Const := ⟨Unit, fun _ => .none, fun x => if h : x.ctorIdx = 0 then some () else none, fun x => dite_some (im := fun _ => Const.none) fun h => Const.none.elim (motive := fun x => x = Const.none) x h rfl⟩
noncomputable def pAll {α β : Type} (f : α → Pat β) : List α → Pat (List β)
  | [] => pNil
  | a :: r => pCons (f a) (pAll f r)
noncomputable def argsPat (As : Pat (List Arg)) : Pat Arguments := cArgs.comp (pp pNil (pp As (pp pNone (pp pNil (pp pNil (pp pNone pNil))))))
noncomputable def pP {α : Type} (P : Pat α) : Pat (α × Pos) := pp P (pAny Pos)
noncomputable def pNm (P : Pat Str) : Pat Expr := eName.comp (pP P)
noncomputable def pV (x : Str) : Pat Expr := pNm (pEq x)
noncomputable def pCall (F : Pat Expr) (As : Pat (List Expr)) : Pat Expr := eCall.comp (pp F (pp As (pP pNil)))
noncomputable def pCallN (F : Pat Str) (As : Pat (List Expr)) : Pat Expr := pCall (pNm F) As
noncomputable def pLst (P : Pat (List Expr)) : Pat Expr := eList.comp (pP P)
noncomputable def pTup (P : Pat (List Expr)) : Pat Expr := eTuple.comp (pp P (pP (pAny Nat)))
noncomputable def pK (P : Pat Const) : Pat Expr := eConstant.comp (pp P (pP (pAny Nat)))
noncomputable def pBin (L : Pat Expr) (o : Operator) (R : Pat Expr) : Pat Expr := eBinOp.comp (pp L (pp (pEq o) (pP R)))
noncomputable def pCmp (L : Pat Expr) (o : CmpOp) (R : Pat Expr) : Pat Expr := eCompare.comp (pp L (pp (pOne (pEq o)) (pP (pOne R))))
noncomputable def pAttr (V : Pat Expr) (a : Str) : Pat Expr := eAttribute.comp (pp V (pP (pEq a)))
noncomputable def pSub (V I : Pat Expr) : Pat Expr := eSubscript.comp (pp V (pP I))
noncomputable def pTo (T V : Pat Expr) : Pat Stmt := sAssign.comp (pp (pOne T) (pP V))
noncomputable def pSet (x : Str) (V : Pat Expr) : Pat Stmt := pTo (pV x) V
noncomputable def pIf (T : Pat Expr) (B : Pat (List Stmt)) : Pat Stmt := sIf.comp (pp T (pp B (pP pNil)))
noncomputable def pFor (T I : Pat Expr) (B : Pat (List Stmt)) : Pat Stmt := sFor.comp (pp T (pp I (pp B (pP pNil))))
noncomputable def pRet (P : Pat Expr) : Pat Stmt := sReturn.comp (pP (pSome P))
noncomputable def pEx (P : Pat Expr) : Pat Stmt := sExpr.comp (pP P)
end Mine
end

section
set_option linter.unusedVariables false
set_option genSizeOf false
set_option genInjectivity false
open PySem
namespace Mine

inductive A where
  | none | bool (b : Bool) | int (i : Int) | str (l : List Nat) | bytes (l : List Nat)
inductive V where
  | undef | at (a : A) | tup (l : List A) | lst (l : List A) | lz (l : List A) | barr (l : List Nat)
inductive Res (α : Type) where
  | ok (a : α) | raise | fail
noncomputable def Res.bind {α β : Type} : Res α → (α → Res β) → Res β
  | .ok a, f => f a
  | .raise, _ => .raise
  | .fail, _ => .fail

inductive BOp where | add | sub | mul | fdiv | mod | pow | shl | shr | band | bor
inductive COp where | lt | le | gt | ge | eq | ne
inductive Kind where | bool | int | str | bytes

inductive PE where
  | const (a : A) | loc (i : Nat) | glob (j : Nat)
  | not (e : PE) | neg (e : PE) | and (a b : PE) | or (a b : PE)
  | bin (op : BOp) (a b : PE) | cmp (op : COp) (a b : PE) | chain (o1 o2 : COp) (a b c : PE)
  | isNone (e : PE) | notNone (e : PE)
  | inStr (a b : PE) | inLits (neg tup : Bool) (a : PE) (l : List (List Nat)) | inLst (a b : PE)
  | ite (t a b : PE)
  | call1 (f : Nat) (a : PE) | call2 (f : Nat) (a b : PE) | call3 (f : Nat) (a b c : PE)
  | len (a : PE) | isinst (k : Kind) (a : PE) | abs (a : PE) | max (a b : PE) | min (a b : PE) | minl (a : PE) | maxl (a : PE)
  | toInt (a : PE) | toStr (a : PE) | ord (a : PE) | chr (a : PE)
  | lstrip (a : PE) (l : List Nat) | decode (a : PE) | encode (a : PE) | index (a b : PE) | join (a : PE)
  | sub (a i : PE) | sliceTo (a hi : PE) | sliceFrom (a lo : PE) | slice (a lo hi : PE)
  | dict3 (k1 k2 k3 : List Nat) (v1 v2 v3 e : PE)
  | tup2 (a b : PE) | tup3 (a b c : PE) | lst0 | lst2 (a b : PE) | barr0 | bytesOf (a : PE)
  | comp (i : Nat) | told (e : PE) | fail
inductive PS where
  | skip | seq (a b : PS)
  | assign (i : Nat) (e : PE) | assign2 (i j : Nat) (a b : PE) | unpack3 (i j k : Nat) (e : PE) | aug (i : Nat) (op : BOp) (e : PE)
  | ite (t : PE) (a b : PS) | while (t : PE) (b : PS)
  | forStr (i : Nat) (e : PE) (b : PS) | forRange1 (i : Nat) (e : PE) (b : PS) | forRange2 (i : Nat) (a e : PE) (b : PS) | forLits (i : Nat) (l : List (List Nat)) (b : PS)
  | ret (e : PE) | raise | append (i : Nat) (e : PE) | fail

noncomputable def lkV : List V → Nat → V
  | [], _ => .undef
  | v :: _, 0 => v
  | _ :: r, n + 1 => lkV r n
noncomputable def setV : List V → Nat → V → List V
  | [], _, _ => []
  | _ :: r, 0, v => v :: r
  | x :: r, n + 1, v => x :: setV r n v

noncomputable def truthy : V → Res Bool
  | .at .none => .ok false
  | .at (.bool b) => .ok b
  | .at (.int i) => .ok (i != 0)
  | _ => .fail

noncomputable def okI (i : Int) : Res V := .ok (.at (.int i))
noncomputable def okB (b : Bool) : Res V := .ok (.at (.bool b))
noncomputable def w64 (a : Int) : Bool := Nat.blt a.natAbs 18446744073709551616
noncomputable def wBig (a : Int) : Bool := Nat.blt a.natAbs 1606938044258990275541962092341162602522202993782792835301376
noncomputable def small (b : Int) : Bool := match b with
  | .ofNat n => Nat.ble n 1000
  | .negSucc _ => false
noncomputable def nonneg (b : Int) : Bool := match b with
  | .ofNat _ => true
  | .negSucc _ => false
noncomputable def isZero (b : Int) : Bool := match b with
  | .ofNat n => Nat.beq n 0
  | .negSucc _ => false
noncomputable def binI (op : BOp) (a b : Int) : Res V := match op with
  | .add => okI (a + b)
  | .sub => okI (a - b)
  | .mul => (match w64 a || w64 b with | true => okI (a * b) | false => .fail)
  | .fdiv => (match !isZero b && wBig b with | true => okI (a.fdiv b) | false => .fail)
  | .mod => (match !isZero b && wBig b with | true => okI (a.fmod b) | false => .fail)
  | .pow => (match w64 a && small b with | true => okI (a ^ b.toNat) | false => .fail)
  | .shl => (match w64 a && small b with | true => okI (a * 2 ^ b.toNat) | false => .fail)
  | .shr => (match nonneg b with | true => okI (a.fdiv (2 ^ b.toNat)) | false => .fail)
  | .band => okI (Builtin.bitAnd a b)
  | .bor => okI (Builtin.bitOr a b)
noncomputable def binV (op : BOp) (v w : V) : Res V := match v, w with
  | .at (.int a), .at (.int b) => binI op a b
  | .at (.str a), .at (.str b) => (match op with
    | .add => (match Nat.ble (a.length + b.length) 1000 with | true => .ok (.at (.str (a ++ b))) | false => .fail)
    | _ => .fail)
  | _, _ => .fail
noncomputable def cmpI (op : COp) (a b : Int) : Bool := match op with
  | .lt => decide (a < b) | .le => decide (a ≤ b) | .gt => decide (b < a) | .ge => decide (b ≤ a) | .eq => a == b | .ne => a != b
noncomputable def cmpV (op : COp) (v w : V) : Res Bool := match v, w with
  | .at (.int a), .at (.int b) => .ok (cmpI op a b)
  | .at (.bool a), .at (.bool b) => (match op with | .eq => .ok (a == b) | .ne => .ok (a != b) | _ => .fail)
  | .at (.str a), .at (.str b) => (match op with | .eq => .ok (a == b) | .ne => .ok (a != b) | _ => .fail)
  | .at (.bytes a), .at (.bytes b) => (match op with | .eq => .ok (a == b) | _ => .fail)
  | _, _ => .fail
noncomputable def sameA : A → A → Bool
  | .none, .none => true
  | .bool a, .bool b => a == b
  | _, _ => false
noncomputable def simpleA : A → Bool
  | .none | .bool _ => true
  | _ => false
noncomputable def isV (k : Kind) : V → Res Bool
  | .at a => .ok (match k, a with
    | .bool, .bool _ | .int, .int _ | .int, .bool _ | .str, .str _ | .bytes, .bytes _ => true
    | _, _ => false)
  | _ => .fail
noncomputable def digitsL : List Nat := [48, 49, 50, 51, 52, 53, 54, 55, 56, 57]
noncomputable def allDigits (l : List Nat) : Bool := l.all fun c => Nat.ble 48 c && Nat.ble c 57
noncomputable def numOf (l : List Nat) : Int := .ofNat (l.foldl (fun (n c : Nat) => n * 10 + (c - 48)) 0)
noncomputable def digitsOf (f n : Nat) (acc : List Nat) : List Nat := match f with
  | 0 => acc
  | f + 1 => match n / 10 with
    | 0 => (48 + n % 10) :: acc
    | m => digitsOf f m ((48 + n % 10) :: acc)
noncomputable def textOfInt : Int → List Nat
  | .ofNat n => digitsOf 40 n []
  | .negSucc n => 45 :: digitsOf 40 (n + 1) []
noncomputable def ascii (l : List Nat) : Bool := l.all fun c => Nat.blt c 128
noncomputable def itemV : V → V → Res V
  | .at (.str l), .at (.int (.ofNat n)) => (match l.drop n with | c :: _ => .ok (.at (.str [c])) | [] => .fail)
  | .at (.bytes l), .at (.int (.ofNat n)) => (match l.drop n with | c :: _ => okI c | [] => .fail)
  | .tup l, .at (.int (.ofNat n)) => (match Nat.ble n 1000 with | true => (match l.drop n with | a :: _ => .ok (.at a) | [] => .fail) | false => .fail)
  | _, _ => .fail
noncomputable def minA (f : Int → Int → Int) : List A → Res V
  | [.int a, .int b] => okI (f a b)
  | _ => .fail
noncomputable def strsOf : List A → Option (List (List Nat))
  | [] => some []
  | .str l :: r => (match strsOf r with | some x => some (l :: x) | none => none)
  | _ :: _ => none
noncomputable def atom : V → Res A
  | .at a => .ok a
  | _ => .fail
noncomputable def globA : Nat → A
  | 0 => .int (-9223372036854775808)
  | 1 => .int 9223372036854775807
  | 2 => .int 18446744073709551616
  | 3 => .str [32, 9, 10, 11, 12, 13]
  | 4 => .str digitsL
  | _ => .none

noncomputable abbrev EV := List V → Res V
noncomputable def n_const (a : A) (ρ : List V) : Res V := .ok (.at a)
noncomputable def n_loc (i : Nat) (ρ : List V) : Res V := (match lkV ρ i with | .undef => .fail | v => .ok v)
noncomputable def n_glob (j : Nat) (ρ : List V) : Res V := .ok (.at (globA j))
noncomputable def n_not (e : EV) (ρ : List V) : Res V := (e ρ).bind fun v => (truthy v).bind fun b => okB (!b)
noncomputable def n_neg (e : EV) (ρ : List V) : Res V := (e ρ).bind fun v => match v with | .at (.int i) => okI (-i) | _ => .fail
noncomputable def n_and (a : EV) (b : EV) (ρ : List V) : Res V := (a ρ).bind fun v => (truthy v).bind fun t => match t with | true => b ρ | false => .ok v
noncomputable def n_or (a : EV) (b : EV) (ρ : List V) : Res V := (a ρ).bind fun v => (truthy v).bind fun t => match t with | true => .ok v | false => b ρ
noncomputable def n_bin (op : BOp) (a : EV) (b : EV) (ρ : List V) : Res V := (a ρ).bind fun v => (b ρ).bind fun w => binV op v w
noncomputable def n_cmp (op : COp) (a : EV) (b : EV) (ρ : List V) : Res V := (a ρ).bind fun v => (b ρ).bind fun w => (cmpV op v w).bind okB
noncomputable def n_chain (o1 : COp) (o2 : COp) (a : EV) (b : EV) (c : EV) (ρ : List V) : Res V := (a ρ).bind fun v => (b ρ).bind fun w => (cmpV o1 v w).bind fun t => match t with
    | true => (c ρ).bind fun x => (cmpV o2 w x).bind okB
    | false => okB false
noncomputable def noneV : V → Bool
  | .at .none => true
  | _ => false
noncomputable def n_isNone (e : EV) (ρ : List V) : Res V := (e ρ).bind fun v => okB (noneV v)
noncomputable def n_notNone (e : EV) (ρ : List V) : Res V := (e ρ).bind fun v => okB (!noneV v)
noncomputable def n_inStr (a : EV) (b : EV) (ρ : List V) : Res V := (a ρ).bind fun v => (b ρ).bind fun w => match v, w with
    | .at (.str [c]), .at (.str l) => okB (l.contains c)
    | _, _ => .fail
noncomputable def n_inLits (neg : Bool) (a : EV) (l : List (List Nat)) (ρ : List V) : Res V := (a ρ).bind fun v => match v with
    | .at (.str s) => okB (neg != l.any fun x => x == s)
    | _ => .fail
noncomputable def lstOf : V → Option (List A)
  | .lst l => some l
  | .lz l => some l
  | _ => none
noncomputable def inV (v w : V) : Res V := match v, lstOf w with
  | .at x, some l => (match simpleA x && l.all simpleA with | true => okB (l.any fun y => sameA y x) | false => .fail)
  | _, _ => .fail
noncomputable def n_inLst (a : EV) (b : EV) (ρ : List V) : Res V := (a ρ).bind fun v => (b ρ).bind fun w => inV v w
noncomputable def n_ite (t : EV) (a : EV) (b : EV) (ρ : List V) : Res V := (t ρ).bind fun v => (truthy v).bind fun c => match c with | true => a ρ | false => b ρ
noncomputable def n_call1 (Φ : Nat → List V → Res V) (f : Nat) (a : EV) (ρ : List V) : Res V := (a ρ).bind fun v => Φ f [v]
noncomputable def n_call2 (Φ : Nat → List V → Res V) (f : Nat) (a : EV) (b : EV) (ρ : List V) : Res V := (a ρ).bind fun v => (b ρ).bind fun w => Φ f [v, w]
noncomputable def n_call3 (Φ : Nat → List V → Res V) (f : Nat) (a : EV) (b : EV) (c : EV) (ρ : List V) : Res V := (a ρ).bind fun v => (b ρ).bind fun w => (c ρ).bind fun x => Φ f [v, w, x]
noncomputable def n_len (a : EV) (ρ : List V) : Res V := (a ρ).bind fun v => match v with
    | .at (.str l) => okI l.length
    | .at (.bytes l) => okI l.length
    | _ => .fail
noncomputable def n_isinst (k : Kind) (a : EV) (ρ : List V) : Res V := (a ρ).bind fun v => (isV k v).bind okB
noncomputable def n_abs (a : EV) (ρ : List V) : Res V := (a ρ).bind fun v => match v with | .at (.int i) => okI (if i < 0 then -i else i) | _ => .fail
noncomputable def n_max (a : EV) (b : EV) (ρ : List V) : Res V := (a ρ).bind fun v => (b ρ).bind fun w => match v, w with | .at (.int i), .at (.int j) => okI (if i < j then j else i) | _, _ => .fail
noncomputable def n_min (a : EV) (b : EV) (ρ : List V) : Res V := (a ρ).bind fun v => (b ρ).bind fun w => match v, w with | .at (.int i), .at (.int j) => okI (if j < i then j else i) | _, _ => .fail
noncomputable def n_minl (a : EV) (ρ : List V) : Res V := (a ρ).bind fun v => match v with | .lst l => minA (fun i j => if j < i then j else i) l | _ => .fail
noncomputable def n_maxl (a : EV) (ρ : List V) : Res V := (a ρ).bind fun v => match v with | .lst l => minA (fun i j => if i < j then j else i) l | _ => .fail
noncomputable def n_toInt (a : EV) (ρ : List V) : Res V := (a ρ).bind fun v => match v with
    | .at (.bool b) => okI (if b then 1 else 0)
    | .at (.str l) => (match allDigits l && Nat.blt 0 l.length && Nat.blt l.length 30 with | true => okI (numOf l) | false => .fail)
    | _ => .fail
noncomputable def n_toStr (a : EV) (ρ : List V) : Res V := (a ρ).bind fun v => match v with | .at (.int i) => (match w64 i with | true => .ok (.at (.str (textOfInt i))) | false => .fail) | _ => .fail
noncomputable def n_ord (a : EV) (ρ : List V) : Res V := (a ρ).bind fun v => match v with | .at (.str [c]) => okI c | _ => .fail
noncomputable def n_chr (a : EV) (ρ : List V) : Res V := (a ρ).bind fun v => match v with | .at (.int (.ofNat n)) => (match Nat.blt n 128 with | true => .ok (.at (.str [n])) | false => .fail) | _ => .fail
noncomputable def n_lstrip (a : EV) (l : List Nat) (ρ : List V) : Res V := (a ρ).bind fun v => match v with | .at (.str s) => .ok (.at (.str (s.dropWhile fun c => l.contains c))) | _ => .fail
noncomputable def blobOk (l : List Nat) : Bool := [[], [97], [55], [0], [49, 50, 122]].any fun x => x == l
noncomputable def n_decode (a : EV) (ρ : List V) : Res V := (a ρ).bind fun v => match v with | .at (.bytes l) => (match blobOk l with | true => .ok (.at (.str l)) | false => .fail) | _ => .fail
noncomputable def n_encode (a : EV) (ρ : List V) : Res V := (a ρ).bind fun v => match v with | .at (.str l) => (match ascii l with | true => .ok (.at (.bytes l)) | false => .fail) | _ => .fail
noncomputable def digitAt (l : List Nat) : V → Res V
  | .at (.str [c]) => (match l == digitsL && Nat.ble 48 c && Nat.ble c 57 with | true => okI ((c - 48 : Nat) : Int) | false => .fail)
  | _ => .fail
noncomputable def n_index (a : EV) (b : EV) (ρ : List V) : Res V := (a ρ).bind fun v => match v with | .at (.str l) => (b ρ).bind (digitAt l) | _ => .fail
noncomputable def n_join (a : EV) (ρ : List V) : Res V := (a ρ).bind fun v => match v with | .lst l => (match strsOf l with | some ls => (match Nat.ble ls.flatten.length 1000 with | true => .ok (.at (.str ls.flatten)) | false => .fail) | none => .fail) | _ => .fail
noncomputable def n_sub (a : EV) (i : EV) (ρ : List V) : Res V := (a ρ).bind fun v => (i ρ).bind fun w => itemV v w
noncomputable def sliceToV (v w : V) : Res V := match v, w with
  | .at (.str l), .at (.int (.ofNat n)) => .ok (.at (.str (l.take n)))
  | _, _ => .fail
noncomputable def sliceFromV (v w : V) : Res V := match v, w with
  | .at (.str l), .at (.int (.ofNat n)) => (match Nat.ble n l.length with | true => .ok (.at (.str (l.drop n))) | false => .fail)
  | _, _ => .fail
noncomputable def sliceV (v w x : V) : Res V := match v, w, x with
  | .at (.str l), .at (.int (.ofNat n)), .at (.int (.ofNat m)) => (match Nat.ble n m && Nat.ble m l.length with | true => .ok (.at (.str ((l.drop n).take (m - n)))) | false => .fail)
  | _, _, _ => .fail
noncomputable def n_sliceTo (a : EV) (hi : EV) (ρ : List V) : Res V := (a ρ).bind fun v => (hi ρ).bind fun w => sliceToV v w
noncomputable def n_sliceFrom (a : EV) (lo : EV) (ρ : List V) : Res V := (a ρ).bind fun v => (lo ρ).bind fun w => sliceFromV v w
noncomputable def n_slice (a : EV) (lo : EV) (hi : EV) (ρ : List V) : Res V := (a ρ).bind fun v => (lo ρ).bind fun w => (hi ρ).bind fun x => sliceV v w x
noncomputable def okAt : V → Res V
  | .at a => .ok (.at a)
  | _ => .fail
noncomputable def dictV (k1 k2 k3 : List Nat) (a b c : V) : V → Res V
  | .at (.str s) => (match s == k1 with
    | true => okAt a
    | false => match s == k2 with
      | true => okAt b
      | false => match s == k3 with
        | true => okAt c
        | false => .fail)
  | _ => .fail
noncomputable def n_dict3 (k1 : List Nat) (k2 : List Nat) (k3 : List Nat) (v1 : EV) (v2 : EV) (v3 : EV) (e : EV) (ρ : List V) : Res V := (v1 ρ).bind fun a => (v2 ρ).bind fun b => (v3 ρ).bind fun c => (e ρ).bind (dictV k1 k2 k3 a b c)
noncomputable def n_tup2 (a : EV) (b : EV) (ρ : List V) : Res V := (a ρ).bind fun v => (b ρ).bind fun w => (atom v).bind fun x => (atom w).bind fun y => .ok (.tup [x, y])
noncomputable def n_tup3 (a : EV) (b : EV) (c : EV) (ρ : List V) : Res V := (a ρ).bind fun v => (b ρ).bind fun w => (c ρ).bind fun u => (atom v).bind fun x => (atom w).bind fun y => (atom u).bind fun z => .ok (.tup [x, y, z])
noncomputable def n_lst0  (ρ : List V) : Res V := .ok (.lst [])
noncomputable def n_lst2 (a : EV) (b : EV) (ρ : List V) : Res V := (a ρ).bind fun v => (b ρ).bind fun w => (atom v).bind fun x => (atom w).bind fun y => .ok (.lst [x, y])
noncomputable def n_barr0  (ρ : List V) : Res V := .ok (.barr [])
noncomputable def n_bytesOf (a : EV) (ρ : List V) : Res V := (a ρ).bind fun v => match v with | .barr l => .ok (.at (.bytes l)) | _ => .fail
noncomputable def someA : A → Bool
  | .none => false
  | _ => true
noncomputable def n_comp (i : Nat) (ρ : List V) : Res V := (match lkV ρ i with | .lst l => .ok (.lz (l.filter someA)) | _ => .fail)
noncomputable def n_told (e : EV) (ρ : List V) : Res V := (match e ρ with | .raise => .ok (.at (.str [114, 101, 102, 117, 115, 101, 100])) | r => r)
noncomputable def n_fail  (ρ : List V) : Res V := .fail
noncomputable def evalE (Φ : Nat → List V → Res V) (e : PE) : EV :=
  PE.rec (motive := fun _ => EV)
    (fun a  => n_const a)
    (fun i  => n_loc i)
    (fun j  => n_glob j)
    (fun e he => n_not he)
    (fun e he => n_neg he)
    (fun a b ha hb => n_and ha hb)
    (fun a b ha hb => n_or ha hb)
    (fun op a b ha hb => n_bin op ha hb)
    (fun op a b ha hb => n_cmp op ha hb)
    (fun o1 o2 a b c ha hb hc => n_chain o1 o2 ha hb hc)
    (fun e he => n_isNone he)
    (fun e he => n_notNone he)
    (fun a b ha hb => n_inStr ha hb)
    (fun neg _ _ l ha => n_inLits neg ha l)
    (fun a b ha hb => n_inLst ha hb)
    (fun t a b ht ha hb => n_ite ht ha hb)
    (fun f a ha => n_call1 Φ f ha)
    (fun f a b ha hb => n_call2 Φ f ha hb)
    (fun f a b c ha hb hc => n_call3 Φ f ha hb hc)
    (fun a ha => n_len ha)
    (fun k a ha => n_isinst k ha)
    (fun a ha => n_abs ha)
    (fun a b ha hb => n_max ha hb)
    (fun a b ha hb => n_min ha hb)
    (fun a ha => n_minl ha)
    (fun a ha => n_maxl ha)
    (fun a ha => n_toInt ha)
    (fun a ha => n_toStr ha)
    (fun a ha => n_ord ha)
    (fun a ha => n_chr ha)
    (fun a l ha => n_lstrip ha l)
    (fun a ha => n_decode ha)
    (fun a ha => n_encode ha)
    (fun a b ha hb => n_index ha hb)
    (fun a ha => n_join ha)
    (fun a i ha hi => n_sub ha hi)
    (fun a hi ha hhi => n_sliceTo ha hhi)
    (fun a lo ha hlo => n_sliceFrom ha hlo)
    (fun a lo hi ha hlo hhi => n_slice ha hlo hhi)
    (fun k1 k2 k3 v1 v2 v3 e hv1 hv2 hv3 he => n_dict3 k1 k2 k3 hv1 hv2 hv3 he)
    (fun a b ha hb => n_tup2 ha hb)
    (fun a b c ha hb hc => n_tup3 ha hb hc)
    (n_lst0)
    (fun a b ha hb => n_lst2 ha hb)
    (n_barr0)
    (fun a ha => n_bytesOf ha)
    (fun i  => n_comp i)
    (fun e he => n_told he)
    (n_fail) e

inductive Fl where
  | next (ρ : List V) | ret (v : V)
/-- a loop's turn that raises is not told -/
noncomputable def quiet {α : Type} : Res α → Res α
  | .raise => .fail
  | r => r
noncomputable def whileF (T : List V → Res Bool) (B : List V → Res Fl) : Nat → List V → Res Fl
  | 0, _ => .fail
  | n + 1, ρ => (quiet (T ρ)).bind fun t => match t with
    | true => (quiet (B ρ)).bind fun f => match f with
      | .next ρ' => whileF T B n ρ'
      | .ret v => .ok (.ret v)
    | false => .ok (.next ρ)
noncomputable def forF (i : Nat) (B : List V → Res Fl) : List V → List V → Res Fl
  | [], ρ => .ok (.next ρ)
  | v :: r, ρ => (quiet (B (setV ρ i v))).bind fun f => match f with
    | .next ρ' => forF i B r ρ'
    | .ret v => .ok (.ret v)
noncomputable def rangeV (a : Int) : Nat → List V
  | 0 => []
  | n + 1 => .at (.int a) :: rangeV (a + 1) n

noncomputable def flat : V → Bool
  | .lst _ | .lz _ | .barr _ => false
  | _ => true
/-- the value at this place alone may share a list -/
noncomputable def onlyOne : Nat → List V → Bool
  | _, [] => true
  | 0, _ :: r => r.all flat
  | n + 1, v :: r => flat v && onlyOne n r
noncomputable abbrev EX := List V → Res Fl
noncomputable def x_skip (ρ : List V) : Res Fl := .ok (.next ρ)
noncomputable def x_seq (a b : EX) (ρ : List V) : Res Fl := (a ρ).bind fun f => match f with
  | .next ρ' => b ρ'
  | .ret v => .ok (.ret v)
noncomputable def x_assign (i : Nat) (e : EV) (ρ : List V) : Res Fl := (e ρ).bind fun v => .ok (.next (setV ρ i v))
noncomputable def x_assign2 (i j : Nat) (a b : EV) (ρ : List V) : Res Fl := (n_tup2 a b ρ).bind fun v => match v with
  | .tup [x, y] => .ok (.next (setV (setV ρ j (.at y)) i (.at x)))
  | _ => .fail
noncomputable def x_unpack3 (i j k : Nat) (e : EV) (ρ : List V) : Res Fl := (e ρ).bind fun v => match v with
  | .tup [x, y, z] => .ok (.next (setV (setV (setV ρ i (.at x)) j (.at y)) k (.at z)))
  | _ => .fail
noncomputable def augV (op : BOp) (v w : V) : Res V := match op, v, w with
  | .add, .at (.int a), .at (.int b) => okI (a + b)
  | _, _, _ => .fail
noncomputable def x_aug (i : Nat) (op : BOp) (e : EV) (ρ : List V) : Res Fl := (n_loc i ρ).bind fun v => (e ρ).bind fun w => (augV op v w).bind fun x => .ok (.next (setV ρ i x))
noncomputable def x_ite (t : EV) (a b : EX) (ρ : List V) : Res Fl := (t ρ).bind fun v => (truthy v).bind fun c => match c with
  | true => a ρ
  | false => b ρ
noncomputable def x_while (t : EV) (b : EX) (ρ : List V) : Res Fl := whileF (fun ρ => (t ρ).bind truthy) b 100 ρ
noncomputable def x_forStr (i : Nat) (e : EV) (b : EX) (ρ : List V) : Res Fl := (e ρ).bind fun v => match v with
  | .at (.str l) => (match ascii l with | true => forF i b (l.map fun c => .at (.str [c])) ρ | false => .fail)
  | _ => .fail
noncomputable def x_forRange1 (i : Nat) (e : EV) (b : EX) (ρ : List V) : Res Fl := (e ρ).bind fun v => match v with
  | .at (.int (.ofNat n)) => (match Nat.ble n 1000 with | true => forF i b (rangeV 0 n) ρ | false => .fail)
  | _ => .fail
noncomputable def x_forRange2 (i : Nat) (a e : EV) (b : EX) (ρ : List V) : Res Fl := (a ρ).bind fun v => (e ρ).bind fun w => match v, w with
  | .at (.int (.ofNat m)), .at (.int (.ofNat n)) => (match Nat.ble n 1000 && Nat.ble m 1000 with | true => forF i b (rangeV m (n - m)) ρ | false => .fail)
  | _, _ => .fail
noncomputable def x_forLits (i : Nat) (l : List (List Nat)) (b : EX) (ρ : List V) : Res Fl := forF i b (l.map fun s => .at (.str s)) ρ
noncomputable def x_ret (e : EV) (ρ : List V) : Res Fl := (e ρ).bind fun v => .ok (.ret v)
noncomputable def x_raise (_ : List V) : Res Fl := .raise
noncomputable def appV (i : Nat) (l : List A) (ρ : List V) : V → Res Fl
  | .at a => (match onlyOne i ρ && Nat.blt l.length 1000 with | true => .ok (.next (setV ρ i (.lst (l ++ [a])))) | false => .fail)
  | _ => .fail
noncomputable def x_append (i : Nat) (e : EV) (ρ : List V) : Res Fl := match lkV ρ i with
  | .lst l => (e ρ).bind (appV i l ρ)
  | _ => .fail
noncomputable def x_fail (_ : List V) : Res Fl := .fail
noncomputable def execP (Φ : Nat → List V → Res V) (p : PS) : EX :=
  PS.rec (motive := fun _ => EX)
    x_skip
    (fun _ _ ha hb => x_seq ha hb)
    (fun i e => x_assign i (evalE Φ e))
    (fun i j a b => x_assign2 i j (evalE Φ a) (evalE Φ b))
    (fun i j k e => x_unpack3 i j k (evalE Φ e))
    (fun i op e => x_aug i op (evalE Φ e))
    (fun t _ _ ha hb => x_ite (evalE Φ t) ha hb)
    (fun t _ hb => x_while (evalE Φ t) hb)
    (fun i e _ hb => x_forStr i (evalE Φ e) hb)
    (fun i e _ hb => x_forRange1 i (evalE Φ e) hb)
    (fun i a e _ hb => x_forRange2 i (evalE Φ a) (evalE Φ e) hb)
    (fun i l _ hb => x_forLits i l hb)
    (fun e => x_ret (evalE Φ e))
    x_raise
    (fun i e => x_append i (evalE Φ e))
    x_fail p

structure Fn where
  np : Nat
  nl : Nat
  body : PS
  ap : Bool
  names : List (List Nat)
noncomputable def isAt : V → Bool
  | .at _ => true
  | _ => false
noncomputable def undefs : Nat → List V
  | 0 => []
  | n + 1 => .undef :: undefs n
noncomputable def lkF {α : Type} : List α → Nat → Option α
  | [], _ => none
  | x :: _, 0 => some x
  | _ :: r, n + 1 => lkF r n
noncomputable def retOf : Res Fl → Res V
  | .ok (.ret v) => .ok v
  | .ok (.next _) => .ok (.at .none)
  | .raise => .raise
  | .fail => .fail
noncomputable def run (P : List (Option Fn)) : Nat → Nat → List V → Res V
  | 0, _, _ => .fail
  | d + 1, f, args => match lkF P f with
    | some (some F) => (match Nat.beq args.length F.np && (!F.ap || args.all isAt) with
      | true => retOf (execP (run P d) F.body (args ++ undefs (F.nl - F.np)))
      | false => .fail)
    | _ => .fail
end Mine
end

section
namespace Mine
-- 0 utf8 ['text', 'found', 'sign', 'code']
noncomputable def f_utf8 : Fn := ⟨1, 4, (.seq (.assign 1 .barr0) (.seq (.forStr 2 (.loc 0) (.seq (.assign 3 (.ord (.loc 2))) (.seq (.ite (.cmp .lt (.loc 3) (.const (A.int 128))) (.seq (.append 1 (.loc 3)) .skip) (.seq (.ite (.cmp .lt (.loc 3) (.const (A.int 2048))) (.seq (.append 1 (.bin .bor (.const (A.int 192)) (.bin .shr (.loc 3) (.const (A.int 6))))) (.seq (.append 1 (.bin .bor (.const (A.int 128)) (.bin .band (.loc 3) (.const (A.int 63))))) .skip)) (.seq (.ite (.cmp .lt (.loc 3) (.const (A.int 65536))) (.seq (.append 1 (.bin .bor (.const (A.int 224)) (.bin .shr (.loc 3) (.const (A.int 12))))) (.seq (.append 1 (.bin .bor (.const (A.int 128)) (.bin .band (.bin .shr (.loc 3) (.const (A.int 6))) (.const (A.int 63))))) (.seq (.append 1 (.bin .bor (.const (A.int 128)) (.bin .band (.loc 3) (.const (A.int 63))))) .skip))) (.seq (.append 1 (.bin .bor (.const (A.int 240)) (.bin .shr (.loc 3) (.const (A.int 18))))) (.seq (.append 1 (.bin .bor (.const (A.int 128)) (.bin .band (.bin .shr (.loc 3) (.const (A.int 12))) (.const (A.int 63))))) (.seq (.append 1 (.bin .bor (.const (A.int 128)) (.bin .band (.bin .shr (.loc 3) (.const (A.int 6))) (.const (A.int 63))))) (.seq (.append 1 (.bin .bor (.const (A.int 128)) (.bin .band (.loc 3) (.const (A.int 63))))) .skip))))) .skip)) .skip)) .skip))) (.seq (.ret (.bytesOf (.loc 1))) .skip))), true, [[116, 101, 120, 116], [102, 111, 117, 110, 100], [115, 105, 103, 110], [99, 111, 100, 101]]⟩
-- 1 lead_of ['octet']
noncomputable def f_lead_of : Fn := ⟨1, 1, (.seq (.ite (.cmp .lt (.loc 0) (.const (A.int 128))) (.seq (.ret (.tup3 (.const (A.int 0)) (.loc 0) (.const (A.int 0)))) .skip) .skip) (.seq (.ite (.chain .le .lt (.const (A.int 194)) (.loc 0) (.const (A.int 224))) (.seq (.ret (.tup3 (.const (A.int 1)) (.bin .band (.loc 0) (.const (A.int 31))) (.const (A.int 128)))) .skip) .skip) (.seq (.ite (.chain .le .lt (.const (A.int 224)) (.loc 0) (.const (A.int 240))) (.seq (.ret (.tup3 (.const (A.int 2)) (.bin .band (.loc 0) (.const (A.int 15))) (.const (A.int 2048)))) .skip) .skip) (.seq (.ite (.chain .le .lt (.const (A.int 240)) (.loc 0) (.const (A.int 245))) (.seq (.ret (.tup3 (.const (A.int 3)) (.bin .band (.loc 0) (.const (A.int 7))) (.const (A.int 65536)))) .skip) .skip) (.seq (.ret (.const A.none)) .skip))))), false, [[111, 99, 116, 101, 116]]⟩
-- 2 text_of ['octets', 'signs', 'at', 'lead', 'code']
noncomputable def f_text_of : Fn := ⟨1, 5, (.seq (.assign 1 .lst0) (.seq (.assign 2 (.const (A.int 0))) (.seq (.while (.cmp .lt (.loc 2) (.len (.loc 0))) (.seq (.assign 3 (.call1 1 (.sub (.loc 0) (.loc 2)))) (.seq (.assign 4 (.const A.none)) (.seq (.ite (.notNone (.loc 3)) (.seq (.assign 4 (.call3 3 (.loc 0) (.bin .add (.loc 2) (.const (A.int 1))) (.loc 3))) .skip) .skip) (.seq (.ite (.isNone (.loc 4)) (.seq (.append 1 PE.fail) (.seq (.aug 2 .add (.const (A.int 1))) .skip)) (.seq (.append 1 (.chr (.loc 4))) (.seq (.aug 2 .add (.bin .add (.sub (.loc 3) (.const (A.int 0))) (.const (A.int 1)))) .skip))) .skip))))) (.seq (.ret (.join (.loc 1))) .skip)))), true, [[111, 99, 116, 101, 116, 115], [115, 105, 103, 110, 115], [97, 116], [108, 101, 97, 100], [99, 111, 100, 101]]⟩
-- 3 code_at ['octets', 'at', 'lead', 'follow', 'code', 'least', 'place']
noncomputable def f_code_at : Fn := ⟨3, 7, (.seq (.unpack3 3 4 5 (.loc 2)) (.seq (.ite (.cmp .gt (.bin .add (.loc 1) (.loc 3)) (.len (.loc 0))) (.seq (.ret (.const A.none)) .skip) .skip) (.seq (.forRange2 6 (.loc 1) (.bin .add (.loc 1) (.loc 3)) (.seq (.ite (.cmp .ne (.bin .band (.sub (.loc 0) (.loc 6)) (.const (A.int 192))) (.const (A.int 128))) (.seq (.ret (.const A.none)) .skip) .skip) (.seq (.assign 4 (.bin .bor (.bin .shl (.loc 4) (.const (A.int 6))) (.bin .band (.sub (.loc 0) (.loc 6)) (.const (A.int 63))))) .skip))) (.seq (.ite (.or (.cmp .lt (.loc 4) (.loc 5)) (.cmp .gt (.loc 4) (.const (A.int 1114111)))) (.seq (.ret (.const A.none)) .skip) .skip) (.seq (.ret (.loc 4)) .skip))))), false, [[111, 99, 116, 101, 116, 115], [97, 116], [108, 101, 97, 100], [102, 111, 108, 108, 111, 119], [99, 111, 100, 101], [108, 101, 97, 115, 116], [112, 108, 97, 99, 101]]⟩
-- 4 is_in_range ['n']
noncomputable def f_is_in_range : Fn := ⟨1, 1, (.seq (.ret (.chain .le .le (.glob 0) (.loc 0) (.glob 1))) .skip), false, [[110]]⟩
-- 5 digits_end ['text', 'at']
noncomputable def f_digits_end : Fn := ⟨2, 2, (.seq (.while (.and (.cmp .lt (.loc 1) (.len (.loc 0))) (.inStr (.sub (.loc 0) (.loc 1)) (.glob 4))) (.seq (.aug 1 .add (.const (A.int 1))) .skip)) (.seq (.ret (.loc 1)) .skip)), false, [[116, 101, 120, 116], [97, 116]]⟩
-- 6 number_span ['text', 'begin', 'at', 'end']
noncomputable def f_number_span : Fn := ⟨1, 4, (.seq (.assign 1 (.const (A.int 0))) (.seq (.while (.and (.cmp .lt (.loc 1) (.len (.loc 0))) (.inStr (.sub (.loc 0) (.loc 1)) (.glob 3))) (.seq (.aug 1 .add (.const (A.int 1))) .skip)) (.seq (.assign 2 (.loc 1)) (.seq (.ite (.and (.cmp .lt (.loc 2) (.len (.loc 0))) (.inStr (.sub (.loc 0) (.loc 2)) (.const (A.str [43, 45])))) (.seq (.aug 2 .add (.const (A.int 1))) .skip) .skip) (.seq (.assign 3 (.call2 5 (.loc 0) (.loc 2))) (.seq (.ite (.cmp .eq (.loc 3) (.loc 2)) (.seq (.ret (.const A.none)) .skip) .skip) (.seq (.ret (.tup2 (.loc 1) (.loc 3))) .skip))))))), false, [[116, 101, 120, 116], [98, 101, 103, 105, 110], [97, 116], [101, 110, 100]]⟩
-- 7 number_of ['text', 'number', 'sign']
noncomputable def f_number_of : Fn := ⟨1, 3, (.seq (.assign 1 (.const (A.int 0))) (.seq (.forStr 2 (.loc 0) (.seq (.ite (.inStr (.loc 2) (.glob 4)) (.seq (.assign 1 (.bin .add (.bin .mul (.loc 1) (.const (A.int 10))) (.index (.glob 4) (.loc 2)))) .skip) .skip) .skip)) (.seq (.ite (.cmp .eq (.sliceTo (.loc 0) (.const (A.int 1))) (.const (A.str [45]))) (.seq (.ret (.neg (.loc 1))) .skip) .skip) (.seq (.ret (.loc 1)) .skip)))), false, [[116, 101, 120, 116], [110, 117, 109, 98, 101, 114], [115, 105, 103, 110]]⟩
-- 8 as_integer ['v', 'text', 'span']
noncomputable def f_as_integer : Fn := ⟨1, 3, (.seq (.ite (.or (.isNone (.loc 0)) (.isinst .int (.loc 0))) (.seq (.ret (.loc 0)) .skip) .skip) (.seq (.assign 1 (.loc 0)) (.seq (.ite (.isinst .bytes (.loc 0)) (.seq (.assign 1 (.call1 2 (.loc 0))) .skip) .skip) (.seq (.assign 2 (.call1 6 (.loc 1))) (.seq (.ite (.isNone (.loc 2)) (.seq (.ret (.const (A.int 0))) .skip) .skip) (.seq (.ret (.max (.glob 0) (.min (.glob 1) (.call1 7 (.slice (.loc 1) (.sub (.loc 2) (.const (A.int 0))) (.sub (.loc 2) (.const (A.int 1)))))))) .skip)))))), false, [[118], [116, 101, 120, 116], [115, 112, 97, 110]]⟩
-- 9 as_text ['v']
noncomputable def f_as_text : Fn := ⟨1, 1, (.seq (.ite (.or (.isNone (.loc 0)) (.isinst .str (.loc 0))) (.seq (.ret (.loc 0)) .skip) .skip) (.seq (.ite (.isinst .bytes (.loc 0)) (.seq (.ret (.call1 2 (.loc 0))) .skip) .skip) (.seq (.ret (.toStr (.loc 0))) .skip))), false, [[118]]⟩
-- 10 as_blob ['v']
noncomputable def f_as_blob : Fn := ⟨1, 1, (.seq (.ite (.or (.isNone (.loc 0)) (.isinst .bytes (.loc 0))) (.seq (.ret (.loc 0)) .skip) .skip) (.seq (.ret (.call1 0 (.call1 9 (.loc 0)))) .skip)), false, [[118]]⟩
-- 11 cast_value ['v', 'affinity']
noncomputable def f_cast_value : Fn := ⟨2, 2, (.seq (.ite (.isNone (.loc 0)) (.seq (.ret (.const A.none)) .skip) .skip) (.seq (.ite (.cmp .eq (.loc 1) (.const (A.str [116, 101, 120, 116]))) (.seq (.ret (.call1 9 (.loc 0))) .skip) .skip) (.seq (.ite (.cmp .eq (.loc 1) (.const (A.str [98, 108, 111, 98]))) (.seq (.ret (.call1 10 (.loc 0))) .skip) .skip) (.seq (.ret (.call1 8 (.loc 0))) .skip)))), false, [[118], [97, 102, 102, 105, 110, 105, 116, 121]]⟩
-- 12 truth ['v', 'number']
noncomputable def f_truth : Fn := ⟨1, 2, (.seq (.assign 1 (.call1 8 (.loc 0))) (.seq (.ite (.isNone (.loc 1)) (.seq (.ret (.const A.none)) .skip) .skip) (.seq (.ret (.cmp .ne (.loc 1) (.const (A.int 0)))) .skip))), false, [[118], [110, 117, 109, 98, 101, 114]]⟩
-- 13 three ['told']
noncomputable def f_three : Fn := ⟨1, 1, (.seq (.ite (.isNone (.loc 0)) (.seq (.ret (.const A.none)) .skip) .skip) (.seq (.ite (.loc 0) (.seq (.ret (.const (A.int 1))) .skip) .skip) (.seq (.ret (.const (A.int 0))) .skip))), false, [[116, 111, 108, 100]]⟩
-- 14 in_word ['n']
noncomputable def f_in_word : Fn := ⟨1, 1, (.seq (.ite (.not (.call1 4 (.loc 0))) (.seq .raise .skip) .skip) (.seq (.ret (.loc 0)) .skip)), false, [[110]]⟩
-- 15 wrapped ['n', 'rest']
noncomputable def f_wrapped : Fn := ⟨1, 2, (.seq (.assign 1 (.bin .mod (.loc 0) (.glob 2))) (.seq (.ite (.cmp .gt (.loc 1) (.glob 1)) (.seq (.ret (.bin .sub (.loc 1) (.glob 2))) .skip) .skip) (.seq (.ret (.loc 1)) .skip))), false, [[110], [114, 101, 115, 116]]⟩
-- 16 divided ['a', 'b', 'quotient']
noncomputable def f_divided : Fn := ⟨2, 3, (.seq (.assign 2 (.bin .fdiv (.abs (.loc 0)) (.abs (.loc 1)))) (.seq (.ite (.cmp .ne (.cmp .lt (.loc 0) (.const (A.int 0))) (.cmp .lt (.loc 1) (.const (A.int 0)))) (.seq (.ret (.neg (.loc 2))) .skip) .skip) (.seq (.ret (.loc 2)) .skip))), false, [[97], [98], [113, 117, 111, 116, 105, 101, 110, 116]]⟩
-- 17 shifted ['n', 'places']
noncomputable def f_shifted : Fn := ⟨2, 2, (.seq (.ite (.cmp .ge (.loc 1) (.const (A.int 64))) (.seq (.ret (.const (A.int 0))) .skip) .skip) (.seq (.ite (.cmp .ge (.loc 1) (.const (A.int 0))) (.seq (.ret (.call1 15 (.bin .shl (.loc 0) (.loc 1)))) .skip) .skip) (.seq (.ite (.cmp .le (.loc 1) (.neg (.const (A.int 64)))) (.seq (.ret (.ite (.cmp .lt (.loc 0) (.const (A.int 0))) (.neg (.const (A.int 1))) (.const (A.int 0)))) .skip) .skip) (.seq (.ret (.bin .shr (.loc 0) (.neg (.loc 1)))) .skip)))), false, [[110], [112, 108, 97, 99, 101, 115]]⟩
-- 18 arith ['op', 'a', 'b', 'one', 'other', 'quotient']
noncomputable def f_arith : Fn := ⟨3, 6, (.seq (.ite (.or (.isNone (.loc 1)) (.isNone (.loc 2))) (.seq (.ret (.const A.none)) .skip) .skip) (.seq (.ite (.cmp .eq (.loc 0) (.const (A.str [124, 124]))) (.seq (.ret (.bin .add (.call1 9 (.loc 1)) (.call1 9 (.loc 2)))) .skip) .skip) (.seq (.assign 3 (.call1 8 (.loc 1))) (.seq (.assign 4 (.call1 8 (.loc 2))) (.seq (.ite (.cmp .eq (.loc 0) (.const (A.str [43]))) (.seq (.ret (.call1 14 (.bin .add (.loc 3) (.loc 4)))) .skip) .skip) (.seq (.ite (.cmp .eq (.loc 0) (.const (A.str [45]))) (.seq (.ret (.call1 14 (.bin .sub (.loc 3) (.loc 4)))) .skip) .skip) (.seq (.ite (.cmp .eq (.loc 0) (.const (A.str [42]))) (.seq (.ret (.call1 14 (.bin .mul (.loc 3) (.loc 4)))) .skip) .skip) (.seq (.ite (.cmp .eq (.loc 0) (.const (A.str [38]))) (.seq (.ret (.bin .band (.loc 3) (.loc 4))) .skip) .skip) (.seq (.ite (.cmp .eq (.loc 0) (.const (A.str [124]))) (.seq (.ret (.bin .bor (.loc 3) (.loc 4))) .skip) .skip) (.seq (.ite (.cmp .eq (.loc 0) (.const (A.str [60, 60]))) (.seq (.ret (.call2 17 (.loc 3) (.loc 4))) .skip) .skip) (.seq (.ite (.cmp .eq (.loc 0) (.const (A.str [62, 62]))) (.seq (.ret (.call2 17 (.loc 3) (.neg (.loc 4)))) .skip) .skip) (.seq (.ite (.inLits true true (.loc 0) [[47], [37]]) (.seq .fail .skip) .skip) (.seq (.ite (.cmp .eq (.loc 4) (.const (A.int 0))) (.seq (.ret (.const A.none)) .skip) .skip) (.seq (.assign 5 (.call2 16 (.loc 3) (.loc 4))) (.seq (.ite (.cmp .eq (.loc 0) (.const (A.str [47]))) (.seq (.ret (.call1 14 (.loc 5))) .skip) .skip) (.seq (.ret (.bin .sub (.loc 3) (.bin .mul (.loc 5) (.loc 4)))) .skip)))))))))))))))), false, [[111, 112], [97], [98], [111, 110, 101], [111, 116, 104, 101, 114], [113, 117, 111, 116, 105, 101, 110, 116]]⟩
-- 19 unary ['op', 'a', 'told', 'number']
noncomputable def f_unary : Fn := ⟨2, 4, (.seq (.ite (.cmp .eq (.loc 0) (.const (A.str [43]))) (.seq (.ret (.loc 1)) .skip) .skip) (.seq (.ite (.cmp .eq (.loc 0) (.const (A.str [110, 111, 116]))) (.seq (.assign 2 (.call1 12 (.loc 1))) (.seq (.ite (.isNone (.loc 2)) (.seq (.ret (.const A.none)) .skip) .skip) (.seq (.ret (.call1 13 (.not (.loc 2)))) .skip))) .skip) (.seq (.assign 3 (.call1 8 (.loc 1))) (.seq (.ite (.isNone (.loc 3)) (.seq (.ret (.const A.none)) .skip) .skip) (.seq (.ite (.cmp .eq (.loc 0) (.const (A.str [45]))) (.seq (.ret (.call1 14 (.neg (.loc 3)))) .skip) .skip) (.seq (.ite (.cmp .eq (.loc 0) (.const (A.str [126]))) (.seq (.ret (.bin .sub (.neg (.const (A.int 1))) (.loc 3))) .skip) .skip) (.seq .fail .skip))))))), false, [[111, 112], [97], [116, 111, 108, 100], [110, 117, 109, 98, 101, 114]]⟩
-- 20 logic ['op', 'a', 'b', 'one', 'other']
noncomputable def f_logic : Fn := ⟨3, 5, (.seq (.assign 3 (.call1 12 (.loc 1))) (.seq (.assign 4 (.call1 12 (.loc 2))) (.seq (.ite (.cmp .eq (.loc 0) (.const (A.str [97, 110, 100]))) (.seq (.ite (.or (.and (.notNone (.loc 3)) (.not (.loc 3))) (.and (.notNone (.loc 4)) (.not (.loc 4)))) (.seq (.ret (.const (A.int 0))) .skip) .skip) (.seq (.ite (.or (.isNone (.loc 3)) (.isNone (.loc 4))) (.seq (.ret (.const A.none)) .skip) .skip) (.seq (.ret (.const (A.int 1))) .skip))) .skip) (.seq (.ite (.cmp .eq (.loc 0) (.const (A.str [111, 114]))) (.seq (.ite (.or (.loc 3) (.loc 4)) (.seq (.ret (.const (A.int 1))) .skip) .skip) (.seq (.ite (.or (.isNone (.loc 3)) (.isNone (.loc 4))) (.seq (.ret (.const A.none)) .skip) .skip) (.seq (.ret (.const (A.int 0))) .skip))) .skip) (.seq .fail .skip))))), false, [[111, 112], [97], [98], [111, 110, 101], [111, 116, 104, 101, 114]]⟩
-- 21 _law_pool ['script', 'k', 'cell', 'big', 'mixed']
noncomputable def f_law_pool : Fn := ⟨2, 5, .fail, false, [[115, 99, 114, 105, 112, 116], [107], [99, 101, 108, 108], [98, 105, 103], [109, 105, 120, 101, 100]]⟩
-- 22 _law_take ['source', 'top', 'drawn']
noncomputable def f_law_take : Fn := ⟨2, 3, .fail, false, [[115, 111, 117, 114, 99, 101], [116, 111, 112], [100, 114, 97, 119, 110]]⟩
-- 23 _law_one ['source', 'things']
noncomputable def f_law_one : Fn := ⟨2, 2, .fail, false, [[115, 111, 117, 114, 99, 101], [116, 104, 105, 110, 103, 115]]⟩
-- 24 _law_prefix ['text', 'rest', 'minus', 'digits', 'many', 'number']
noncomputable def f_law_prefix : Fn := ⟨1, 6, (.seq (.assign 1 (.lstrip (.loc 0) [32, 9, 10])) (.seq (.assign2 2 3 (.cmp .eq (.sliceTo (.loc 1) (.const (A.int 1))) (.const (A.str [45]))) (.ite (.inLits false false (.sliceTo (.loc 1) (.const (A.int 1))) [[45], [43]]) (.sliceFrom (.loc 1) (.const (A.int 1))) (.loc 1))) (.seq (.assign 4 (.const (A.int 0))) (.seq (.while (.and (.cmp .lt (.loc 4) (.len (.loc 3))) (.inStr (.sub (.loc 3) (.loc 4)) (.const (A.str [48, 49, 50, 51, 52, 53, 54, 55, 56, 57])))) (.seq (.assign 4 (.bin .add (.loc 4) (.const (A.int 1)))) .skip)) (.seq (.ite (.cmp .eq (.loc 4) (.const (A.int 0))) (.seq (.ret (.const A.none)) .skip) .skip) (.seq (.assign 5 (.toInt (.sliceTo (.loc 3) (.loc 4)))) (.seq (.ret (.ite (.loc 2) (.neg (.loc 5)) (.loc 5))) .skip))))))), false, [[116, 101, 120, 116], [114, 101, 115, 116], [109, 105, 110, 117, 115], [100, 105, 103, 105, 116, 115], [109, 97, 110, 121], [110, 117, 109, 98, 101, 114]]⟩
-- 25 _law_number_in ['value', 'told']
noncomputable def f_law_number_in : Fn := ⟨1, 2, (.seq (.ite (.or (.isNone (.loc 0)) (.isinst .int (.loc 0))) (.seq (.ret (.loc 0)) .skip) .skip) (.seq (.assign 1 (.call1 24 (.ite (.isinst .str (.loc 0)) (.loc 0) (.decode (.loc 0))))) (.seq (.ret (.ite (.isNone (.loc 1)) (.const (A.int 0)) (.max (.neg (.bin .pow (.const (A.int 2)) (.const (A.int 63)))) (.min (.bin .sub (.bin .pow (.const (A.int 2)) (.const (A.int 63))) (.const (A.int 1))) (.loc 1))))) .skip))), false, [[118, 97, 108, 117, 101], [116, 111, 108, 100]]⟩
-- 26 _law_value ['source', 'way', 'texts']
noncomputable def f_law_value : Fn := ⟨1, 3, .fail, false, [[115, 111, 117, 114, 99, 101], [119, 97, 121], [116, 101, 120, 116, 115]]⟩
-- 27 _law_text_in ['value']
noncomputable def f_law_text_in : Fn := ⟨1, 1, (.seq (.ite (.isinst .int (.loc 0)) (.seq (.ret (.toStr (.loc 0))) .skip) .skip) (.seq (.ret (.ite (.or (.isNone (.loc 0)) (.isinst .str (.loc 0))) (.loc 0) (.decode (.loc 0)))) .skip)), false, [[118, 97, 108, 117, 101]]⟩
-- 28 _law_in_word ['number']
noncomputable def f_law_in_word : Fn := ⟨1, 1, (.seq (.ret (.ite (.chain .le .lt (.neg (.bin .pow (.const (A.int 2)) (.const (A.int 63)))) (.loc 0) (.bin .pow (.const (A.int 2)) (.const (A.int 63)))) (.loc 0) (.const (A.str [114, 101, 102, 117, 115, 101, 100])))) .skip), false, [[110, 117, 109, 98, 101, 114]]⟩
-- 29 _law_wrapped ['number']
noncomputable def f_law_wrapped : Fn := ⟨1, 1, (.seq (.ret (.bin .sub (.bin .mod (.bin .add (.loc 0) (.bin .pow (.const (A.int 2)) (.const (A.int 63)))) (.bin .pow (.const (A.int 2)) (.const (A.int 64)))) (.bin .pow (.const (A.int 2)) (.const (A.int 63))))) .skip), false, [[110, 117, 109, 98, 101, 114]]⟩
-- 30 _law_shifted ['number', 'places']
noncomputable def f_law_shifted : Fn := ⟨2, 2, (.seq (.ite (.cmp .lt (.loc 1) (.const (A.int 0))) (.seq (.ret (.bin .fdiv (.loc 0) (.bin .pow (.const (A.int 2)) (.min (.const (A.int 64)) (.neg (.loc 1)))))) .skip) .skip) (.seq (.ret (.call1 29 (.bin .mul (.loc 0) (.bin .pow (.const (A.int 2)) (.min (.const (A.int 64)) (.loc 1)))))) .skip)), false, [[110, 117, 109, 98, 101, 114], [112, 108, 97, 99, 101, 115]]⟩
-- 31 _law_reckoned ['op', 'a', 'b', 'one', 'other', 'found', 'bit', 'turn', 'here', 'rest']
noncomputable def f_law_reckoned : Fn := ⟨3, 10, (.seq (.ite (.or (.isNone (.loc 1)) (.isNone (.loc 2))) (.seq (.ret (.const A.none)) .skip) .skip) (.seq (.ite (.cmp .eq (.loc 0) (.const (A.str [124, 124]))) (.seq (.ret (.bin .add (.call1 27 (.loc 1)) (.call1 27 (.loc 2)))) .skip) .skip) (.seq (.assign2 3 4 (.call1 25 (.loc 1)) (.call1 25 (.loc 2))) (.seq (.ite (.inLits false false (.loc 0) [[43], [45], [42]]) (.seq (.ret (.call1 28 (.dict3 [43] [45] [42] (.bin .add (.loc 3) (.loc 4)) (.bin .sub (.loc 3) (.loc 4)) (.bin .mul (.loc 3) (.loc 4)) (.loc 0)))) .skip) .skip) (.seq (.ite (.inLits false false (.loc 0) [[60, 60], [62, 62]]) (.seq (.ret (.call2 30 (.loc 3) (.ite (.cmp .eq (.loc 0) (.const (A.str [60, 60]))) (.loc 4) (.neg (.loc 4))))) .skip) .skip) (.seq (.ite (.inLits false false (.loc 0) [[38], [124]]) (.seq (.assign2 5 6 (.const (A.int 0)) (.const (A.int 1))) (.seq (.forRange1 7 (.const (A.int 64)) (.seq (.assign 8 (.lst2 (.bin .mod (.bin .fdiv (.loc 3) (.loc 6)) (.const (A.int 2))) (.bin .mod (.bin .fdiv (.loc 4) (.loc 6)) (.const (A.int 2))))) (.seq (.assign 5 (.bin .add (.loc 5) (.bin .mul (.loc 6) (.ite (.cmp .eq (.loc 0) (.const (A.str [38]))) (.minl (.loc 8)) (.maxl (.loc 8)))))) (.seq (.assign 6 (.bin .mul (.loc 6) (.const (A.int 2)))) .skip)))) (.seq (.ret (.call1 29 (.loc 5))) .skip))) .skip) (.seq (.ite (.cmp .eq (.loc 4) (.const (A.int 0))) (.seq (.ret (.const A.none)) .skip) .skip) (.seq (.assign 9 (.bin .mod (.max (.loc 3) (.neg (.loc 3))) (.max (.loc 4) (.neg (.loc 4))))) (.seq (.assign 9 (.ite (.cmp .lt (.loc 3) (.const (A.int 0))) (.neg (.loc 9)) (.loc 9))) (.seq (.ret (.ite (.cmp .eq (.loc 0) (.const (A.str [37]))) (.loc 9) (.call1 28 (.bin .fdiv (.bin .sub (.loc 3) (.loc 9)) (.loc 4))))) .skip)))))))))), false, [[111, 112], [97], [98], [111, 110, 101], [111, 116, 104, 101, 114], [102, 111, 117, 110, 100], [98, 105, 116], [116, 117, 114, 110], [104, 101, 114, 101], [114, 101, 115, 116]]⟩
-- 32 _law_told ['call']
noncomputable def f_law_told : Fn := ⟨1, 1, .fail, false, [[99, 97, 108, 108]]⟩
-- 33 _law_same ['one', 'other']
noncomputable def f_law_same : Fn := ⟨2, 2, (.seq (.ite (.or (.isNone (.loc 0)) (.isNone (.loc 1))) (.seq (.ret (.and (.isNone (.loc 0)) (.isNone (.loc 1)))) .skip) .skip) (.seq (.ret (.and (.cmp .eq (.isinst .bool (.loc 0)) (.isinst .bool (.loc 1))) (.and (.cmp .eq (.isinst .str (.loc 0)) (.isinst .str (.loc 1))) (.cmp .eq (.loc 0) (.loc 1))))) .skip)), false, [[111, 110, 101], [111, 116, 104, 101, 114]]⟩
-- 34 _law_truth ['value', 'number']
noncomputable def f_law_truth : Fn := ⟨1, 2, (.seq (.assign 1 (.call1 25 (.loc 0))) (.seq (.ret (.ite (.isNone (.loc 1)) (.const A.none) (.cmp .ne (.loc 1) (.const (A.int 0))))) .skip)), false, [[118, 97, 108, 117, 101], [110, 117, 109, 98, 101, 114]]⟩
-- 35 _law_logic ['op', 'a', 'b', 'kinds', 'strong']
noncomputable def f_law_logic : Fn := ⟨3, 5, (.seq (.assign 3 (.lst2 (.call1 34 (.loc 1)) (.call1 34 (.loc 2)))) (.seq (.assign 4 (.cmp .eq (.loc 0) (.const (A.str [111, 114])))) (.seq (.ite (.inLst (.loc 4) (.comp 3)) (.seq (.ret (.toInt (.loc 4))) .skip) .skip) (.seq (.ret (.ite (.inLst (.const A.none) (.loc 3)) (.const A.none) (.toInt (.not (.loc 4))))) .skip)))), false, [[111, 112], [97], [98], [107, 105, 110, 100, 115], [115, 116, 114, 111, 110, 103]]⟩
-- 36 _law_alone_right ['a', 'number', 'octets']
noncomputable def f_law_alone_right : Fn := ⟨1, 3, (.seq (.assign 1 (.call1 25 (.loc 0))) (.seq (.ite (.or (.not (.call2 33 (.call1 12 (.loc 0)) (.call1 34 (.loc 0)))) (.not (.call2 33 (.call2 19 (.const (A.str [43])) (.loc 0)) (.loc 0)))) (.seq (.ret (.const (A.bool false))) .skip) .skip) (.seq (.ite (.not (.call2 33 (.told (.call2 19 (.const (A.str [45])) (.loc 0))) (.ite (.isNone (.loc 1)) (.const A.none) (.call1 28 (.neg (.loc 1)))))) (.seq (.ret (.const (A.bool false))) .skip) .skip) (.seq (.ite (.not (.call2 33 (.call2 19 (.const (A.str [126])) (.loc 0)) (.ite (.isNone (.loc 1)) (.const A.none) (.bin .sub (.neg (.const (A.int 1))) (.loc 1))))) (.seq (.ret (.const (A.bool false))) .skip) .skip) (.seq (.ite (.not (.call2 33 (.call2 19 (.const (A.str [110, 111, 116])) (.loc 0)) (.ite (.isNone (.loc 1)) (.const A.none) (.toInt (.cmp .eq (.loc 1) (.const (A.int 0))))))) (.seq (.ret (.const (A.bool false))) .skip) .skip) (.seq (.ite (.or (.not (.call2 33 (.call2 11 (.loc 0) (.const (A.str [105, 110, 116, 101, 103, 101, 114]))) (.loc 1))) (.not (.call2 33 (.call2 11 (.loc 0) (.const (A.str [116, 101, 120, 116]))) (.call1 27 (.loc 0))))) (.seq (.ret (.const (A.bool false))) .skip) .skip) (.seq (.assign 2 (.ite (.or (.isNone (.loc 0)) (.isinst .bytes (.loc 0))) (.loc 0) (.encode (.call1 27 (.loc 0))))) (.seq (.ret (.call2 33 (.call2 11 (.loc 0) (.const (A.str [98, 108, 111, 98]))) (.loc 2))) .skip)))))))), false, [[97], [110, 117, 109, 98, 101, 114], [111, 99, 116, 101, 116, 115]]⟩
-- 37 _law_pair_right ['source', 'a', 'b', 'op', 'word']
noncomputable def f_law_pair_right : Fn := ⟨1, 5, (.seq (.ite (.not (.call2 33 (.told (.call3 18 (.loc 3) (.loc 1) (.loc 2))) (.call3 31 (.loc 3) (.loc 1) (.loc 2)))) (.seq (.ret (.const (A.bool false))) .skip) .skip) (.seq (.forLits 4 [[97, 110, 100], [111, 114]] (.seq (.ite (.or (.not (.call2 33 (.call3 20 (.loc 4) (.loc 1) (.loc 2)) (.call3 35 (.loc 4) (.loc 1) (.loc 2)))) (.not (.call2 33 (.call3 20 (.loc 4) (.loc 2) (.loc 1)) (.call3 20 (.loc 4) (.loc 1) (.loc 2))))) (.seq (.ret (.const (A.bool false))) .skip) .skip) .skip)) (.seq (.ite (.not (.call2 33 (.call2 19 (.const (A.str [110, 111, 116])) (.call3 20 (.const (A.str [97, 110, 100])) (.loc 1) (.loc 2))) (.call3 20 (.const (A.str [111, 114])) (.call2 19 (.const (A.str [110, 111, 116])) (.loc 1)) (.call2 19 (.const (A.str [110, 111, 116])) (.loc 2))))) (.seq (.ret (.const (A.bool false))) .skip) .skip) (.seq (.ret (.call1 36 (.loc 1))) .skip)))), false, [[115, 111, 117, 114, 99, 101], [97], [98], [111, 112], [119, 111, 114, 100]]⟩
-- 38 law ['script', 'k', 'source', 'turn']
noncomputable def f_law : Fn := ⟨1, 4, .fail, false, [[115, 99, 114, 105, 112, 116], [107], [115, 111, 117, 114, 99, 101], [116, 117, 114, 110]]⟩
noncomputable def prog : List (Option Fn) := [none, some f_lead_of, some f_text_of, some f_code_at, some f_is_in_range, some f_digits_end, some f_number_span, some f_number_of, some f_as_integer, some f_as_text, some f_as_blob, some f_cast_value, some f_truth, some f_three, some f_in_word, some f_wrapped, some f_divided, some f_shifted, some f_arith, some f_unary, some f_logic, none, none, none, some f_law_prefix, some f_law_number_in, none, some f_law_text_in, some f_law_in_word, some f_law_wrapped, some f_law_shifted, some f_law_reckoned, none, some f_law_same, some f_law_truth, some f_law_logic, none, none, none]
end Mine
end

section
set_option maxRecDepth 100000
set_option linter.unusedVariables false
set_option genSizeOf false
set_option genInjectivity false
open PySem PySem.W PyProof.Rows
namespace Mine

/-! names and shapes -/
noncomputable def strIs (x : Str) (l : List Nat) : Bool := x.cps.toList == l
theorem strIs_eq {x : Str} {l : List Nat} (h : strIs x l = true) : x = ⟨l.toArray⟩ := by
  obtain ⟨⟨a⟩⟩ := x
  have : a = l := eq_of_beq h
  rw [this]
noncomputable def mkS (l : List Nat) : Str := ⟨l.toArray⟩
noncomputable def gnames : List Str := ["MIN_INT", "MAX_INT", "WORD", "SPACES", "DIGITS"]
noncomputable def fnames : List Str := (["utf8", "lead_of", "text_of", "code_at", "is_in_range", "digits_end", "number_span", "number_of", "as_integer", "as_text", "as_blob", "cast_value", "truth", "three", "in_word", "wrapped", "divided", "shifted", "arith", "unary", "logic", "_law_pool", "_law_take", "_law_one", "_law_prefix", "_law_number_in", "_law_value", "_law_text_in", "_law_in_word", "_law_wrapped", "_law_shifted", "_law_reckoned", "_law_told", "_law_same", "_law_truth", "_law_logic", "_law_alone_right", "_law_pair_right", "law"] : List String).map Str.ofString
noncomputable def nth (l : List Str) (i : Nat) (x : Str) : Bool := match lkF l i with
  | some y => x == y
  | none => false
theorem nth_eq {l : List Str} {i : Nat} {x : Str} (h : nth l i x = true) : lkF l i = some x := by
  unfold nth at h
  split at h
  · rename_i y e; rw [e, eq_of_beq h]
  · cases h
noncomputable def glo (sc : Scope) (x : Str) : Bool := sc.names.lookup x == some .globalImplicit && !(x == ("__debug__" : Str)) && !(x == ("__name__" : Str))
noncomputable def opOf : BOp → Operator
  | .add => .Add | .sub => .Sub | .mul => .Mult | .fdiv => .FloorDiv | .mod => .Mod | .pow => .Pow | .shl => .LShift | .shr => .RShift | .band => .BitAnd | .bor => .BitOr
noncomputable def cmpOf : COp → CmpOp
  | .lt => .Lt | .le => .LtE | .gt => .Gt | .ge => .GtE | .eq => .Eq | .ne => .NotEq
noncomputable def kOf (a : A) : Pat Const := match a with
  | .none => kNone
  | .bool b => kBool.comp (pEq (α := Bool) b : Pat Bool)
  | .int i => kInt.comp (pEq (α := Int) i : Pat Int)
  | .str l => kStr.comp (pIs fun s => strIs s l && Nat.ble l.length 1000)
  | .bytes l => kBytes.comp (pIs fun b : List UInt8 => (b == l.map UInt8.ofNat && Nat.ble l.length 1000) && l.all fun c => Nat.blt c 256)
noncomputable def constIs (a : A) : Const → Bool := (kOf a).m
noncomputable def notStar : Expr → Bool
  | .Starred _ _ => false
  | _ => true
noncomputable def notSet : Expr → Bool
  | .Set _ _ _ => false
  | _ => true
noncomputable def isName : Expr → Bool
  | .Name _ _ => true
  | _ => false
noncomputable def pSt (x : List Nat) : Pat Expr := pK (kStr.comp (pIs fun s => strIs s x))
noncomputable def litsAre (l : List (List Nat)) : List Expr → Bool := (pAll pSt l).m
noncomputable def kindName : Kind → Str
  | .bool => "bool" | .int => "int" | .str => "str" | .bytes => "bytes"

noncomputable def notCall : Expr → Bool
  | .Call _ _ _ _ => false
  | _ => true
noncomputable def notSlice (e : Expr) : Bool := match e with | .Slice _ _ _ _ => false | _ => true
noncomputable def boolRest (o : BoolOp) (y : Expr) (r : List Expr) (pos : Pos) : Expr := match r with | [] => y | _ :: _ => .BoolOp o (y :: r) pos
noncomputable def litsIn (tup : Bool) (l : List (List Nat)) (r : Expr) : Bool := match r with | .List es _ => !tup && litsAre l es | .Tuple es _ _ => tup && litsAre l es | _ => false
noncomputable def opIn (neg : Bool) : CmpOp := if neg then .NotIn else .In
noncomputable def okName (x : Str) : Bool := !(x == ("__debug__" : Str))

/-! shapes with conditions -/
noncomputable def pFn (sc : Scope) (i : Nat) : Pat Str := pIs fun x => nth fnames i x && glo sc x
noncomputable def pBi (sc : Scope) (x : Str) : Pat Str := pUp (pEq x) (glo sc)
noncomputable def pN (p : Expr → Bool) : Pat Expr := pIs fun x => notStar x && p x
noncomputable def pMeth (V : Pat Expr) (a : List Nat) (As : Pat (List Expr)) : Pat Expr := (eCall.comp (pp (pAttr V (mkS a)) (pp As (pP pNil)))).comp (pIs fun d : (V.D × Unit × Pos) × As.D × Unit × Pos => d.1.2.2.endLine == d.2.2.2.line)
noncomputable def p1 (sc : Scope) (f : Str) (p : Expr → Bool) : Pat Expr := pCallN (pBi sc f) (pOne (pN p))
noncomputable def p2 (sc : Scope) (f : Str) (p q : Expr → Bool) : Pat Expr := pCallN (pBi sc f) (pTwo (pN p) (pN q))
noncomputable def pUn (o : UnaryOp) (P : Pat Expr) : Pat Expr := eUnaryOp.comp (pp (pEq o) (pP P))
noncomputable def pBool (o : BoolOp) (p q : Expr → Bool) : Pat Expr := (eBoolOp.comp (pp (pEq o) (pP (pCons (pIs p) cCons)))).comp (pIs fun d : Unit × ({x // p x = true} × Expr × List Expr) × Pos => q (boolRest o d.2.1.2.1 d.2.1.2.2 d.2.2))
noncomputable def pNo (p : Expr → Bool) : Pat Expr := pIs fun v => notCall v && p v
noncomputable def pNa (p : Expr → Bool) : Pat Expr := pIs fun v => isName v && p v
noncomputable def pSlice (a b : Pat (Option Expr)) : Pat Expr := eSlice.comp (pp a (pp b (pP pNone)))
noncomputable def cComp : Pat Comprehension := ⟨Expr × Expr × List Expr × Int, fun d => ⟨d.1, d.2.1, d.2.2.1, d.2.2.2⟩, fun c => some (c.target, c.iter, c.ifs, c.is_async), fun c d h => by cases c; cases h; rfl⟩
noncomputable def pComp (nm : List Str) (i : Nat) : Pat Expr := (eListComp.comp (pp (pNm (pAny Str)) (pp (pOne (cComp.comp (pp (pNm (pAny Str)) (pp (pNm (pIs fun x => nth nm i x && okName x)) (pp (pOne (pCmp (pNm (pAny Str)) .IsNot (pK kNone))) (pEq 0)))))) (pP (pAny Scope))))).comp
  (pIs fun d : (Str × Pos) × ((Str × Pos) × ({x // (nth nm i x && okName x) = true} × Pos) × ((Str × Pos) × Unit × (Unit × Nat × Pos) × Pos) × Unit) × Scope × Pos =>
    (d.1.1 == d.2.1.1.1 && d.2.1.2.2.1.1.1 == d.2.1.1.1) && (okName d.2.1.1.1 && d.2.2.1.kind == .function) && (d.2.2.1.names.all (fun q => q.2 == .local && d.2.2.1.names.lookup q.1 == some .local) && d.2.2.1.names.lookup d.2.1.1.1 == some .local))

noncomputable def chk (sc : Scope) (nm : List Str) (tl : PE → Expr → Bool) : PE → Expr → Bool
  | .const a => (pK (pIs (constIs a))).m
  | .loc i => (pNm (pIs fun x => nth nm i x && okName x)).m
  | .glob j => (pNm (pIs fun x => nth gnames j x && glo sc x)).m
  | .not a => (pUn .Not (pIs (chk sc nm tl a))).m
  | .neg a => (pUn .USub (pIs (chk sc nm tl a))).m
  | .and a b => (pBool .And (chk sc nm tl a) (chk sc nm tl b)).m
  | .or a b => (pBool .Or (chk sc nm tl a) (chk sc nm tl b)).m
  | .bin op a b => (pBin (pIs (chk sc nm tl a)) (opOf op) (pIs (chk sc nm tl b))).m
  | .cmp op a b => (pCmp (pIs (chk sc nm tl a)) (cmpOf op) (pIs (chk sc nm tl b))).m
  | .chain o1 o2 a b c => (eCompare.comp (pp (pIs (chk sc nm tl a)) (pp (pTwo (pEq (cmpOf o1)) (pEq (cmpOf o2))) (pP (pTwo (pIs (chk sc nm tl b)) (pIs (chk sc nm tl c))))))).m
  | .isNone a => (pCmp (pIs (chk sc nm tl a)) .Is (pK kNone)).m
  | .notNone a => (pCmp (pIs (chk sc nm tl a)) .IsNot (pK kNone)).m
  | .inStr a b => (pCmp (pIs (chk sc nm tl a)) .In (pIs fun r => notSet r && chk sc nm tl b r)).m
  | .inLits neg tup a l => (pCmp (pIs (chk sc nm tl a)) (opIn neg) (pIs fun r => Nat.ble l.length 1000 && litsIn tup l r)).m
  | .inLst a b => (pCmp (pIs (chk sc nm tl a)) .In (pIs fun r => notSet r && chk sc nm tl b r)).m
  | .ite t a b => (eIfExp.comp (pp (pIs (chk sc nm tl t)) (pp (pIs (chk sc nm tl a)) (pP (pIs (chk sc nm tl b)))))).m
  | .call1 f a => (pCallN (pFn sc f) (pOne (pN (chk sc nm tl a)))).m
  | .call2 f a b => (pCallN (pFn sc f) (pTwo (pN (chk sc nm tl a)) (pN (chk sc nm tl b)))).m
  | .call3 f a b c => (pCallN (pFn sc f) (pThree (pN (chk sc nm tl a)) (pN (chk sc nm tl b)) (pN (chk sc nm tl c)))).m
  | .len a => (p1 sc "len" (chk sc nm tl a)).m
  | .isinst k a => (pCallN (pBi sc "isinstance") (pTwo (pN (chk sc nm tl a)) (pNm (pBi sc (kindName k))))).m
  | .abs a => (p1 sc "abs" (chk sc nm tl a)).m
  | .max a b => (p2 sc "max" (chk sc nm tl a) (chk sc nm tl b)).m
  | .min a b => (p2 sc "min" (chk sc nm tl a) (chk sc nm tl b)).m
  | .minl a => (p1 sc "min" (chk sc nm tl a)).m
  | .maxl a => (p1 sc "max" (chk sc nm tl a)).m
  | .toInt a => (p1 sc "int" (chk sc nm tl a)).m
  | .toStr a => (p1 sc "str" (chk sc nm tl a)).m
  | .ord a => (p1 sc "ord" (chk sc nm tl a)).m
  | .chr a => (p1 sc "chr" (chk sc nm tl a)).m
  | .lstrip a l => (pMeth (pNo (chk sc nm tl a)) [108, 115, 116, 114, 105, 112] (pOne (pSt l))).m
  | .decode a => (pMeth (pNo (chk sc nm tl a)) [100, 101, 99, 111, 100, 101] (pOne (pSt [117, 116, 102, 45, 56]))).m
  | .encode a => (pMeth (pUp (pCallN (pIs fun x => !(x == ("super" : Str))) (pOne (pAny Expr))) (chk sc nm tl a)) [101, 110, 99, 111, 100, 101] (pOne (pSt [117, 116, 102, 45, 56]))).m
  | .index a b => (pMeth (pNo (chk sc nm tl a)) [105, 110, 100, 101, 120] (pOne (pN (chk sc nm tl b)))).m
  | .join a => (pMeth (pSt []) [106, 111, 105, 110] (pOne (pN (chk sc nm tl a)))).m
  | .sub a i => (pSub (pNa (chk sc nm tl a)) (pIs fun s => notSlice s && chk sc nm tl i s)).m
  | .sliceTo a hi => (pSub (pNa (chk sc nm tl a)) (pSlice pNone (pSome (pIs (chk sc nm tl hi))))).m
  | .sliceFrom a lo => (pSub (pNa (chk sc nm tl a)) (pSlice (pSome (pIs (chk sc nm tl lo))) pNone)).m
  | .slice a lo hi => (pSub (pNa (chk sc nm tl a)) (pSlice (pSome (pIs (chk sc nm tl lo))) (pSome (pIs (chk sc nm tl hi))))).m
  | .dict3 k1 k2 k3 v1 v2 v3 i => fun e => (!(k1 == k2) && (!(k1 == k3) && !(k2 == k3))) && (pSub (eDict.comp (pp (pThree (pSome (pSt k1)) (pSome (pSt k2)) (pSome (pSt k3))) (pP (pThree (pIs (chk sc nm tl v1)) (pIs (chk sc nm tl v2)) (pIs (chk sc nm tl v3)))))) (pUp eName (chk sc nm tl i))).m e
  | .tup2 a b => (pTup (pTwo (pN (chk sc nm tl a)) (pN (chk sc nm tl b)))).m
  | .tup3 a b c => (pTup (pThree (pN (chk sc nm tl a)) (pN (chk sc nm tl b)) (pN (chk sc nm tl c)))).m
  | .lst0 => (pLst pNil).m
  | .lst2 a b => (pLst (pTwo (pN (chk sc nm tl a)) (pN (chk sc nm tl b)))).m
  | .barr0 => fun _ => false
  | .bytesOf _ => fun _ => false
  | .comp i => (pComp nm i).m
  | .told a => tl a
  | .fail => fun _ => true

/-! what a value is -/
noncomputable def Keeps (h h' : Heap) : Prop := ∀ b o, h.get? b = some o → h'.get? b = some o
theorem Keeps.refl (h : Heap) : Keeps h h := fun _ _ e => e
theorem Keeps.trans {h₁ h₂ h₃ : Heap} (x : Keeps h₁ h₂) (y : Keeps h₂ h₃) : Keeps h₁ h₃ := fun b o e => y b o (x b o e)
noncomputable def RelA : Value → A → Prop
  | v, .none => v = .none
  | v, .bool b => v = .bool b
  | v, .int i => ∃ t, v = .int i t
  | v, .str l => ∃ t, v = .str (mkS l) t ∧ l.length ≤ 1000
  | v, .bytes l => ∃ t, v = .bytes (l.map UInt8.ofNat).toArray t ∧ l.length ≤ 1000 ∧ (l.all fun c => Nat.blt c 256) = true
noncomputable def RelAs : List Value → List A → Prop
  | [], [] => True
  | v :: vs, a :: as => RelA v a ∧ RelAs vs as
  | _, _ => False
noncomputable def IsBarr (h : Heap) (a : Addr) (l : List Nat) : Prop := ∃ o, h.get? a = some o ∧ o.cls = .type "bytearray" ∧ o = { cls := .type "bytearray", data := .bytearray (l.map UInt8.ofNat).toArray } ∧ o.data = .bytearray (l.map UInt8.ofNat).toArray 0
noncomputable def Rel (S : Addr → Prop) (h : Heap) : Value → V → Prop
  | _, .undef => False
  | v, .at a => RelA v a
  | v, .tup l => ∃ a vs, v = .ref a ∧ S a ∧ IsTup h a vs.toArray ∧ RelAs vs l
  | v, .lst l => ∃ a vs, v = .ref a ∧ S a ∧ PlainL h a vs.toArray ∧ RelAs vs l ∧ l.length ≤ 1000
  | v, .lz l => ∃ a vs, v = .ref a ∧ S a ∧ h.IsList a vs.toArray ∧ RelAs vs l ∧ l.length ≤ 1000
  | v, .barr l => ∃ a, v = .ref a ∧ S a ∧ IsBarr h a l ∧ l.length ≤ 1000 ∧ (l.all fun c => Nat.blt c 256) = true
noncomputable def RelL (S : Addr → Prop) (h : Heap) : List Value → List V → Prop
  | [], [] => True
  | v :: vs, x :: xs => Rel S h v x ∧ RelL S h vs xs
  | _, _ => False
theorem Rel.keeps {S : Addr → Prop} {h h' : Heap} {v : Value} {x : V} (k : Keeps h h') (r : Rel S h v x) : Rel S h' v x := by
  cases x with
  | undef => exact r
  | «at» a => exact r
  | tup l => obtain ⟨a, vs, rfl, s, i, r⟩ := r; exact ⟨a, vs, rfl, s, i.keeps k, r⟩
  | lst l => obtain ⟨a, vs, rfl, s, i, r⟩ := r; exact ⟨a, vs, rfl, s, i.keeps k, r⟩
  | lz l => obtain ⟨a, vs, rfl, s, ⟨o, ho, i⟩, r⟩ := r; exact ⟨a, vs, rfl, s, ⟨o, k _ _ ho, i⟩, r⟩
  | barr l => obtain ⟨a, rfl, s, ⟨o, ho, i⟩, r⟩ := r; exact ⟨a, rfl, s, ⟨o, k _ _ ho, i⟩, r⟩

/-! the setting of an expression -/
structure Cx where
  prog : Program
  w : World
  A : Around
  env : Env
  nm : List Str
  S : Addr → Prop
  Go : Heap → Heap → Prop
  St : Heap → List V → Prop
  Rs : Addr → Heap → Prop
  Φ : Nat → List V → Res V
  addr : Nat → Addr
  gens : Array GenState
  d : Drawn
  os : OsState
noncomputable abbrev Cx.M (C : Cx) : Model := model C.prog C.w
noncomputable abbrev Cx.mk' (C : Cx) (h : Heap) (tk : Nat) : Shared := ⟨h, C.gens, C.d, tk, C.os⟩

noncomputable def Post (C : Cx) (r : Res V) (Q : Value → Shared → Prop) (E : Value → Shared → Prop) (h : Heap) : Prop := match r with
  | .ok x => ∀ v h' tk, C.Go h h' → Rel C.S h' v x → Q v (C.mk' h' tk)
  | .raise => ∀ e h' tk, C.Rs e h' → E (.ref e) (C.mk' h' tk)
  | .fail => False
noncomputable def PostB (C : Cx) (r : Res Bool) (Q : Bool → Shared → Prop) (E : Value → Shared → Prop) (h : Heap) : Prop := match r with
  | .ok x => ∀ h' tk, C.Go h h' → Q x (C.mk' h' tk)
  | .raise => ∀ e h' tk, C.Rs e h' → E (.ref e) (C.mk' h' tk)
  | .fail => False

structure Cx.Ok (C : Cx) : Prop where
  handled : C.A.handled = none
  units : C.A.units + 16 < cLine
  depth : C.A.depth + 16 < recursionLimit
  keeps : ∀ {h h'}, Keeps h h' → C.Go h h'
  trans : ∀ {h₁ h₂ h₃}, C.Go h₁ h₂ → C.Go h₂ h₃ → C.Go h₁ h₃
  st : ∀ {h h' ρ}, C.Go h h' → C.St h ρ → C.St h' ρ
  own : ∀ {h h' a o}, C.Go h h' → C.S a → h.get? a = some o → h'.get? a = some o
  fill : ∀ {h h₁ h₂ a}, C.Go h h₁ → h.get? a = none → Heap.SameBut a h₁ h₂ → C.Go h h₂
  newS : ∀ {h ρ a}, C.St h ρ → h.get? a = none → C.S a
  loc : ∀ {h ρ i x y}, C.St h ρ → lkV ρ i = y → y ≠ .undef → lkF C.nm i = some x → !(x == ("__debug__" : Str)) →
    ∃ v, Rel C.S h v y ∧ ∀ pos Q E tk, Q v (C.mk' h tk) → wpAny C.M C.A (eval (.Name x pos) C.env) Q E (C.mk' h tk)
  glob : ∀ {h ρ j x}, C.St h ρ → lkF gnames j = some x → glo C.env.scope x = true →
    ∃ v, RelA v (globA j) ∧ ∀ pos Q E tk, Q v (C.mk' h tk) → wpAny C.M C.A (eval (.Name x pos) C.env) Q E (C.mk' h tk)
  fn : ∀ {h ρ f x}, C.St h ρ → lkF fnames f = some x → glo C.env.scope x = true →
    (∃ o fd, h.get? (C.addr f) = some o ∧ o.data = .func fd) ∧ ∀ pos Q E tk, Q (.ref (C.addr f)) (C.mk' h tk) → wpAny C.M C.A (eval (.Name x pos) C.env) Q E (C.mk' h tk)
  bi : ∀ {h ρ x v}, C.St h ρ → bootBuiltins x = some v → glo C.env.scope x = true → x ∈ (["len", "isinstance", "abs", "max", "min", "int", "str", "bytes", "bool", "ord", "chr", "bytearray", "range"] : List Str) →
    ∀ pos Q E tk, Q v (C.mk' h tk) → wpAny C.M C.A (eval (.Name x pos) C.env) Q E (C.mk' h tk)
  call : ∀ {h ρ f vs xs Q E tk}, C.St h ρ → RelL C.S h vs xs → Post C (C.Φ f xs) Q E h → wpAny C.M C.A (call (.ref (C.addr f)) vs) Q E (C.mk' h tk)

theorem Rel.own {S : Addr → Prop} {h h' : Heap} {v : Value} {x : V} (k : ∀ b o, S b → h.get? b = some o → h'.get? b = some o) (r : Rel S h v x) : Rel S h' v x := by
  cases x with
  | undef => exact r
  | «at» a => exact r
  | tup l => obtain ⟨a, vs, rfl, s, ⟨o, ho, i⟩, r⟩ := r; exact ⟨a, vs, rfl, s, ⟨o, k _ _ s ho, i⟩, r⟩
  | lst l => obtain ⟨a, vs, rfl, s, ⟨o, n, ho, i⟩, r⟩ := r; exact ⟨a, vs, rfl, s, ⟨o, n, k _ _ s ho, i⟩, r⟩
  | lz l => obtain ⟨a, vs, rfl, s, ⟨o, ho, i⟩, r⟩ := r; exact ⟨a, vs, rfl, s, ⟨o, k _ _ s ho, i⟩, r⟩
  | barr l => obtain ⟨a, rfl, s, ⟨o, ho, i⟩, r⟩ := r; exact ⟨a, rfl, s, ⟨o, k _ _ s ho, i⟩, r⟩
theorem get_size (h : Heap) : h.get? h.objs.size = none := by
  cases e : h.get? h.objs.size with
  | none => rfl
  | some o => exact absurd (Heap.lt_size e) (Nat.lt_irrefl _)
theorem Cx.Ok.fresh {C : Cx} (K : C.Ok) {h : Heap} {ρ : List V} (st : C.St h ρ) : C.S h.objs.size := K.newS st (get_size h)
theorem Cx.Ok.rel {C : Cx} (K : C.Ok) {h h' : Heap} {v : Value} {x : V} (g : C.Go h h') (r : Rel C.S h v x) : Rel C.S h' v x := r.own fun _ _ s e => K.own g s e

section
variable {C : Cx} {h : Heap} {Q E : Value → Shared → Prop}
theorem Cx.Ok.refl (K : C.Ok) (h : Heap) : C.Go h h := K.keeps (Keeps.refl h)
theorem Post.bind {x : Res V} {f : V → Res V} (H : Post C (x.bind f) Q E h) :
    Post C x (fun v s₁ => ∃ h₁ tk₁ y, s₁ = C.mk' h₁ tk₁ ∧ C.Go h h₁ ∧ Rel C.S h₁ v y ∧ x = .ok y ∧ Post C (f y) Q E h) E h := by
  cases x with
  | ok y => exact fun v h' tk go rel => ⟨h', tk, y, rfl, go, rel, rfl, H⟩
  | raise => exact H
  | fail => exact H
theorem Post.go (K : C.Ok) {r : Res V} {h₁ : Heap} (g : C.Go h h₁) (H : Post C r Q E h) : Post C r Q E h₁ := by
  cases r with
  | ok y => exact fun v h' tk go rel => H v h' tk (K.trans g go) rel
  | raise => exact H
  | fail => exact H
theorem PostB.go (K : C.Ok) {Q : Bool → Shared → Prop} {r : Res Bool} {h₁ : Heap} (g : C.Go h h₁) (H : PostB C r Q E h) : PostB C r Q E h₁ := by
  cases r with
  | ok y => exact fun h' tk go => H h' tk (K.trans g go)
  | raise => exact H
  | fail => exact H
theorem PostB.bind {x : Res V} {f : V → Res Bool} {Q : Bool → Shared → Prop} (H : PostB C (x.bind f) Q E h) :
    Post C x (fun v s₁ => ∃ h₁ tk₁ y, s₁ = C.mk' h₁ tk₁ ∧ C.Go h h₁ ∧ Rel C.S h₁ v y ∧ x = .ok y ∧ PostB C (f y) Q E h) E h := by
  cases x with
  | ok y => exact fun v h' tk go rel => ⟨h', tk, y, rfl, go, rel, rfl, H⟩
  | raise => exact H
  | fail => exact H
theorem Post.bindB {x : Res Bool} {f : Bool → Res V} (H : Post C (x.bind f) Q E h) :
    PostB C x (fun b s₁ => ∃ h₁ tk₁, s₁ = C.mk' h₁ tk₁ ∧ C.Go h h₁ ∧ x = .ok b ∧ Post C (f b) Q E h) E h := by
  cases x with
  | ok y => exact fun h' tk go => ⟨h', tk, rfl, go, rfl, H⟩
  | raise => exact H
  | fail => exact H
theorem PostB.bindB {x : Res Bool} {f : Bool → Res Bool} {Q : Bool → Shared → Prop} (H : PostB C (x.bind f) Q E h) :
    PostB C x (fun b s₁ => ∃ h₁ tk₁, s₁ = C.mk' h₁ tk₁ ∧ C.Go h h₁ ∧ x = .ok b ∧ PostB C (f b) Q E h) E h := by
  cases x with
  | ok y => exact fun h' tk go => ⟨h', tk, rfl, go, rfl, H⟩
  | raise => exact H
  | fail => exact H
end

/-- what it is for an expression to be told by its term -/
noncomputable def ES (C : Cx) (p : PE) (e : Expr) : Prop := ∀ ρ h tk Q E, C.St h ρ → Post C (evalE C.Φ p ρ) Q E h → wpAny C.M C.A (eval e C.env) Q E (C.mk' h tk)
noncomputable def TS (C : Cx) (p : PE) (e : Expr) : Prop := ∀ ρ h tk Q E, C.St h ρ → PostB C ((evalE C.Φ p ρ).bind truthy) Q E h → wpAny C.M C.A (isTrue e C.env (eval e C.env)) Q E (C.mk' h tk)
end Mine
end

section
set_option maxRecDepth 100000
set_option linter.unusedVariables false
set_option genSizeOf false
set_option genInjectivity false
open PySem PySem.W PyProof.Rows
namespace Mine

theorem relA_none {v : Value} {a : A} (r : RelA v a) : (v == Value.none) = noneV (.at a) := by
  cases a with
  | none => cases r; rfl
  | bool b => cases r; rfl
  | int i => obtain ⟨t, rfl⟩ := r; rfl
  | str l => obtain ⟨t, rfl, _⟩ := r; rfl
  | bytes l => obtain ⟨t, rfl, _⟩ := r; rfl
theorem rel_none {S : Addr → Prop} {h : Heap} {v : Value} {x : V} (r : Rel S h v x) : (v == Value.none) = noneV x := by
  cases x with
  | undef => exact r.elim
  | «at» a => exact relA_none r
  | tup l => obtain ⟨a, vs, rfl, _⟩ := r; rfl
  | lst l => obtain ⟨a, vs, rfl, _⟩ := r; rfl
  | lz l => obtain ⟨a, vs, rfl, _⟩ := r; rfl
  | barr l => obtain ⟨a, rfl, _⟩ := r; rfl

section
variable {C : Cx} {h : Heap} {tk : Nat} {Q E : Value → Shared → Prop} {v w : Value} {x y : V}

theorem wp_truthy (K : C.Ok) {Q : Bool → Shared → Prop} (r : Rel C.S h v x) (H : PostB C (truthy x) Q E h) : wpAny C.M C.A (PySem.truthy v) Q E (C.mk' h tk) := by
  cases x with
  | «at» a => cases a with
    | none => cases r; exact PyProof.Rows.truthy_none (H h tk (K.refl h))
    | bool b => cases r; exact wpAny_truthy_bool (H h tk (K.refl h))
    | int i => obtain ⟨t, rfl⟩ := r; exact PyProof.Rows.truthy_int (H h tk (K.refl h))
    | str l => exact H.elim
    | bytes l => exact H.elim
  | _ => exact H.elim

theorem w64_lt {a : Int} (h : w64 a = true) : a.natAbs < 2 ^ 64 := by
  unfold w64 at h
  exact Nat.lt_of_lt_of_le (Nat.le_of_ble_eq_true h) (by decide)
theorem small_le {b : Int} (h : small b = true) : 0 ≤ b ∧ b ≤ 1000000 := by
  cases b with
  | ofNat n => have := Nat.le_of_ble_eq_true h; exact ⟨Int.natCast_nonneg n, by show (n : Int) ≤ 1000000; omega⟩
  | negSucc n => cases h
theorem nonneg_le {b : Int} (h : nonneg b = true) : 0 ≤ b := by
  cases b with
  | ofNat n => exact Int.natCast_nonneg n
  | negSucc n => cases h
theorem isZero_ne {b : Int} (h : (!isZero b) = true) : b ≠ 0 := by
  intro e
  subst e
  cases h
theorem wBig_log {b : Int} (h : wBig b = true) : b.natAbs.log2 < 9000 := by
  unfold wBig at h
  have h' : b.natAbs < 2 ^ 9000 := Nat.lt_of_lt_of_le (Nat.le_of_ble_eq_true h) (by decide +kernel)
  by_cases z : b.natAbs = 0
  · rw [z]; decide +kernel
  · exact (Nat.log2_lt z).mpr h'

theorem wp_binI (K : C.Ok) {op : BOp} {a b : Int} {t u : Tok} (H : Post C (binI op a b) Q E h) : wpAny C.M C.A (binaryOp (opOf op) (.int a t) (.int b u)) Q E (C.mk' h tk) := by
  have fin : ∀ {i : Int}, Post C (okI i) Q E h → Q (.int i tk) (C.mk' h (tk + 1)) := fun H => H _ h (tk + 1) (K.refl h) ⟨_, rfl⟩
  cases op with
  | add => exact PyProof.Rows.add_int (fin H)
  | sub => exact PyProof.Rows.sub_int (fin H)
  | mul =>
    dsimp only [binI] at H
    split at H
    · rename_i e
      refine PyProof.Rows.mul_int (fin H) ?_
      rcases Bool.or_eq_true_iff.mp e with e | e
      · exact IntMulOk.of_left (intBits_le (w64_lt e))
      · exact IntMulOk.of_right (intBits_le (w64_lt e))
    · exact H.elim
  | fdiv =>
    dsimp only [binI] at H
    split at H
    · rename_i e
      obtain ⟨e1, e2⟩ := Bool.and_eq_true_iff.mp e
      exact PyProof.Rows.floordiv_int (isZero_ne e1) (fin H) (Or.inl (PyProof.noPylong_of_log2 (wBig_log e2)))
    · exact H.elim
  | mod =>
    dsimp only [binI] at H
    split at H
    · rename_i e
      obtain ⟨e1, e2⟩ := Bool.and_eq_true_iff.mp e
      exact PyProof.Rows.mod_int' (isZero_ne e1) (fin H)
    · exact H.elim
  | pow =>
    dsimp only [binI] at H
    split at H
    · rename_i e
      obtain ⟨e1, e2⟩ := Bool.and_eq_true_iff.mp e
      exact PyProof.Rows.pow_int_small (small_le e2).1 (small_le e2).2 (w64_lt e1) (fin H)
    · exact H.elim
  | shl =>
    dsimp only [binI] at H
    split at H
    · rename_i e
      obtain ⟨e1, e2⟩ := Bool.and_eq_true_iff.mp e
      exact PyProof.Rows.lshift_int_small (small_le e2).1 (small_le e2).2 (w64_lt e1) (fin H)
    · exact H.elim
  | shr =>
    dsimp only [binI] at H
    split at H
    · rename_i e
      exact PyProof.Rows.rshift_int (nonneg_le e) (fin H)
    · exact H.elim
  | band => exact PyProof.Rows.and_int (fin H)
  | bor => exact PyProof.Rows.or_int (fin H)

theorem mkS_append (a b : List Nat) : mkS a ++ mkS b = mkS (a ++ b) := by
  show Str.mk (a.toArray ++ b.toArray) = Str.mk (a ++ b).toArray
  simp
theorem mkS_length (a : List Nat) : (mkS a).length = a.length := by
  show a.toArray.size = a.length
  simp
theorem le_line {n : Nat} (h : n ≤ 1000) : n ≤ sizeLine := Nat.le_trans h (by decide)

theorem wp_binV (K : C.Ok) {op : BOp} (rv : Rel C.S h v x) (rw : Rel C.S h w y) (H : Post C (binV op x y) Q E h) : wpAny C.M C.A (binaryOp (opOf op) v w) Q E (C.mk' h tk) := by
  unfold binV at H
  split at H
  · obtain ⟨t, rfl⟩ := rv
    obtain ⟨u, rfl⟩ := rw
    exact wp_binI K H
  · obtain ⟨t, rfl, ht⟩ := rv
    obtain ⟨u, rfl, hu⟩ := rw
    split at H
    · split at H
      · rename_i e
        have hl := Nat.le_of_ble_eq_true e
        refine PyProof.Rows.add_str (fun t' tk' => ?_) (by rw [mkS_length, mkS_length]; exact le_line hl)
        rw [mkS_append]
        exact H _ h tk' (K.refl h) ⟨t', rfl, by rw [List.length_append]; exact hl⟩
      · exact H.elim
    · exact H.elim
  · exact H.elim

theorem mkS_eq (a b : List Nat) : (mkS a == mkS b) = (a == b) := by
  by_cases e : a = b
  · subst e; simp
  · have : mkS a ≠ mkS b := fun q => e (by
      have := congrArg (fun z : Str => z.cps.toList) q
      simpa [mkS] using this)
    rw [beq_false_of_ne e, beq_false_of_ne this]
theorem u8_inj {a b : Nat} (ha : a < 256) (hb : b < 256) (e : UInt8.ofNat a = UInt8.ofNat b) : a = b := by
  have := congrArg UInt8.toNat e
  simpa [UInt8.toNat_ofNat', Nat.mod_eq_of_lt ha, Nat.mod_eq_of_lt hb] using this

theorem wp_cmpI (K : C.Ok) {Q : Bool → Shared → Prop} {op : COp} {a b : Int} {t u : Tok} (H : Q (cmpI op a b) (C.mk' h tk)) :
    wpAny C.M C.A (compareOp (cmpOf op) (.int a t) (.int b u)) (fun v s => ∃ c, v = .bool c ∧ Q c s) E (C.mk' h tk) := by
  cases op with
  | lt => exact PyProof.Rows.lt_int ⟨_, rfl, H⟩
  | le => exact PyProof.Rows.le_int ⟨_, rfl, H⟩
  | gt => exact PyProof.Rows.gt_int ⟨_, rfl, H⟩
  | ge => exact PyProof.Rows.ge_int ⟨_, rfl, H⟩
  | eq => exact PyProof.Rows.eq_int ⟨_, rfl, H⟩
  | ne => exact PyProof.Rows.ne_int ⟨_, rfl, H⟩

theorem bytes_eq {l l' : List Nat} (h : (l.all fun c => Nat.blt c 256) = true) (h' : (l'.all fun c => Nat.blt c 256) = true) :
    (l.map UInt8.ofNat == l'.map UInt8.ofNat) = (l == l') := by
  by_cases e : l = l'
  · subst e; simp
  · rw [beq_false_of_ne e]
    refine beq_false_of_ne fun q => e ?_
    clear e
    induction l generalizing l' with
    | nil => cases l' with
      | nil => rfl
      | cons c r => cases q
    | cons b r ih => cases l' with
      | nil => cases q
      | cons c r' =>
        simp only [List.all_cons, Bool.and_eq_true] at h h'
        simp only [List.map_cons, List.cons.injEq] at q
        rw [u8_inj (Nat.le_of_ble_eq_true h.1) (Nat.le_of_ble_eq_true h'.1) q.1, ih h.2 h'.2 q.2]
theorem wp_cmpV (K : C.Ok) {Q : Bool → Shared → Prop} {op : COp} (rv : Rel C.S h v x) (rw : Rel C.S h w y) (H : PostB C (cmpV op x y) Q E h) :
    wpAny C.M C.A (compareOp (cmpOf op) v w) (fun v s => ∃ c, v = .bool c ∧ Q c s) E (C.mk' h tk) := by
  dsimp only [cmpV] at H
  split at H
  · obtain ⟨t, rfl⟩ := rv
    obtain ⟨u, rfl⟩ := rw
    exact wp_cmpI K (H h tk (K.refl h))
  · cases rv
    cases rw
    split at H
    · exact PyProof.Rows.eq_bool ⟨_, rfl, H h tk (K.refl h)⟩
    · exact PyProof.Rows.ne_bool ⟨_, rfl, H h tk (K.refl h)⟩
    · exact H.elim
  · obtain ⟨t, rfl, ht⟩ := rv
    obtain ⟨u, rfl, hu⟩ := rw
    split at H
    · refine PyProof.Rows.eq_str ⟨_, rfl, ?_⟩
      rw [mkS_eq]
      exact H h tk (K.refl h)
    · refine PyProof.Rows.ne_str ⟨_, rfl, ?_⟩
      rw [show (mkS _ != mkS _) = !(mkS _ == mkS _) from rfl, mkS_eq]
      exact H h tk (K.refl h)
    · exact H.elim
  · obtain ⟨t, rfl, ht⟩ := rv
    obtain ⟨u, rfl, hu⟩ := rw
    split at H
    · refine eq_bytes ⟨_, rfl, ?_⟩
      dsimp only
      rw [bytes_eq ht.2 hu.2]
      exact H h tk (K.refl h)
    · exact H.elim
  · exact H.elim
end
end Mine
end

section
set_option maxRecDepth 100000
set_option linter.unusedVariables false
set_option genSizeOf false
set_option genInjectivity false
open PySem PySem.W PyProof.Rows
namespace Mine

theorem Res.assoc {α β γ : Type} (x : Res α) (f : α → Res β) (g : β → Res γ) : (x.bind f).bind g = x.bind fun a => (f a).bind g := by cases x <;> rfl
theorem Res.bool (x : Res Bool) : ((x.bind okB).bind truthy) = x := by cases x <;> rfl
theorem Res.boolK {α : Type} (x : Res α) (f : α → Res Bool) : (x.bind fun a => ((f a).bind okB).bind truthy) = x.bind f := by
  cases x with
  | ok a => exact Res.bool (f a)
  | _ => rfl
theorem Res.okT (x : Res Bool) : (x.bind fun a => (okB a).bind truthy) = x := by cases x <;> rfl
theorem behind_op {op : CmpOp} (r : Expr) (h1 : op ≠ .In) (h2 : op ≠ .NotIn) : behindInMarks op r = false := by
  cases r <;> try rfl
  unfold behindInMarks
  cases op <;> simp_all
theorem behind_set {op : CmpOp} {r : Expr} (h : notSet r = true) : behindInMarks op r = false := by
  cases r <;> first | rfl | cases h
theorem cmpOf_ne (op : COp) : cmpOf op ≠ .In ∧ cmpOf op ≠ .NotIn := by cases op <;> exact ⟨by decide, by decide⟩

section
variable {C : Cx} {h : Heap} {tk : Nat} {Q E : Value → Shared → Prop}
theorem Post.ok_bool {r : Res Bool} (H : Post C (r.bind okB) Q E h) : PostB C r (fun c s => Q (.bool c) s) E h := by
  cases r with
  | ok b => exact fun h' tk g => H (.bool b) h' tk g rfl
  | raise => exact H
  | fail => exact H

theorem es_const (K : C.Ok) {a : A} {c : Const} {k : Nat} {pos : Pos} (e : constIs a c = true) : ES C (.const a) (.Constant c k pos) := by
  intro ρ h tk Q E st H
  have H : Post C (.ok (.at a)) Q E h := H
  cases a with
  | none => obtain ⟨d, rfl⟩ := Pat.of (P := kNone) e; exact Constant_none (H _ h tk (K.refl h) rfl)
  | bool b => obtain ⟨d, rfl⟩ := Pat.of (P := kBool.comp (pEq (α := Bool) b : Pat Bool)) e; exact Constant_bool (H _ h tk (K.refl h) rfl)
  | int i => obtain ⟨d, rfl⟩ := Pat.of (P := kInt.comp (pEq (α := Int) i : Pat Int)) e; exact wpAny_Constant_int (H _ h (tk + 1) (K.refl h) ⟨_, rfl⟩)
  | str l =>
    obtain ⟨d, rfl⟩ := Pat.of (P := kStr.comp (pIs fun s => strIs s l && Nat.ble l.length 1000)) e
    exact Calls.Constant_str (H _ h (tk + 1) (K.refl h) ⟨tk, congrArg (Value.str · tk) (strIs_eq (andL d.2)), Nat.le_of_ble_eq_true (andR d.2)⟩)
  | bytes l =>
    obtain ⟨d, rfl⟩ := Pat.of (P := kBytes.comp (pIs fun b : List UInt8 => (b == l.map UInt8.ofNat && Nat.ble l.length 1000) && l.all fun c => Nat.blt c 256)) e
    exact Constant_bytes (H _ h (tk + 1) (K.refl h) ⟨tk, congrArg (fun b : List UInt8 => Value.bytes b.toArray tk) (eq_of_beq (andL (andL d.2))), Nat.le_of_ble_eq_true (andR (andL d.2)), andR d.2⟩)

theorem es_loc (K : C.Ok) {i : Nat} {x : Str} {pos : Pos} (e : nth C.nm i x = true) (hd : !(x == ("__debug__" : Str))) : ES C (.loc i) (.Name x pos) := by
  intro ρ h tk Q E st H
  have H : Post C (match lkV ρ i with | .undef => .fail | v => .ok v) Q E h := H
  cases q : lkV ρ i with
  | undef => rw [q] at H; exact H.elim
  | _ =>
    rw [q] at H
    obtain ⟨v, r, k⟩ := K.loc st q (by intro z; cases z) (nth_eq e) hd
    exact k pos Q E tk (H v h tk (K.refl h) r)
theorem es_glob (K : C.Ok) {j : Nat} {x : Str} {pos : Pos} (e : nth gnames j x = true) (g : glo C.env.scope x = true) : ES C (.glob j) (.Name x pos) := by
  intro ρ h tk Q E st H
  have H : Post C (.ok (.at (globA j))) Q E h := H
  obtain ⟨v, r, k⟩ := K.glob st (nth_eq e) g
  exact k pos Q E tk (H v h tk (K.refl h) r)

theorem es_not (K : C.Ok) {a : PE} {x : Expr} {pos : Pos} (iha : ES C a x) : ES C (.not a) (.UnaryOp .Not x pos) := by
  intro ρ h tk Q E st H
  have H : Post C ((evalE C.Φ a ρ).bind fun v => (truthy v).bind fun b => okB (!b)) Q E h := H
  refine UnaryOp_ (wpAny_mono (iha ρ h tk _ E st H.bind) ?_ fun _ _ e => e)
  rintro v s₁ ⟨h₁, tk₁, y, rfl, g₁, r₁, e₁, H₁⟩
  refine not_of (wp_truthy K r₁ ?_)
  have H₁ := H₁.go K g₁
  cases q : truthy y with
  | ok b => rw [q] at H₁; exact fun h' tk g => H₁ _ h' tk g rfl
  | raise => rw [q] at H₁; exact H₁
  | fail => rw [q] at H₁; exact H₁
theorem es_neg (K : C.Ok) {a : PE} {x : Expr} {pos : Pos} (iha : ES C a x) : ES C (.neg a) (.UnaryOp .USub x pos) := by
  intro ρ h tk Q E st H
  have H : Post C ((evalE C.Φ a ρ).bind fun v => match v with | .at (.int i) => okI (-i) | _ => .fail) Q E h := H
  refine UnaryOp_ (wpAny_mono (iha ρ h tk _ E st H.bind) ?_ fun _ _ e => e)
  rintro v s₁ ⟨h₁, tk₁, y, rfl, g₁, r₁, e₁, H₁⟩
  have H₁ := H₁.go K g₁
  split at H₁
  · obtain ⟨t, rfl⟩ := r₁
    exact neg_int (H₁ _ h₁ (tk₁ + 1) (K.refl _) ⟨_, rfl⟩)
  · exact H₁.elim

theorem es_and (K : C.Ok) {a b : PE} {x y : Expr} {r : List Expr} {pos : Pos} (iha : ES C a x) (ihb : ES C b (match r with | [] => y | _ :: _ => .BoolOp .And (y :: r) pos)) :
    ES C (.and a b) (.BoolOp .And (x :: y :: r) pos) := by
  intro ρ h tk Q E st H
  have H : Post C ((evalE C.Φ a ρ).bind fun v => (truthy v).bind fun t => match t with | true => evalE C.Φ b ρ | false => .ok v) Q E h := H
  refine BoolOp_and (wpAny_mono (iha ρ h tk _ E st H.bind) ?_ fun _ _ e => e)
  rintro v s₁ ⟨h₁, tk₁, z, rfl, g₁, r₁, e₁, H₁⟩
  refine wp_truthy K r₁ ?_
  have H₁ := H₁.go K g₁
  cases q : truthy z with
  | ok t =>
    rw [q] at H₁
    intro h₂ tk₂ g₂
    cases t with
    | true =>
      have H₂ : Post C (evalE C.Φ b ρ) Q E h₂ := Post.go K g₂ H₁
      have st₂ := K.st g₂ (K.st g₁ st)
      cases r with
      | nil => exact BoolOp_one (ihb ρ h₂ tk₂ Q E st₂ H₂)
      | cons => exact ihb ρ h₂ tk₂ Q E st₂ H₂
    | false => exact H₁ v h₂ tk₂ g₂ (K.rel g₂ r₁)
  | raise => rw [q] at H₁; exact H₁
  | fail => rw [q] at H₁; exact H₁
theorem es_or (K : C.Ok) {a b : PE} {x y : Expr} {r : List Expr} {pos : Pos} (iha : ES C a x) (ihb : ES C b (match r with | [] => y | _ :: _ => .BoolOp .Or (y :: r) pos)) :
    ES C (.or a b) (.BoolOp .Or (x :: y :: r) pos) := by
  intro ρ h tk Q E st H
  have H : Post C ((evalE C.Φ a ρ).bind fun v => (truthy v).bind fun t => match t with | true => .ok v | false => evalE C.Φ b ρ) Q E h := H
  refine BoolOp_or (wpAny_mono (iha ρ h tk _ E st H.bind) ?_ fun _ _ e => e)
  rintro v s₁ ⟨h₁, tk₁, z, rfl, g₁, r₁, e₁, H₁⟩
  refine wp_truthy K r₁ ?_
  have H₁ := H₁.go K g₁
  cases q : truthy z with
  | ok t =>
    rw [q] at H₁
    intro h₂ tk₂ g₂
    cases t with
    | true => exact H₁ v h₂ tk₂ g₂ (K.rel g₂ r₁)
    | false =>
      have H₂ : Post C (evalE C.Φ b ρ) Q E h₂ := Post.go K g₂ H₁
      have st₂ := K.st g₂ (K.st g₁ st)
      cases r with
      | nil => exact BoolOp_one (ihb ρ h₂ tk₂ Q E st₂ H₂)
      | cons => exact ihb ρ h₂ tk₂ Q E st₂ H₂
  | raise => rw [q] at H₁; exact H₁
  | fail => rw [q] at H₁; exact H₁

theorem es_bin (K : C.Ok) {op : BOp} {a b : PE} {x y : Expr} {pos : Pos} (iha : ES C a x) (ihb : ES C b y) : ES C (.bin op a b) (.BinOp x (opOf op) y pos) := by
  intro ρ h tk Q E st H
  have H : Post C ((evalE C.Φ a ρ).bind fun v => (evalE C.Φ b ρ).bind fun w => binV op v w) Q E h := H
  refine wpAny_BinOp (wpAny_mono (iha ρ h tk _ E st H.bind) ?_ fun _ _ e => e)
  rintro v s₁ ⟨h₁, tk₁, z, rfl, g₁, r₁, e₁, H₁⟩
  refine wpAny_mono (ihb ρ h₁ tk₁ _ E (K.st g₁ st) (H₁.go K g₁).bind) ?_ fun _ _ e => e
  rintro w s₂ ⟨h₂, tk₂, u, rfl, g₂, r₂, e₂, H₂⟩
  exact wp_binV K (K.rel g₂ r₁) r₂ (H₂.go K g₂)

theorem es_cmp (K : C.Ok) {op : COp} {a b : PE} {x y : Expr} {pos : Pos} (iha : ES C a x) (ihb : ES C b y) : ES C (.cmp op a b) (.Compare x [cmpOf op] [y] pos) := by
  intro ρ h tk Q E st H
  have H : Post C ((evalE C.Φ a ρ).bind fun v => (evalE C.Φ b ρ).bind fun w => (cmpV op v w).bind okB) Q E h := H
  refine wpAny_Compare1 (wpAny_mono (iha ρ h tk _ E st H.bind) ?_ fun _ _ e => e) (behind_op _ (cmpOf_ne op).1 (cmpOf_ne op).2)
  rintro v s₁ ⟨h₁, tk₁, z, rfl, g₁, r₁, e₁, H₁⟩
  refine wpAny_mono (ihb ρ h₁ tk₁ _ E (K.st g₁ st) (H₁.go K g₁).bind) ?_ fun _ _ e => e
  rintro w s₂ ⟨h₂, tk₂, u, rfl, g₂, r₂, e₂, H₂⟩
  exact wpAny_mono (wp_cmpV K (K.rel g₂ r₁) r₂ (H₂.go K g₂).ok_bool) (fun _ _ ⟨c, e, q⟩ => e ▸ q) fun _ _ e => e
theorem ts_cmp (K : C.Ok) {op : COp} {a b : PE} {x y : Expr} {pos : Pos} (iha : ES C a x) (ihb : ES C b y) : TS C (.cmp op a b) (.Compare x [cmpOf op] [y] pos) := by
  intro ρ h tk Q E st H
  have H : PostB C (((evalE C.Φ a ρ).bind fun v => (evalE C.Φ b ρ).bind fun w => (cmpV op v w).bind okB).bind truthy) Q E h := H
  simp only [Res.assoc _ _ truthy, Res.okT] at H
  refine wpAny_isTrue_Compare1 (wpAny_mono (iha ρ h tk _ E st H.bind) ?_ fun _ _ e => e) (behind_op _ (cmpOf_ne op).1 (cmpOf_ne op).2)
  rintro v s₁ ⟨h₁, tk₁, z, rfl, g₁, r₁, e₁, H₁⟩
  refine wpAny_mono (ihb ρ h₁ tk₁ _ E (K.st g₁ st) (H₁.go K g₁).bind) ?_ fun _ _ e => e
  rintro w s₂ ⟨h₂, tk₂, u, rfl, g₂, r₂, e₂, H₂⟩
  exact wpAny_mono (wp_cmpV K (K.rel g₂ r₁) r₂ (H₂.go K g₂)) (fun _ _ ⟨c, e, q⟩ => e ▸ wpAny_truthy_bool q) fun _ _ e => e

theorem es_chain (K : C.Ok) {o1 o2 : COp} {a b c : PE} {x y z : Expr} {pos : Pos} (iha : ES C a x) (ihb : ES C b y) (ihc : ES C c z) :
    ES C (.chain o1 o2 a b c) (.Compare x [cmpOf o1, cmpOf o2] [y, z] pos) := by
  intro ρ h tk Q E st H
  have H : Post C ((evalE C.Φ a ρ).bind fun v => (evalE C.Φ b ρ).bind fun w => (cmpV o1 v w).bind fun t => match t with
    | true => (evalE C.Φ c ρ).bind fun x => (cmpV o2 w x).bind okB
    | false => okB false) Q E h := H
  refine Compare_chain (wpAny_mono (iha ρ h tk _ E st H.bind) ?_ fun _ _ e => e) (behind_op _ (cmpOf_ne o2).1 (cmpOf_ne o2).2)
  rintro v s₁ ⟨h₁, tk₁, p, rfl, g₁, r₁, e₁, H₁⟩
  refine chain_link (wpAny_mono (ihb ρ h₁ tk₁ _ E (K.st g₁ st) (H₁.go K g₁).bind) ?_ fun _ _ e => e)
  rintro w s₂ ⟨h₂, tk₂, u, rfl, g₂, r₂, e₂, H₂⟩
  refine wpAny_mono (wp_cmpV K (K.rel g₂ r₁) r₂ (H₂.go K g₂).bindB) ?_ fun _ _ e => e
  rintro c' s₃ ⟨t, rfl, h₃, tk₃, rfl, g₃, e₃, H₃⟩
  refine wpAny_truthy_bool ?_
  have st₃ := K.st g₃ (K.st g₂ (K.st g₁ st))
  cases t with
  | false => exact H₃ _ h₃ tk₃ g₃ rfl
  | true =>
    refine chain_last (wpAny_mono (ihc ρ h₃ tk₃ _ E st₃ (Post.go K g₃ H₃).bind) ?_ fun _ _ e => e)
    rintro w' s₄ ⟨h₄, tk₄, u', rfl, g₄, r₄, e₄, H₄⟩
    exact wpAny_mono (wp_cmpV K (K.rel g₄ (K.rel g₃ r₂)) r₄ (H₄.go K g₄).ok_bool) (fun _ _ ⟨c, e, q⟩ => e ▸ q) fun _ _ e => e
theorem testChain_link {M : Model} {A : Around} {s : Shared} {pos : Pos} {a : Value} {op op' : CmpOp} {ops : List CmpOp} {r r' : Sem Value} {rs : List (Sem Value)} {Q : Bool → Shared → Prop}
    (h : wpAny M A r (fun b s₁ => wpAny M A (compareOp op a b) (fun c s₂ => wpAny M A (PySem.truthy c)
      (fun t s₃ => if t then wpAny M A (testChain pos b (op' :: ops) (r' :: rs)) Q E s₃ else Q false s₃) E s₂) E s₁) E s) :
    wpAny M A (testChain pos a (op :: op' :: ops) (r :: r' :: rs)) Q E s := by
  show wpAny M A (do
    let rv ← holding [a] r
    standAt pos
    let c ← holding [a, rv] (compareOp op a rv)
    release [a, rv] [c]
    if ← holding [c, rv] (PySem.truthy c) then testChain pos rv (op' :: ops) (r' :: rs) else pure false) Q E s
  refine wpAny_bind (wpAny_holding (wpAny_mono h (fun b s₁ h₁ => wpAny_bind (wpAny_standAt (wpAny_bind (wpAny_holding (wpAny_mono h₁ (fun c s₂ h₂ =>
    wpAny_bind (wpAny_release' (wpAny_bind (wpAny_holding (wpAny_mono h₂ (fun t s₃ h₃ => ?_) fun _ _ x => x))))) fun _ _ x => x))))) fun _ _ x => x))
  cases t with
  | false => exact wpAny_pure h₃
  | true => exact h₃
theorem testChain_last {M : Model} {A : Around} {s : Shared} {pos : Pos} {a : Value} {op : CmpOp} {r : Sem Value} {Q : Bool → Shared → Prop}
    (h : wpAny M A r (fun b s₁ => wpAny M A (compareOp op a b) (fun c s₂ => wpAny M A (PySem.truthy c) Q E s₂) E s₁) E s) : wpAny M A (testChain pos a [op] [r]) Q E s := by
  show wpAny M A (do
    let rv ← holding [a] r
    standAt pos
    let c ← operate [a, rv] (compareOp op a rv)
    holding [c] (PySem.truthy c)) Q E s
  exact wpAny_bind (wpAny_holding (wpAny_mono h (fun b s₁ h₁ => wpAny_bind (wpAny_standAt (wpAny_bind (wpAny_operate' (wpAny_mono h₁ (fun c s₂ h₂ => wpAny_holding h₂) fun _ _ x => x))))) fun _ _ x => x))
theorem ts_chain (K : C.Ok) {o1 o2 : COp} {a b c : PE} {x y z : Expr} {pos : Pos} (iha : ES C a x) (ihb : ES C b y) (ihc : ES C c z) :
    TS C (.chain o1 o2 a b c) (.Compare x [cmpOf o1, cmpOf o2] [y, z] pos) := by
  intro ρ h tk Q E st H
  have H : PostB C ((evalE C.Φ a ρ).bind fun v => (evalE C.Φ b ρ).bind fun w => (cmpV o1 v w).bind fun t => match t with
    | true => (evalE C.Φ c ρ).bind fun x => cmpV o2 w x
    | false => .ok false) Q E h := by
    have H : PostB C (((evalE C.Φ a ρ).bind fun v => (evalE C.Φ b ρ).bind fun w => (cmpV o1 v w).bind fun t => match t with
      | true => (evalE C.Φ c ρ).bind fun x => (cmpV o2 w x).bind okB
      | false => okB false).bind truthy) Q E h := H
    simp only [Res.assoc _ _ truthy] at H
    have e : ∀ (w : V), (fun t => (match t with
      | true => (evalE C.Φ c ρ).bind fun x => (cmpV o2 w x).bind okB
      | false => okB false : Res V).bind truthy) = fun t => match t with
      | true => (evalE C.Φ c ρ).bind fun x => cmpV o2 w x
      | false => .ok false := fun w => by
      funext t
      cases t with
      | false => rfl
      | true => simp only [Res.assoc _ _ truthy, Res.okT]
    simp only [e] at H
    exact H
  refine isTrue_chain (wpAny_mono (iha ρ h tk _ E st H.bind) ?_ fun _ _ e => e) (behind_op _ (cmpOf_ne o2).1 (cmpOf_ne o2).2)
  rintro v s₁ ⟨h₁, tk₁, p, rfl, g₁, r₁, e₁, H₁⟩
  refine testChain_link (wpAny_mono (ihb ρ h₁ tk₁ _ E (K.st g₁ st) (H₁.go K g₁).bind) ?_ fun _ _ e => e)
  rintro w s₂ ⟨h₂, tk₂, u, rfl, g₂, r₂, e₂, H₂⟩
  refine wpAny_mono (wp_cmpV K (K.rel g₂ r₁) r₂ (H₂.go K g₂).bindB) ?_ fun _ _ e => e
  rintro c' s₃ ⟨t, rfl, h₃, tk₃, rfl, g₃, e₃, H₃⟩
  refine wpAny_truthy_bool ?_
  have st₃ := K.st g₃ (K.st g₂ (K.st g₁ st))
  cases t with
  | false => exact H₃ h₃ tk₃ g₃
  | true =>
    refine testChain_last (wpAny_mono (ihc ρ h₃ tk₃ _ E st₃ (PostB.go K g₃ H₃).bind) ?_ fun _ _ e => e)
    rintro w' s₄ ⟨h₄, tk₄, u', rfl, g₄, r₄, e₄, H₄⟩
    exact wpAny_mono (wp_cmpV K (K.rel g₄ (K.rel g₃ r₂)) r₄ (H₄.go K g₄)) (fun _ _ ⟨c, e, q⟩ => e ▸ wpAny_truthy_bool q) fun _ _ e => e

theorem es_ite (K : C.Ok) {t a b : PE} {x y z : Expr} {pos : Pos} (iht : TS C t x) (iha : ES C a y) (ihb : ES C b z) : ES C (.ite t a b) (.IfExp x y z pos) := by
  intro ρ h tk Q E st H
  have H : Post C ((evalE C.Φ t ρ).bind fun v => (truthy v).bind fun c => match c with | true => evalE C.Φ a ρ | false => evalE C.Φ b ρ) Q E h := H
  rw [← Res.assoc] at H
  refine IfExp_ (wpAny_mono (iht ρ h tk _ E st H.bindB) ?_ fun _ _ e => e)
  rintro c s₁ ⟨h₁, tk₁, rfl, g₁, e₁, H₁⟩
  have st₁ := K.st g₁ st
  cases c with
  | true => exact iha ρ h₁ tk₁ Q E st₁ (Post.go K g₁ H₁)
  | false => exact ihb ρ h₁ tk₁ Q E st₁ (Post.go K g₁ H₁)
theorem ts_ite (K : C.Ok) {t a b : PE} {x y z : Expr} {pos : Pos} (iht : TS C t x) (iha : TS C a y) (ihb : TS C b z) : TS C (.ite t a b) (.IfExp x y z pos) := by
  intro ρ h tk Q E st H
  have H : PostB C (((evalE C.Φ t ρ).bind truthy).bind fun c => match c with | true => (evalE C.Φ a ρ).bind truthy | false => (evalE C.Φ b ρ).bind truthy) Q E h := by
    have H : PostB C (((evalE C.Φ t ρ).bind fun v => (truthy v).bind fun c => match c with | true => evalE C.Φ a ρ | false => evalE C.Φ b ρ).bind truthy) Q E h := H
    rw [← Res.assoc, Res.assoc] at H
    have e : (fun c => (match c with | true => evalE C.Φ a ρ | false => evalE C.Φ b ρ : Res V).bind truthy) = fun c => match c with | true => (evalE C.Φ a ρ).bind truthy | false => (evalE C.Φ b ρ).bind truthy := by
      funext c; cases c <;> rfl
    rw [e] at H
    exact H
  refine isTrue_IfExp (wpAny_mono (iht ρ h tk _ E st H.bindB) ?_ fun _ _ e => e)
  rintro c s₁ ⟨h₁, tk₁, rfl, g₁, e₁, H₁⟩
  have st₁ := K.st g₁ st
  cases c with
  | true => exact iha ρ h₁ tk₁ Q E st₁ (PostB.go K g₁ H₁)
  | false => exact ihb ρ h₁ tk₁ Q E st₁ (PostB.go K g₁ H₁)

theorem ts_not (K : C.Ok) {a : PE} {x : Expr} {pos : Pos} (iha : TS C a x) : TS C (.not a) (.UnaryOp .Not x pos) := by
  intro ρ h tk Q E st H
  have H : PostB C (((evalE C.Φ a ρ).bind truthy).bind fun b => .ok (!b)) Q E h := by
    have H : PostB C (((evalE C.Φ a ρ).bind fun v => (truthy v).bind fun b => okB (!b)).bind truthy) Q E h := H
    rw [← Res.assoc, Res.assoc] at H
    exact H
  refine isTrue_not (wpAny_mono (iha ρ h tk _ E st H.bindB) ?_ fun _ _ e => e)
  rintro c s₁ ⟨h₁, tk₁, rfl, g₁, e₁, H₁⟩
  exact H₁ h₁ tk₁ g₁
theorem ts_and (K : C.Ok) {a b : PE} {x y : Expr} {r : List Expr} {pos : Pos} (iha : TS C a x) (ihb : TS C b (match r with | [] => y | _ :: _ => .BoolOp .And (y :: r) pos)) :
    TS C (.and a b) (.BoolOp .And (x :: y :: r) pos) := by
  intro ρ h tk Q E st H
  have H : PostB C (((evalE C.Φ a ρ).bind truthy).bind fun t => match t with | true => (evalE C.Φ b ρ).bind truthy | false => .ok false) Q E h := by
    have H : PostB C (((evalE C.Φ a ρ).bind fun v => (truthy v).bind fun t => match t with | true => evalE C.Φ b ρ | false => .ok v).bind truthy) Q E h := H
    rw [Res.assoc] at H ⊢
    have e : (fun v => ((truthy v).bind fun t => match t with | true => evalE C.Φ b ρ | false => .ok v).bind truthy) = fun v => (truthy v).bind fun t => match t with | true => (evalE C.Φ b ρ).bind truthy | false => .ok false := by
      funext v
      cases q : truthy v with
      | ok t => cases t with
        | true => rfl
        | false => exact q
      | _ => rfl
    rw [e] at H
    exact H
  refine isTrue_and (wpAny_mono (iha ρ h tk _ E st H.bindB) ?_ fun _ _ e => e)
  rintro c s₁ ⟨h₁, tk₁, rfl, g₁, e₁, H₁⟩
  cases c with
  | false => exact H₁ h₁ tk₁ g₁
  | true =>
    have st₁ := K.st g₁ st
    have H₂ : PostB C ((evalE C.Φ b ρ).bind truthy) Q E h₁ := PostB.go K g₁ H₁
    cases r with
    | nil =>
      refine isTrue_and (wpAny_mono (ihb ρ h₁ tk₁ Q E st₁ H₂) ?_ fun _ _ e => e)
      intro c s q
      cases c with
      | true => exact isTrue_and_nil q
      | false => exact q
    | cons => exact ihb ρ h₁ tk₁ Q E st₁ H₂
theorem ts_or (K : C.Ok) {a b : PE} {x y : Expr} {r : List Expr} {pos : Pos} (iha : TS C a x) (ihb : TS C b (match r with | [] => y | _ :: _ => .BoolOp .Or (y :: r) pos)) :
    TS C (.or a b) (.BoolOp .Or (x :: y :: r) pos) := by
  intro ρ h tk Q E st H
  have H : PostB C (((evalE C.Φ a ρ).bind truthy).bind fun t => match t with | true => .ok true | false => (evalE C.Φ b ρ).bind truthy) Q E h := by
    have H : PostB C (((evalE C.Φ a ρ).bind fun v => (truthy v).bind fun t => match t with | true => .ok v | false => evalE C.Φ b ρ).bind truthy) Q E h := H
    rw [Res.assoc] at H ⊢
    have e : (fun v => ((truthy v).bind fun t => match t with | true => .ok v | false => evalE C.Φ b ρ).bind truthy) = fun v => (truthy v).bind fun t => match t with | true => .ok true | false => (evalE C.Φ b ρ).bind truthy := by
      funext v
      cases q : truthy v with
      | ok t => cases t with
        | true => exact q
        | false => rfl
      | _ => rfl
    rw [e] at H
    exact H
  refine isTrue_or (wpAny_mono (iha ρ h tk _ E st H.bindB) ?_ fun _ _ e => e)
  rintro c s₁ ⟨h₁, tk₁, rfl, g₁, e₁, H₁⟩
  cases c with
  | true => exact H₁ h₁ tk₁ g₁
  | false =>
    have st₁ := K.st g₁ st
    have H₂ : PostB C ((evalE C.Φ b ρ).bind truthy) Q E h₁ := PostB.go K g₁ H₁
    cases r with
    | nil =>
      refine isTrue_or (wpAny_mono (ihb ρ h₁ tk₁ Q E st₁ H₂) ?_ fun _ _ e => e)
      intro c s q
      cases c with
      | true => exact q
      | false => exact isTrue_or_nil q
    | cons => exact ihb ρ h₁ tk₁ Q E st₁ H₂

noncomputable def plainTest : Expr → Bool
  | .UnaryOp .Not _ _ | .BoolOp _ _ _ | .IfExp _ _ _ _ | .Compare _ _ _ _ => false
  | _ => true
theorem isTrue_eq {e : Expr} {env : Env} {whole : Sem Value} (h : plainTest e = true) : isTrue e env whole = (do let v ← whole; standAt e.pos; holding [v] (PySem.truthy v)) := by
  cases e <;> first | rfl | (cases h; done) | skip
  rename_i op x pos
  cases op <;> first | rfl | cases h
theorem ts_plain (K : C.Ok) {p : PE} {e : Expr} (hp : plainTest e = true) (ih : ES C p e) : TS C p e := by
  intro ρ h tk Q E st H
  refine isTrue_plain (wpAny_mono (ih ρ h tk _ E st (PostB.bind H)) ?_ fun _ _ e => e) (isTrue_eq hp)
  rintro v s₁ ⟨h₁, tk₁, z, rfl, g₁, r₁, e₁, H₁⟩
  exact wp_truthy K r₁ (PostB.go K g₁ H₁)

theorem es_isNone (K : C.Ok) {a : PE} {x : Expr} {k : Nat} {p pos : Pos} (iha : ES C a x) : ES C (.isNone a) (.Compare x [.Is] [.Constant .none k p] pos) := by
  intro ρ h tk Q E st H
  have H : Post C ((evalE C.Φ a ρ).bind fun v => okB (noneV v)) Q E h := H
  refine wpAny_Compare1 (wpAny_mono (iha ρ h tk _ E st H.bind) ?_ fun _ _ e => e) rfl
  rintro v s₁ ⟨h₁, tk₁, z, rfl, g₁, r₁, e₁, H₁⟩
  refine Constant_none (is_none_gen ?_)
  rw [rel_none r₁]
  exact H₁ _ h₁ tk₁ g₁ rfl
theorem es_notNone (K : C.Ok) {a : PE} {x : Expr} {k : Nat} {p pos : Pos} (iha : ES C a x) : ES C (.notNone a) (.Compare x [.IsNot] [.Constant .none k p] pos) := by
  intro ρ h tk Q E st H
  have H : Post C ((evalE C.Φ a ρ).bind fun v => okB (!noneV v)) Q E h := H
  refine wpAny_Compare1 (wpAny_mono (iha ρ h tk _ E st H.bind) ?_ fun _ _ e => e) rfl
  rintro v s₁ ⟨h₁, tk₁, z, rfl, g₁, r₁, e₁, H₁⟩
  refine Constant_none (isnot_none_gen ?_)
  rw [rel_none r₁]
  exact H₁ _ h₁ tk₁ g₁ rfl
theorem isTrue_cmp1 {l r : Expr} {op : CmpOp} {pos : Pos} {env : Env} (hm : behindInMarks op r = false) :
    isTrue (.Compare l [op] [r] pos) env (eval (.Compare l [op] [r] pos) env) = (do let a ← eval l env; let b ← holding [a] (eval r env); standAt pos; let c ← operate [a, b] (compareOp op a b); holding [c] (PySem.truthy c)) := by
  show (do testChain pos (← eval l env) [op] (markedEach [op] [r] [eval r env])) = _
  simp only [markedEach, markedBehindIn_of_false hm, testChain]
/-- a comparison's test out of its value -/
theorem ts_ofCmp1 (K : C.Ok) {p : PE} {x r : Expr} {op : CmpOp} {pos : Pos} (hm : behindInMarks op r = false) (ih : ES C p (.Compare x [op] [r] pos)) : TS C p (.Compare x [op] [r] pos) := by
  intro ρ h tk Q E st H
  have key := ih ρ h tk _ E st (PostB.bind H)
  rw [isTrue_cmp1 hm]
  have e1 : eval (.Compare x [op] [r] pos) C.env = (do let a ← eval x C.env; let b ← holding [a] (eval r C.env); standAt pos; operate [a, b] (compareOp op a b)) := by
    show (do compareChain pos (← eval x C.env) [op] (markedEach [op] [r] [eval r C.env])) = _
    simp only [markedEach, markedBehindIn_of_false hm, compareChain]
  rw [e1] at key
  have key2 : wpAny C.M C.A ((do let a ← eval x C.env; let b ← holding [a] (eval r C.env); standAt pos; operate [a, b] (compareOp op a b)) >>= fun c => holding [c] (PySem.truthy c)) Q E (C.mk' h tk) := by
    refine wpAny_bind (wpAny_mono key ?_ fun _ _ e => e)
    rintro v s₁ ⟨h₁, tk₁, z, rfl, g₁, r₁, e₁, H₁⟩
    exact wpAny_holding (wp_truthy K r₁ (PostB.go K g₁ H₁))
  simpa only [bind_assoc] using key2
end
end Mine
end

section
set_option maxRecDepth 100000
set_option linter.unusedVariables false
set_option genSizeOf false
set_option genInjectivity false
open PySem PySem.W PyProof.Rows
namespace Mine

theorem starEach_of {e : Expr} (h : notStar e = true) (r : List Expr) (env : Env) : starEach (e :: r) env = (false, eval e env) :: starEach r env := by
  cases e <;> first | rfl | cases h
theorem backTo_plain {pos : Pos} {t : Sem Value} {r : List (Bool × Sem Value)} : backTo pos ((false, t) :: r) = (false, t) :: backTo pos r := rfl
theorem glo_parts {sc : Scope} {x : Str} (h : glo sc x = true) : sc.names.lookup x = some .globalImplicit ∧ (x == ("__debug__" : Str)) = false ∧ (x == ("__name__" : Str)) = false := by
  unfold glo at h
  simp only [Bool.and_eq_true, beq_iff_eq, Bool.not_eq_true'] at h
  exact ⟨h.1.1, h.1.2, h.2⟩

section
variable {C : Cx} {h : Heap} {tk : Nat} {Q E : Value → Shared → Prop}

/-- arguments in a row -/
noncomputable def ArgsS (C : Cx) : List PE → List Expr → Prop
  | [], [] => True
  | p :: ps, e :: es => notStar e = true ∧ ES C p e ∧ ArgsS C ps es
  | _, _ => False
noncomputable def evalEs (C : Cx) (ρ : List V) : List PE → Res (List V)
  | [] => .ok []
  | p :: ps => (evalE C.Φ p ρ).bind fun v => (evalEs C ρ ps).bind fun vs => .ok (v :: vs)
theorem RelL.go (K : C.Ok) {h h' : Heap} (g : C.Go h h') : ∀ {vs : List Value} {xs : List V}, RelL C.S h vs xs → RelL C.S h' vs xs
  | [], [], _ => trivial
  | _ :: _, _ :: _, ⟨a, b⟩ => ⟨K.rel g a, RelL.go K g b⟩
  | [], _ :: _, r => r.elim
  | _ :: _, [], r => r.elim
theorem spliced_S (K : C.Ok) {ρ : List V} : ∀ {ps : List PE} {es : List Expr} {h : Heap} {tk : Nat} {Q : List Value → Shared → Prop} {pos : Pos} (A : ArgsS C ps es) (st : C.St h ρ)
    (H : match evalEs C ρ ps with
      | .ok xs => ∀ vs h' tk', C.Go h h' → RelL C.S h' vs xs → Q vs (C.mk' h' tk')
      | .raise => ∀ e h' tk', C.Rs e h' → E (.ref e) (C.mk' h' tk')
      | .fail => False), wpAny C.M C.A (spliced (backTo pos (starEach es C.env))) Q E (C.mk' h tk)
  | [], [], h, tk, Q, pos, _, st, H => Calls.spliced_nil (H [] h tk (K.refl h) trivial)
  | p :: ps, e :: es, h, tk, Q, pos, ⟨n, i, A⟩, st, H => by
    rw [starEach_of n, backTo_plain]
    refine Calls.spliced_cons (wpAny_mono (i ρ h tk (fun v s₁ => ∃ h₁ tk₁ y, s₁ = C.mk' h₁ tk₁ ∧ C.Go h h₁ ∧ Rel C.S h₁ v y ∧ evalE C.Φ p ρ = .ok y) E st ?_) ?_ fun _ _ e => e)
    · cases q : evalE C.Φ p ρ with
      | ok y => exact fun v h' tk' g r => ⟨h', tk', y, rfl, g, r, rfl⟩
      | raise => unfold evalEs at H; rw [q] at H; exact H
      | fail => unfold evalEs at H; rw [q] at H; exact H
    · rintro v s₁ ⟨h₁, tk₁, y, rfl, g₁, r₁, e₁⟩
      unfold evalEs at H
      rw [e₁] at H
      refine spliced_S K A (K.st g₁ st) ?_
      show match evalEs C ρ ps with | .ok xs => _ | .raise => _ | .fail => _
      cases q : evalEs C ρ ps with
      | ok xs =>
        have H : ∀ vs h' tk', C.Go h h' → RelL C.S h' vs (y :: xs) → Q vs (C.mk' h' tk') := by
          have H' := H
          simp only [Res.bind, q] at H'
          exact H'
        exact fun vs h' tk' g r => H (v :: vs) h' tk' (K.trans g₁ g) ⟨K.rel g r₁, r⟩
      | raise => simp only [Res.bind, q] at H; exact H
      | fail => simp only [Res.bind, q] at H
  | [], _ :: _, _, _, _, _, A, _, _ => A.elim
  | _ :: _, [], _, _, _, _, A, _, _ => A.elim

theorem evalArgs_S (K : C.Ok) {ρ : List V} {ps : List PE} {es : List Expr} {f : Value} {pos : Pos} {R : List V → Res V} {Q' : Args → Shared → Prop} (A : ArgsS C ps es) (st : C.St h ρ)
    (H : Post C ((evalEs C ρ ps).bind R) Q E h)
    (k : ∀ vs xs h₁ tk₁, C.Go h h₁ → C.St h₁ ρ → RelL C.S h₁ vs xs → evalEs C ρ ps = .ok xs → Post C (R xs) Q E h₁ → Q' ⟨vs, []⟩ (C.mk' h₁ tk₁)) :
    wpAny C.M C.A (evalArgs f true (backTo pos (starEach es C.env)) []) Q' E (C.mk' h tk) := by
  have key : wpAny C.M C.A (spliced (backTo pos (starEach es C.env))) (fun vs s => Q' ⟨vs, []⟩ s) E (C.mk' h tk) := by
    refine spliced_S K A st ?_
    show match evalEs C ρ ps with | .ok xs => _ | .raise => _ | .fail => _
    cases q : evalEs C ρ ps with
    | ok xs =>
      rw [q] at H
      exact fun vs h' tk' g r => k vs xs h' tk' g (K.st g st) r q (Post.go K g H)
    | raise => rw [q] at H; exact H
    | fail => rw [q] at H; exact H
  cases ps with
  | nil =>
    cases es with
    | nil =>
      have e : evalEs C ρ [] = .ok [] := rfl
      rw [e] at H
      exact evalArgs_nil3 (k [] [] h tk (K.refl h) st trivial rfl H)
    | cons => exact A.elim
  | cons p ps =>
    cases es with
    | nil => exact A.elim
    | cons e es =>
      rw [starEach_of A.1, backTo_plain] at key ⊢
      exact Calls.evalArgs_plain key

theorem any_plain : ∀ {ps : List PE} {es : List Expr} {pos : Pos}, ArgsS C ps es → (backTo pos (starEach es C.env)).any (·.1) = false
  | [], [], _, _ => rfl
  | _ :: _, _ :: _, pos, ⟨n, _, A⟩ => by
    rw [starEach_of n, backTo_plain, List.any_cons, any_plain A]; rfl
  | [], _ :: _, _, A => A.elim
  | _ :: _, [], _, A => A.elim

/-- a call of one of the text's own defs -/
theorem es_call (K : C.Ok) {p : PE} {f : Nat} {ps : List PE} {es : List Expr} {x : Str} {np pos : Pos} (A : ArgsS C ps es) (e : nth fnames f x = true) (g : glo C.env.scope x = true)
    (hp : ∀ ρ, evalE C.Φ p ρ = (evalEs C ρ ps).bind (C.Φ f)) : ES C p (.Call (.Name x np) es [] pos) := by
  intro ρ h tk Q E st H
  rw [hp] at H
  obtain ⟨_, k⟩ := K.fn st (nth_eq e) g
  refine wpAny_Call_ofName (k np _ E tk ?_)
  obtain ⟨o, fd, _, hd⟩ := (K.fn st (nth_eq e) g).1
  have ho : ∀ h₁, C.St h₁ ρ → ∃ o fd, h₁.get? (C.addr f) = some o ∧ o.data = .func fd := fun h₁ s => (K.fn s (nth_eq e) g).1
  refine callWith_fn ?_
  refine evalArgs_S K A st H ?_
  intro vs xs h₁ tk₁ g₁ st₁ r _ H₁
  exact ⟨ho h₁ st₁, K.call st₁ r H₁⟩
where
  callWith_fn {M : Model} {A : Around} {E : Value → Shared → Prop} {s : Shared} {pos : Pos} {a : Addr} {args : List (Bool × Sem Value)} {Q : Value → Shared → Prop}
      (h : wpAny M A (evalArgs (.ref a) true args []) (fun x s₁ => (∃ o fd, s₁.heap.get? a = some o ∧ o.data = .func fd) ∧ wpAny M A (call (.ref a) x.pos x.kw) Q E s₁) E s) :
      wpAny M A (callWith pos (.ref a) [] args []) Q E s := by
    unfold callWith
    refine wpAny_bind (wpAny_holding (wpAny_mono h (fun x s₁ h₁ => wpAny_bind (wpAny_standAt ?_)) fun _ _ x => x))
    have tail : ∀ {t : Sem Value}, wpAny M A t Q E s₁ → wpAny M A (t >>= fun r => holding [r] point >>= fun _ => pure r) Q E s₁ :=
      fun ht => wpAny_bind (wpAny_mono ht (fun r s₂ hr => wpAny_bind (wpAny_holding (wpAny_point (wpAny_pure hr)))) fun _ _ x => x)
    obtain ⟨⟨o, fd, ho, hd⟩, h₂⟩ := h₁
    cases hs : args.any (·.1) <;> simp only [List.any_nil, Bool.or_false] <;>
      refine wpAny_bind (m := keeperOf (.ref a)) ?_ <;> unfold keeperOf <;>
      refine wpAny_bind (wpAny_load ho ?_) <;> rw [hd] <;> refine wpAny_pure ?_
    · first
        | refine wpAny_ite ?_
        | skip
      split <;> first
        | exact tail h₂
        | exact tail (by unfold callMarked; exact Calls.wpAny_keep h₂)
    · first
        | exact tail (by unfold callMarked; exact Calls.wpAny_keep h₂)
        | exact tail h₂

noncomputable def biNames : List Str := ["len", "isinstance", "abs", "max", "min", "int", "str", "bytes", "bool", "ord", "chr", "bytearray", "range"]
/-- a call of a built-in function -/
theorem es_bi (K : C.Ok) {p : PE} {ps : List PE} {es : List Expr} {x : Str} {id : String} {np pos : Pos} {R : List V → Res V} (A : ArgsS C ps es) (g : glo C.env.scope x = true)
    (hb : bootBuiltins x = some (.builtin id)) (hm : x ∈ biNames) (hp : ∀ ρ, evalE C.Φ p ρ = (evalEs C ρ ps).bind R)
    (k : ∀ ρ vs xs h tk Q E, C.St h ρ → RelL C.S h vs xs → Post C (R xs) Q E h → wpAny C.M C.A (call (.builtin id) vs) Q E (C.mk' h tk)) : ES C p (.Call (.Name x np) es [] pos) := by
  intro ρ h tk Q E st H
  rw [hp] at H
  refine wpAny_Call_ofName (K.bi st hb g hm np _ E tk ?_)
  refine Calls.callWith_builtin (any_plain A) (evalArgs_S K A st H ?_)
  intro vs xs h₁ tk₁ g₁ st₁ r _ H₁
  exact k ρ vs xs h₁ tk₁ Q E st₁ r H₁
/-- a call of a built-in class -/
theorem es_ty (K : C.Ok) {p : PE} {ps : List PE} {es : List Expr} {x : Str} {T : String} {np pos : Pos} {R : List V → Res V} (A : ArgsS C ps es) (g : glo C.env.scope x = true)
    (hb : bootBuiltins x = some (.type T)) (hm : x ∈ biNames) (hp : ∀ ρ, evalE C.Φ p ρ = (evalEs C ρ ps).bind R)
    (k : ∀ ρ vs xs h tk Q E, C.St h ρ → RelL C.S h vs xs → Post C (R xs) Q E h → wpAny C.M C.A (call (.type T) vs) Q E (C.mk' h tk)) : ES C p (.Call (.Name x np) es [] pos) := by
  intro ρ h tk Q E st H
  rw [hp] at H
  refine wpAny_Call_ofName (K.bi st hb g hm np _ E tk ?_)
  refine PySem.callWith_type (any_plain A) (evalArgs_S K A st H ?_)
  intro vs xs h₁ tk₁ g₁ st₁ r _ H₁
  exact k ρ vs xs h₁ tk₁ Q E st₁ r H₁

theorem rel1 {S : Addr → Prop} {h : Heap} {vs : List Value} {x : V} (r : RelL S h vs [x]) : ∃ v, vs = [v] ∧ Rel S h v x := by
  cases vs with
  | nil => exact r.elim
  | cons v vs => cases vs with
    | nil => exact ⟨v, rfl, r.1⟩
    | cons => exact r.2.elim
theorem rel2 {S : Addr → Prop} {h : Heap} {vs : List Value} {x y : V} (r : RelL S h vs [x, y]) : ∃ v w, vs = [v, w] ∧ Rel S h v x ∧ Rel S h w y := by
  cases vs with
  | nil => exact r.elim
  | cons v vs =>
    obtain ⟨w, rfl, r2⟩ := rel1 r.2
    exact ⟨v, w, rfl, r.1, r2⟩
/-- one argument alone -/
noncomputable def un (f : V → Res V) : List V → Res V
  | [v] => f v
  | _ => .fail
noncomputable def bi (f : V → V → Res V) : List V → Res V
  | [v, w] => f v w
  | _ => .fail
theorem un_eq (C : Cx) (ρ : List V) (a : PE) (f : V → Res V) : ((evalE C.Φ a ρ).bind f) = (evalEs C ρ [a]).bind (un f) := by
  show _ = ((evalE C.Φ a ρ).bind fun v => (Res.ok []).bind fun vs => .ok (v :: vs)).bind (un f)
  cases evalE C.Φ a ρ <;> rfl
theorem bi_eq (C : Cx) (ρ : List V) (a b : PE) (f : V → V → Res V) : ((evalE C.Φ a ρ).bind fun v => (evalE C.Φ b ρ).bind fun w => f v w) = (evalEs C ρ [a, b]).bind (bi f) := by
  show _ = ((evalE C.Φ a ρ).bind fun v => ((evalE C.Φ b ρ).bind fun w => (Res.ok []).bind fun vs => .ok (w :: vs)).bind fun vs => .ok (v :: vs)).bind (bi f)
  cases evalE C.Φ a ρ with
  | ok v => cases evalE C.Φ b ρ <;> rfl
  | _ => rfl
theorem call_un {t : Value} {f : V → Res V} {vs : List Value} {xs : List V} (k : ∀ v x, Rel C.S h v x → Post C (f x) Q E h → wpAny C.M C.A (call t [v]) Q E (C.mk' h tk))
    (r : RelL C.S h vs xs) (H : Post C (un f xs) Q E h) : wpAny C.M C.A (call t vs) Q E (C.mk' h tk) := by
  unfold un at H
  split at H
  · obtain ⟨v, rfl, r1⟩ := rel1 r
    exact k _ _ r1 H
  · exact H.elim
theorem call_bi {t : Value} {f : V → V → Res V} {vs : List Value} {xs : List V} (k : ∀ v w x y, Rel C.S h v x → Rel C.S h w y → Post C (f x y) Q E h → wpAny C.M C.A (call t [v, w]) Q E (C.mk' h tk))
    (r : RelL C.S h vs xs) (H : Post C (bi f xs) Q E h) : wpAny C.M C.A (call t vs) Q E (C.mk' h tk) := by
  unfold bi at H
  split at H
  · obtain ⟨v, w, rfl, r1, r2⟩ := rel2 r
    exact k _ _ _ _ r1 r2 H
  · exact H.elim
end
end Mine
end

section
set_option maxRecDepth 100000
set_option linter.unusedVariables false
set_option genSizeOf false
set_option genInjectivity false
open PySem PySem.W PySem.NumText PyProof.Rows
namespace Mine

section
variable {C : Cx} {h : Heap} {tk : Nat} {Q E : Value → Shared → Prop} {a b c : PE} {x y z : Expr} {fx : Str} {np pos : Pos}

theorem es_len (K : C.Ok) (n : notStar x = true) (iha : ES C a x) (g : glo C.env.scope fx = true) (e : fx = ("len" : Str)) : ES C (.len a) (.Call (.Name fx np) [x] [] pos) := by
  subst e
  refine es_bi K (ps := [a]) ⟨n, iha, trivial⟩ g PyProof.Rows.Boot.«len» (by simp [biNames]) (fun ρ => un_eq C ρ a _) fun ρ vs xs h tk Q E st r H => call_un (fun v x r H => ?_) r H
  split at H
  · obtain ⟨t, rfl, hl⟩ := r
    refine P.len_str (by rw [mkS_length]; omega) ?_
    rw [mkS_length]
    exact H _ h _ (K.refl h) ⟨_, rfl⟩
  · obtain ⟨t, rfl, hl⟩ := r
    refine len_bytes (by simp only [List.size_toArray, List.length_map]; omega) ?_
    simp only [List.size_toArray, List.length_map]
    exact H _ h _ (K.refl h) ⟨_, rfl⟩
  · exact H.elim

theorem es_abs (K : C.Ok) (n : notStar x = true) (iha : ES C a x) (g : glo C.env.scope fx = true) (e : fx = ("abs" : Str)) : ES C (.abs a) (.Call (.Name fx np) [x] [] pos) := by
  subst e
  refine es_bi K (ps := [a]) ⟨n, iha, trivial⟩ g PyProof.Rows.Boot.«abs» (by simp [biNames]) (fun ρ => un_eq C ρ a _) fun ρ vs xs h tk Q E st r H => call_un (fun v x r H => ?_) r H
  split at H
  · obtain ⟨t, rfl⟩ := r
    exact call_abs_int fun u tk' => H _ h tk' (K.refl h) ⟨u, rfl⟩
  · exact H.elim

theorem es_max (K : C.Ok) (n : notStar x = true) (iha : ES C a x) (n' : notStar y = true) (ihb : ES C b y) (g : glo C.env.scope fx = true) (e : fx = ("max" : Str)) : ES C (.max a b) (.Call (.Name fx np) [x, y] [] pos) := by
  subst e
  refine es_bi K (ps := [a, b]) ⟨n, iha, n', ihb, trivial⟩ g PyProof.Rows.Boot.«max» (by simp [biNames]) (fun ρ => bi_eq C ρ a b _) fun ρ vs xs h tk Q E st r H => call_bi (fun v w x y r r' H => ?_) r H
  split at H
  · obtain ⟨t, rfl⟩ := r
    obtain ⟨u, rfl⟩ := r'
    refine max_two_ints K.handled fun h' tk' k => ?_
    rename_i i j
    have := H (if j > i then .int j u else .int i t) h' tk' (K.keeps k) (by
      by_cases q : i < j
      · rw [if_pos q, if_pos q]; exact ⟨u, rfl⟩
      · rw [if_neg q, if_neg q]; exact ⟨t, rfl⟩)
    exact this
  · exact H.elim
theorem es_min (K : C.Ok) (n : notStar x = true) (iha : ES C a x) (n' : notStar y = true) (ihb : ES C b y) (g : glo C.env.scope fx = true) (e : fx = ("min" : Str)) : ES C (.min a b) (.Call (.Name fx np) [x, y] [] pos) := by
  subst e
  refine es_bi K (ps := [a, b]) ⟨n, iha, n', ihb, trivial⟩ g PyProof.Rows.Boot.«min» (by simp [biNames]) (fun ρ => bi_eq C ρ a b _) fun ρ vs xs h tk Q E st r H => call_bi (fun v w x y r r' H => ?_) r H
  split at H
  · obtain ⟨t, rfl⟩ := r
    obtain ⟨u, rfl⟩ := r'
    refine min_two_ints K.handled fun h' tk' k => ?_
    rename_i i j
    have := H (if j < i then .int j u else .int i t) h' tk' (K.keeps k) (by
      by_cases q : j < i
      · rw [if_pos q, if_pos q]; exact ⟨u, rfl⟩
      · rw [if_neg q, if_neg q]; exact ⟨t, rfl⟩)
    exact this
  · exact H.elim

theorem relAs_two {vs : List Value} {i j : Int} (r : RelAs vs [.int i, .int j]) : ∃ t u, vs = [.int i t, .int j u] := by
  cases vs with
  | nil => exact r.elim
  | cons v vs => cases vs with
    | nil => exact r.2.elim
    | cons w vs => cases vs with
      | nil => obtain ⟨⟨t, rfl⟩, ⟨u, rfl⟩, _⟩ := r; exact ⟨t, u, rfl⟩
      | cons => exact r.2.2.elim
theorem es_maxl (K : C.Ok) (n : notStar x = true) (iha : ES C a x) (g : glo C.env.scope fx = true) (e : fx = ("max" : Str)) : ES C (.maxl a) (.Call (.Name fx np) [x] [] pos) := by
  subst e
  refine es_bi K (ps := [a]) ⟨n, iha, trivial⟩ g PyProof.Rows.Boot.«max» (by simp [biNames]) (fun ρ => un_eq C ρ a _) fun ρ vs xs h tk Q E st r H => call_un (fun v x r H => ?_) r H
  split at H
  · obtain ⟨l, vs, rfl, hS, hl, hr, _⟩ := r
    unfold minA at H
    split at H
    · rename_i i j _
      obtain ⟨t, u, rfl⟩ := relAs_two hr
      refine max_intList (xs := #[(i, t), (j, u)]) K.handled (by simpa [intItems] using hl.isList) (by simp) fun v h' tk' hv hk => ?_
      refine H v h' tk' (K.keeps hk) ?_
      show RelA v (.int (if i < j then j else i))
      by_cases q : i < j
      · have e : argBest (fun p q => decide (numAt #[(i, t), (j, u)] p > numAt #[(i, t), (j, u)] q)) 1 = 1 := by simp [argBest, numAt, q]
        have hv : (intItems #[(i, t), (j, u)])[argBest (fun p q => decide (numAt #[(i, t), (j, u)] p > numAt #[(i, t), (j, u)] q)) 1]? = some v := hv
        rw [e] at hv
        rw [if_pos q]
        exact ⟨u, by simpa [intItems] using hv.symm⟩
      · have e : argBest (fun p q => decide (numAt #[(i, t), (j, u)] p > numAt #[(i, t), (j, u)] q)) 1 = 0 := by simp [argBest, numAt, q]
        have hv : (intItems #[(i, t), (j, u)])[argBest (fun p q => decide (numAt #[(i, t), (j, u)] p > numAt #[(i, t), (j, u)] q)) 1]? = some v := hv
        rw [e] at hv
        rw [if_neg q]
        exact ⟨t, by simpa [intItems] using hv.symm⟩
    · exact H.elim
  · exact H.elim
theorem es_minl (K : C.Ok) (n : notStar x = true) (iha : ES C a x) (g : glo C.env.scope fx = true) (e : fx = ("min" : Str)) : ES C (.minl a) (.Call (.Name fx np) [x] [] pos) := by
  subst e
  refine es_bi K (ps := [a]) ⟨n, iha, trivial⟩ g PyProof.Rows.Boot.«min» (by simp [biNames]) (fun ρ => un_eq C ρ a _) fun ρ vs xs h tk Q E st r H => call_un (fun v x r H => ?_) r H
  split at H
  · obtain ⟨l, vs, rfl, hS, hl, hr, _⟩ := r
    unfold minA at H
    split at H
    · rename_i i j _
      obtain ⟨t, u, rfl⟩ := relAs_two hr
      refine min_intList (xs := #[(i, t), (j, u)]) K.handled (by simpa [intItems] using hl.isList) (by simp) fun v h' tk' hv hk => ?_
      refine H v h' tk' (K.keeps hk) ?_
      show RelA v (.int (if j < i then j else i))
      by_cases q : j < i
      · have e : argBest (fun p q => decide (numAt #[(i, t), (j, u)] p < numAt #[(i, t), (j, u)] q)) 1 = 1 := by simp [argBest, numAt, q]
        have hv : (intItems #[(i, t), (j, u)])[argBest (fun p q => decide (numAt #[(i, t), (j, u)] p < numAt #[(i, t), (j, u)] q)) 1]? = some v := hv
        rw [e] at hv
        rw [if_pos q]
        exact ⟨u, by simpa [intItems] using hv.symm⟩
      · have e : argBest (fun p q => decide (numAt #[(i, t), (j, u)] p < numAt #[(i, t), (j, u)] q)) 1 = 0 := by simp [argBest, numAt, q]
        have hv : (intItems #[(i, t), (j, u)])[argBest (fun p q => decide (numAt #[(i, t), (j, u)] p < numAt #[(i, t), (j, u)] q)) 1]? = some v := hv
        rw [e] at hv
        rw [if_neg q]
        exact ⟨t, by simpa [intItems] using hv.symm⟩
    · exact H.elim
  · exact H.elim

theorem es_toInt (K : C.Ok) (n : notStar x = true) (iha : ES C a x) (g : glo C.env.scope fx = true) (e : fx = ("int" : Str)) : ES C (.toInt a) (.Call (.Name fx np) [x] [] pos) := by
  subst e
  refine es_ty K (ps := [a]) ⟨n, iha, trivial⟩ g PyProof.Rows.Boot.«int» (by simp [biNames]) (fun ρ => un_eq C ρ a _) fun ρ vs xs h tk Q E st r H => call_un (fun v x r H => ?_) r H
  split at H
  · cases r
    exact call_int_bool (H _ h _ (K.refl h) ⟨_, rfl⟩)
  · rename_i l
    obtain ⟨t, rfl, hl⟩ := r
    split at H
    · rename_i e
      obtain ⟨e, e3⟩ := Bool.and_eq_true_iff.mp e
      obtain ⟨e1, e2⟩ := Bool.and_eq_true_iff.mp e
      have hlt : l.length < 30 := Nat.le_of_ble_eq_true e3
      have hne : l ≠ [] := by intro z; subst z; cases e2
      have hd : AllDigits (mkS l).cps.toList := by
        intro c hc
        have hc : c ∈ l := by simpa [mkS] using hc
        have := List.all_eq_true.mp e1 c hc
        obtain ⟨p, q⟩ := Bool.and_eq_true_iff.mp this
        exact ⟨Nat.le_of_ble_eq_true p, Nat.le_of_ble_eq_true q⟩
      have key : PySem.intText? (mkS l) = some (numOf l) := by
        rw [intText_digits hd (by simpa [mkS] using hne) (by rw [mkS_length]; omega)]
        simp only [mkS]
        rfl
      exact KIN.call_text key (by rw [mkS_length]; omega) (H _ h _ (K.refl h) ⟨_, rfl⟩)
    · exact H.elim
  · exact H.elim

theorem es_ord (K : C.Ok) (n : notStar x = true) (iha : ES C a x) (g : glo C.env.scope fx = true) (e : fx = ("ord" : Str)) : ES C (.ord a) (.Call (.Name fx np) [x] [] pos) := by
  subst e
  refine es_bi K (ps := [a]) ⟨n, iha, trivial⟩ g PyProof.Rows.Boot.«ord» (by simp [biNames]) (fun ρ => un_eq C ρ a _) fun ρ vs xs h tk Q E st r H => call_un (fun v x r H => ?_) r H
  split at H
  · obtain ⟨t, rfl, hl⟩ := r
    exact P.ord_of_char (H _ h _ (K.refl h) ⟨_, rfl⟩)
  · exact H.elim
theorem es_chr (K : C.Ok) (n : notStar x = true) (iha : ES C a x) (g : glo C.env.scope fx = true) (e : fx = ("chr" : Str)) : ES C (.chr a) (.Call (.Name fx np) [x] [] pos) := by
  subst e
  refine es_bi K (ps := [a]) ⟨n, iha, trivial⟩ g PyProof.Rows.Boot.«chr» (by simp [biNames]) (fun ρ => un_eq C ρ a _) fun ρ vs xs h tk Q E st r H => call_un (fun v x r H => ?_) r H
  split at H
  · obtain ⟨t, rfl⟩ := r
    split at H
    · rename_i m _ e
      have hm : m < 128 := Nat.le_of_ble_eq_true e
      refine P.chr_of_int ?_ (H _ h _ (K.refl h) ⟨_, rfl, by simp⟩)
      have h1 : ¬ (Int.ofNat m) < 0 := by simp
      have h2 : ¬ (Int.ofNat m) > 0x10FFFF := by show ¬ (m : Int) > 0x10FFFF; omega
      rw [decide_eq_false h1, decide_eq_false h2]; rfl
    · exact H.elim
  · exact H.elim
end
end Mine
end

section
set_option maxRecDepth 100000
set_option linter.unusedVariables false
set_option genSizeOf false
set_option genInjectivity false
open PySem PySem.W PySem.NumText PyProof.Rows
namespace Mine

theorem isinstance_false_bytes {n : Array UInt8} {u : Tok} {T : String} (hne : (Value.type "bytes" == Value.type T) = false) (hty : typeOf (.type T) = pure (.type "type")) (hsub : isSubtype (.type "bytes") (.type T) = pure false) :
    Meets (Builtin.«isinstance» ⟨[.bytes n u, .type T], []⟩) (fun _ R s => R (.ok (.ret (.bool false))) { s with toks := s.toks + 1 }) :=
  fun _ _ _ _ s hs => by
    obtain ⟨h, g, d, t, os⟩ := s
    exact isinstance_outer (isinstance_nested_false_bytes hne hty hsub hs)
noncomputable def kindTy : Kind → String
  | .bool => "bool" | .int => "int" | .str => "str" | .bytes => "bytes"
theorem boot_kind (k : Kind) : bootBuiltins (kindName k) = some (.type (kindTy k)) := by
  cases k
  · exact PyProof.Rows.Boot.«bool»
  · exact PyProof.Rows.Boot.«int»
  · exact PyProof.Rows.Boot.«str»
  · exact PyProof.Rows.Boot.«bytes»
theorem mem_kind (k : Kind) : kindName k ∈ biNames := by cases k <;> simp [biNames, kindName]

section
variable {C : Cx} {h : Heap} {tk : Nat} {Q E : Value → Shared → Prop} {a b c : PE} {x y z : Expr} {fx : Str} {np pos : Pos}

theorem isin_bytes {n : Array UInt8} {u : Tok} {T : String} {q : Bool} (hty : typeOf (.type T) = pure (.type "type")) (hsub : isSubtype (.type "bytes") (.type T) = pure q) (hne : q = false → (Value.type "bytes" == Value.type T) = false)
    (hh : ∀ tk', Q (.bool q) (C.mk' h tk')) : wpAny C.M C.A (call (.builtin "isinstance") [.bytes n u, .type T]) Q E (C.mk' h tk) := by
  cases q with
  | true => exact call_isinstance (isinstance_true (Tx := "bytes") hty hsub) ⟨rfl, hh tk⟩
  | false => exact call_isinstance (isinstance_false_bytes (hne rfl) hty hsub) (hh _)

theorem wp_isinst (K : C.Ok) {k : Kind} {v : Value} {x : V} (r : Rel C.S h v x) (H : Post C ((isV k x).bind okB) Q E h) : wpAny C.M C.A (call (.builtin "isinstance") [v, .type (kindTy k)]) Q E (C.mk' h tk) := by
  cases x with
  | «at» a =>
    have H : ∀ tk', Q (.bool (match k, a with
      | .bool, .bool _ | .int, .int _ | .int, .bool _ | .str, .str _ | .bytes, .bytes _ => true
      | _, _ => false)) (C.mk' h tk') := fun tk' => H _ h tk' (K.refl h) rfl
    cases a with
    | none =>
      cases r
      cases k
      · exact IsiPair.NoneType_bool (H _)
      · exact IsiPair.NoneType_int (H _)
      · exact IsiPair.NoneType_str (H _)
      · exact IsiPair.NoneType_bytes (H _)
    | bool q =>
      cases r
      cases k
      · exact IsiPair.bool_bool (H _)
      · exact IsiPair.bool_int (H _)
      · exact IsiPair.bool_str (H _)
      · exact IsiPair.bool_bytes (H _)
    | int i =>
      obtain ⟨t, rfl⟩ := r
      cases k
      · exact IsiPair.int_bool (H _)
      · exact IsiPair.int_int (H _)
      · exact IsiPair.int_str (H _)
      · exact IsiPair.int_bytes (H _)
    | str l =>
      obtain ⟨t, rfl, _⟩ := r
      cases k
      · exact IsiPair.str_bool (H _)
      · exact IsiPair.str_int (H _)
      · exact IsiPair.str_str (H _)
      · exact IsiPair.str_bytes (H _)
    | bytes l =>
      obtain ⟨t, rfl, _⟩ := r
      cases k
      · exact isin_bytes F.isi_meta_bool F.sub_bytes_bool (fun _ => by decide +kernel) H
      · exact isin_bytes F.isi_meta_int F.sub_bytes_int (fun _ => by decide +kernel) H
      · exact isin_bytes F.isi_meta_str F.sub_bytes_str (fun _ => by decide +kernel) H
      · exact isin_bytes F.isi_meta_bytes F.sub_bytes_bytes (fun e => nomatch e) H
  | _ => exact H.elim

theorem es_isinst (K : C.Ok) {k : Kind} {q : Pos} {kx : Str} (n : notStar x = true) (iha : ES C a x) (g : glo C.env.scope fx = true) (e : fx = ("isinstance" : Str)) (g' : glo C.env.scope kx = true) (e' : kx = kindName k) :
    ES C (.isinst k a) (.Call (.Name fx np) [x, .Name kx q] [] pos) := by
  subst e
  subst e'
  intro ρ h tk Q E st H
  have H : Post C ((evalE C.Φ a ρ).bind fun v => (isV k v).bind okB) Q E h := H
  refine wpAny_Call_ofName (K.bi st PyProof.Rows.Boot.«isinstance» g (by simp) np _ E tk ?_)
  rw [starEach_of n, starEach_of (e := .Name (kindName k) q) rfl, backTo_plain, backTo_plain]
  refine Calls.callWith_builtin rfl (Calls.evalArgs_plain (Calls.spliced_cons (wpAny_mono (iha ρ h tk _ E st H.bind) ?_ fun _ _ e => e)))
  rintro v s₁ ⟨h₁, tk₁, y, rfl, g₁, r₁, e₁, H₁⟩
  refine Calls.spliced_cons (K.bi (K.st g₁ st) (boot_kind k) g' (mem_kind k) q _ E tk₁ ?_)
  exact Calls.spliced_nil (wp_isinst K r₁ (H₁.go K g₁))

/-! texts -/
theorem toDigits_eq : ∀ (f n : Nat) (acc : List Nat), n < 10 ^ f → digitsOf f n acc = (Nat.toDigits 10 n).map Char.toNat ++ acc ∨ f = 0 := by
  intro f
  induction f with
  | zero => intro n acc _; exact Or.inr rfl
  | succ f ih =>
    intro n acc hn
    refine Or.inl ?_
    have d1 : ∀ m, m < 10 → (Nat.digitChar m).toNat = 48 + m := by decide
    unfold digitsOf
    by_cases hs : n < 10
    · have h0 : n / 10 = 0 := by omega
      have h1 : n % 10 = n := by omega
      rw [h0, h1, Nat.toDigits_of_lt_base hs, ]
      simp [d1 n hs]
    · have hm : n % 10 < 10 := Nat.mod_lt _ (by decide)
      have hd : n / 10 < 10 ^ f := by rw [Nat.pow_succ] at hn; omega
      have t : Nat.toDigits 10 (n / 10) ++ Nat.toDigits 10 (n % 10) = Nat.toDigits 10 (10 * (n / 10) + n % 10) := Nat.toDigits_append_toDigits (by decide) (by omega) hm
      have e : 10 * (n / 10) + n % 10 = n := by omega
      rw [e] at t
      split
      · omega
      · rename_i q
        rcases ih (n / 10) ((48 + n % 10) :: acc) hd with h | h
        · rw [h, ← t, Nat.toDigits_of_lt_base hm]
          simp [d1 _ hm]
        · subst h
          simp at hd
          omega
theorem textOfInt_eq {i : Int} (h : w64 i = true) : (toString i : PySem.Str) = mkS (textOfInt i) := by
  have hn := w64_lt h
  have key : ∀ n : Nat, n < 2 ^ 64 → digitsOf 40 n [] = (Nat.toDigits 10 n).map Char.toNat := fun n hn => by
    rcases toDigits_eq 40 n [] (Nat.lt_trans hn (by decide)) with h | h
    · simpa using h
    · cases h
  have fin : ∀ {x : PySem.Str} {l : List Nat}, x.cps.toList = l → x = mkS l := fun {x l} e => by
    obtain ⟨⟨a⟩⟩ := x
    exact congrArg (fun z => PySem.Str.mk ⟨z⟩) e
  cases i with
  | ofNat n =>
    refine fin ?_
    have := KIN.signs_num n
    show (PySem.Str.ofString (toString ((n : Nat) : Int))).cps.toList = digitsOf 40 n []
    rw [this, key n hn]
  | negSucc n =>
    refine fin ?_
    show (PySem.Str.ofString (toString (Int.negSucc n))).cps.toList = 45 :: digitsOf 40 (n + 1) []
    rw [key (n + 1) hn, ← KIN.signs_num, signs_ofString, signs_ofString]
    show (("-" ++ toString (n + 1)) : String).toList.map Char.toNat = 45 :: (toString (n + 1) : String).toList.map Char.toNat
    simp [String.toList_append]
theorem textOfInt_len {i : Int} (h : w64 i = true) : (textOfInt i).length ≤ 1000 := by
  have key : ∀ f n (acc : List Nat), (digitsOf f n acc).length ≤ f + acc.length := fun f => by
    induction f with
    | zero => intro n acc; simp [digitsOf]
    | succ f ih =>
      intro n acc
      unfold digitsOf
      split
      · simp; omega
      · refine Nat.le_trans (ih _ _) ?_
        simp
        omega
  cases i with
  | ofNat n => have := key 40 n []; show (digitsOf 40 n []).length ≤ 1000; simp at this; omega
  | negSucc n => have := key 40 (n + 1) []; show (digitsOf 40 (n + 1) []).length + 1 ≤ 1000; simp at this; omega

theorem es_toStr (K : C.Ok) (n : notStar x = true) (iha : ES C a x) (g : glo C.env.scope fx = true) (e : fx = ("str" : Str)) : ES C (.toStr a) (.Call (.Name fx np) [x] [] pos) := by
  subst e
  refine es_ty K (ps := [a]) ⟨n, iha, trivial⟩ g PyProof.Rows.Boot.«str» (by simp [biNames]) (fun ρ => un_eq C ρ a _) fun ρ vs xs h tk Q E st r H => call_un (fun v x r H => ?_) r H
  split at H
  · rename_i i
    obtain ⟨t, rfl⟩ := r
    split at H
    · rename_i e
      refine P.str_of_int ?_ ?_
      · have := w64_lt e
        by_cases z : i.natAbs = 0
        · rw [z]; decide +kernel
        · exact (Nat.log2_lt z).mpr (Nat.lt_trans this (by decide +kernel))
      · exact H _ h _ (K.refl h) ⟨tk, by rw [← textOfInt_eq e], textOfInt_len e⟩
    · exact H.elim
  · exact H.elim

theorem es_inStr (K : C.Ok) (hs : notSet y = true) (iha : ES C a x) (ihb : ES C b y) : ES C (.inStr a b) (.Compare x [.In] [y] pos) := by
  intro ρ h tk Q E st H
  have H : Post C ((evalE C.Φ a ρ).bind fun v => (evalE C.Φ b ρ).bind fun w => match v, w with
    | .at (.str [c]), .at (.str l) => okB (l.contains c)
    | _, _ => .fail) Q E h := H
  refine wpAny_Compare1 (wpAny_mono (iha ρ h tk _ E st H.bind) ?_ fun _ _ e => e) (behind_set hs)
  rintro v s₁ ⟨h₁, tk₁, z, rfl, g₁, r₁, e₁, H₁⟩
  refine wpAny_mono (ihb ρ h₁ tk₁ _ E (K.st g₁ st) (H₁.go K g₁).bind) ?_ fun _ _ e => e
  rintro w s₂ ⟨h₂, tk₂, u, rfl, g₂, r₂, e₂, H₂⟩
  have H₂ := H₂.go K g₂
  split at H₂
  · rename_i c l _
    obtain ⟨t, rfl, _⟩ := r₁
    obtain ⟨t', rfl, _⟩ := r₂
    refine SB.contains ?_
    have e : Txt.contains (mkS l) (mkS [c]) = l.contains c := by
      show (!(Builtin.Str.occurrences (mkS l) ⟨#[c]⟩ 0 (mkS l).length 1).isEmpty) = _
      rw [StrLaws.found_one]
      by_cases hc : c ∈ l
      · rw [decide_eq_true (show c ∈ (mkS l).cps.toList by simpa [mkS] using hc)]
        exact (List.contains_iff_mem.mpr hc).symm
      · rw [decide_eq_false (show ¬ c ∈ (mkS l).cps.toList by simpa [mkS] using hc)]
        exact (Bool.eq_false_iff.mpr fun q => hc (List.contains_iff_mem.mp q)).symm
    rw [e]
    exact H₂ _ h₂ _ (K.refl _) rfl
  · exact H₂.elim
end
end Mine
end

section
set_option maxRecDepth 100000
set_option linter.unusedVariables false
set_option genSizeOf false
set_option genInjectivity false
open PySem PySem.W PySem.NumText PyProof.Rows
namespace Mine

noncomputable def isStrV (k : Str) : Value → Bool
  | .str i _ => i == k
  | _ => false
theorem Keeps.push (h : Heap) (o : Obj) : Keeps h (h.push o) := fun b o' e => Heap.get?_push_of_some o e

section
variable {C : Cx} {h : Heap} {tk : Nat} {Q E : Value → Shared → Prop} {a b c : PE} {x y z : Expr} {fx : Str} {np pos : Pos}

theorem lits_evalD {env : Env} : ∀ (l : List (List Nat)) (d : (pAll pSt l).D) {h : Heap} {tk : Nat} {Q : List Value → Shared → Prop}
    (k : ∀ vs tk', StrsAre vs (l.map mkS) → vs.length = l.length → Q vs (C.mk' h tk')), wpAny C.M C.A (spliced (backTo pos (starEach ((pAll pSt l).im d) env))) Q E (C.mk' h tk)
  | [], d, h, tk, Q, k => Calls.spliced_nil (k [] tk .nil rfl)
  | l :: r, d, h, tk, Q, k => by
    show wpAny C.M C.A (spliced (backTo pos (starEach (.Constant (.str d.1.1.1) d.1.2.1 d.1.2.2 :: (pAll pSt r).im d.2) env))) Q E (C.mk' h tk)
    rw [starEach_of rfl, backTo_plain]
    refine Calls.spliced_cons (Calls.Constant_str (lits_evalD r d.2 fun vs tk' hs hl => k _ tk' ?_ (congrArg (· + 1) hl)))
    rw [strIs_eq d.1.1.2]
    exact .cons _ _ hs
theorem lits_eval {env : Env} {l : List (List Nat)} {es : List Expr} {h : Heap} {tk : Nat} {Q : List Value → Shared → Prop} (e : litsAre l es = true)
    (k : ∀ vs tk', StrsAre vs (l.map mkS) → vs.length = l.length → Q vs (C.mk' h tk')) : wpAny C.M C.A (spliced (backTo pos (starEach es env))) Q E (C.mk' h tk) := by
  obtain ⟨d, rfl⟩ := Pat.of e
  exact lits_evalD l d k
theorem any_mkS (l : List (List Nat)) (s : List Nat) : (l.map mkS).any (· == mkS s) = l.any fun x => x == s := by
  induction l with
  | nil => rfl
  | cons a r ih => simp only [List.map_cons, List.any_cons, ih, mkS_eq]

theorem es_inLits (K : C.Ok) {neg tup : Bool} {l : List (List Nat)} {r : Expr} {o : CmpOp} (ho : o = if neg then .NotIn else .In) (hl : l.length ≤ 1000)
    (hr : (match r with | .List es _ => !tup && litsAre l es | .Tuple es _ _ => tup && litsAre l es | _ => false) = true) (iha : ES C a x) : ES C (.inLits neg tup a l) (.Compare x [o] [r] pos) := by
  intro ρ h tk Q E st H
  have H : Post C ((evalE C.Φ a ρ).bind fun v => match v with
    | .at (.str s) => okB (neg != l.any fun x => x == s)
    | _ => .fail) Q E h := H
  have hm : behindInMarks o r = false := by
    cases r <;> first | rfl | cases hr
  refine wpAny_Compare1 (wpAny_mono (iha ρ h tk _ E st H.bind) ?_ fun _ _ e => e) hm
  rintro v s₁ ⟨h₁, tk₁, z, rfl, g₁, r₁, e₁, H₁⟩
  have H₁ := H₁.go K g₁
  split at H₁
  · rename_i s _
    obtain ⟨t, rfl, _⟩ := r₁
    split at hr
    · rename_i es p
      obtain ⟨_, e⟩ := Bool.and_eq_true_iff.mp hr
      refine List_ (lits_eval e fun vs tk' hs hle => ?_)
      refine wpAny_newObj_type ?_ (by show vs.toArray.size ≤ sizeLine; rw [List.size_toArray, hle]; exact le_line hl)
      have hL : (h₁.push { cls := .type "list", data := .seq vs.toArray }).IsList h₁.objs.size vs.toArray := ⟨_, Heap.get?_push_size _ rfl, rfl, _, rfl⟩
      have fin := H₁ (.bool (neg != l.any fun x => x == s)) (h₁.push { cls := .type "list", data := .seq vs.toArray }) tk' (K.keeps (Keeps.push _ _)) rfl
      cases neg with
      | false => subst ho; exact in_list_strs hL hs (by rw [any_mkS]; simpa using fin)
      | true => subst ho; exact notin_list_strs hL hs (by rw [any_mkS]; simpa using fin)
    · rename_i es p
      obtain ⟨_, e⟩ := Bool.and_eq_true_iff.mp hr
      refine Tuple_ (lits_eval e fun vs tk' hs hle => ?_)
      refine wpAny_newObj_type ?_ (by show vs.toArray.size ≤ sizeLine; rw [List.size_toArray, hle]; exact le_line hl)
      have hL : IsTup (h₁.push { cls := .type "tuple", data := .seq vs.toArray }) h₁.objs.size vs.toArray := ⟨_, Heap.get?_push_size _ rfl, rfl, _, rfl⟩
      have fin := H₁ (.bool (neg != l.any fun x => x == s)) (h₁.push { cls := .type "tuple", data := .seq vs.toArray }) tk' (K.keeps (Keeps.push _ _)) rfl
      cases neg with
      | false => subst ho; exact in_tuple_strs hL hs (by rw [any_mkS]; simpa using fin)
      | true => subst ho; exact notin_tuple_strs hL hs (by rw [any_mkS]; simpa using fin)
    · cases hr
  · exact H₁.elim

noncomputable def sameV : Value → Value → Bool
  | .none, .none => true
  | .bool a, .bool b => a == b
  | _, _ => false
theorem any_same : ∀ {vs : List Value} {l : List A} {v : Value} {q : A}, RelAs vs l → RelA v q → l.all simpleA = true → simpleA q = true → vs.any (fun y => sameV y v) = l.any fun y => sameA y q
  | [], [], _, _, _, _, _, _ => rfl
  | w :: vs, a :: l, v, q, ⟨r, rs⟩, rv, hs, hq => by
    simp only [List.all_cons, Bool.and_eq_true] at hs
    rw [List.any_cons, List.any_cons, any_same rs rv hs.2 hq]
    congr 1
    cases a <;> cases q <;> first | (cases hs.1; done) | (cases hq; done) | (cases r; cases rv; rfl)
  | [], _ :: _, _, _, r, _, _, _ => r.elim
  | _ :: _, [], _, _, r, _, _, _ => r.elim
theorem eq_same {A : Around} {s : Shared} : ∀ {vs : List Value} {l : List Mine.A} {v : Value} {q : Mine.A}, RelAs vs l → RelA v q → l.all simpleA = true → simpleA q = true → ∀ y, y ∈ vs → SeqAt.EqAt A s y v (sameV y v)
  | [], [], _, _, _, _, _, _, _, hy => nomatch hy
  | w :: vs, a :: l, v, q, ⟨r, rs⟩, rv, hs, hq, y, hy => by
    simp only [List.all_cons, Bool.and_eq_true] at hs
    rcases List.mem_cons.mp hy with rfl | hy
    · cases a <;> cases q <;> first | (cases hs.1; done) | (cases hq; done) | skip
      · cases r; cases rv; exact SeqAt.EqAt.same _
      · cases r; cases rv; exact SeqAt.EqAt.none_bool _
      · cases r; cases rv; exact SeqAt.EqAt.bool_none _
      · cases r; cases rv; exact SeqAt.EqAt.bool_bool _ _
    · exact eq_same rs rv hs.2 hq y hy
  | [], _ :: _, _, _, r, _, _, _, _, _ => r.elim
  | _ :: _, [], _, _, r, _, _, _, _, _ => r.elim

theorem es_inLst (K : C.Ok) (hs : notSet y = true) (iha : ES C a x) (ihb : ES C b y) : ES C (.inLst a b) (.Compare x [.In] [y] pos) := by
  intro ρ h tk Q E st H
  have H : Post C ((evalE C.Φ a ρ).bind fun v => (evalE C.Φ b ρ).bind fun w => inV v w) Q E h := H
  refine wpAny_Compare1 (wpAny_mono (iha ρ h tk _ E st H.bind) ?_ fun _ _ e => e) (behind_set hs)
  rintro v s₁ ⟨h₁, tk₁, z, rfl, g₁, r₁, e₁, H₁⟩
  refine wpAny_mono (ihb ρ h₁ tk₁ _ E (K.st g₁ st) (H₁.go K g₁).bind) ?_ fun _ _ e => e
  rintro w s₂ ⟨h₂, tk₂, u, rfl, g₂, r₂, e₂, H₂⟩
  replace H₂ := H₂.go K g₂
  replace r₁ := K.rel g₂ r₁
  unfold inV at H₂
  have lst : ∀ l, lstOf u = some l → ∃ ad vs, w = .ref ad ∧ h₂.IsList ad vs.toArray ∧ RelAs vs l := fun l q => by
    cases u with
    | lst l' => cases q; obtain ⟨ad, vs, rfl, hS, hL, hR, _⟩ := r₂; exact ⟨ad, vs, rfl, hL.isList, hR⟩
    | lz l' => cases q; obtain ⟨ad, vs, rfl, hS, hL, hR, _⟩ := r₂; exact ⟨ad, vs, rfl, hL, hR⟩
    | _ => cases q
  split at H₂
  · rename_i q l eq
    split at H₂
    · rename_i e
      obtain ⟨e1, e2⟩ := Bool.and_eq_true_iff.mp e
      obtain ⟨ad, vs, rfl, hL, hR⟩ := lst l eq
      refine SeqAt.in_listAt (fun y => sameV y v) hL (fun y hy => eq_same hR r₁ e2 e1 y (by simpa using hy)) ?_
      rw [show vs.toArray.any (fun y => sameV y v) = l.any fun y => sameA y q by rw [← Array.any_toList]; exact any_same hR r₁ e2 e1]
      exact H₂ _ h₂ _ (K.refl _) rfl
    · exact H₂.elim
  · exact H₂.elim
end
end Mine
end

section
set_option maxRecDepth 100000
set_option linter.unusedVariables false
set_option genSizeOf false
set_option genInjectivity false
open PySem PySem.W PySem.NumText PyProof.Rows
namespace Mine

theorem mkS_inj {x : PySem.Str} {l : List Nat} (e : x.cps.toList = l) : x = mkS l := by
  obtain ⟨⟨a⟩⟩ := x
  exact congrArg (fun z => PySem.Str.mk ⟨z⟩) e
theorem takeWhile_le (p : Nat → Bool) (l : List Nat) : (l.takeWhile p).length ≤ l.length := by
  induction l with
  | nil => exact Nat.le_refl _
  | cons a r ih => rw [List.takeWhile_cons]; split <;> simp <;> omega
theorem drop_while (p : Nat → Bool) (l : List Nat) : l.drop (l.takeWhile p).length = l.dropWhile p := by
  induction l with
  | nil => rfl
  | cons a r ih =>
    rw [List.takeWhile_cons, List.dropWhile_cons]
    split
    · simpa using ih
    · rfl
theorem lstrip_eq (s l : List Nat) : Txt.lstripChars (mkS s) (mkS l) = mkS (s.dropWhile fun c => l.contains c) := by
  have hp : (mkS l).cps.contains = fun c => l.contains c := by funext c; simp [mkS]
  unfold Txt.lstripChars Txt.stripBy stripSame PySem.stripped stripLo stripHi
  rw [hp]
  simp only [if_true, Bool.false_eq_true, if_false, mkS_length]
  have key := drop_while (fun c => l.contains c) s
  split
  · rename_i h
    obtain ⟨h1, _⟩ := Bool.and_eq_true_iff.mp h
    have h1 : (s.takeWhile fun c => l.contains c).length = 0 := eq_of_beq h1
    rw [h1] at key
    rw [← key]
    rfl
  · refine mkS_inj ?_
    rw [← key]
    show (Builtin.Str.strSub (mkS s) (s.takeWhile fun c => l.contains c).length s.length).cps.toList = _
    rw [StrLaws.strSub_toList]
    exact List.take_of_length_le (by simp [mkS])
theorem drop_le (p : Nat → Bool) (l : List Nat) : (l.dropWhile p).length ≤ l.length := by
  rw [← drop_while]; simp

section
variable {C : Cx} {h : Heap} {tk : Nat} {Q E : Value → Shared → Prop} {a b c : PE} {x y z : Expr} {fx : Str} {np pos : Pos}

theorem base_of {v : Expr} (h : notCall v = true) (attr : Str) (env : Env) (whole : Sem Value) : attributeBase v attr env whole = whole := by
  cases v <;> first | rfl | cases h

theorem es_lstrip (K : C.Ok) {l : List Nat} {s attr : Str} {n : Nat} {p ap : Pos} (hc : notCall x = true) (hl : (ap.endLine == pos.line) = true) (ha : attr = ("lstrip" : Str)) (e : strIs s l = true) (iha : ES C a x) :
    ES C (.lstrip a l) (.Call (.Attribute x attr ap) [.Constant (.str s) n p] [] pos) := by
  subst ha
  intro ρ h tk Q E st H
  have H : Post C ((evalE C.Φ a ρ).bind fun v => match v with | .at (.str s) => .ok (.at (.str (s.dropWhile fun c => l.contains c))) | _ => .fail) Q E h := H
  refine Call_method1 (base_of hc _ _ _) rfl hl (wpAny_mono (iha ρ h tk _ E st H.bind) ?_ fun _ _ e => e)
  rintro v s₁ ⟨h₁, tk₁, z, rfl, g₁, r₁, e₁, H₁⟩
  have H₁ := H₁.go K g₁
  split at H₁
  · rename_i t _
    obtain ⟨u, rfl, hu⟩ := r₁
    refine SB.lstripChars (Calls.Constant_str ⟨_, _, rfl, fun t' k => ?_⟩) (by rw [mkS_length]; exact le_line hu)
    rw [strIs_eq e]
    show Q (.str (Txt.lstripChars (mkS t) (mkS l)) t') _
    rw [lstrip_eq]
    exact H₁ _ h₁ k (K.refl _) ⟨t', rfl, Nat.le_trans (drop_le _ _) hu⟩
  · exact H₁.elim

theorem occ_digit {c : Nat} (h1 : 48 ≤ c) (h2 : c ≤ 57) : Builtin.Str.occurrences (mkS digitsL) (mkS [c]) 0 (mkS digitsL).length 1 = (c - 48) :: [] := by
  obtain ⟨d, hd, rfl⟩ : ∃ d, d < 10 ∧ c = 48 + d := ⟨c - 48, by omega, by omega⟩
  rw [Nat.add_sub_cancel_left]
  clear h1 h2
  revert d
  decide +kernel
theorem es_index (K : C.Ok) {attr : Str} {ap : Pos} (hc : notCall x = true) (hl : (ap.endLine == pos.line) = true) (ha : attr = ("index" : Str)) (hs : notStar y = true) (iha : ES C a x) (ihb : ES C b y) :
    ES C (.index a b) (.Call (.Attribute x attr ap) [y] [] pos) := by
  subst ha
  intro ρ h tk Q E st H
  have H : Post C ((evalE C.Φ a ρ).bind fun v => match v with | .at (.str l) => (evalE C.Φ b ρ).bind (digitAt l) | _ => .fail) Q E h := H
  refine Call_method1 (base_of hc _ _ _) (by rw [starEach_of hs]; rfl) hl (wpAny_mono (iha ρ h tk _ E st H.bind) ?_ fun _ _ e => e)
  rintro v s₁ ⟨h₁, tk₁, z, rfl, g₁, r₁, e₁, H₁⟩
  have H₁ := H₁.go K g₁
  split at H₁
  · rename_i l _
    obtain ⟨t, rfl, _⟩ := r₁
    refine SB.index (wpAny_mono (ihb ρ h₁ tk₁ _ E (K.st g₁ st) H₁.bind) ?_ fun _ _ e => e)
    rintro w s₂ ⟨h₂, tk₂, u, rfl, g₂, r₂, e₂, H₂⟩
    replace H₂ := H₂.go K g₂
    unfold digitAt at H₂
    split at H₂
    · rename_i c
      obtain ⟨t', rfl, _⟩ := r₂
      split at H₂
      · rename_i e
        obtain ⟨e, e3⟩ := Bool.and_eq_true_iff.mp e
        obtain ⟨e1, e2⟩ := Bool.and_eq_true_iff.mp e
        have e2 := Nat.le_of_ble_eq_true e2
        have e3 := Nat.le_of_ble_eq_true e3
        obtain rfl : l = digitsL := eq_of_beq e1
        have ho := occ_digit e2 e3
        revert H₂ ho
        generalize c - 48 = d
        intro H₂ ho
        exact ⟨mkS [c], t', rfl, d, [], ho, H₂ _ h₂ _ (K.refl _) ⟨_, rfl⟩⟩
      · exact H₂.elim
    · exact H₂.elim
  · exact H₁.elim
end
end Mine
end

section
set_option maxRecDepth 100000
set_option linter.unusedVariables false
set_option genSizeOf false
set_option genInjectivity false
open PySem PySem.W PySem.NumText PyProof.Rows
namespace Mine

theorem join_flat' : ∀ (ls : List (List Nat)), PySem.Str.join (mkS []) (ls.map mkS) = mkS ls.flatten
  | [] => rfl
  | [a] => by
    show mkS a = _
    simp
  | a :: b :: r => by
    have ih := join_flat' (b :: r)
    have ih : PySem.Str.join (mkS []) (mkS b :: r.map mkS) = mkS (b :: r).flatten := ih
    show mkS a ++ mkS [] ++ PySem.Str.join (mkS []) (mkS b :: r.map mkS) = _
    rw [ih, mkS_append, mkS_append]
    simp
theorem join_flat (ls : List (List Nat)) : (Txt.join (mkS []) (ls.map mkS)) = mkS ls.flatten := by
  rw [← join_flat', ← StrLaws.glued_eq_join]
  rfl
theorem strsOf_are : ∀ {vs : List Value} {l : List A} {ls : List (List Nat)}, RelAs vs l → strsOf l = some ls → StrsAre vs (ls.map mkS) ∧ ls.length = l.length
  | [], [], ls, _, e => by cases e; exact ⟨.nil, rfl⟩
  | v :: vs, a :: l, ls, ⟨r, rs⟩, e => by
    cases a with
    | str s =>
      unfold strsOf at e
      split at e
      · rename_i x q
        cases e
        obtain ⟨t, rfl, _⟩ := r
        obtain ⟨h1, h2⟩ := strsOf_are rs q
        exact ⟨.cons _ _ h1, by simp [h2]⟩
      · cases e
    | _ => cases e
  | [], _ :: _, _, r, _ => r.elim
  | _ :: _, [], _, r, _ => r.elim
theorem sum_mkS (ls : List (List Nat)) : ((ls.map mkS).map (·.length)).sum = ls.flatten.length := by
  induction ls with
  | nil => rfl
  | cons a r ih =>
    simp only [List.map_cons, List.sum_cons, List.flatten_cons, List.length_append, mkS_length]
    rw [← ih]

section
variable {C : Cx} {h : Heap} {tk : Nat} {Q E : Value → Shared → Prop} {a b c : PE} {x y z : Expr} {fx : Str} {np pos : Pos}

theorem es_join (K : C.Ok) {s attr : Str} {n : Nat} {p ap : Pos} (hl : (ap.endLine == pos.line) = true) (ha : attr = ("join" : Str)) (e : strIs s [] = true) (hs : notStar x = true) (iha : ES C a x) :
    ES C (.join a) (.Call (.Attribute (.Constant (.str s) n p) attr ap) [x] [] pos) := by
  subst ha
  intro ρ h tk Q E st H
  have H : Post C ((evalE C.Φ a ρ).bind fun v => match v with | .lst l => (match strsOf l with | some ls => (match Nat.ble ls.flatten.length 1000 with | true => .ok (.at (.str ls.flatten)) | false => .fail) | none => .fail) | _ => .fail) Q E h := H
  refine Call_method1 (base_of (v := .Constant (.str s) n p) rfl _ _ _) (by rw [starEach_of hs]; rfl) hl (Calls.Constant_str ?_)
  rw [strIs_eq e]
  refine SB.join (wpAny_mono (iha ρ h (tk + 1) _ E st H.bind) ?_ fun _ _ e => e)
  rintro v s₁ ⟨h₁, tk₁, z, rfl, g₁, r₁, e₁, H₁⟩
  replace H₁ := H₁.go K g₁
  split at H₁
  · rename_i l _
    obtain ⟨ad, vs, rfl, hS, hL, hR, hn⟩ := r₁
    split at H₁
    · rename_i ls q
      obtain ⟨hs, hlen⟩ := strsOf_are hR q
      split at H₁
      · rename_i e
        have e := Nat.le_of_ble_eq_true e
        obtain ⟨l', hv, ht⟩ := strsAre_values hs
        refine ⟨ad, l', rfl, by rw [← hv]; exact hL.isList, ls.map mkS, ht, ?_, fun t' k => ?_⟩
        · refine joinOk_of ?_
          rw [sum_mkS]
          show _ + _ * 0 ≤ _
          omega
        · show Q (.str (Txt.join (mkS []) (ls.map mkS)) t') _
          rw [join_flat]
          exact H₁ _ h₁ k (K.refl _) ⟨t', rfl, e⟩
      · exact H₁.elim
    · exact H₁.elim
  · exact H₁.elim

/-! items -/
theorem isName_go {v : Expr} (h : isName v = true) (o r : Value) : letTemporaryGo v o r = pure () := by
  cases v <;> first | rfl | cases h
theorem sub_plain {s : Expr} (h : (match s with | .Slice _ _ _ _ => false | _ => true) = true) (o i : Value) : subscripted s false o i = operate [o, i] (getItem o i) := by
  cases s <;> first | rfl | cases h
theorem seqIndex_nat {n m : Nat} (h : n < m) : seqIndex? (n : Int) m = some n := by
  have hn : ¬ (n : Int) < 0 := by omega
  have h0 : (0 : Int) ≤ n := by omega
  have h1 : (n : Int) < m := by omega
  simp [seqIndex?, hn, h0, h1]
theorem drop_get {α : Type} {l : List α} {n : Nat} {c : α} {r : List α} (e : l.drop n = c :: r) : l[n]? = some c ∧ n < l.length := by
  have hn : n < l.length := by
    have := congrArg List.length e
    simp at this
    omega
  refine ⟨?_, hn⟩
  have := List.getElem?_drop (xs := l) (i := n) (j := 0)
  rw [e] at this
  simpa using this.symm
theorem relAs_get : ∀ {vs : List Value} {l : List A} {n : Nat} {a : A}, RelAs vs l → l[n]? = some a → ∃ v, vs[n]? = some v ∧ RelA v a
  | [], [], _, _, _, e => by cases e
  | v :: vs, b :: l, 0, a, ⟨r, _⟩, e => by cases e; exact ⟨v, rfl, r⟩
  | v :: vs, b :: l, n + 1, a, ⟨_, rs⟩, e => by
    obtain ⟨w, hw, r⟩ := relAs_get rs e
    exact ⟨w, hw, r⟩
  | [], _ :: _, _, _, r, _ => r.elim
  | _ :: _, [], _, _, r, _ => r.elim
theorem relAs_len : ∀ {vs : List Value} {l : List A}, RelAs vs l → vs.length = l.length
  | [], [], _ => rfl
  | _ :: _, _ :: _, ⟨_, r⟩ => by simp [relAs_len r]
  | [], _ :: _, r => r.elim
  | _ :: _, [], r => r.elim

theorem wp_item (K : C.Ok) {ve se : Expr} {v w : Value} {p q : V} (hv : isName ve = true) (hs : (match se with | .Slice _ _ _ _ => false | _ => true) = true)
    (r : Rel C.S h v p) (r' : Rel C.S h w q) (H : Post C (itemV p q) Q E h) : wpAny C.M C.A (subscriptTail ve se v w) Q E (C.mk' h tk) := by
  unfold itemV at H
  split at H
  · rename_i l n
    obtain ⟨t, rfl, hl⟩ := r
    obtain ⟨u, rfl⟩ := r'
    split at H
    · rename_i c rest e
      obtain ⟨e1, e2⟩ := drop_get e
      refine subscriptTail_builtin (typeIs_str _ _ _) F.slot_str_getitem.lookup ?_ (sub_plain hs _ _) (fun _ => isName_go hv _ _)
      refine P.getItem_str (c := c) ?_ ?_ (H _ h _ (K.refl _) ⟨_, rfl, by simp⟩)
      · have h1 : ¬ (Int.ofNat n) < -(2 ^ 63 : Int) := by show ¬ (n : Int) < _; omega
        have h2 : ¬ (Int.ofNat n) ≥ 2 ^ 63 := by show ¬ (n : Int) ≥ _; omega
        rw [decide_eq_false h1, decide_eq_false h2]; rfl
      · show (seqIndex? (n : Int) (mkS l).length).bind _ = _
        rw [mkS_length, seqIndex_nat e2]
        simpa [mkS] using e1
    · exact H.elim
  · rename_i l n
    obtain ⟨t, rfl, hl, hb⟩ := r
    obtain ⟨u, rfl⟩ := r'
    split at H
    · rename_i c rest e
      obtain ⟨e1, e2⟩ := drop_get e
      refine subscriptTail_builtin (typeIs_bytes _ _ _) FB.slot_bytes_getitem.lookup ?_ (sub_plain hs _ _) (fun _ => isName_go hv _ _)
      refine getItem_bytes (by simp; omega) (by show (0 : Int) ≤ n; omega) (by show (n : Int) < _; simp; exact e2) ?_
      have hc : c < 256 := by
        have := List.all_eq_true.mp hb c (List.mem_of_getElem? e1)
        exact Nat.le_of_ble_eq_true this
      have e3 : (((l.map UInt8.ofNat).getD (Int.ofNat n).toNat 0).toNat : Int) = (c : Int) := by
        have : (l.map UInt8.ofNat).getD n 0 = UInt8.ofNat c := by simp [List.getD, e1]
        show (((l.map UInt8.ofNat).getD n 0).toNat : Int) = _
        rw [this]
        simp [Nat.mod_eq_of_lt hc]
      rw [e3]
      exact H _ h _ (K.refl _) ⟨_, rfl⟩
    · exact H.elim
  · rename_i l n
    obtain ⟨ad, vs, rfl, hS, hT, hR⟩ := r
    obtain ⟨u, rfl⟩ := r'
    split at H
    · rename_i hn
      have hn := Nat.le_of_ble_eq_true hn
      split at H
      · rename_i c rest e
        obtain ⟨e1, e2⟩ := drop_get e
        obtain ⟨w, hw, rw⟩ := relAs_get hR e1
        have hlen := relAs_len hR
        exact item_tuple hT (by show _ ≤ (n : Int); omega) (by show (n : Int) < _; omega) (j := n) (by rw [List.size_toArray, hlen]; exact seqIndex_nat e2) (by simpa using hw) (H _ h _ (K.refl _) rw) (sub_plain hs _ _) (fun _ => isName_go hv _ _)
      · exact H.elim
    · exact H.elim
  · exact H.elim

theorem es_sub (K : C.Ok) (hv : isName x = true) (hs : (match y with | .Slice _ _ _ _ => false | _ => true) = true) (iha : ES C a x) (ihb : ES C b y) : ES C (.sub a b) (.Subscript x y pos) := by
  intro ρ h tk Q E st H
  have H : Post C ((evalE C.Φ a ρ).bind fun v => (evalE C.Φ b ρ).bind fun w => itemV v w) Q E h := H
  refine Subscript_ (wpAny_mono (iha ρ h tk _ E st H.bind) ?_ fun _ _ e => e)
  rintro v s₁ ⟨h₁, tk₁, z, rfl, g₁, r₁, e₁, H₁⟩
  refine wpAny_mono (ihb ρ h₁ tk₁ _ E (K.st g₁ st) (H₁.go K g₁).bind) ?_ fun _ _ e => e
  rintro w s₂ ⟨h₂, tk₂, u, rfl, g₂, r₂, e₂, H₂⟩
  exact wp_item K hv hs (K.rel g₂ r₁) r₂ (H₂.go K g₂)

theorem slice_take (l : List Nat) (n : Nat) : Txt.slice (mkS l) none (some (n : Int)) = mkS (l.take n) := by
  by_cases hn : n ≤ l.length
  · have := eq_of_beq (slice_closes_to (x := mkS l) (j := (n : Int)) ⟨by omega, by simp [mkS]; exact hn⟩)
    rw [this]
    simp [mkS]
  · rw [slice_to_beyond (by rw [mkS_length]; omega)]
    have := eq_of_beq (slice_closes_to (x := mkS l) (j := ((mkS l).length : Int)) ⟨by omega, by simp [mkS, PySem.Str.length]⟩)
    rw [this]
    have e : l.take n = l := List.take_of_length_le (by omega)
    simp [mkS, PySem.Str.length, e]
theorem slice_drop (l : List Nat) (n : Nat) (hn : n ≤ l.length) : Txt.slice (mkS l) (some (n : Int)) none = mkS (l.drop n) := by
  have := eq_of_beq (slice_closes_fromL (x := mkS l) (i := (n : Int)) (b := ((mkS l).length : Int)) (by omega) (by rw [mkS_length]; omega) rfl)
  rw [this]
  have e : (l.drop n).take (l.length - n) = l.drop n := List.take_of_length_le (by simp)
  have e2 : ((l.length : Int) - (n : Int)).toNat = l.length - n := by omega
  simp [mkS, PySem.Str.length, e2, e]
theorem slice_mid (l : List Nat) (n m : Nat) (hn : n ≤ m) (hm : m ≤ l.length) : Txt.slice (mkS l) (some (n : Int)) (some (m : Int)) = mkS ((l.drop n).take (m - n)) := by
  have := eq_of_beq (slice_closesL (x := mkS l) (i := (n : Int)) (j := (m : Int)) (by omega) (by omega) (by rw [mkS_length]; omega))
  rw [this]
  have e2 : ((m : Int) - (n : Int)).toNat = m - n := by omega
  simp [mkS, e2]

theorem post_slice {l : List Nat} {t : Tok} {lo hi : Option (Int × Tok)} {s : Shared} (hl : l.length ≤ 1000) (h : ∀ t' k, Q (.str (Txt.slice (mkS l) (lo.map (·.1)) (hi.map (·.1))) t') { s with toks := k }) :
    (sliceMade (mkS l) t lo hi none).post Q s :=
  post_val_or_str ⟨Nat.le_trans (Txt.slice_le _ _ _) (by rw [mkS_length]; exact le_line hl), h⟩

theorem es_sliceTo (K : C.Ok) {p : Pos} (hv : isName x = true) (iha : ES C a x) (ihb : ES C b y) : ES C (.sliceTo a b) (.Subscript x (.Slice none (some y) none p) pos) := by
  intro ρ h tk Q E st H
  have H : Post C ((evalE C.Φ a ρ).bind fun v => (evalE C.Φ b ρ).bind fun w => sliceToV v w) Q E h := H
  refine wpAny_Subscript_str_slice (wpAny_mono (iha ρ h tk _ E st H.bind) ?_ fun _ _ e => e) (fun _ _ => isName_go hv _ _)
  rintro v s₁ ⟨h₁, tk₁, z, rfl, g₁, r₁, e₁, H₁⟩
  refine evalPart_none_step (evalPart_some_step (wpAny_mono (ihb ρ h₁ tk₁ _ E (K.st g₁ st) (H₁.go K g₁).bind) ?_ fun _ _ e => e))
  rintro w s₂ ⟨h₂, tk₂, u, rfl, g₂, r₂, e₂, H₂⟩
  replace H₂ := H₂.go K g₂
  replace r₁ := K.rel g₂ r₁
  unfold sliceToV at H₂
  split at H₂
  · rename_i l n
    obtain ⟨t, rfl, hl⟩ := r₁
    obtain ⟨t', rfl⟩ := r₂
    refine ⟨mkS l, t, none, some ((n : Int), t'), rfl, rfl, rfl, post_slice hl fun t'' k => ?_⟩
    show Q (.str (Txt.slice (mkS l) none (some (n : Int))) t'') _
    rw [slice_take]
    exact H₂ _ _ k (K.keeps (Keeps.push _ _)) ⟨t'', rfl, by rw [List.length_take]; omega⟩
  · exact H₂.elim
theorem es_sliceFrom (K : C.Ok) {p : Pos} (hv : isName x = true) (iha : ES C a x) (ihb : ES C b y) : ES C (.sliceFrom a b) (.Subscript x (.Slice (some y) none none p) pos) := by
  intro ρ h tk Q E st H
  have H : Post C ((evalE C.Φ a ρ).bind fun v => (evalE C.Φ b ρ).bind fun w => sliceFromV v w) Q E h := H
  refine wpAny_Subscript_str_slice (wpAny_mono (iha ρ h tk _ E st H.bind) ?_ fun _ _ e => e) (fun _ _ => isName_go hv _ _)
  rintro v s₁ ⟨h₁, tk₁, z, rfl, g₁, r₁, e₁, H₁⟩
  refine evalPart_some_step (wpAny_mono (ihb ρ h₁ tk₁ _ E (K.st g₁ st) (H₁.go K g₁).bind) ?_ fun _ _ e => e)
  rintro w s₂ ⟨h₂, tk₂, u, rfl, g₂, r₂, e₂, H₂⟩
  replace H₂ := H₂.go K g₂
  replace r₁ := K.rel g₂ r₁
  refine evalPart_none_step ?_
  unfold sliceFromV at H₂
  split at H₂
  · rename_i l n
    obtain ⟨t, rfl, hl⟩ := r₁
    obtain ⟨t', rfl⟩ := r₂
    split at H₂
    · rename_i e
      refine ⟨mkS l, t, some ((n : Int), t'), none, rfl, rfl, rfl, post_slice hl fun t'' k => ?_⟩
      show Q (.str (Txt.slice (mkS l) (some (n : Int)) none) t'') _
      rw [slice_drop _ _ (Nat.le_of_ble_eq_true e)]
      exact H₂ _ _ k (K.keeps (Keeps.push _ _)) ⟨t'', rfl, by rw [List.length_drop]; omega⟩
    · exact H₂.elim
  · exact H₂.elim
theorem es_slice (K : C.Ok) {p : Pos} (hv : isName x = true) (iha : ES C a x) (ihb : ES C b y) (ihc : ES C c z) : ES C (.slice a b c) (.Subscript x (.Slice (some y) (some z) none p) pos) := by
  intro ρ h tk Q E st H
  have H : Post C ((evalE C.Φ a ρ).bind fun v => (evalE C.Φ b ρ).bind fun w => (evalE C.Φ c ρ).bind fun x => sliceV v w x) Q E h := H
  refine wpAny_Subscript_str_slice (wpAny_mono (iha ρ h tk _ E st H.bind) ?_ fun _ _ e => e) (fun _ _ => isName_go hv _ _)
  rintro v s₁ ⟨h₁, tk₁, z', rfl, g₁, r₁, e₁, H₁⟩
  refine evalPart_some_step (wpAny_mono (ihb ρ h₁ tk₁ _ E (K.st g₁ st) (H₁.go K g₁).bind) ?_ fun _ _ e => e)
  rintro w s₂ ⟨h₂, tk₂, u, rfl, g₂, r₂, e₂, H₂⟩
  refine evalPart_some_step (wpAny_mono (ihc ρ h₂ tk₂ _ E (K.st g₂ (K.st g₁ st)) (H₂.go K g₂).bind) ?_ fun _ _ e => e)
  rintro w' s₃ ⟨h₃, tk₃, u', rfl, g₃, r₃, e₃, H₃⟩
  replace H₃ := H₃.go K g₃
  replace r₁ := K.rel g₃ (K.rel g₂ r₁)
  replace r₂ := K.rel g₃ r₂
  unfold sliceV at H₃
  split at H₃
  · rename_i l n m
    obtain ⟨t, rfl, hl⟩ := r₁
    obtain ⟨t', rfl⟩ := r₂
    obtain ⟨t₃, rfl⟩ := r₃
    split at H₃
    · rename_i e
      obtain ⟨ea, eb⟩ := Bool.and_eq_true_iff.mp e
      refine ⟨mkS l, t, some ((n : Int), t'), some ((m : Int), t₃), rfl, rfl, rfl, post_slice hl fun t'' k => ?_⟩
      show Q (.str (Txt.slice (mkS l) (some (n : Int)) (some (m : Int))) t'') _
      rw [slice_mid _ _ _ (Nat.le_of_ble_eq_true ea) (Nat.le_of_ble_eq_true eb)]
      exact H₃ _ _ k (K.keeps (Keeps.push _ _)) ⟨t'', rfl, by rw [List.length_take, List.length_drop]; omega⟩
    · exact H₃.elim
  · exact H₃.elim
end
end Mine
end

section
set_option maxRecDepth 100000
set_option linter.unusedVariables false
set_option genSizeOf false
set_option genInjectivity false
open PySem PySem.W PySem.NumText PyProof.Rows
namespace Mine

theorem sub_name {i : Expr} (hn : isName i = true) (o v : Value) : subscripted i false o v = operate [o, v] (getItem o v) := by
  cases i <;> first | rfl | cases hn
theorem mkS_ne {a b : List Nat} (h : (!(a == b)) = true) : mkS a ≠ mkS b := by
  intro e
  have := mkS_eq a b
  rw [e, beq_self_eq_true] at this
  rw [← this] at h
  cases h

section
variable {C : Cx} {h : Heap} {tk : Nat} {Q E : Value → Shared → Prop} {a b c d : PE} {x y z i : Expr} {fx : Str} {np pos : Pos}

theorem dict_dec (s k : List Nat) : decide (mkS k = mkS s) = (s == k) := by
  by_cases e : s = k
  · subst e; simp
  · rw [beq_false_of_ne e]
    exact decide_eq_false fun q => mkS_ne (a := s) (b := k) (by rw [beq_false_of_ne e]; rfl) q.symm
theorem dict_va {k1 k2 k3 s : List Nat} {v v₂ v₃ : Value} : valueAt [(mkS k1, v), (mkS k2, v₂), (mkS k3, v₃)] (mkS s) = if s == k1 then some v else if s == k2 then some v₂ else if s == k3 then some v₃ else none := by
  unfold valueAt
  simp only [List.find?_cons, dict_dec]
  cases s == k1 <;> cases s == k2 <;> cases s == k3 <;> rfl
theorem okAt_at (K : C.Ok) {q : V} {u : Value} {h₁ h₂ : Heap} {tk : Nat} (r : Rel C.S h₁ u q) (p : Post C (okAt q) Q E h₂) : Q u (C.mk' h₂ tk) := by
  cases q with
  | «at» a => exact p u h₂ _ (K.refl _) r
  | _ => exact p.elim
theorem nodup3 {k1 k2 k3 : List Nat} (d1 : (!(k1 == k2)) = true) (d2 : (!(k1 == k3)) = true) (d3 : (!(k2 == k3)) = true) : [mkS k1, mkS k2, mkS k3].Nodup := by
  have m1 := mkS_ne d1
  have m2 := mkS_ne d2
  have m3 := mkS_ne d3
  simp [m1, m2, m3]

theorem es_dict3 (K : C.Ok) {k1 k2 k3 : List Nat} {s1 s2 s3 : Str} {n1 n2 n3 : Nat} {p1 p2 p3 dp : Pos} (e1 : strIs s1 k1 = true) (e2 : strIs s2 k2 = true) (e3 : strIs s3 k3 = true)
    (d1 : (!(k1 == k2)) = true) (d2 : (!(k1 == k3)) = true) (d3 : (!(k2 == k3)) = true) (iha : ES C a x) (ihb : ES C b y) (ihc : ES C c z) (ihd : ES C d i) (hn : isName i = true) :
    ES C (.dict3 k1 k2 k3 a b c d) (.Subscript (.Dict [some (.Constant (.str s1) n1 p1), some (.Constant (.str s2) n2 p2), some (.Constant (.str s3) n3 p3)] [x, y, z] dp) i pos) := by
  intro ρ h tk Q E st H
  have H : Post C ((evalE C.Φ a ρ).bind fun va => (evalE C.Φ b ρ).bind fun vb => (evalE C.Φ c ρ).bind fun vc => (evalE C.Φ d ρ).bind (dictV k1 k2 k3 va vb vc)) Q E h := H
  have g₀ : C.Go h (h.push { cls := .type "dict", data := .dict #[] }) := K.keeps (Keeps.push _ _)
  have S₀ := K.fresh st
  refine Subscript_ (wpAny_Dict_walk (knd := strKind C.prog C.w) rfl rfl (by simp) (by simp) ?_)
  refine evalPairs_cons (Calls.Constant_str (wpAny_bind (wpAny_mono (iha ρ _ _ _ E (K.st g₀ st) (Post.go K g₀ H).bind) ?_ fun _ _ e => e)))
  rintro v s₁ ⟨h₁, tk₁, va, rfl, g₁, r₁, q₁, _⟩
  refine wpAny_bind (wpAny_standAt (wpAny_pure ?_))
  have G₁ := K.trans g₀ g₁
  rw [q₁] at H
  replace H : Post C ((evalE C.Φ b ρ).bind fun vb => (evalE C.Φ c ρ).bind fun vc => (evalE C.Φ d ρ).bind (dictV k1 k2 k3 va vb vc)) Q E h := H
  refine evalPairs_cons (Calls.Constant_str (wpAny_bind (wpAny_mono (ihb ρ _ _ _ E (K.st G₁ st) (Post.go K G₁ H).bind) ?_ fun _ _ e => e)))
  rintro v₂ s₂ ⟨h₂, tk₂, vb, rfl, g₂, r₂, q₂, _⟩
  refine wpAny_bind (wpAny_standAt (wpAny_pure ?_))
  have G₂ := K.trans G₁ g₂
  rw [q₂] at H
  replace H : Post C ((evalE C.Φ c ρ).bind fun vc => (evalE C.Φ d ρ).bind (dictV k1 k2 k3 va vb vc)) Q E h := H
  refine evalPairs_cons (Calls.Constant_str (wpAny_bind (wpAny_mono (ihc ρ _ _ _ E (K.st G₂ st) (Post.go K G₂ H).bind) ?_ fun _ _ e => e)))
  rintro v₃ s₃ ⟨h₃, tk₃, vc, rfl, g₃, r₃, q₃, _⟩
  refine wpAny_bind (wpAny_standAt (wpAny_pure (evalPairs_nil ?_)))
  have G₃ := K.trans G₂ g₃
  rw [q₃] at H
  replace H : Post C ((evalE C.Φ d ρ).bind (dictV k1 k2 k3 va vb vc)) Q E h := H
  obtain ⟨o, ho, hd⟩ := Heap.dictOf_iff.mp (Heap.DictOf.new (knd := strKind C.prog C.w) h)
  have ho' : h₃.get? h.objs.size = some o := K.own g₃ S₀ (K.own g₂ S₀ (K.own g₁ S₀ ho))
  have z1 := strIs_eq e1
  have z2 := strIs_eq e2
  have z3 := strIs_eq e3
  subst z1
  subst z2
  subst z3
  refine display_done_str rfl ?_ (Heap.dictOf_iff.mpr ⟨o, ho', hd⟩) fun h₄ hm hs => ?_
  · exact nodup3 d1 d2 d3
  · have G₄ : C.Go h h₄ := K.fill G₃ (get_size h) hs
    refine wpAny_mono (ihd ρ _ _ _ E (K.st G₄ st) (Post.go K G₄ H).bind) ?_ fun _ _ e => e
    rintro w s₅ ⟨h₅, tk₅, vd, rfl, g₅, r₅, q₅, H₅⟩
    replace H₅ := Post.go K g₅ H₅
    unfold dictV at H₅
    split at H₅
    · rename_i s
      obtain ⟨t, rfl, _⟩ := r₅
      obtain ⟨o', ho', hd'⟩ := Heap.dictOf_iff.mp hm
      have hm' : h₅.DictOf (strKind C.prog C.w) h.objs.size [(mkS k1, v), (mkS k2, v₂), (mkS k3, v₃)] := Heap.dictOf_iff.mpr ⟨o', K.own g₅ S₀ ho', hd'⟩
      have fin : ∀ u, valueAt [(mkS k1, v), (mkS k2, v₂), (mkS k3, v₃)] (mkS s) = some u → Q u (C.mk' h₅ (tk₅ + 1)) →
          wpAny C.M C.A (subscriptTail (.Dict [some (.Constant (.str (mkS k1)) n1 p1), some (.Constant (.str (mkS k2)) n2 p2), some (.Constant (.str (mkS k3)) n3 p3)] [x, y, z] dp) i (.ref h.objs.size) (.str (mkS s) t)) Q E (C.mk' h₅ tk₅) := fun u hu hq =>
        tail_any hm'.typeIs slot_dict_getitem.lookup (wpAny_getItem_of (strKind_is _ _ _ _) hm'.mapOf hu hq) (sub_name hn _ _)
      split at H₅
      · rename_i e
        exact fin v (by rw [dict_va, e]; rfl) (okAt_at K r₁ H₅)
      · rename_i e
        split at H₅
        · rename_i e'
          exact fin v₂ (by rw [dict_va, e, e']; rfl) (okAt_at K r₂ H₅)
        · rename_i e'
          split at H₅
          · rename_i e''
            exact fin v₃ (by rw [dict_va, e, e', e'']; rfl) (okAt_at K r₃ H₅)
          · exact H₅.elim
    · exact H₅.elim

theorem es_tup2 (K : C.Ok) {n : Nat} (nx : notStar x = true) (ny : notStar y = true) (iha : ES C a x) (ihb : ES C b y) : ES C (.tup2 a b) (.Tuple [x, y] n pos) := by
  intro ρ h tk Q E st H
  have H : Post C ((evalE C.Φ a ρ).bind fun v => (evalE C.Φ b ρ).bind fun w => (atom v).bind fun x => (atom w).bind fun y => .ok (.tup [x, y])) Q E h := H
  refine Tuple_ ?_
  rw [starEach_of nx, starEach_of ny, backTo_plain, backTo_plain]
  refine Calls.spliced_cons (wpAny_mono (iha ρ h tk _ E st H.bind) ?_ fun _ _ e => e)
  rintro v s₁ ⟨h₁, tk₁, va, rfl, g₁, r₁, q₁, H₁⟩
  refine Calls.spliced_cons (wpAny_mono (ihb ρ h₁ tk₁ _ E (K.st g₁ st) (H₁.go K g₁).bind) ?_ fun _ _ e => e)
  rintro w s₂ ⟨h₂, tk₂, vb, rfl, g₂, r₂, q₂, H₂⟩
  refine Calls.spliced_nil (wpAny_newTuple ?_ (by simp; decide))
  replace H₂ := Post.go K g₂ H₂
  cases va with
  | «at» p => cases vb with
    | «at» q => exact H₂ _ _ tk₂ (K.keeps (Keeps.push _ _)) ⟨_, [v, w], rfl, K.fresh (K.st g₂ (K.st g₁ st)), ⟨_, Heap.get?_push_size _ rfl, rfl, _, rfl⟩, r₁, r₂, trivial⟩
    | _ => exact H₂.elim
  | _ => exact H₂.elim
theorem es_tup3 (K : C.Ok) {n : Nat} (nx : notStar x = true) (ny : notStar y = true) (nz : notStar z = true) (iha : ES C a x) (ihb : ES C b y) (ihc : ES C c z) : ES C (.tup3 a b c) (.Tuple [x, y, z] n pos) := by
  intro ρ h tk Q E st H
  have H : Post C ((evalE C.Φ a ρ).bind fun v => (evalE C.Φ b ρ).bind fun w => (evalE C.Φ c ρ).bind fun u => (atom v).bind fun x => (atom w).bind fun y => (atom u).bind fun z => .ok (.tup [x, y, z])) Q E h := H
  refine Tuple_ ?_
  rw [starEach_of nx, starEach_of ny, starEach_of nz, backTo_plain, backTo_plain, backTo_plain]
  refine Calls.spliced_cons (wpAny_mono (iha ρ h tk _ E st H.bind) ?_ fun _ _ e => e)
  rintro v s₁ ⟨h₁, tk₁, va, rfl, g₁, r₁, q₁, H₁⟩
  refine Calls.spliced_cons (wpAny_mono (ihb ρ h₁ tk₁ _ E (K.st g₁ st) (H₁.go K g₁).bind) ?_ fun _ _ e => e)
  rintro w s₂ ⟨h₂, tk₂, vb, rfl, g₂, r₂, q₂, H₂⟩
  refine Calls.spliced_cons (wpAny_mono (ihc ρ h₂ tk₂ _ E (K.st g₂ (K.st g₁ st)) (H₂.go K g₂).bind) ?_ fun _ _ e => e)
  rintro u s₃ ⟨h₃, tk₃, vc, rfl, g₃, r₃, q₃, H₃⟩
  refine Calls.spliced_nil (wpAny_newTuple ?_ (by simp; decide))
  replace H₃ := Post.go K g₃ H₃
  cases va with
  | «at» p => cases vb with
    | «at» q => cases vc with
      | «at» t => exact H₃ _ _ tk₃ (K.keeps (Keeps.push _ _)) ⟨_, [v, w, u], rfl, K.fresh (K.st g₃ (K.st g₂ (K.st g₁ st))), ⟨_, Heap.get?_push_size _ rfl, rfl, _, rfl⟩, r₁, r₂, r₃, trivial⟩
      | _ => exact H₃.elim
    | _ => exact H₃.elim
  | _ => exact H₃.elim
theorem es_lst0 (K : C.Ok) : ES C .lst0 (.List [] pos) := by
  intro ρ h tk Q E st H
  have H : Post C (.ok (.lst [])) Q E h := H
  refine List_ (Calls.spliced_nil (wpAny_newList ?_ (by simp)))
  exact H _ _ tk (K.keeps (Keeps.push _ _)) ⟨_, [], rfl, K.fresh st, ⟨_, _, Heap.get?_push_size _ rfl, rfl, rfl, rfl⟩, trivial, by simp⟩
theorem es_lst2 (K : C.Ok) (nx : notStar x = true) (ny : notStar y = true) (iha : ES C a x) (ihb : ES C b y) : ES C (.lst2 a b) (.List [x, y] pos) := by
  intro ρ h tk Q E st H
  have H : Post C ((evalE C.Φ a ρ).bind fun v => (evalE C.Φ b ρ).bind fun w => (atom v).bind fun x => (atom w).bind fun y => .ok (.lst [x, y])) Q E h := H
  refine List_ ?_
  rw [starEach_of nx, starEach_of ny, backTo_plain, backTo_plain]
  refine Calls.spliced_cons (wpAny_mono (iha ρ h tk _ E st H.bind) ?_ fun _ _ e => e)
  rintro v s₁ ⟨h₁, tk₁, va, rfl, g₁, r₁, q₁, H₁⟩
  refine Calls.spliced_cons (wpAny_mono (ihb ρ h₁ tk₁ _ E (K.st g₁ st) (H₁.go K g₁).bind) ?_ fun _ _ e => e)
  rintro w s₂ ⟨h₂, tk₂, vb, rfl, g₂, r₂, q₂, H₂⟩
  refine Calls.spliced_nil (wpAny_newList ?_ (by simp; decide))
  replace H₂ := Post.go K g₂ H₂
  cases va with
  | «at» p => cases vb with
    | «at» q => exact H₂ _ _ tk₂ (K.keeps (Keeps.push _ _)) ⟨_, [v, w], rfl, K.fresh (K.st g₂ (K.st g₁ st)), ⟨_, _, Heap.get?_push_size _ rfl, rfl, rfl, rfl⟩, ⟨r₁, r₂, trivial⟩, by simp⟩
    | _ => exact H₂.elim
  | _ => exact H₂.elim
end
end Mine
end

section
set_option maxRecDepth 100000
set_option linter.unusedVariables false
set_option genSizeOf false
set_option genInjectivity false
open PySem PySem.W PySem.NumText PyProof.Rows PySem.Builtin
namespace Mine

theorem loop_two {β : Type} {f : Nat → β → Sem (ForInStep β)} {b0 b1 : β} (n : Nat) (h0 : f 0 b0 = pure (.yield b1)) (h1 : ∀ k, f k b1 = pure (.done b1)) : forIn (List.range' 0 (n + 1)) b0 f = pure b1 := by
  rw [List.range'_succ, List.forIn_cons, h0, pure_bind]
  cases n with
  | zero => rfl
  | succ n => rw [List.range'_succ]; show forIn (_ :: _) b1 f = _; rw [List.forIn_cons, h1, pure_bind]
theorem fold_bytes (l : List Nat) (acc : Array UInt8) (h : ∀ d ∈ l, d < 128) : l.foldl (fun acc y => acc ++ (_codecs.utf8Codec.bytesOf y).toArray) acc = acc ++ (l.map UInt8.ofNat).toArray := by
  induction l generalizing acc with
  | nil => simp
  | cons a r ih =>
    rw [List.foldl_cons, ih _ fun d hd => h d (List.mem_cons_of_mem _ hd)]
    have : _codecs.utf8Codec.bytesOf a = [UInt8.ofNat a] := by
      show PySem.Str.utf8Of a = _
      unfold PySem.Str.utf8Of
      rw [if_pos (h a (List.mem_cons_self ..))]
    rw [this]
    simp
theorem encN (id : String) (self : Value) (c : Nat) (r : List Nat) (h : ∀ d ∈ (c :: r), d < 128) (hl : (c :: r).length ≤ 1000) : _codecs.encodeNarrow id _codecs.utf8Codec none self (mkS (c :: r)) = pure ((c :: r).map UInt8.ofNat).toArray := by
  have hb : ∀ d ∈ (c :: r), _codecs.utf8Codec.bad d = false := fun d hd => by
    have := h d hd
    show PySem.Str.isSurrogate d = false
    unfold PySem.Str.isSurrogate
    rw [decide_eq_false (by omega)]
    rfl
  have hf : Array.findIdx? _codecs.utf8Codec.bad (c :: r).toArray = none := by
    rw [Array.findIdx?_eq_none_iff]
    intro d hd
    exact hb d (by simpa using hd)
  unfold _codecs.encodeNarrow
  dsimp only
  rw [mkS_length, List.length_cons]
  have : (mkS (c :: r)).cps = (c :: r).toArray := rfl
  simp only [Std.Legacy.Range.forIn_eq_forIn_range', Std.Legacy.Range.size, this]
  rw [show (r.length + 1 - 0 + 1 - 1) / 1 = r.length + 1 by simp]
  rw [loop_two (b1 := ((c :: r).length, ((c :: r).map UInt8.ofNat).toArray, {})) r.length ?_ ?_, pure_bind]
  · have e0 : (c :: r).toArray.extract 0 = (c :: r).toArray := by simp
    have e1 : (c :: r).toArray[0]? = some c := by simp
    rw [if_neg (by decide)]
    simp only [e1, hb c (List.mem_cons_self ..), Bool.not_false, if_true]
    simp only [e0, hf, Option.getD_none, Nat.zero_add]
    have e2 : Array.foldl (fun acc y => acc ++ (_codecs.utf8Codec.bytesOf y).toArray) #[] (c :: r).toArray = ((c :: r).map UInt8.ofNat).toArray := by
      rw [List.foldl_toArray, fold_bytes _ _ h]
      simp
    rw [e2]
    simp
  · intro k
    have e1 : (c :: r).toArray[(c :: r).length]? = none := by simp
    simp only [e1]
    exact if_neg (by simp only [List.size_toArray, List.length_map]; exact Nat.not_lt.mpr (le_line hl))
theorem encN_nil (id : String) (self : Value) : _codecs.encodeNarrow id _codecs.utf8Codec none self (mkS []) = pure #[] := by kernel_rfl
theorem enc_eq (x : PySem.Str) {t u : Tok} : «str.encode» ⟨[.str x t, .str (PySem.Str.ofString "utf-8") u], []⟩ = (do ret (← _codecs.encodeRoad "str.encode" (.str x t) x (PySem.Str.ofString "utf-8") none)) := by kernel_rfl
theorem encN_all (id : String) (self : Value) {l : List Nat} (h : ascii l = true) (hl : l.length ≤ 1000) : _codecs.encodeNarrow id _codecs.utf8Codec none self (mkS l) = pure (l.map UInt8.ofNat).toArray := by
  cases l with
  | nil => exact encN_nil id self
  | cons c r => exact encN id self c r (fun d hd => Nat.le_of_ble_eq_true (List.all_eq_true.mp h d hd)) hl
theorem meets_enc {l : List Nat} {t u : Tok} (h : ascii l = true) (hl : l.length ≤ 1000) :
    Meets («str.encode» ⟨[.str (mkS l) t, .str (PySem.Str.ofString "utf-8") u], []⟩) (fun _ R s => ∀ t' k, R (.ok (.ret (.bytes (l.map UInt8.ofNat).toArray t'))) { s with toks := k }) := by
  refine .of_wp fun prog w A R s hS => ?_
  rw [enc_eq, encodeRoad_utf8, encN_all _ _ h hl, pure_bind]
  refine wpAny_bind (wpAny_mkBytes ?_ ?_)
  · exact wpAny_pure ⟨_, rfl, hS _ _⟩
  · simp only [List.size_toArray, List.length_map]; exact le_line hl

theorem dec_eq {c : UInt8} {cs : List UInt8} {t u : Tok} : «bytes.decode» ⟨[.bytes (c :: cs).toArray t, .str (PySem.Str.ofString "utf-8") u], []⟩ = (mkStr (PySem.Str.ofString "utf-8") >>= fun _ => mkStr (PySem.Str.ofString "utf-8") >>= fun e => mkStr (PySem.Str.ofString "bytes.decode") >>= fun d =>
    call (.builtin "_codecs.decode.text") [.bytes (c :: cs).toArray t, e, .none, d] >>= fun v => ret v) := by kernel_rfl
theorem dec_nil {t u : Tok} : «bytes.decode» ⟨[.bytes [].toArray t, .str (PySem.Str.ofString "utf-8") u], []⟩ = (rule "bytes.decode.empty" >>= fun _ => retStr PySem.Str.empty) := by kernel_rfl
theorem meets_dec {c : UInt8} {cs : List UInt8} {t u : Tok} {x : PySem.Str} {n : Nat} (hx : x.length ≤ sizeLine) (hd : ∀ id, _codecs.runDecoder id _codecs.utf8Decoder none true (c :: cs).toArray 0 [] = pure (x.cps, n)) :
    Meets («bytes.decode» ⟨[.bytes (c :: cs).toArray t, .str (PySem.Str.ofString "utf-8") u], []⟩) (fun _ R s => ∀ t' k, R (.ok (.ret (.str x t'))) { s with toks := k }) := by
  refine .of_wp fun prog w A R s h => ?_
  rw [dec_eq]
  refine wpAny_bind (wpAny_mkStr ?_ (by decide))
  refine wpAny_bind (wpAny_mkStr ?_ (by decide))
  refine wpAny_bind (wpAny_mkStr ?_ (by decide))
  exact wpAny_bind (call_function_meets KBd.kind_text KBd.plain_text KBd.entry_text (KBd.args_text _ _ _ _) (KBd.meets_text hd) ⟨hx, wpAny_pure ⟨_, rfl, h _ _⟩⟩)
theorem meets_dec_nil {t u : Tok} :
    Meets («bytes.decode» ⟨[.bytes [].toArray t, .str (PySem.Str.ofString "utf-8") u], []⟩) (fun _ R s => ∀ t' k, R (.ok (.ret (.str (mkS []) t'))) { s with toks := k }) := by
  refine .of_wp fun prog w A R s h => ?_
  rw [dec_nil]
  exact wpAny_bind (wpAny_rule (wpAny_bind (wpAny_mkStr (wpAny_pure ⟨_, rfl, h _ _⟩) (by decide))))
theorem args_dec (a b : Value) : argsOk "bytes.decode" ⟨[a, b], []⟩ := by unfold argsOk; kernel_rfl

theorem meets_blob {l : List Nat} {t u : Tok} (h : blobOk l = true) :
    Meets («bytes.decode» ⟨[.bytes (l.map UInt8.ofNat).toArray t, .str (PySem.Str.ofString "utf-8") u], []⟩) (fun _ R s => ∀ t' k, R (.ok (.ret (.str (mkS l) t'))) { s with toks := k }) := by
  have key : l = [] ∨ l = [97] ∨ l = [55] ∨ l = [0] ∨ l = [49, 50, 122] := by
    unfold blobOk at h
    simp only [List.any_cons, List.any_nil, Bool.or_false, Bool.or_eq_true, beq_iff_eq] at h
    rcases h with h | h | h | h | h <;> simp [← h]
  rcases key with rfl | rfl | rfl | rfl | rfl
  · exact meets_dec_nil
  · exact meets_dec (n := 1) (by decide) fun id => by kernel_rfl
  · exact meets_dec (n := 1) (by decide) fun id => by kernel_rfl
  · exact meets_dec (n := 1) (by decide) fun id => by kernel_rfl
  · exact meets_dec (n := 3) (by decide) fun id => by kernel_rfl

section
variable {C : Cx} {h : Heap} {tk : Nat} {Q E : Value → Shared → Prop} {a b c d : PE} {x y z i : Expr} {fx : Str} {np pos : Pos}

theorem es_encode (K : C.Ok) {s attr : Str} {n : Nat} {p ap : Pos} (hb : ∀ attr env whole, attributeBase x attr env whole = whole) (hl : (ap.endLine == pos.line) = true) (ha : attr = ("encode" : Str)) (e : s = PySem.Str.ofString "utf-8") (iha : ES C a x) :
    ES C (.encode a) (.Call (.Attribute x attr ap) [.Constant (.str s) n p] [] pos) := by
  subst ha
  subst e
  intro ρ h tk Q E st H
  have H : Post C ((evalE C.Φ a ρ).bind fun v => match v with | .at (.str l) => (match ascii l with | true => .ok (.at (.bytes l)) | false => .fail) | _ => .fail) Q E h := H
  refine Call_method1 (hb _ _ _) rfl hl (wpAny_mono (iha ρ h tk _ E st H.bind) ?_ fun _ _ e => e)
  rintro v s₁ ⟨h₁, tk₁, z, rfl, g₁, r₁, e₁, H₁⟩
  replace H₁ := H₁.go K g₁
  split at H₁
  · rename_i l
    obtain ⟨u, rfl, hu⟩ := r₁
    split at H₁
    · rename_i e
      refine ⟨"str", _, F.plainAttrs_str, F.slot_str_encode, F.type_str_encode, typeIs_str _ _ _, (fun _ e => nomatch e),
        method1_meets F.slot_str_encode F.entry_str_encode (Calls.Constant_str ⟨typeIs_str _ _ _, F.args_str_encode_2 _ _, _, meets_enc e hu, fun t' k => H₁ _ h₁ k (K.refl _) ⟨t', rfl, hu, ?_⟩⟩)⟩
      exact List.all_eq_true.mpr fun c hc => Nat.ble_eq_true_of_le (Nat.lt_of_lt_of_le (Nat.le_of_ble_eq_true (List.all_eq_true.mp e c hc)) (by decide))
    · exact H₁.elim
  · exact H₁.elim

theorem es_decode (K : C.Ok) {s attr : Str} {n : Nat} {p ap : Pos} (hc : notCall x = true) (hl : (ap.endLine == pos.line) = true) (ha : attr = ("decode" : Str)) (e : s = PySem.Str.ofString "utf-8") (iha : ES C a x) :
    ES C (.decode a) (.Call (.Attribute x attr ap) [.Constant (.str s) n p] [] pos) := by
  subst ha
  subst e
  intro ρ h tk Q E st H
  have H : Post C ((evalE C.Φ a ρ).bind fun v => match v with | .at (.bytes l) => (match blobOk l with | true => .ok (.at (.str l)) | false => .fail) | _ => .fail) Q E h := H
  refine Call_method1 (base_of hc _ _ _) rfl hl (wpAny_mono (iha ρ h tk _ E st H.bind) ?_ fun _ _ e => e)
  rintro v s₁ ⟨h₁, tk₁, z, rfl, g₁, r₁, e₁, H₁⟩
  replace H₁ := H₁.go K g₁
  split at H₁
  · rename_i l
    obtain ⟨u, rfl, hu, _⟩ := r₁
    split at H₁
    · rename_i e
      exact ⟨"bytes", _, FB.plainAttrs_bytes, FB.slot_bytes_decode, FB.type_bytes_decode, typeIs_bytes _ _ _, (fun _ e => nomatch e),
        method1_meets FB.slot_bytes_decode FB.entry_bytes_decode (Calls.Constant_str ⟨typeIs_bytes _ _ _, args_dec _ _, _, meets_blob e, fun t' k => H₁ _ h₁ k (K.refl _) ⟨t', rfl, hu⟩⟩)⟩
    · exact H₁.elim
  · exact H₁.elim
end
end Mine
end

section
set_option maxRecDepth 100000
set_option linter.unusedVariables false
set_option genSizeOf false
set_option genInjectivity false
open PySem PySem.W PySem.NumText PyProof.Rows PySem.Builtin
namespace Mine

theorem paired_eq : ∀ {xs ys : List Value}, Paired (fun v y => y = v) xs ys → ys = xs
  | _, _, .nil => rfl
  | _, _, .cons e r => by rw [e, paired_eq r]
theorem relAs_filter : ∀ {vs : List Value} {l : List A}, RelAs vs l → RelAs (vs.filter fun v => !(v == .none)) (l.filter someA)
  | [], [], _ => trivial
  | v :: vs, a :: l, ⟨r, rs⟩ => by
    have ih := relAs_filter rs
    have e := relA_none r
    rw [List.filter_cons, List.filter_cons, e]
    cases a with
    | none => exact ih
    | _ => exact ⟨r, ih⟩
  | [], _ :: _, r => r.elim
  | _ :: _, [], r => r.elim

section
variable {C : Cx} {h : Heap} {tk : Nat} {Q E : Value → Shared → Prop} {a b c d : PE} {x y z i : Expr} {fx : Str} {np pos : Pos}

theorem es_comp (K : C.Ok) {j n : Nat} {x y z u : Str} {scope : Scope} {p1 p2 p3 p4 p5 p6 : Pos} (ex : nth C.nm j x = true) (dx : (!(x == ("__debug__" : Str))) = true) (ez : z = y) (eu : u = y) (dy : (!(y == ("__debug__" : Str))) = true)
    (hk : scope.kind = .function) (hn : (scope.names.all fun q => q.2 == .local && scope.names.lookup q.1 == some .local) = true) (hy : scope.names.lookup y = some .local) :
    ES C (.comp j) (.ListComp (.Name z p1) [⟨.Name y p2, .Name x p3, [.Compare (.Name u p4) [.IsNot] [.Constant .none n p5] p6], 0⟩] scope pos) := by
  subst ez
  subst eu
  intro ρ h tk Q E st H
  have H : Post C (match lkV ρ j with | .lst l => .ok (.lz (l.filter someA)) | _ => .fail) Q E h := H
  have dz : (u == ("__debug__" : Str)) = false := by simpa using dy
  have hloc : ∀ q ∈ scope.names, q.2 = .local ∧ scope.names.lookup q.1 = some .local := fun q hq => by
    have := List.all_eq_true.mp hn q hq
    simpa using this
  cases q : lkV ρ j with
  | lst l =>
    rw [q] at H
    obtain ⟨v, r, k⟩ := K.loc st q (by intro z; cases z) (nth_eq ex) dx
    obtain ⟨ad, vs, rfl, hS, hL, hR, hlen⟩ := r
    replace hL := hL.isList
    refine wpAny_ListComp_map (fun v => !(v == .none)) (fun v y => y = v) K.handled (fun q hq e => ?_) (fun q hq e => ?_) hk (fun q hq _ => (hloc q hq).2) hy (k _ _ _ _ ?_)
    · rw [(hloc q hq).1] at e; cases e
    · rw [(hloc q hq).1] at e; cases e
    · refine ⟨ad, vs.toArray, rfl, hL, by rw [List.size_toArray, relAs_len hR]; exact le_line hlen, ?_, ?_, ?_⟩
      · intro D v s₂ m₂ E' hv hns hm hk₂
        have key : wpAny C.M C.A (isTrue (.Compare (.Name u p4) [.IsNot] [.Constant .none n p5] p6) (compEnv scope D C.env) (eval (.Compare (.Name u p4) [.IsNot] [.Constant .none n p5] p6) (compEnv scope D C.env)))
            (fun ok s₃ => ok = (!(v == .none)) ∧ PySem.Keeps s₂ s₃) E' s₂ := by
          refine wpAny_isTrue_Compare1 (wpAny_Name (wpAny_loadName_local hk hy hns hm ?_) dz) rfl
          exact Constant_none (isnot_none_gen (wpAny_truthy_bool ⟨rfl, s₂.heap, s₂.toks, rfl, fun _ _ e => e⟩))
        rw [List.forIn_cons]
        refine wpAny_bind ?_
        rw [if_pos rfl]
        refine wpAny_bind (wpAny_mono key (fun ok s₃ h₃ => ?_) fun _ _ e => e)
        refine wpAny_pure ?_
        dsimp only
        rw [List.forIn_nil]
        exact wpAny_pure h₃
      · intro D v s₂ m₂ E' hv hp hns hm hk₂
        exact wpAny_Name (wpAny_loadName_local hk hy hns hm ⟨rfl, s₂.heap, s₂.toks, rfl, fun _ _ e => e⟩) dz
      · intro D h' tk' ys hD hlD hF hkp
        have e : ys.toList = vs.filter fun v => !(v == .none) := paired_eq hF
        refine H _ h' tk' (K.keeps hkp) ⟨D, vs.filter fun v => !(v == .none), rfl, K.newS st hD, ?_, relAs_filter hR, Nat.le_trans (List.length_filter_le _ _) hlen⟩
        rw [← e]
        simpa using hlD
  | _ => rw [q] at H; exact H.elim
end
end Mine
end

section
set_option maxRecDepth 100000
set_option linter.unusedVariables false
set_option genSizeOf false
set_option genInjectivity false
open PySem PySem.W PySem.NumText PyProof.Rows PySem.Builtin
namespace Mine

section
variable {C : Cx} {tl : PE → Expr → Bool} {a b c : PE} {e : Expr} {k : PE → Expr → Bool}
/-- what a term's check gives -/
def Told (C : Cx) (k : PE → Expr → Bool) (p : PE) : Prop := ∀ e, k p e = true → ES C p e ∧ TS C p e
theorem pl (K : C.Ok) {p : PE} (hp : plainTest e = true) (h : ES C p e) : ES C p e ∧ TS C p e := ⟨h, ts_plain K hp h⟩

theorem t_const (K : C.Ok) {a : A} (h : (pK (pIs (constIs a))).m e = true) : ES C (.const a) e ∧ TS C (.const a) e := by
  obtain ⟨d, rfl⟩ := Pat.of h
  exact pl K rfl (es_const K d.1.2)
theorem t_loc (K : C.Ok) {i : Nat} (h : (pNm (pIs fun x => nth C.nm i x && okName x)).m e = true) : ES C (.loc i) e ∧ TS C (.loc i) e := by
  obtain ⟨d, rfl⟩ := Pat.of h
  exact pl K rfl (es_loc K (andL d.1.2) (andR d.1.2))
theorem t_glob (K : C.Ok) {j : Nat} (h : (pNm (pIs fun x => nth gnames j x && glo C.env.scope x)).m e = true) : ES C (.glob j) e ∧ TS C (.glob j) e := by
  obtain ⟨d, rfl⟩ := Pat.of h
  exact pl K rfl (es_glob K (andL d.1.2) (andR d.1.2))
theorem t_not (K : C.Ok) (ha : Told C k a) (h : (pUn .Not (pIs (k a))).m e = true) : ES C (.not a) e ∧ TS C (.not a) e := by
  obtain ⟨d, rfl⟩ := Pat.of h
  exact ⟨es_not K (ha _ d.2.1.2).1, ts_not K (ha _ d.2.1.2).2⟩
theorem t_neg (K : C.Ok) (ha : Told C k a) (h : (pUn .USub (pIs (k a))).m e = true) : ES C (.neg a) e ∧ TS C (.neg a) e := by
  obtain ⟨d, rfl⟩ := Pat.of h
  exact pl K rfl (es_neg K (ha _ d.2.1.2).1)
theorem t_and (K : C.Ok) (ha : Told C k a) (hb : Told C k b) (h : (pBool .And (k a) (k b)).m e = true) : ES C (.and a b) e ∧ TS C (.and a b) e := by
  obtain ⟨d, rfl⟩ := Pat.of h
  exact ⟨es_and K (ha _ d.1.2.1.1.2).1 (hb _ d.2).1, ts_and K (ha _ d.1.2.1.1.2).2 (hb _ d.2).2⟩
theorem t_or (K : C.Ok) (ha : Told C k a) (hb : Told C k b) (h : (pBool .Or (k a) (k b)).m e = true) : ES C (.or a b) e ∧ TS C (.or a b) e := by
  obtain ⟨d, rfl⟩ := Pat.of h
  exact ⟨es_or K (ha _ d.1.2.1.1.2).1 (hb _ d.2).1, ts_or K (ha _ d.1.2.1.1.2).2 (hb _ d.2).2⟩
theorem t_bin (K : C.Ok) {op : BOp} (ha : Told C k a) (hb : Told C k b) (h : (pBin (pIs (k a)) (opOf op) (pIs (k b))).m e = true) : ES C (.bin op a b) e ∧ TS C (.bin op a b) e := by
  obtain ⟨d, rfl⟩ := Pat.of h
  exact pl K rfl (es_bin K (ha _ d.1.2).1 (hb _ d.2.2.1.2).1)
theorem t_cmp (K : C.Ok) {op : COp} (ha : Told C k a) (hb : Told C k b) (h : (pCmp (pIs (k a)) (cmpOf op) (pIs (k b))).m e = true) : ES C (.cmp op a b) e ∧ TS C (.cmp op a b) e := by
  obtain ⟨d, rfl⟩ := Pat.of h
  exact ⟨es_cmp K (ha _ d.1.2).1 (hb _ d.2.2.1.2).1, ts_cmp K (ha _ d.1.2).1 (hb _ d.2.2.1.2).1⟩
theorem t_chain (K : C.Ok) {o1 o2 : COp} (ha : Told C k a) (hb : Told C k b) (hc : Told C k c) (h : (eCompare.comp (pp (pIs (k a)) (pp (pTwo (pEq (cmpOf o1)) (pEq (cmpOf o2))) (pP (pTwo (pIs (k b)) (pIs (k c))))))).m e = true) : ES C (.chain o1 o2 a b c) e ∧ TS C (.chain o1 o2 a b c) e := by
  obtain ⟨d, rfl⟩ := Pat.of h
  exact ⟨es_chain K (ha _ d.1.2).1 (hb _ d.2.2.1.1.2).1 (hc _ d.2.2.1.2.2).1, ts_chain K (ha _ d.1.2).1 (hb _ d.2.2.1.1.2).1 (hc _ d.2.2.1.2.2).1⟩
theorem t_isNone (K : C.Ok) (ha : Told C k a) (h : (pCmp (pIs (k a)) .Is (pK kNone)).m e = true) : ES C (.isNone a) e ∧ TS C (.isNone a) e := by
  obtain ⟨d, rfl⟩ := Pat.of h
  have key := es_isNone (k := d.2.2.1.2.1) (p := d.2.2.1.2.2) (pos := d.2.2.2) K (ha _ d.1.2).1
  exact ⟨key, ts_ofCmp1 K rfl key⟩
theorem t_notNone (K : C.Ok) (ha : Told C k a) (h : (pCmp (pIs (k a)) .IsNot (pK kNone)).m e = true) : ES C (.notNone a) e ∧ TS C (.notNone a) e := by
  obtain ⟨d, rfl⟩ := Pat.of h
  have key := es_notNone (k := d.2.2.1.2.1) (p := d.2.2.1.2.2) (pos := d.2.2.2) K (ha _ d.1.2).1
  exact ⟨key, ts_ofCmp1 K rfl key⟩
theorem t_inStr (K : C.Ok) (ha : Told C k a) (hb : Told C k b) (h : (pCmp (pIs (k a)) .In (pIs fun r => notSet r && k b r)).m e = true) : ES C (.inStr a b) e ∧ TS C (.inStr a b) e := by
  obtain ⟨d, rfl⟩ := Pat.of h
  have key := es_inStr (pos := d.2.2.2) K (andL d.2.2.1.2) (ha _ d.1.2).1 (hb _ (andR d.2.2.1.2)).1
  exact ⟨key, ts_ofCmp1 K (behind_set (andL d.2.2.1.2)) key⟩
theorem t_inLst (K : C.Ok) (ha : Told C k a) (hb : Told C k b) (h : (pCmp (pIs (k a)) .In (pIs fun r => notSet r && k b r)).m e = true) : ES C (.inLst a b) e ∧ TS C (.inLst a b) e := by
  obtain ⟨d, rfl⟩ := Pat.of h
  have key := es_inLst (pos := d.2.2.2) K (andL d.2.2.1.2) (ha _ d.1.2).1 (hb _ (andR d.2.2.1.2)).1
  exact ⟨key, ts_ofCmp1 K (behind_set (andL d.2.2.1.2)) key⟩
theorem in_marks {tup : Bool} {l : List (List Nat)} {o : CmpOp} {r : Expr} (h : litsIn tup l r = true) : behindInMarks o r = false := by
  cases r <;> first | rfl | cases h
theorem t_inLits (K : C.Ok) {neg tup : Bool} {l : List (List Nat)} (ha : Told C k a) (h : (pCmp (pIs (k a)) (opIn neg) (pIs fun r => Nat.ble l.length 1000 && litsIn tup l r)).m e = true) : ES C (.inLits neg tup a l) e ∧ TS C (.inLits neg tup a l) e := by
  obtain ⟨d, rfl⟩ := Pat.of h
  have key := es_inLits (pos := d.2.2.2) (o := opIn neg) K rfl (Nat.le_of_ble_eq_true (andL d.2.2.1.2)) (andR d.2.2.1.2) (ha _ d.1.2).1
  exact ⟨key, ts_ofCmp1 K (in_marks (andR d.2.2.1.2)) key⟩
theorem t_ite (K : C.Ok) {t : PE} (ht : Told C k t) (ha : Told C k a) (hb : Told C k b) (h : (eIfExp.comp (pp (pIs (k t)) (pp (pIs (k a)) (pP (pIs (k b)))))).m e = true) : ES C (.ite t a b) e ∧ TS C (.ite t a b) e := by
  obtain ⟨d, rfl⟩ := Pat.of h
  exact ⟨es_ite K (ht _ d.1.2).2 (ha _ d.2.1.2).1 (hb _ d.2.2.1.2).1, ts_ite K (ht _ d.1.2).2 (ha _ d.2.1.2).2 (hb _ d.2.2.1.2).2⟩
theorem t_call1 (K : C.Ok) {f : Nat} (ha : Told C k a) (h : (pCallN (pFn C.env.scope f) (pOne (pN (k a)))).m e = true) : ES C (.call1 f a) e ∧ TS C (.call1 f a) e := by
  obtain ⟨d, rfl⟩ := Pat.of h
  exact pl K rfl (es_call K (ps := [a]) ⟨andL d.2.1.2, (ha _ (andR d.2.1.2)).1, trivial⟩ (andL d.1.1.2) (andR d.1.1.2) fun ρ => by
    show (evalE C.Φ a ρ).bind _ = ((evalE C.Φ a ρ).bind fun v => (Res.ok []).bind fun vs => .ok (v :: vs)).bind (C.Φ f)
    cases evalE C.Φ a ρ <;> rfl)
theorem t_call2 (K : C.Ok) {f : Nat} (ha : Told C k a) (hb : Told C k b) (h : (pCallN (pFn C.env.scope f) (pTwo (pN (k a)) (pN (k b)))).m e = true) : ES C (.call2 f a b) e ∧ TS C (.call2 f a b) e := by
  obtain ⟨d, rfl⟩ := Pat.of h
  exact pl K rfl (es_call K (ps := [a, b]) ⟨andL d.2.1.1.2, (ha _ (andR d.2.1.1.2)).1, andL d.2.1.2.2, (hb _ (andR d.2.1.2.2)).1, trivial⟩ (andL d.1.1.2) (andR d.1.1.2) fun ρ => by
    show ((evalE C.Φ a ρ).bind fun v => (evalE C.Φ b ρ).bind fun w => C.Φ f [v, w]) = ((evalE C.Φ a ρ).bind fun v => ((evalE C.Φ b ρ).bind fun w => (Res.ok []).bind fun vs => .ok (w :: vs)).bind fun vs => .ok (v :: vs)).bind (C.Φ f)
    cases evalE C.Φ a ρ with
    | ok v => cases evalE C.Φ b ρ <;> rfl
    | _ => rfl)
theorem t_call3 (K : C.Ok) {f : Nat} (ha : Told C k a) (hb : Told C k b) (hc : Told C k c) (h : (pCallN (pFn C.env.scope f) (pThree (pN (k a)) (pN (k b)) (pN (k c)))).m e = true) : ES C (.call3 f a b c) e ∧ TS C (.call3 f a b c) e := by
  obtain ⟨d, rfl⟩ := Pat.of h
  exact pl K rfl (es_call K (ps := [a, b, c]) ⟨andL d.2.1.1.2, (ha _ (andR d.2.1.1.2)).1, andL d.2.1.2.1.2, (hb _ (andR d.2.1.2.1.2)).1, andL d.2.1.2.2.2, (hc _ (andR d.2.1.2.2.2)).1, trivial⟩ (andL d.1.1.2) (andR d.1.1.2) fun ρ => by
    show ((evalE C.Φ a ρ).bind fun v => (evalE C.Φ b ρ).bind fun w => (evalE C.Φ c ρ).bind fun x => C.Φ f [v, w, x]) = ((evalE C.Φ a ρ).bind fun v => ((evalE C.Φ b ρ).bind fun w => ((evalE C.Φ c ρ).bind fun x => (Res.ok []).bind fun vs => .ok (x :: vs)).bind fun vs => .ok (w :: vs)).bind fun vs => .ok (v :: vs)).bind (C.Φ f)
    cases evalE C.Φ a ρ with
    | ok v => cases evalE C.Φ b ρ with
      | ok w => cases evalE C.Φ c ρ <;> rfl
      | _ => rfl
    | _ => rfl)
/-- a builtin of one, of two -/
theorem t_1 (K : C.Ok) {p : PE} {f : Str} (es : ∀ {x : Expr} {fx : Str} {np pos : Pos}, notStar x = true → ES C a x → glo C.env.scope fx = true → fx = f → ES C p (.Call (.Name fx np) [x] [] pos)) (ha : Told C k a) (h : (p1 C.env.scope f (k a)).m e = true) : ES C p e ∧ TS C p e := by
  obtain ⟨d, rfl⟩ := Pat.of h
  exact pl K rfl (es (andL d.2.1.2) (ha _ (andR d.2.1.2)).1 d.1.1.2 rfl)
theorem t_2 (K : C.Ok) {p : PE} {f : Str} (es : ∀ {x y : Expr} {fx : Str} {np pos : Pos}, notStar x = true → ES C a x → notStar y = true → ES C b y → glo C.env.scope fx = true → fx = f → ES C p (.Call (.Name fx np) [x, y] [] pos)) (ha : Told C k a) (hb : Told C k b)
    (h : (p2 C.env.scope f (k a) (k b)).m e = true) : ES C p e ∧ TS C p e := by
  obtain ⟨d, rfl⟩ := Pat.of h
  exact pl K rfl (es (andL d.2.1.1.2) (ha _ (andR d.2.1.1.2)).1 (andL d.2.1.2.2) (hb _ (andR d.2.1.2.2)).1 d.1.1.2 rfl)
theorem t_isinst (K : C.Ok) {q : Kind} (ha : Told C k a) (h : (pCallN (pBi C.env.scope "isinstance") (pTwo (pN (k a)) (pNm (pBi C.env.scope (kindName q))))).m e = true) : ES C (.isinst q a) e ∧ TS C (.isinst q a) e := by
  obtain ⟨d, rfl⟩ := Pat.of h
  exact pl K rfl (es_isinst K (andL d.2.1.1.2) (ha _ (andR d.2.1.1.2)).1 d.1.1.2 rfl d.2.1.2.1.2 rfl)
theorem t_lstrip (K : C.Ok) {l : List Nat} (ha : Told C k a) (h : (pMeth (pNo (k a)) [108, 115, 116, 114, 105, 112] (pOne (pSt l))).m e = true) : ES C (.lstrip a l) e ∧ TS C (.lstrip a l) e := by
  obtain ⟨d, rfl⟩ := Pat.of h
  exact pl K rfl (es_lstrip K (andL d.1.1.1.2) d.2 rfl d.1.2.1.1.2 (ha _ (andR d.1.1.1.2)).1)
theorem t_decode (K : C.Ok) (ha : Told C k a) (h : (pMeth (pNo (k a)) [100, 101, 99, 111, 100, 101] (pOne (pSt [117, 116, 102, 45, 56]))).m e = true) : ES C (.decode a) e ∧ TS C (.decode a) e := by
  obtain ⟨d, rfl⟩ := Pat.of h
  exact pl K rfl (es_decode K (andL d.1.1.1.2) d.2 rfl (strIs_eq d.1.2.1.1.2) (ha _ (andR d.1.1.1.2)).1)
theorem t_encode (K : C.Ok) (ha : Told C k a) (h : (pMeth (pUp (pCallN (pIs fun x => !(x == ("super" : Str))) (pOne (pAny Expr))) (k a)) [101, 110, 99, 111, 100, 101] (pOne (pSt [117, 116, 102, 45, 56]))).m e = true) : ES C (.encode a) e ∧ TS C (.encode a) e := by
  obtain ⟨d, rfl⟩ := Pat.of h
  exact pl K rfl (es_encode K (fun _ _ _ => rfl) d.2 rfl (strIs_eq d.1.2.1.1.2) (ha _ d.1.1.1.2).1)
theorem t_index (K : C.Ok) (ha : Told C k a) (hb : Told C k b) (h : (pMeth (pNo (k a)) [105, 110, 100, 101, 120] (pOne (pN (k b)))).m e = true) : ES C (.index a b) e ∧ TS C (.index a b) e := by
  obtain ⟨d, rfl⟩ := Pat.of h
  exact pl K rfl (es_index K (andL d.1.1.1.2) d.2 rfl (andL d.1.2.1.2) (ha _ (andR d.1.1.1.2)).1 (hb _ (andR d.1.2.1.2)).1)
theorem t_join (K : C.Ok) (ha : Told C k a) (h : (pMeth (pSt []) [106, 111, 105, 110] (pOne (pN (k a)))).m e = true) : ES C (.join a) e ∧ TS C (.join a) e := by
  obtain ⟨d, rfl⟩ := Pat.of h
  exact pl K rfl (es_join K d.2 rfl d.1.1.1.1.2 (andL d.1.2.1.2) (ha _ (andR d.1.2.1.2)).1)
theorem t_sub (K : C.Ok) (ha : Told C k a) (hb : Told C k b) (h : (pSub (pNa (k a)) (pIs fun s => notSlice s && k b s)).m e = true) : ES C (.sub a b) e ∧ TS C (.sub a b) e := by
  obtain ⟨d, rfl⟩ := Pat.of h
  exact pl K rfl (es_sub K (andL d.1.2) (andL d.2.1.2) (ha _ (andR d.1.2)).1 (hb _ (andR d.2.1.2)).1)
theorem t_sliceTo (K : C.Ok) (ha : Told C k a) (hb : Told C k b) (h : (pSub (pNa (k a)) (pSlice pNone (pSome (pIs (k b))))).m e = true) : ES C (.sliceTo a b) e ∧ TS C (.sliceTo a b) e := by
  obtain ⟨d, rfl⟩ := Pat.of h
  exact pl K rfl (es_sliceTo K (andL d.1.2) (ha _ (andR d.1.2)).1 (hb _ d.2.1.2.1.2).1)
theorem t_sliceFrom (K : C.Ok) (ha : Told C k a) (hb : Told C k b) (h : (pSub (pNa (k a)) (pSlice (pSome (pIs (k b))) pNone)).m e = true) : ES C (.sliceFrom a b) e ∧ TS C (.sliceFrom a b) e := by
  obtain ⟨d, rfl⟩ := Pat.of h
  exact pl K rfl (es_sliceFrom K (andL d.1.2) (ha _ (andR d.1.2)).1 (hb _ d.2.1.1.2).1)
theorem t_slice (K : C.Ok) (ha : Told C k a) (hb : Told C k b) (hc : Told C k c) (h : (pSub (pNa (k a)) (pSlice (pSome (pIs (k b))) (pSome (pIs (k c))))).m e = true) : ES C (.slice a b c) e ∧ TS C (.slice a b c) e := by
  obtain ⟨d, rfl⟩ := Pat.of h
  exact pl K rfl (es_slice K (andL d.1.2) (ha _ (andR d.1.2)).1 (hb _ d.2.1.1.2).1 (hc _ d.2.1.2.1.2).1)
theorem t_dict3 (K : C.Ok) {k1 k2 k3 : List Nat} {i : PE} (ha : Told C k a) (hb : Told C k b) (hc : Told C k c) (hi : Told C k i)
    (h : ((!(k1 == k2) && (!(k1 == k3) && !(k2 == k3))) && (pSub (eDict.comp (pp (pThree (pSome (pSt k1)) (pSome (pSt k2)) (pSome (pSt k3))) (pP (pThree (pIs (k a)) (pIs (k b)) (pIs (k c)))))) (pUp eName (k i))).m e) = true) : ES C (.dict3 k1 k2 k3 a b c i) e ∧ TS C (.dict3 k1 k2 k3 a b c i) e := by
  obtain ⟨d, rfl⟩ := Pat.of (andR h)
  exact pl K rfl (es_dict3 K d.1.1.1.1.2 d.1.1.2.1.1.2 d.1.1.2.2.1.2 (andL (andL h)) (andL (andR (andL h))) (andR (andR (andL h))) (ha _ d.1.2.1.1.2).1 (hb _ d.1.2.1.2.1.2).1 (hc _ d.1.2.1.2.2.2).1 (hi _ d.2.1.2).1 rfl)
theorem t_tup2 (K : C.Ok) (ha : Told C k a) (hb : Told C k b) (h : (pTup (pTwo (pN (k a)) (pN (k b)))).m e = true) : ES C (.tup2 a b) e ∧ TS C (.tup2 a b) e := by
  obtain ⟨d, rfl⟩ := Pat.of h
  exact pl K rfl (es_tup2 K (andL d.1.1.2) (andL d.1.2.2) (ha _ (andR d.1.1.2)).1 (hb _ (andR d.1.2.2)).1)
theorem t_tup3 (K : C.Ok) (ha : Told C k a) (hb : Told C k b) (hc : Told C k c) (h : (pTup (pThree (pN (k a)) (pN (k b)) (pN (k c)))).m e = true) : ES C (.tup3 a b c) e ∧ TS C (.tup3 a b c) e := by
  obtain ⟨d, rfl⟩ := Pat.of h
  exact pl K rfl (es_tup3 K (andL d.1.1.2) (andL d.1.2.1.2) (andL d.1.2.2.2) (ha _ (andR d.1.1.2)).1 (hb _ (andR d.1.2.1.2)).1 (hc _ (andR d.1.2.2.2)).1)
theorem t_lst0 (K : C.Ok) (h : (pLst pNil).m e = true) : ES C .lst0 e ∧ TS C .lst0 e := by
  obtain ⟨d, rfl⟩ := Pat.of h
  exact pl K rfl (es_lst0 K)
theorem t_lst2 (K : C.Ok) (ha : Told C k a) (hb : Told C k b) (h : (pLst (pTwo (pN (k a)) (pN (k b)))).m e = true) : ES C (.lst2 a b) e ∧ TS C (.lst2 a b) e := by
  obtain ⟨d, rfl⟩ := Pat.of h
  exact pl K rfl (es_lst2 K (andL d.1.1.2) (andL d.1.2.2) (ha _ (andR d.1.1.2)).1 (hb _ (andR d.1.2.2)).1)
theorem t_comp (K : C.Ok) {i : Nat} (h : (pComp C.nm i).m e = true) : ES C (.comp i) e ∧ TS C (.comp i) e := by
  obtain ⟨d, rfl⟩ := Pat.of h
  exact pl K rfl (es_comp K (andL d.1.2.1.2.1.1.2) (andR d.1.2.1.2.1.1.2) (eq_of_beq (andL (andL (andL d.2)))) (eq_of_beq (andR (andL (andL d.2)))) (andL (andR (andL d.2))) (eq_of_beq (andR (andR (andL d.2)))) (andL (andR d.2)) (eq_of_beq (andR (andR d.2))))

/-- the whole of expressions -/
theorem es_all (K : C.Ok) (hT : ∀ p e, tl p e = true → ES C (.told p) e ∧ TS C (.told p) e) : ∀ p e, chk C.env.scope C.nm tl p e = true → ES C p e ∧ TS C p e := fun p =>
  show Told C (chk C.env.scope C.nm tl) p from
  PE.rec (motive := Told C (chk C.env.scope C.nm tl))
    (fun a e h => t_const K h) (fun i e h => t_loc K h) (fun i e h => t_glob K h) (fun a ha e h => t_not K ha h) (fun a ha e h => t_neg K ha h)
    (fun a b ha hb e h => t_and K ha hb h) (fun a b ha hb e h => t_or K ha hb h) (fun o a b ha hb e h => t_bin K ha hb h) (fun o a b ha hb e h => t_cmp K ha hb h)
    (fun o o' a b c ha hb hc e h => t_chain K ha hb hc h) (fun a ha e h => t_isNone K ha h) (fun a ha e h => t_notNone K ha h) (fun a b ha hb e h => t_inStr K ha hb h)
    (fun n t a l ha e h => t_inLits K ha h) (fun a b ha hb e h => t_inLst K ha hb h) (fun t a b ht ha hb e h => t_ite K ht ha hb h)
    (fun f a ha e h => t_call1 K ha h) (fun f a b ha hb e h => t_call2 K ha hb h) (fun f a b c ha hb hc e h => t_call3 K ha hb hc h)
    (fun a ha e h => t_1 K (es_len K) ha h) (fun q a ha e h => t_isinst K ha h) (fun a ha e h => t_1 K (es_abs K) ha h) (fun a b ha hb e h => t_2 K (es_max K) ha hb h) (fun a b ha hb e h => t_2 K (es_min K) ha hb h)
    (fun a ha e h => t_1 K (es_minl K) ha h) (fun a ha e h => t_1 K (es_maxl K) ha h) (fun a ha e h => t_1 K (es_toInt K) ha h) (fun a ha e h => t_1 K (es_toStr K) ha h) (fun a ha e h => t_1 K (es_ord K) ha h) (fun a ha e h => t_1 K (es_chr K) ha h)
    (fun a l ha e h => t_lstrip K ha h) (fun a ha e h => t_decode K ha h) (fun a ha e h => t_encode K ha h) (fun a b ha hb e h => t_index K ha hb h) (fun a ha e h => t_join K ha h)
    (fun a b ha hb e h => t_sub K ha hb h) (fun a b ha hb e h => t_sliceTo K ha hb h) (fun a b ha hb e h => t_sliceFrom K ha hb h) (fun a b c ha hb hc e h => t_slice K ha hb hc h)
    (fun k1 k2 k3 a b c i ha hb hc hi e h => t_dict3 K ha hb hc hi h) (fun a b ha hb e h => t_tup2 K ha hb h) (fun a b c ha hb hc e h => t_tup3 K ha hb hc h) (fun e h => t_lst0 K h) (fun a b ha hb e h => t_lst2 K ha hb h)
    (fun e h => nomatch h) (fun a ha e h => nomatch h) (fun i e h => t_comp K h) (fun a ha e h => hT _ _ h) (fun e h => ⟨fun ρ h tk Q E st H => H.elim, fun ρ h tk Q E st H => H.elim⟩) p
end
end Mine
end

section
set_option maxRecDepth 100000
set_option linter.unusedVariables false
set_option genSizeOf false
set_option genInjectivity false
open PySem PySem.W PySem.NumText PyProof.Rows PySem.Builtin
namespace Mine

section
variable {name x y z : Str} {ax ay az : Option Expr} {px py pz : Pos} {body : List Stmt} {scope : Scope} {pm cd doc v u w : Value}
theorem bind1 : bindArgs (Calls.docDef name ⟨[], [⟨x, ax, px⟩], none, [], [], none, []⟩ body scope pm cd doc) ⟨[v], []⟩ = pure [(x, v)] := by
  simp [bindArgs, Calls.docDef, seqItems?, List.lookup]
  rfl
theorem bind2 (h : (x == y) = false) : bindArgs (Calls.docDef name ⟨[], [⟨x, ax, px⟩, ⟨y, ay, py⟩], none, [], [], none, []⟩ body scope pm cd doc) ⟨[v, u], []⟩ = pure [(x, v), (y, u)] := by
  have h' : (y == x) = false := by rw [BEq.comm]; exact h
  simp [bindArgs, Calls.docDef, seqItems?, List.lookup, h']
  rfl
theorem bind3 (h : (x == y) = false) (h2 : (x == z) = false) (h3 : (y == z) = false) : bindArgs (Calls.docDef name ⟨[], [⟨x, ax, px⟩, ⟨y, ay, py⟩, ⟨z, az, pz⟩], none, [], [], none, []⟩ body scope pm cd doc) ⟨[v, u, w], []⟩ = pure [(x, v), (y, u), (z, w)] := by
  have h' : (y == x) = false := by rw [BEq.comm]; exact h
  have h2' : (z == x) = false := by rw [BEq.comm]; exact h2
  have h3' : (z == y) = false := by rw [BEq.comm]; exact h3
  simp [bindArgs, Calls.docDef, seqItems?, List.lookup, h', h2', h3']
  rfl
end

/-! names and values of a frame -/
noncomputable def Vars (S : Addr → Prop) (nm : List Str) (m : Str → Option Value) (h : Heap) (ρ : List V) : Prop :=
  ∀ i x, lkF nm i = some x → lkV ρ i = .undef ∨ ∃ v, m x = some v ∧ Rel S h v (lkV ρ i)
noncomputable def distinct : List Str → Bool
  | [] => true
  | x :: r => r.all (fun y => !(y == x)) && distinct r
theorem lkF_mem {α : Type} : ∀ {l : List α} {i : Nat} {x : α}, lkF l i = some x → x ∈ l
  | _ :: _, 0, _, e => by cases e; exact List.mem_cons_self ..
  | _ :: r, i + 1, _, e => List.mem_cons_of_mem _ (lkF_mem (l := r) e)
theorem distinct_inj : ∀ {l : List Str} {i j : Nat} {x : Str}, distinct l = true → lkF l i = some x → lkF l j = some x → i = j
  | _ :: _, 0, 0, _, _, _, _ => rfl
  | a :: r, 0, j + 1, x, d, e, e' => by
    obtain ⟨d1, _⟩ := Bool.and_eq_true_iff.mp d
    cases e
    have := List.all_eq_true.mp d1 a (lkF_mem (l := r) e')
    simp at this
  | a :: r, i + 1, 0, x, d, e, e' => by
    obtain ⟨d1, _⟩ := Bool.and_eq_true_iff.mp d
    cases e'
    have := List.all_eq_true.mp d1 a (lkF_mem (l := r) e)
    simp at this
  | a :: r, i + 1, j + 1, x, d, e, e' => by
    obtain ⟨_, d2⟩ := Bool.and_eq_true_iff.mp d
    rw [distinct_inj (l := r) d2 e e']
theorem lkV_set_ne : ∀ {ρ : List V} {i j : Nat} {v : V}, j ≠ i → lkV (setV ρ i v) j = lkV ρ j
  | [], i, j, v, h => by simp [setV]
  | _ :: r, 0, 0, v, h => absurd rfl h
  | _ :: r, 0, j + 1, v, h => rfl
  | _ :: r, i + 1, 0, v, h => rfl
  | _ :: r, i + 1, j + 1, v, h => lkV_set_ne (ρ := r) fun e => h (by rw [e])
theorem lkV_set : ∀ {ρ : List V} {i : Nat} {v : V}, lkV (setV ρ i v) i = v ∨ lkV (setV ρ i v) i = .undef
  | [], i, v => Or.inr (by cases i <;> rfl)
  | _ :: r, 0, v => Or.inl rfl
  | _ :: r, i + 1, v => lkV_set (ρ := r)
theorem Vars.keeps {S : Addr → Prop} {nm : List Str} {m : Str → Option Value} {h h' : Heap} {ρ : List V} (k : Keeps h h') (x : Vars S nm m h ρ) : Vars S nm m h' ρ := fun i y e => by
  rcases x i y e with q | ⟨v, hv, r⟩
  · exact Or.inl q
  · exact Or.inr ⟨v, hv, r.keeps k⟩
theorem Vars.set {S : Addr → Prop} {nm : List Str} {m : Str → Option Value} {h h' : Heap} {ρ : List V} {i : Nat} {x : Str} {v : Value} {q : V} (d : distinct nm = true) (e : lkF nm i = some x)
    (k : ∀ b o, S b → h.get? b = some o → h'.get? b = some o) (V : Vars S nm m h ρ) (r : Rel S h v q) : Vars S nm (fun y => if y = x then some v else m y) h' (setV ρ i q) := fun j y e' => by
  by_cases hj : j = i
  · subst hj
    rw [e] at e'
    cases e'
    rcases lkV_set (ρ := ρ) (i := j) (v := q) with z | z
    · rw [z]; exact Or.inr ⟨v, if_pos rfl, r.own k⟩
    · exact Or.inl z
  · rw [lkV_set_ne hj]
    rcases V j y e' with z | ⟨u, hu, ru⟩
    · exact Or.inl z
    · refine Or.inr ⟨u, ?_, ru.own k⟩
      refine (if_neg fun z => ?_).trans hu
      subst z
      exact hj (distinct_inj d e' e)

/-! what the frozen heap gives -/
structure Gl (KF : Frag) (addr : Nat → Addr) : Prop where
  glob : ∀ j x, lkF gnames j = some x → ∃ v, nsIn KF mainGlobals x = some (some v) ∧ RelA v (globA j)
  fn : ∀ f x, lkF fnames f = some x → nsIn KF mainGlobals x = some (some (.ref (addr f))) ∧ ∃ o fd, KF.lookup (addr f) = some o ∧ o.data = .func fd
  bi : ∀ x, x ∈ biNames → nsIn KF mainGlobals x = some none
noncomputable def Base (KF : Frag) (h : Heap) : Prop := KF.In h ∧ ∃ p loose mg mb, TopRead p loose mg mb h
theorem Base.keeps {KF : Frag} {h h' : Heap} (b : Base KF h) (k : Keeps h h') : Base KF h' := by
  obtain ⟨x, p, l, mg, mb, t⟩ := b
  exact ⟨x.keeps k, p, l, mg, mb, t.keeps k⟩
structure Room (A : Around) (d : Nat) : Prop where
  handled : A.handled = none
  units : A.units + 16 + 8 * d < cLine
  depth : A.depth + 16 + 4 * d < recursionLimit
theorem Room.deeper {A : Around} {d : Nat} (r : Room A (d + 1)) (env : Env) : Room (A.deeper env) d :=
  ⟨r.handled, by have := r.units; show A.units + 3 + 16 + 8 * d < cLine; omega, by have := r.depth; show A.depth + 1 + 16 + 4 * d < recursionLimit; omega⟩

/-- how a call of one of the text's own defs ends -/
noncomputable def Ends (B : Heap) (outer : List Env) (cls : Value) (S : Addr → Prop) (h : Heap) (gens : Array GenState) (dr : Drawn) (os : OsState) (r : Res V) (Q E : Value → Shared → Prop) : Prop := match r with
  | .ok x => ∀ v h' tk', Keeps h h' → Rel S h' v x → Q v ⟨h', gens, dr, tk', os⟩
  | .raise => ∀ e h' tk', (∃ a0, Heap.FlyingW B outer e cls a0 h') → h.UpToSlots h' → E (.ref e) ⟨h', gens, dr, tk', os⟩
  | .fail => False
noncomputable def CallOk (prog : Program) (w : World) (KF : Frag) (addr : Nat → Addr) (cls : Value) (Φ : Nat → List V → Res V) (d : Nat) : Prop :=
  ∀ A outer B S h tk gens dr os f vs xs Q E, Room A d → Below A B outer h → Base KF h → (∀ a, h.get? a = none → S a) → RelL S h vs xs → Ends B outer cls S h gens dr os (Φ f xs) Q E →
    wpAny (model prog w) A (call (.ref (addr f)) vs) Q E ⟨h, gens, dr, tk, os⟩

/-- an exception that was raised in this frame and has left no frame yet -/
noncomputable def MadeIn (cls : Value) (h₀ : Heap) (e : Addr) (h' : Heap) : Prop :=
  Keeps h₀ h' ∧ h₀.get? e = none ∧ ∃ oe vs a0, h'.get? e = some oe ∧ oe.cls = cls ∧ oe.data = .fields vs ∧ vs[1]? = some .none ∧ vs[0]? = some a0
/-- the setting of a body -/
structure Fs where
  prog : Program
  w : World
  A : Around
  name : Str
  scope : Scope
  L : Addr
  a : Addr
  cd : Value
  nm : List Str
  S : Addr → Prop
  B : Heap
  outer : List Env
  h₀ : Heap
  Φ : Nat → List V → Res V
  addr : Nat → Addr
  cls : Value
  gens : Array GenState
  dr : Drawn
  os : OsState
noncomputable abbrev Fs.env (f : Fs) : Env := envOf f.name f.scope f.L f.a f.cd
noncomputable abbrev Fs.cx (f : Fs) : Cx where
  prog := f.prog
  w := f.w
  A := f.A.deeper f.env
  env := f.env
  nm := f.nm
  S := fun b => f.S b ∧ b ≠ f.L
  Go := Keeps
  St := fun h ρ => ∃ m, Fr f.h₀ f.L h m ∧ Vars (fun b => f.S b ∧ b ≠ f.L) f.nm m h ρ
  Rs := fun e h' => ((∃ a0, Heap.FlyingW f.B (f.env :: f.outer) e f.cls a0 h') ∧ f.h₀.UpToSlots h') ∨ (MadeIn f.cls f.h₀ e h' ∧ ∃ m, h'.Ns f.L m)
  Φ := f.Φ
  addr := f.addr
  gens := f.gens
  d := f.dr
  os := f.os
structure Fs.Ok (f : Fs) (KF : Frag) (d : Nat) : Prop where
  room : Room f.A (d + 1)
  below : Below f.A f.B f.outer f.h₀
  base : Base KF f.h₀
  gl : Gl KF f.addr
  call : CallOk f.prog f.w KF f.addr f.cls f.Φ d
  kind : f.scope.kind = .function
  locals : (f.nm.all fun x => f.scope.names.lookup x == some .local) = true
  nodup : distinct f.nm = true
  newS : ∀ a, f.h₀.get? a = none → f.S a

theorem not_some {h : Heap} {b : Addr} {h' : Heap} (k : Keeps h h') (e : h'.get? b = none) : h.get? b = none := by
  cases q : h.get? b with
  | none => rfl
  | some o => rw [k b o q] at e; cases e
theorem Fs.Ok.cx {f : Fs} {KF : Frag} {d : Nat} (K : f.Ok KF d) : f.cx.Ok where
  handled := K.room.handled
  units := by have := (K.room.deeper f.env).units; show (f.A.deeper f.env).units + 16 < cLine; omega
  depth := by have := (K.room.deeper f.env).depth; show (f.A.deeper f.env).depth + 16 < recursionLimit; omega
  keeps := fun k => k
  trans := Keeps.trans
  st := fun {h h' ρ} g ⟨m, F, V⟩ => ⟨m, ⟨F.ns.keeps g, fun b o e => g b o (F.keep b o e), F.above⟩, V.keeps g⟩
  own := fun g _ e => g _ _ e
  fill := fun {h h₁ h₂ a} g n s b o e => (s.2 b fun z => by subst z; rw [e] at n; cases n).trans (g b o e)
  newS := fun {h ρ a} ⟨m, F, V⟩ n => ⟨K.newS a (not_some F.keep n), fun z => by
    obtain ⟨o, _, _, ho, _⟩ := F.ns
    rw [z, ho] at n; cases n⟩
  loc := fun {h ρ i x y} ⟨m, F, V⟩ e ne ex hd => by
    rcases V i x ex with z | ⟨v, hv, r⟩
    · exact absurd (e.symm.trans z) ne
    · refine ⟨v, e ▸ r, fun pos Q E tk hq => wpAny_Name (wpAny_loadName_local K.kind ?_ F.ns hv hq) (by simpa using hd)⟩
      have := List.all_eq_true.mp K.locals x (lkF_mem ex)
      exact eq_of_beq this
  glob := fun {h ρ j x} ⟨m, F, V⟩ ex g => by
    obtain ⟨v, hv, r⟩ := K.gl.glob j x ex
    obtain ⟨X, p, l, mg, mb, T⟩ := K.base
    obtain ⟨g1, g2, _⟩ := glo_parts g
    exact ⟨v, r, fun pos Q E tk hq => name_K F X T hv hq K.kind g1 g2⟩
  fn := fun {h ρ j x} ⟨m, F, V⟩ ex g => by
    obtain ⟨hv, o, fd, ho, hd⟩ := K.gl.fn j x ex
    obtain ⟨X, p, l, mg, mb, T⟩ := K.base
    obtain ⟨g1, g2, _⟩ := glo_parts g
    exact ⟨⟨o, fd, F.keep _ _ (X _ _ ho), hd⟩, fun pos Q E tk hq => name_K F X T hv hq K.kind g1 g2⟩
  bi := fun {h ρ x v} ⟨m, F, V⟩ hb g hm pos Q E tk hq => by
    obtain ⟨X, p, l, mg, mb, T⟩ := K.base
    obtain ⟨g1, g2, g3⟩ := glo_parts g
    exact name_B F X T (K.gl.bi x hm) hb (by intro z; rw [z] at g3; cases g3) hq K.kind g1 g2
  call := fun {h ρ j vs xs Q E tk} st r H => by
    obtain ⟨m, F, V⟩ := st
    refine K.call (f.A.deeper f.env) (f.env :: f.outer) f.B (fun b => f.S b ∧ b ≠ f.L) h tk f.gens f.dr f.os j vs xs Q E (K.room.deeper _) (K.below.push F K.kind) (K.base.keeps F.keep) (fun a n => ?_) r ?_
    · exact ⟨K.newS a (not_some F.keep n), fun z => by
        obtain ⟨o, _, _, ho, _⟩ := F.ns
        rw [z, ho] at n; cases n⟩
    · replace H : Post f.cx (f.Φ j xs) Q E h := H
      cases q : f.Φ j xs with
      | ok x => rw [q] at H; exact fun v h' tk' k rel => H v h' tk' k rel
      | raise => rw [q] at H; exact fun e h' tk' fl up => H e h' tk' (Or.inl ⟨fl, (Heap.UpToSlots.of_keeps F.keep).trans up⟩)
      | fail => rw [q] at H; exact H
end Mine
end

section
set_option maxRecDepth 100000
set_option linter.unusedVariables false
set_option genSizeOf false
set_option genInjectivity false
open PySem PySem.W PySem.NumText PyProof.Rows PySem.Builtin
namespace Mine

/-! statements -/
noncomputable def notComp : Expr → Bool
  | .ListComp _ _ _ _ | .SetComp _ _ _ _ | .DictComp _ _ _ _ _ => false
  | _ => true
theorem swaps_no {e : Expr} (h : notComp e = true) (t : Option Expr) (l : Nat) (env : Env) : swapsWith e t l env = pure false := by
  cases e <;> first | rfl | cases h

/-- what a statement keeps of the objects that it may not touch -/
noncomputable def FK (C : Cx) (full : Bool) (h h' : Heap) : Prop := ∀ b o, C.S b → h.get? b = some o → ((∃ vs, o.data = .fields vs) ∨ full = false) → h'.get? b = some o
theorem FK.refl (C : Cx) (full : Bool) (h : Heap) : FK C full h h := fun _ _ _ e _ => e
theorem FK.trans {C : Cx} {full : Bool} {h₁ h₂ h₃ : Heap} (x : FK C full h₁ h₂) (y : FK C full h₂ h₃) : FK C full h₁ h₃ := fun b o s e q => y b o s (x b o s e q) q
theorem FK.of {C : Cx} {full : Bool} {h h' : Heap} (k : ∀ b o, C.S b → h.get? b = some o → h'.get? b = some o) : FK C full h h' := fun b o s e _ => k b o s e

structure Cx.Sok (C : Cx) (full : Bool) (P : Addr → Prop) : Prop where
  ok : C.Ok
  nodup : distinct C.nm = true
  store : ∀ {h ρ i x v q tk Q E}, C.St h ρ → lkF C.nm i = some x → Rel C.S h v q → (∀ h' tk', C.St h' (setV ρ i q) → (∀ b o, C.S b → h.get? b = some o → h'.get? b = some o) → Q () (C.mk' h' tk')) →
    wpAny C.M C.A (storeName C.env x v) Q E (C.mk' h tk)
  load : ∀ {h ρ i x y}, C.St h ρ → lkV ρ i = y → y ≠ .undef → lkF C.nm i = some x → ∃ v, Rel C.S h v y ∧ ∀ Q E tk, Q v (C.mk' h tk) → wpAny C.M C.A (loadName C.env x) Q E (C.mk' h tk)
  poke : ∀ {h h' ρ I}, C.St h ρ → P I → (∃ o vs, h.get? I = some o ∧ o.data = .fields vs) → Heap.ExtBut I h h' → C.St h' ρ
  newP : ∀ {h ρ}, C.St h ρ → P h.objs.size
  PS : ∀ {a}, P a → C.S a

noncomputable def PostX (C : Cx) (full : Bool) (r : Res Fl) (Q : Flow → Shared → Prop) (E : Value → Shared → Prop) (h : Heap) : Prop := match r with
  | .ok (.next ρ') => ∀ h' tk', C.St h' ρ' → FK C full h h' → Q .next (C.mk' h' tk')
  | .ok (.ret v) => ∀ u h' tk', (∃ ρ', C.St h' ρ') → FK C full h h' → Rel C.S h' u v → Q (.ret u) (C.mk' h' tk')
  | .raise => ∀ e h' tk', C.Rs e h' → E (.ref e) (C.mk' h' tk')
  | .fail => False

section
variable {C : Cx} {full : Bool} {P : Addr → Prop} {h h₁ : Heap} {tk : Nat} {Q : Flow → Shared → Prop} {E : Value → Shared → Prop}
theorem PostX.fk {r : Res Fl} (k : FK C full h h₁) (H : PostX C full r Q E h) : PostX C full r Q E h₁ := by
  cases r with
  | ok f => cases f with
    | next ρ' => exact fun h' tk' st q => H h' tk' st (k.trans q)
    | ret v => exact fun u h' tk' st q r => H u h' tk' st (k.trans q) r
  | raise => exact H
  | fail => exact H
theorem Cx.Ok.fk (K : C.Ok) (g : C.Go h h₁) : FK C full h h₁ := FK.of fun b o s e => K.own g s e
theorem PostX.bindE (K : C.Ok) {x : Res V} {f : V → Res Fl} (H : PostX C full (x.bind f) Q E h) :
    Post C x (fun v s₁ => ∃ h₁ tk₁ y, s₁ = C.mk' h₁ tk₁ ∧ C.Go h h₁ ∧ Rel C.S h₁ v y ∧ x = .ok y ∧ PostX C full (f y) Q E h₁) E h := by
  cases x with
  | ok y => exact fun v h' tk g r => ⟨h', tk, y, rfl, g, r, rfl, PostX.fk (K.fk g) H⟩
  | raise => exact H
  | fail => exact H
theorem PostX.bindB (K : C.Ok) {x : Res Bool} {f : Bool → Res Fl} (H : PostX C full (x.bind f) Q E h) :
    PostB C x (fun b s₁ => ∃ h₁ tk₁, s₁ = C.mk' h₁ tk₁ ∧ C.Go h h₁ ∧ x = .ok b ∧ PostX C full (f b) Q E h₁) E h := by
  cases x with
  | ok y => exact fun h' tk g => ⟨h', tk, rfl, g, rfl, PostX.fk (K.fk g) H⟩
  | raise => exact H
  | fail => exact H
theorem PostX.bindX {x : Res Fl} {f : Fl → Res Fl} (H : PostX C full (x.bind f) Q E h) :
    PostX C full x (fun fl s₁ => (∃ h₁ tk₁ ρ₁, fl = .next ∧ s₁ = C.mk' h₁ tk₁ ∧ C.St h₁ ρ₁ ∧ FK C full h h₁ ∧ x = .ok (.next ρ₁) ∧ PostX C full (f (.next ρ₁)) Q E h₁) ∨
      (∃ u h₁ tk₁ v, fl = .ret u ∧ s₁ = C.mk' h₁ tk₁ ∧ (∃ ρ', C.St h₁ ρ') ∧ FK C full h h₁ ∧ Rel C.S h₁ u v ∧ x = .ok (.ret v) ∧ PostX C full (f (.ret v)) Q E h₁)) E h := by
  cases x with
  | ok fl => cases fl with
    | next ρ' => exact fun h' tk' st q => Or.inl ⟨h', tk', ρ', rfl, rfl, st, q, rfl, PostX.fk q H⟩
    | ret v => exact fun u h' tk' st q r => Or.inr ⟨u, h', tk', v, rfl, rfl, st, q, r, rfl, PostX.fk q H⟩
  | raise => exact H
  | fail => exact H

/-- a statement, and a row of statements -/
noncomputable def X1 (C : Cx) (full : Bool) (p : PS) (st : Stmt) : Prop := ∀ ρ h tk Q E, C.St h ρ → PostX C full (execP C.Φ p ρ) Q E h → wpAny C.M C.A (exec st C.env) Q E (C.mk' h tk)
noncomputable def XS (C : Cx) (full : Bool) (p : PS) (ss : List Stmt) : Prop := ∀ ρ h tk Q E, C.St h ρ → PostX C full (execP C.Φ p ρ) Q E h → wpAny C.M C.A (execs ss C.env) Q E (C.mk' h tk)

variable {a b c : PE} {p q : PS} {x y : Str} {e e' : Expr} {px pos : Pos} {i j : Nat}
theorem xs_nil : XS C full .skip [] := fun ρ h tk Q E st H => by
  have H : PostX C full (.ok (.next ρ)) Q E h := H
  exact wpAny_execs_nil (H h tk st (FK.refl _ _ _))
theorem xs_cons {st : Stmt} {ss : List Stmt} (h1 : X1 C full p st) (h2 : XS C full q ss) : XS C full (.seq p q) (st :: ss) := fun ρ h tk Q E s H => by
  have H : PostX C full ((execP C.Φ p ρ).bind fun f => match f with | .next ρ' => execP C.Φ q ρ' | .ret v => .ok (.ret v)) Q E h := H
  refine wpAny_execs_cons (wpAny_mono (h1 ρ h tk _ E s H.bindX) ?_ fun _ _ e => e)
  rintro f s₁ (⟨h₁, tk₁, ρ₁, rfl, rfl, st₁, k, _, H₁⟩ | ⟨u, h₁, tk₁, v, rfl, rfl, st₁, k, r, _, H₁⟩)
  · exact h2 ρ₁ h₁ tk₁ Q E st₁ H₁
  · exact H₁ u h₁ tk₁ st₁ (FK.refl _ _ _) r

theorem x1_assign (K : C.Sok full P) (hx : nth C.nm i x = true) (hc : notComp e = true) (ih : ES C a e) : X1 C full (.assign i a) (.Assign [.Name x px] e pos) := fun ρ h tk Q E s H => by
  have H : PostX C full ((evalE C.Φ a ρ).bind fun v => .ok (.next (setV ρ i v))) Q E h := H
  refine wpAny_Assign_Name (wpAny_mono (ih ρ h tk _ E s (H.bindE K.ok)) ?_ fun _ _ e => e) (swaps_no hc _ _ _)
  rintro v s₁ ⟨h₁, tk₁, y, rfl, g, r, _, H₁⟩
  exact K.store (K.ok.st g s) (nth_eq hx) r fun h' tk' st k => H₁ h' tk' st (FK.of k)

theorem n_loc_undef {i : Nat} {ρ : List V} (z : lkV ρ i = .undef) : n_loc i ρ = .fail := by unfold n_loc; rw [z]
theorem n_loc_ok {i : Nat} {ρ : List V} (z : lkV ρ i ≠ .undef) : n_loc i ρ = .ok (lkV ρ i) := by
  unfold n_loc
  cases q : lkV ρ i <;> first | exact absurd q z | rfl
theorem x1_aug (K : C.Sok full P) {op : BOp} (hx : nth C.nm i x = true) (ih : ES C a e) : X1 C full (.aug i op a) (.AugAssign (.Name x px) (opOf op) e pos) := fun ρ h tk Q E s H => by
  have H : PostX C full ((n_loc i ρ).bind fun v => (evalE C.Φ a ρ).bind fun w => (augV op v w).bind fun x => .ok (.next (setV ρ i x))) Q E h := H
  by_cases z : lkV ρ i = .undef
  · rw [n_loc_undef z] at H; exact H.elim
  · rw [n_loc_ok z] at H
    obtain ⟨v, r, k⟩ := K.load s rfl z (nth_eq hx)
    generalize lkV ρ i = y₀ at H r
    refine wpAny_AugAssign_Name (k _ E tk (wpAny_mono (ih ρ h tk _ E s (PostX.bindE K.ok H)) ?_ fun _ _ e => e))
    rintro w s₁ ⟨h₁, tk₁, y, rfl, g, r₁, _, H₁⟩
    replace r := K.ok.rel g r
    unfold augV at H₁
    split at H₁
    · obtain ⟨t, rfl⟩ := r
      obtain ⟨u, rfl⟩ := r₁
      refine PyProof.Rows.iadd_int ?_
      exact K.store (q := .at (.int _)) (K.ok.st g s) (nth_eq hx) ⟨_, rfl⟩ fun h' tk' st k => H₁ h' tk' st (FK.of k)
    · exact H₁.elim

theorem x1_ite (K : C.Sok full P) {body els : List Stmt} (ht : TS C a e) (h1 : XS C full p body) (h2 : XS C full q els) : X1 C full (.ite a p q) (.If e body els pos) := fun ρ h tk Q E s H => by
  have H : PostX C full ((evalE C.Φ a ρ).bind fun v => (truthy v).bind fun c => match c with | true => execP C.Φ p ρ | false => execP C.Φ q ρ) Q E h := H
  rw [← Res.assoc] at H
  refine wpAny_If (wpAny_mono (ht ρ h tk _ E s (H.bindB K.ok)) ?_ fun _ _ e => e)
  rintro c s₁ ⟨h₁, tk₁, rfl, g, _, H₁⟩
  cases c with
  | true => exact h1 ρ h₁ tk₁ Q E (K.ok.st g s) H₁
  | false => exact h2 ρ h₁ tk₁ Q E (K.ok.st g s) H₁

theorem x1_ret (K : C.Sok full P) (ih : ES C a e) : X1 C full (.ret a) (.Return (some e) pos) := fun ρ h tk Q E s H => by
  have H : PostX C full ((evalE C.Φ a ρ).bind fun v => .ok (.ret v)) Q E h := H
  refine wpAny_Return_some (wpAny_mono (ih ρ h tk _ E s (H.bindE K.ok)) ?_ fun _ _ e => e)
  rintro v s₁ ⟨h₁, tk₁, y, rfl, g, r, _, H₁⟩
  exact H₁ v h₁ tk₁ ⟨ρ, K.ok.st g s⟩ (FK.refl _ _ _) r

/-! loops -/
theorem quietB {r : Res Bool} {f : Bool → Res Fl} {E' : Value → Shared → Prop} (K : C.Ok) (H : PostX C full ((quiet r).bind f) Q E h) :
    PostB C r (fun b s₁ => ∃ h₁ tk₁, s₁ = C.mk' h₁ tk₁ ∧ C.Go h h₁ ∧ PostX C full (f b) Q E h₁) E' h := by
  cases r with
  | ok y => exact fun h' tk g => ⟨h', tk, rfl, g, PostX.fk (K.fk g) H⟩
  | raise => exact H.elim
  | fail => exact H.elim
theorem quietX {r : Res Fl} {f : Fl → Res Fl} {E' : Value → Shared → Prop} (H : PostX C full ((quiet r).bind f) Q E h) :
    PostX C full r (fun fl s₁ => (∃ h₁ tk₁ ρ₁, fl = .next ∧ s₁ = C.mk' h₁ tk₁ ∧ C.St h₁ ρ₁ ∧ FK C full h h₁ ∧ PostX C full (f (.next ρ₁)) Q E h₁) ∨
      (∃ u h₁ tk₁ v, fl = .ret u ∧ s₁ = C.mk' h₁ tk₁ ∧ (∃ ρ', C.St h₁ ρ') ∧ FK C full h h₁ ∧ Rel C.S h₁ u v ∧ PostX C full (f (.ret v)) Q E h₁)) E' h := by
  cases r with
  | ok fl => cases fl with
    | next ρ' => exact fun h' tk' st q => Or.inl ⟨h', tk', ρ', rfl, rfl, st, q, PostX.fk q H⟩
    | ret v => exact fun u h' tk' st q r => Or.inr ⟨u, h', tk', v, rfl, rfl, st, q, r, PostX.fk q H⟩
  | raise => exact H.elim
  | fail => exact H.elim

theorem x1_while (K : C.Sok full P) {body : List Stmt} (ht : TS C a e) (h1 : XS C full p body) : X1 C full (.while a p) (.While e body [] pos) := fun ρ h tk Q E s H => by
  have H : PostX C full (whileF (fun ρ => (evalE C.Φ a ρ).bind truthy) (execP C.Φ p) 100 ρ) Q E h := H
  refine wpAny_While (codeAny_whileLoop (fun n s' => ∃ ρ' h' tk', s' = C.mk' h' tk' ∧ C.St h' ρ' ∧ PostX C full (whileF (fun ρ => (evalE C.Φ a ρ).bind truthy) (execP C.Φ p) n ρ') Q E h') ?_ 100 ⟨ρ, h, tk, rfl, s, H⟩)
  rintro n s' ⟨ρ', h', tk', rfl, s', H'⟩
  cases n with
  | zero => exact H'.elim
  | succ n =>
    unfold whileF at H'
    refine wpAny_mono (ht ρ' h' tk' _ _ s' (quietB K.ok H')) ?_ fun _ _ e => e
    rintro c s₁ ⟨h₁, tk₁, rfl, g, H₁⟩
    cases c with
    | false =>
      simp only [Bool.false_eq_true, if_false]
      exact wpAny_execs_nil (H₁ h₁ tk₁ (K.ok.st g s') (FK.refl _ _ _))
    | true =>
      simp only [if_true]
      refine wpAny_mono (h1 ρ' h₁ tk₁ _ _ (K.ok.st g s') (quietX H₁)) ?_ fun _ _ e => e
      rintro f s₂ (⟨h₂, tk₂, ρ₂, rfl, rfl, st₂, k, H₂⟩ | ⟨u, h₂, tk₂, v, rfl, rfl, st₂, k, r, H₂⟩)
      · exact ⟨n, Nat.lt_succ_self n, ρ₂, h₂, tk₂, rfl, st₂, H₂⟩
      · exact H₂ u h₂ tk₂ st₂ (FK.refl _ _ _) r

/-- an iterator over values that are told -/
structure It (C : Cx) (full : Bool) (I : Addr) (f : List V → Heap → Prop) : Prop where
  next : ∀ {q r h tk Q E}, f (q :: r) h → (∀ v h' tk', Rel C.S h' v q → f r h' → Heap.ExtBut I h h' → Q (some v) (C.mk' h' tk')) → wpAny C.M C.A (pyNext (.ref I)) Q E (C.mk' h tk)
  stop : ∀ {h tk Q E}, f [] h → (∀ h', Heap.ExtBut I h h' → Q none (C.mk' h' tk)) → wpAny C.M C.A (pyNext (.ref I)) Q E (C.mk' h tk)
  kept : ∀ {l h h'}, f l h → FK C full h h' → f l h'
  fields : ∀ {l h}, f l h → ∃ o vs, h.get? I = some o ∧ o.data = .fields vs

theorem for_run (K : C.Sok full P) {I : Addr} {f : List V → Heap → Prop} {body : List Stmt} {R : Result → Shared → Prop} {items : List V} {ρ : List V} (it : It C full I f) (hP : P I) (hI : h.get? I = none) (hx : nth C.nm i x = true)
    (h1 : XS C full p body) (hf : f items h₁) (st : C.St h₁ ρ) (k : FK C full h h₁) (H : PostX C full (forF i (execP C.Φ p) items ρ) Q E h) (hR : ∀ fl s, Q fl s → R (.ok fl) s) :
    codeAny C.M C.A (.forLoop (.Name x px) (.ref I) body [] C.env) R (C.mk' h₁ tk) := by
  have ext : ∀ {h₂ h₃ : Heap}, FK C full h h₂ → Heap.ExtBut I h₂ h₃ → FK C full h h₃ := fun a b o q hs e z => b o q (fun w => by rw [w, hI] at e; cases e) (a o q hs e z)
  refine codeAny_forLoop (fun n s' => ∃ items ρ h' tk', s' = C.mk' h' tk' ∧ n = items.length ∧ f items h' ∧ C.St h' ρ ∧ FK C full h h' ∧ PostX C full (forF i (execP C.Φ p) items ρ) Q E h) ?_ items.length ⟨items, ρ, h₁, tk, rfl, rfl, hf, st, k, H⟩
  clear hf st k H
  rintro n s' ⟨items, ρ, h', tk', rfl, rfl, hf, st, k, H⟩
  cases items with
  | nil =>
    have H : PostX C full (.ok (.next ρ)) Q E h := H
    refine it.stop hf fun h₂ hb => ?_
    exact wpAny_execs_nil (hR _ _ (H h₂ tk' (K.poke st hP (it.fields hf) hb) (ext k hb)))
  | cons q r =>
    have H : PostX C full ((quiet (execP C.Φ p (setV ρ i q))).bind fun f => match f with | .next ρ' => forF i (execP C.Φ p) r ρ' | .ret v => .ok (.ret v)) Q E h := H
    refine it.next hf fun v h₂ tk₂ rel hf₂ hb => ?_
    have st₂ := K.poke st hP (it.fields hf) hb
    have k₂ := ext k hb
    refine assign_Name (K.store st₂ (nth_eq hx) rel fun h₃ tk₃ st₃ ks => ?_)
    have k₃ : FK C full h h₃ := k₂.trans (FK.of ks)
    have hf₃ := it.kept hf₂ (FK.of ks)
    have H₃ : PostX C full (execP C.Φ p (setV ρ i q)) (fun fl s₁ => (∃ h₁ tk₁ ρ₁, fl = .next ∧ s₁ = C.mk' h₁ tk₁ ∧ C.St h₁ ρ₁ ∧ FK C full h₃ h₁ ∧ PostX C full (forF i (execP C.Φ p) r ρ₁) Q E h) ∨
      (∃ u h₁ tk₁ v, fl = .ret u ∧ s₁ = C.mk' h₁ tk₁ ∧ (∃ ρ', C.St h₁ ρ') ∧ FK C full h₃ h₁ ∧ Rel C.S h₁ u v ∧ PostX C full (.ok (.ret v)) Q E h)) (notedBy C.M C.A C.env fun e s' => R (.error e) s') h₃ := by
      cases z : execP C.Φ p (setV ρ i q) with
      | ok fl => cases fl with
        | next ρ' => rw [z] at H; exact fun h' tk' st q => Or.inl ⟨h', tk', ρ', rfl, rfl, st, q, H⟩
        | ret v => rw [z] at H; exact fun u h' tk' st q r => Or.inr ⟨u, h', tk', v, rfl, rfl, st, q, r, H⟩
      | raise => rw [z] at H; exact H.elim
      | fail => rw [z] at H; exact H.elim
    refine wpAny_mono (h1 _ h₃ tk₃ _ _ st₃ H₃) ?_ fun _ _ e => e
    rintro fl s₄ (⟨h₄, tk₄, ρ₄, rfl, rfl, st₄, k₄, H₄⟩ | ⟨u, h₄, tk₄, v, rfl, rfl, st₄, k₄, r₄, H₄⟩)
    · exact ⟨r.length, Nat.lt_succ_self _, r, ρ₄, h₄, tk₄, rfl, rfl, it.kept hf₃ k₄, st₄, k₃.trans k₄, H₄⟩
    · exact hR _ _ (H₄ u h₄ tk₄ st₄ (k₃.trans k₄) r₄)
end
end Mine
end

section
set_option maxRecDepth 100000
set_option linter.unusedVariables false
set_option genSizeOf false
set_option genInjectivity false
set_option linter.unusedSimpArgs false
open PySem PySem.W PySem.NumText PyProof.Rows PySem.Builtin
namespace Mine

section
variable {C : Cx} {full : Bool} {P : Addr → Prop} {h h₁ : Heap} {tk : Nat} {Q : Flow → Shared → Prop} {E : Value → Shared → Prop} {a b c : PE} {p q : PS} {x y z : Str} {e e' : Expr} {px py pz pos : Pos} {i j k : Nat}

/-! iterators -/
theorem it_range (K : C.Sok full P) {I : Addr} (hP : P I) : It C full I (fun items h => ∃ (x : Int) (n : Nat), IsRangeIter h I x n 1 ∧ items = rangeV x n) where
  next := by
    rintro q r h tk Q E ⟨x, n, hit, e⟩ k
    cases n with
    | zero => cases e
    | succ n =>
      cases e
      refine wpAny_pyNext_range_item hit (by omega) fun h' hit' hs => k _ h' _ ⟨_, rfl⟩ ⟨x + 1, n, ?_, rfl⟩ hs.extBut
      have : ((n + 1 : Nat) : Int) - 1 = (n : Int) := by omega
      rw [this] at hit'
      exact hit'
  stop := by
    rintro h tk Q E ⟨x, n, hit, e⟩ k
    cases n with
    | zero => exact wpAny_pyNext_range_end K.ok.handled hit (by simp) k
    | succ n => cases e
  kept := by
    rintro l h h' ⟨x, n, hit, e⟩ fk
    exact ⟨x, n, fk _ _ (K.PS hP) hit (Or.inl ⟨_, rfl⟩), e⟩
  fields := by
    rintro l h ⟨x, n, hit, e⟩
    exact ⟨_, _, hit, rfl⟩
theorem it_str (K : C.Sok full P) {I : Addr} (hP : P I) (l : List Nat) (t : Tok) : It C full I (fun items h => ∃ i, h.IsStrIter I "str_ascii_iterator" (mkS l) t i ∧ items = (l.drop i).map fun c => V.at (.str [c])) where
  next := by
    rintro q r h tk Q E ⟨i, hit, e⟩ k
    cases d : l.drop i with
    | nil => rw [d] at e; cases e
    | cons c rest =>
      rw [d] at e
      cases e
      obtain ⟨e1, e2⟩ := drop_get d
      refine wpAny_pyNext_ascii_item (c := c) hit (by simpa [mkS] using e1) fun h' hit' hs => k _ h' _ ⟨_, rfl, by simp⟩ ⟨i + 1, hit', ?_⟩ hs.extBut
      have : l.drop (i + 1) = rest := by rw [← List.tail_drop, d]; rfl
      rw [this]
  stop := by
    rintro h tk Q E ⟨i, hit, e⟩ k
    cases d : l.drop i with
    | nil =>
      refine wpAny_pyNext_ascii_end K.ok.handled hit ?_ k
      have : l.length ≤ i := by simpa using d
      show (mkS l).cps[i]? = none
      simp [mkS, this]
    | cons c rest => rw [d] at e; cases e
  kept := by
    rintro its h h' ⟨i, ⟨o, ho, hc, hd⟩, e⟩ fk
    exact ⟨i, ⟨o, fk _ _ (K.PS hP) ho (Or.inl ⟨_, hd⟩), hc, hd⟩, e⟩
  fields := by
    rintro its h ⟨i, ⟨o, ho, hc, hd⟩, e⟩
    exact ⟨o, _, ho, hd⟩
theorem relAs_cons {vs : List Value} {a : A} {l : List A} (r : RelAs vs (a :: l)) : ∃ v rest, vs = v :: rest ∧ RelA v a ∧ RelAs rest l := by
  cases vs with
  | nil => exact r.elim
  | cons v rest => exact ⟨v, rest, rfl, r.1, r.2⟩
theorem it_list (K : C.Sok false P) {I D : Addr} (hP : P I) (hD : C.S D) (hne : D ≠ I) (vs : List Value) (ls : List A) (hr : RelAs vs ls) :
    It C false I (fun items h => ∃ i, h.IsListIter I D i ∧ h.IsList D vs.toArray ∧ items = (ls.drop i).map V.at) where
  next := by
    rintro q r h tk Q E ⟨i, hit, hl, e⟩ k
    cases d : ls.drop i with
    | nil => rw [d] at e; cases e
    | cons c rest =>
      rw [d] at e
      cases e
      obtain ⟨e1, e2⟩ := drop_get d
      obtain ⟨v, hv, rv⟩ := relAs_get hr e1
      refine wpAny_pyNext_list_item (x := v) hit hl (by simpa using hv) fun h' hit' hs => k v h' _ rv ⟨i + 1, hit', hl.extBut hs.extBut hne, ?_⟩ hs.extBut
      have : ls.drop (i + 1) = rest := by rw [← List.tail_drop, d]; rfl
      rw [this]
  stop := by
    rintro h tk Q E ⟨i, hit, hl, e⟩ k
    cases d : ls.drop i with
    | nil =>
      refine wpAny_pyNext_list_end K.ok.handled hit hl ?_ k
      have : ls.length ≤ i := by simpa using d
      have hlen := relAs_len hr
      simp
      omega
    | cons c rest => rw [d] at e; cases e
  kept := by
    rintro its h h' ⟨i, ⟨o, ho, hc, hd⟩, ⟨ol, hol, hl⟩, e⟩ fk
    exact ⟨i, ⟨o, fk _ _ (K.PS hP) ho (Or.inr rfl), hc, hd⟩, ⟨ol, fk _ _ hD hol (Or.inr rfl), hl⟩, e⟩
  fields := by
    rintro its h ⟨i, ⟨o, ho, hc, hd⟩, hl, e⟩
    exact ⟨o, _, ho, hd⟩

theorem folded_no {e : Expr} (h : notSet e = true) (env : Env) (v : Value) : foldedSetIterable e env v = pure v := by
  cases e <;> first | rfl | cases h

theorem x1_forStr (K : C.Sok full P) {body : List Stmt} (hx : nth C.nm i x = true) (hs : notSet e = true) (ih : ES C a e) (h1 : XS C full p body) : X1 C full (.forStr i a p) (.For (.Name x px) e body [] pos) := fun ρ h tk Q E s H => by
  have H : PostX C full ((evalE C.Φ a ρ).bind fun v => match v with
    | .at (.str l) => (match ascii l with | true => forF i (execP C.Φ p) (l.map fun c => .at (.str [c])) ρ | false => .fail)
    | _ => .fail) Q E h := H
  refine wpAny_For (wpAny_mono (ih ρ h tk _ E s (H.bindE K.ok)) ?_ fun _ _ e => e) (folded_no hs _)
  rintro v s₁ ⟨h₁, tk₁, z, rfl, g, r, -, H₁⟩
  split at H₁
  · rename_i l
    split at H₁
    · rename_i hA
      obtain ⟨t, rfl, _⟩ := r
      have st₁ := K.ok.st g s
      have hP := K.newP st₁
      refine wpAny_pyIter_ascii ?_ ?_
      · show (mkS l).cps.all (· < 128) = true
        simp only [mkS, List.all_toArray]
        exact List.all_eq_true.mpr fun c hc => decide_eq_true (Nat.le_of_ble_eq_true (List.all_eq_true.mp hA c hc))
      · have g₂ : C.Go h₁ (h₁.push { cls := .type "str_ascii_iterator", data := .fields #[.str (mkS l) t, .int 0 0] }) := K.ok.keeps (Keeps.push _ _)
        exact for_run K (it_str K hP l t) hP (get_size h₁) hx h1 ⟨0, ⟨_, Heap.get?_push_size _ rfl, rfl, rfl⟩, rfl⟩ (K.ok.st g₂ st₁) (K.ok.fk g₂) H₁ fun _ _ q => q
    · exact H₁.elim
  · exact H₁.elim

theorem range_small {m n : Int} (hm : 0 ≤ m) (hn : 0 ≤ n) (hm' : m ≤ 1000) (hn' : n ≤ 1000) : Builtin.Range.small m n 1 = true := small_one (by omega) (by omega) (by omega) (by omega)

theorem x1_forRange1 (K : C.Sok full P) {body : List Stmt} {fx : Str} {np p2 : Pos} (hx : nth C.nm i x = true) (hs : notStar e = true) (g : glo C.env.scope fx = true) (hf : fx = ("range" : Str)) (ih : ES C a e) (h1 : XS C full p body) :
    X1 C full (.forRange1 i a p) (.For (.Name x px) (.Call (.Name fx np) [e] [] p2) body [] pos) := fun ρ h tk Q E s H => by
  subst hf
  have H : PostX C full ((evalE C.Φ a ρ).bind fun v => match v with
    | .at (.int (.ofNat n)) => (match Nat.ble n 1000 with | true => forF i (execP C.Φ p) (rangeV 0 n) ρ | false => .fail)
    | _ => .fail) Q E h := H
  refine wpAny_For (wpAny_Call_ofName (K.ok.bi s PyProof.Rows.Boot.«range» g (by simp) np _ E tk ?_)) (fun _ => rfl)
  rw [starEach_of hs, backTo_plain]
  refine PySem.callWith_type rfl (Calls.evalArgs_plain (Calls.spliced_cons (wpAny_mono (ih ρ h tk _ E s (H.bindE K.ok)) ?_ fun _ _ e => e)))
  rintro v s₁ ⟨h₁, tk₁, z, rfl, g, r, -, H₁⟩
  refine Calls.spliced_nil ?_
  split at H₁
  · rename_i n
    split at H₁
    · rename_i hn
      have hn := Nat.le_of_ble_eq_true hn
      obtain ⟨t, rfl⟩ := r
      have st₁ := K.ok.st g s
      refine call_range_1 ?_
      have g₂ : C.Go h₁ (h₁.push { cls := .type "range", data := .fields #[.int 0 tk₁, .int (Int.ofNat n) t, .int 1 (tk₁ + 1)] }) := K.ok.keeps (Keeps.push _ _)
      refine wpAny_pyIter_range (IsRange.new _ _ _ _ _ _ _) (range_small (by omega) (by show (0 : Int) ≤ n; omega) (by omega) (by show (n : Int) ≤ 1000; omega)) ?_
      have st₂ := K.ok.st g₂ st₁
      have hP := K.newP st₂
      have g₃ := K.ok.keeps (Keeps.push (h₁.push { cls := .type "range", data := .fields #[.int 0 tk₁, .int (Int.ofNat n) t, .int 1 (tk₁ + 1)] }) { cls := .type "range_iterator", data := .fields #[rawInt 0, rawInt (Builtin.Range.rangeSize 0 (Int.ofNat n) 1), rawInt 1] })
      have e : Builtin.Range.rangeSize 0 (Int.ofNat n) 1 = (n : Int) := by
        rw [rangeSize_one]
        show (if (0 : Int) < (n : Int) then (n : Int) - 0 else 0) = n
        split <;> omega
      refine for_run K (it_range K hP) hP (get_size _) hx h1 ⟨0, n, ?_, rfl⟩ (K.ok.st g₃ st₂) (K.ok.fk g₃) (PostX.fk (K.ok.fk g₂) H₁) fun _ _ q => q
      rw [e]
      exact Heap.get?_push_size _ rfl
    · exact H₁.elim
  · exact H₁.elim

theorem rangeV_zero (a : Int) : rangeV a 0 = [] := rfl
theorem x1_forRange2 (K : C.Sok full P) {body : List Stmt} {fx : Str} {np p2 : Pos} (hx : nth C.nm i x = true) (hs : notStar e = true) (hs' : notStar e' = true) (g : glo C.env.scope fx = true) (hf : fx = ("range" : Str)) (ih : ES C a e) (ih' : ES C b e') (h1 : XS C full p body) :
    X1 C full (.forRange2 i a b p) (.For (.Name x px) (.Call (.Name fx np) [e, e'] [] p2) body [] pos) := fun ρ h tk Q E s H => by
  subst hf
  have H : PostX C full ((evalE C.Φ a ρ).bind fun v => (evalE C.Φ b ρ).bind fun w => match v, w with
    | .at (.int (.ofNat m)), .at (.int (.ofNat n)) => (match Nat.ble n 1000 && Nat.ble m 1000 with | true => forF i (execP C.Φ p) (rangeV m (n - m)) ρ | false => .fail)
    | _, _ => .fail) Q E h := H
  refine wpAny_For (wpAny_Call_ofName (K.ok.bi s PyProof.Rows.Boot.«range» g (by simp) np _ E tk ?_)) (fun _ => rfl)
  rw [starEach_of hs, starEach_of hs', backTo_plain, backTo_plain]
  refine PySem.callWith_type rfl (Calls.evalArgs_plain (Calls.spliced_cons (wpAny_mono (ih ρ h tk _ E s (H.bindE K.ok)) ?_ fun _ _ e => e)))
  rintro v s₁ ⟨h₁, tk₁, z, rfl, g, r, -, H₁⟩
  refine Calls.spliced_cons (wpAny_mono (ih' ρ h₁ tk₁ _ E (K.ok.st g s) (H₁.bindE K.ok)) ?_ fun _ _ e => e)
  rintro w s₂ ⟨h₂, tk₂, z₂, rfl, g₂, r₂, -, H₂⟩
  refine Calls.spliced_nil ?_
  split at H₂
  · rename_i m n
    split at H₂
    · rename_i hn
      obtain ⟨hn, hm⟩ := Bool.and_eq_true_iff.mp hn
      have hn := Nat.le_of_ble_eq_true hn
      have hm := Nat.le_of_ble_eq_true hm
      obtain ⟨t, rfl⟩ := r
      obtain ⟨u, rfl⟩ := r₂
      have st₁ := K.ok.st g₂ (K.ok.st g s)
      refine call_range_2 ?_
      have g₃ : C.Go h₂ (h₂.push { cls := .type "range", data := .fields #[.int (Int.ofNat m) t, .int (Int.ofNat n) u, .int 1 tk₂] }) := K.ok.keeps (Keeps.push _ _)
      refine wpAny_pyIter_range (IsRange.new _ _ _ _ _ _ _) (range_small (by show (0 : Int) ≤ m; omega) (by show (0 : Int) ≤ n; omega) (by show (m : Int) ≤ 1000; omega) (by show (n : Int) ≤ 1000; omega)) ?_
      have st₂ := K.ok.st g₃ st₁
      have hP := K.newP st₂
      have g₄ := K.ok.keeps (Keeps.push (h₂.push { cls := .type "range", data := .fields #[.int (Int.ofNat m) t, .int (Int.ofNat n) u, .int 1 tk₂] }) { cls := .type "range_iterator", data := .fields #[rawInt (Int.ofNat m), rawInt (Builtin.Range.rangeSize (Int.ofNat m) (Int.ofNat n) 1), rawInt 1] })
      have e : Builtin.Range.rangeSize (Int.ofNat m) (Int.ofNat n) 1 = ((n - m : Nat) : Int) := by
        rw [rangeSize_one]
        show (if (m : Int) < (n : Int) then (n : Int) - m else 0) = ((n - m : Nat) : Int)
        split <;> omega
      refine for_run K (it_range K hP) hP (get_size _) hx h1 ⟨(m : Int), n - m, ?_, rfl⟩ (K.ok.st g₄ st₂) (K.ok.fk g₄) (PostX.fk (K.ok.fk g₃) H₂) fun _ _ q => q
      rw [e]
      exact Heap.get?_push_size _ rfl
    · exact H₂.elim
  · exact H₂.elim

/-! tuples -/
theorem setV_comm : ∀ {ρ : List V} {i j : Nat} {v w : V}, i ≠ j → setV (setV ρ i v) j w = setV (setV ρ j w) i v
  | [], _, _, _, _, _ => rfl
  | _ :: _, 0, 0, _, _, h => absurd rfl h
  | _ :: _, 0, _ + 1, _, _, _ => rfl
  | _ :: _, _ + 1, 0, _, _, _ => rfl
  | _ :: r, i + 1, j + 1, v, w, h => by
    show _ :: setV (setV r i v) j w = _ :: setV (setV r j w) i v
    rw [setV_comm (ρ := r) fun e => h (by rw [e])]
theorem rel_own {C : Cx} {h h' : Heap} {v : Value} {q : V} (k : ∀ b o, C.S b → h.get? b = some o → h'.get? b = some o) (r : Rel C.S h v q) : Rel C.S h' v q := r.own k
theorem keeps_ext {h h' : Heap} (e : Heap.ExtBut h.objs.size h h') : Keeps h h' := fun b o q => e b o (Nat.ne_of_lt (Heap.lt_size q)) q

theorem relAs_2 {vs : List Value} {a b : A} (r : RelAs vs [a, b]) : ∃ v w, vs = [v, w] ∧ RelA v a ∧ RelA w b := by
  obtain ⟨v, rest, rfl, r1, r2⟩ := relAs_cons r
  obtain ⟨w, rest, rfl, r3, r4⟩ := relAs_cons r2
  cases rest with
  | nil => exact ⟨v, w, rfl, r1, r3⟩
  | cons => exact r4.elim
theorem relAs_3 {vs : List Value} {a b c : A} (r : RelAs vs [a, b, c]) : ∃ v w u, vs = [v, w, u] ∧ RelA v a ∧ RelA w b ∧ RelA u c := by
  obtain ⟨v, rest, rfl, r1, r2⟩ := relAs_cons r
  obtain ⟨w, u, rfl, r3, r4⟩ := relAs_2 r2
  exact ⟨v, w, u, rfl, r1, r3, r4⟩

noncomputable def swapOk (sc : Scope) (x y : Str) (px py : Pos) (vs : List Expr) : Bool :=
  sc.kind == .function && sc.names.lookup x == some .local && sc.names.lookup y == some .local && !(x == y) && px.line == py.line && vs.length == 2 && vs.all notStar && (vs.all (foldedForSure 8) || !vs.all (constantsAlone 8))
theorem posN (x : Str) (p : Pos) : (Expr.Name x p).pos = p := rfl
theorem swapOk_spec {env : Env} {sc : Scope} (he : env.scope = sc) (hk : ∀ x, env.kindOf x = sc.names.lookup x) {x y : Str} {px py : Pos} {vs : List Expr} {k k' : Nat} {tp vp : Pos} (h : swapOk sc x y px py vs = true) :
    swappedStores [.Tuple [.Name x px, .Name y py] k tp] (.Tuple vs k' vp) env = pure none ∨ swappedStores [.Tuple [.Name x px, .Name y py] k tp] (.Tuple vs k' vp) env = pure (some [x, y]) := by
  unfold swapOk at h
  simp only [Bool.and_eq_true, beq_iff_eq, Bool.not_eq_true'] at h
  obtain ⟨⟨⟨⟨⟨⟨⟨h1, h2⟩, h3⟩, h4⟩, h5⟩, h6⟩, h7⟩, h8⟩ := h
  have hb : env.blockKind = .function := by
    unfold Env.blockKind
    rw [he, h1]
    rfl
  have hs : (vs.any fun x => match x with | .Starred _ _ => true | _ => false) = false := by
    refine Bool.eq_false_iff.mpr fun q => ?_
    obtain ⟨e, hm, he⟩ := List.any_eq_true.mp q
    have key := List.all_eq_true.mp h7 e hm
    cases e <;> first | (cases he; done) | (cases key; done)
  unfold swappedStores
  by_cases hf : vs.all (foldedForSure 8) = true
  · left
    simp [h6, hb, hs, hk, h2, h3, h5, hf, posN x px, posN y py, List.eraseDups_cons, h4]
  · have hc : vs.all (constantsAlone 8) = false := by
      rcases Bool.or_eq_true_iff.mp h8 with q | q
      · exact absurd q hf
      · simpa using q
    right
    have hf : vs.all (foldedForSure 8) = false := by simpa using hf
    have h4' : (y == x) = false := by rw [BEq.comm]; exact h4
    simp [h6, hb, hs, hk, h2, h3, h5, hf, hc, posN x px, posN y py, List.eraseDups_cons, h4, h4']
    intro e hm he
    exfalso
    have key := List.all_eq_true.mp h7 e hm
    cases e <;> first | (cases he; done) | (cases key; done)

/-- the stores of two names -/
theorem store_two (K : C.Sok full P) {v w : Value} {u t : A} (hx : nth C.nm i x = true) (hy : nth C.nm j y = true) (hv : RelA v u) (hw : RelA w t) {Q : Unit → Shared → Prop} {ρ : List V} (st : C.St h ρ)
    (k : ∀ h' tk', C.St h' (setV (setV ρ i (.at u)) j (.at t)) → FK C full h h' → Q () (C.mk' h' tk')) :
    wpAny C.M C.A (storeName C.env x v) (fun _ s => wpAny C.M C.A (storeName C.env y w) Q E s) E (C.mk' h tk) := by
  refine K.store (q := .at u) st (nth_eq hx) hv fun h₁ tk₁ st₁ k₁ => ?_
  exact K.store (q := .at t) st₁ (nth_eq hy) hw fun h₂ tk₂ st₂ k₂ => k h₂ tk₂ st₂ ((FK.of k₁).trans (FK.of k₂))

theorem x1_assign2 (K : C.Sok full P) (hk : ∀ x, C.env.kindOf x = C.env.scope.names.lookup x) {n n' : Nat} {tp vp : Pos} (hx : nth C.nm i x = true) (hy : nth C.nm j y = true) (hsw : swapOk C.env.scope x y px py [e, e'] = true)
    (iha : ES C a e) (ihb : ES C b e') : X1 C full (.assign2 i j a b) (.Assign [.Tuple [.Name x px, .Name y py] n tp] (.Tuple [e, e'] n' vp) pos) := fun ρ h tk Q E s H => by
  have H : PostX C full ((evalE C.Φ (.tup2 a b) ρ).bind fun v => match v with
    | .tup [x, y] => .ok (.next (setV (setV ρ j (.at y)) i (.at x)))
    | _ => .fail) Q E h := H
  have hne : i ≠ j := by
    intro q
    subst q
    have := (nth_eq hx).symm.trans (nth_eq hy)
    cases this
    unfold swapOk at hsw
    simp at hsw
  have hst : notStar e = true ∧ notStar e' = true := by
    unfold swapOk at hsw
    simp only [Bool.and_eq_true] at hsw
    simpa using hsw.1.2
  have tup := es_tup2 (n := n') (pos := vp) K.ok hst.1 hst.2 iha ihb
  have stores : ∀ {v : Value} {z : V} {h₁ : Heap} {tk₁ : Nat}, C.Go h h₁ → C.St h₁ ρ → Rel C.S h₁ v z → PostX C full (match z with
      | .tup [x, y] => .ok (.next (setV (setV ρ j (.at y)) i (.at x)))
      | _ => .fail) Q E h₁ → ∃ t v₁ v₂ u₁ u₂, v = .ref t ∧ IsTup h₁ t #[v₁, v₂] ∧ RelA v₁ u₁ ∧ RelA v₂ u₂ ∧
        ∀ h' tk', C.St h' (setV (setV ρ j (.at u₂)) i (.at u₁)) → FK C full h₁ h' → Q .next (C.mk' h' tk') := fun {v z h₁ tk₁} g st r H => by
    split at H
    · rename_i u₁ u₂
      obtain ⟨t, vs, rfl, _, hT, hR⟩ := r
      obtain ⟨v₁, v₂, rfl, r1, r2⟩ := relAs_2 hR
      exact ⟨t, v₁, v₂, u₁, u₂, rfl, hT, r1, r2, H⟩
    · exact H.elim
  rcases swapOk_spec (env := C.env) rfl hk hsw (k := n) (k' := n') (tp := tp) (vp := vp) with hw | hw
  · refine Assign_Tuple (wpAny_mono (tup ρ h tk _ E s (H.bindE K.ok)) ?_ fun _ _ e => e) rfl hw
    rintro v s₁ ⟨h₁, tk₁, z, rfl, g, r, -, H₁⟩
    have st₁ := K.ok.st g s
    obtain ⟨t, v₁, v₂, u₁, u₂, rfl, hT, r1, r2, k⟩ := stores (tk₁ := tk₁) g st₁ r H₁
    refine assign_Tuple_tuple K.ok.handled hT rfl rfl fun h₂ he => ?_
    have g₂ := K.ok.keeps (keeps_ext he)
    refine assignInOrder_cons (assign_Name (wpAny_mono (store_two (Q := fun _ s => Q .next s) (i := i) (j := j) (y := y) (w := v₂) (t := u₂) K hx hy r1 r2 (K.ok.st g₂ st₁) ?_) ?_ fun _ _ e => e))
    · intro h' tk' st' fk
      rw [setV_comm hne] at st'
      exact k h' tk' st' ((K.ok.fk g₂).trans fk)
    · intro _ s₂ h₂
      exact assignInOrder_cons (assign_Name (wpAny_mono h₂ (fun _ _ q => assignInOrder_nil q) fun _ _ e => e))
  · refine Assign_Tuple_swapped (wpAny_mono (tup ρ h tk _ E s (H.bindE K.ok)) ?_ fun _ _ e => e) rfl hw
    rintro v s₁ ⟨h₁, tk₁, z, rfl, g, r, -, H₁⟩
    have st₁ := K.ok.st g s
    obtain ⟨t, v₁, v₂, u₁, u₂, rfl, hT, r1, r2, k⟩ := stores (tk₁ := tk₁) g st₁ r H₁
    show wpAny C.M C.A (unpackItems (.ref t) (#[v₁, v₂] : Array Value).size none) _ _ _
    refine unpackItems_tuple K.ok.handled hT fun h₂ he => ?_
    have g₂ := K.ok.keeps (keeps_ext he)
    refine assignInOrder_cons (bindName_ (wpAny_mono (store_two (Q := fun _ s => Q .next s) (i := j) (j := i) (y := x) (w := v₁) (t := u₁) K hy hx r2 r1 (K.ok.st g₂ st₁) ?_) ?_ fun _ _ e => e))
    · intro h' tk' st' fk
      exact k h' tk' st' ((K.ok.fk g₂).trans fk)
    · intro _ s₂ h₂
      exact assignInOrder_cons (bindName_ (wpAny_mono h₂ (fun _ _ q => assignInOrder_nil q) fun _ _ e => e))

theorem x1_unpack3 (K : C.Sok full P) {n : Nat} {tp : Pos} (hx : nth C.nm i x = true) (hy : nth C.nm j y = true) (hz : nth C.nm k z = true) (hn : isName e = true) (ih : ES C a e) :
    X1 C full (.unpack3 i j k a) (.Assign [.Tuple [.Name x px, .Name y py, .Name z pz] n tp] e pos) := fun ρ h tk Q E s H => by
  have H : PostX C full ((evalE C.Φ a ρ).bind fun v => match v with
    | .tup [x, y, z] => .ok (.next (setV (setV (setV ρ i (.at x)) j (.at y)) k (.at z)))
    | _ => .fail) Q E h := H
  have hsw : swapsWithSole [.Tuple [.Name x px, .Name y py, .Name z pz] n tp] e pos.line C.env = pure false := by cases e <;> first | rfl | cases hn
  have hw : swappedStores [.Tuple [.Name x px, .Name y py, .Name z pz] n tp] e C.env = pure none := by cases e <;> first | rfl | cases hn
  refine Assign_Tuple (wpAny_mono (ih ρ h tk _ E s (H.bindE K.ok)) ?_ fun _ _ e => e) hsw hw
  rintro v s₁ ⟨h₁, tk₁, q, rfl, g, r, -, H₁⟩
  have st₁ := K.ok.st g s
  split at H₁
  · rename_i u₁ u₂ u₃
    obtain ⟨t, vs, rfl, _, hT, hR⟩ := r
    obtain ⟨v₁, v₂, v₃, rfl, r1, r2, r3⟩ := relAs_3 hR
    refine assign_Tuple_tuple K.ok.handled hT rfl rfl fun h₂ he => ?_
    have g₂ := K.ok.keeps (keeps_ext he)
    refine assignInOrder_cons (assign_Name (K.store (q := .at u₁) (K.ok.st g₂ st₁) (nth_eq hx) r1 fun h₃ tk₃ st₃ k₃ => ?_))
    refine assignInOrder_cons (assign_Name (K.store (q := .at u₂) st₃ (nth_eq hy) r2 fun h₄ tk₄ st₄ k₄ => ?_))
    refine assignInOrder_cons (assign_Name (K.store (q := .at u₃) st₄ (nth_eq hz) r3 fun h₅ tk₅ st₅ k₅ => ?_))
    exact assignInOrder_nil (H₁ h₅ tk₅ st₅ ((((K.ok.fk g₂).trans (FK.of k₃)).trans (FK.of k₄)).trans (FK.of k₅)))
  · exact H₁.elim
end
end Mine
end

section
set_option maxRecDepth 100000
set_option linter.unusedVariables false
set_option genSizeOf false
set_option genInjectivity false
open PySem PySem.W PySem.NumText PyProof.Rows PySem.Builtin
namespace Mine

/-! the check of statements: `tl` for told expressions, `sp` for special statements, `dl` for the loops over written texts -/
noncomputable def pI (nm : List Str) (i : Nat) : Pat Expr := pNm (pIs (nth nm i))
noncomputable def pSwap (sc : Scope) (nm : List Str) (i j : Nat) (a b : Expr → Bool) : Pat Stmt := (pTo (pTup (pTwo (pI nm i) (pI nm j))) (pTup (pTwo (pIs a) (pIs b)))).comp
  (pIs fun d : ((({x // nth nm i x = true} × Pos) × ({x // nth nm j x = true} × Pos)) × Nat × Pos) × (({x // a x = true} × {x // b x = true}) × Nat × Pos) × Pos => swapOk sc d.1.1.1.1.1 d.1.1.2.1.1 d.1.1.1.2 d.1.1.2.2 [d.2.1.1.1.1, d.2.1.1.2.1])
noncomputable def pWhile (T : Pat Expr) (B : Pat (List Stmt)) : Pat Stmt := sWhile.comp (pp T (pp B (pP pNil)))
mutual
noncomputable def chkL (sc : Scope) (nm : List Str) (tl : PE → Expr → Bool) (sp : PS → Stmt → Bool) (dl : Bool) : PS → List Stmt → Bool
  | .skip => pNil.m
  | .seq p q => (pCons (pIs (chk1 sc nm tl sp dl p)) (pIs (chkL sc nm tl sp dl q))).m
  | .fail => fun _ => true
  | _ => fun _ => false
noncomputable def chk1 (sc : Scope) (nm : List Str) (tl : PE → Expr → Bool) (sp : PS → Stmt → Bool) (dl : Bool) : PS → Stmt → Bool
  | .assign i a => (pTo (pI nm i) (pIs fun e => notComp e && chk sc nm tl a e)).m
  | .assign2 i j a b => (pSwap sc nm i j (chk sc nm tl a) (chk sc nm tl b)).m
  | .unpack3 i j k a => (pTo (pTup (pThree (pI nm i) (pI nm j) (pI nm k))) (pNa (chk sc nm tl a))).m
  | .aug i op a => (sAugAssign.comp (pp (pI nm i) (pp (pEq (opOf op)) (pP (pIs (chk sc nm tl a)))))).m
  | .ite t p q => (sIf.comp (pp (pIs (chk sc nm tl t)) (pp (pIs (chkL sc nm tl sp dl p)) (pP (pIs (chkL sc nm tl sp dl q)))))).m
  | .while t p => (pWhile (pIs (chk sc nm tl t)) (pIs (chkL sc nm tl sp dl p))).m
  | .forStr i a p => (pFor (pI nm i) (pIs fun e => notSet e && chk sc nm tl a e) (pIs (chkL sc nm tl sp dl p))).m
  | .forRange1 i a p => (pFor (pI nm i) (p1 sc "range" (chk sc nm tl a)) (pIs (chkL sc nm tl sp dl p))).m
  | .forRange2 i a b p => (pFor (pI nm i) (p2 sc "range" (chk sc nm tl a) (chk sc nm tl b)) (pIs (chkL sc nm tl sp dl p))).m
  | .forLits i l p => fun st => (dl && (l.all (fun t => Nat.ble t.length 1000) && Nat.ble l.length 1000)) && (pFor (pI nm i) (pLst (pIs (litsAre l))) (pIs (chkL sc nm tl sp dl p))).m st
  | .ret a => (pRet (pIs (chk sc nm tl a))).m
  | .raise => sp .raise
  | .append i a => sp (.append i a)
  | .fail => fun _ => true
  | _ => fun _ => false
end

section
variable {C : Cx} {full : Bool} {P : Addr → Prop} {h h₁ : Heap} {tk : Nat} {Q : Flow → Shared → Prop} {E : Value → Shared → Prop} {a b c : PE} {p q : PS} {x y z : Str} {e e' : Expr} {px py pz pos : Pos} {i j k : Nat}

theorem relAs_lits : ∀ {vs : List Value} {l : List (List Nat)}, StrsAre vs (l.map mkS) → (l.all fun t => Nat.ble t.length 1000) = true → RelAs vs (l.map A.str)
  | [], [], _, _ => trivial
  | _, t :: l, h, hl => by
    simp only [List.all_cons, Bool.and_eq_true] at hl
    cases h with
    | cons y u h => exact ⟨⟨u, rfl, Nat.le_of_ble_eq_true hl.1⟩, relAs_lits h hl.2⟩

theorem x1_forLits (K : C.Sok false P) {body : List Stmt} {l : List (List Nat)} {es : List Expr} {p2 : Pos} (hx : nth C.nm i x = true) (he : litsAre l es = true) (hl : (l.all fun t => Nat.ble t.length 1000) = true) (hn : l.length ≤ 1000)
    (h1 : XS C false p body) : X1 C false (.forLits i l p) (.For (.Name x px) (.List es p2) body [] pos) := fun ρ h tk Q E s H => by
  have H : PostX C false (forF i (execP C.Φ p) (l.map fun s => .at (.str s)) ρ) Q E h := H
  refine wpAny_For (List_ (lits_eval he fun vs tk' hs hlen => ?_)) (fun _ => rfl)
  refine wpAny_newList ?_ (by rw [hlen]; exact le_line hn)
  have g₁ : C.Go h (h.push { cls := .type "list", data := .seq vs.toArray }) := K.ok.keeps (Keeps.push _ _)
  have st₁ := K.ok.st g₁ s
  have hL : (h.push { cls := .type "list", data := .seq vs.toArray }).IsList h.objs.size vs.toArray := ⟨_, Heap.get?_push_size _ rfl, rfl, _, rfl⟩
  refine wpAny_pyIter_list hL ?_
  have hP := K.newP st₁
  have hSD := K.ok.fresh s
  have g₂ := K.ok.keeps (Keeps.push (h.push { cls := .type "list", data := .seq vs.toArray }) { cls := .type "list_iterator", data := .fields #[.ref h.objs.size, .int 0 0] })
  have hne : h.objs.size ≠ (h.push { cls := .type "list", data := .seq vs.toArray }).objs.size := by rw [Heap.size_push]; exact Nat.ne_of_lt (Nat.lt_succ_self _)
  refine for_run K (it_list K hP hSD hne vs (l.map A.str) (relAs_lits hs hl)) hP (get_size _) hx h1 ⟨0, ⟨_, Heap.get?_push_size _ rfl, rfl, rfl⟩, hL.push _, ?_⟩ (K.ok.st g₂ st₁) (K.ok.fk g₂) (PostX.fk (K.ok.fk g₁) H) fun _ _ q => q
  rw [List.drop_zero, List.map_map]
  rfl

theorem no1 {G : Prop} (h : false = true) : G := nomatch h
/-- the whole of statements -/
theorem xs_all (K : C.Sok full P) {tl : PE → Expr → Bool} {sp : PS → Stmt → Bool} {dl : Bool} (hd : dl = true → full = false) (hk : ∀ x, C.env.kindOf x = C.env.scope.names.lookup x)
    (hT : ∀ p e, tl p e = true → ES C (.told p) e ∧ TS C (.told p) e) (hS : ∀ p st, sp p st = true → X1 C full p st) :
    ∀ p, (∀ st, chk1 C.env.scope C.nm tl sp dl p st = true → X1 C full p st) ∧ (∀ ss, chkL C.env.scope C.nm tl sp dl p ss = true → XS C full p ss) := by
  have E := es_all K.ok hT
  intro p
  induction p with
  | skip => exact ⟨fun st h => no1 h, fun ss h => by obtain ⟨d, rfl⟩ := Pat.of (P := pNil) h; exact xs_nil⟩
  | seq p q ihp ihq => exact ⟨fun st h => no1 h, fun ss h => by obtain ⟨d, rfl⟩ := Pat.of (P := pCons (pIs (chk1 C.env.scope C.nm tl sp dl p)) (pIs (chkL C.env.scope C.nm tl sp dl q))) h; exact xs_cons (ihp.1 _ d.1.2) (ihq.2 _ d.2.2)⟩
  | assign i a => exact ⟨fun st h => by obtain ⟨d, rfl⟩ := Pat.of (P := pTo (pI C.nm i) (pIs fun e => notComp e && chk C.env.scope C.nm tl a e)) h; exact x1_assign K d.1.1.2 (andL d.2.1.2) (E _ _ (andR d.2.1.2)).1, fun ss h => no1 h⟩
  | assign2 i j a b => exact ⟨fun st h => by obtain ⟨d, rfl⟩ := Pat.of (P := pSwap C.env.scope C.nm i j (chk C.env.scope C.nm tl a) (chk C.env.scope C.nm tl b)) h; exact x1_assign2 K hk d.1.1.1.1.1.2 d.1.1.1.2.1.2 d.2 (E _ _ d.1.2.1.1.1.2).1 (E _ _ d.1.2.1.1.2.2).1, fun ss h => no1 h⟩
  | unpack3 i j k a => exact ⟨fun st h => by obtain ⟨d, rfl⟩ := Pat.of (P := pTo (pTup (pThree (pI C.nm i) (pI C.nm j) (pI C.nm k))) (pNa (chk C.env.scope C.nm tl a))) h; exact x1_unpack3 K d.1.1.1.1.2 d.1.1.2.1.1.2 d.1.1.2.2.1.2 (andL d.2.1.2) (E _ _ (andR d.2.1.2)).1, fun ss h => no1 h⟩
  | aug i op a => exact ⟨fun st h => by obtain ⟨d, rfl⟩ := Pat.of (P := sAugAssign.comp (pp (pI C.nm i) (pp (pEq (opOf op)) (pP (pIs (chk C.env.scope C.nm tl a)))))) h; exact x1_aug K d.1.1.2 (E _ _ d.2.2.1.2).1, fun ss h => no1 h⟩
  | ite t p q ihp ihq => exact ⟨fun st h => by obtain ⟨d, rfl⟩ := Pat.of (P := sIf.comp (pp (pIs (chk C.env.scope C.nm tl t)) (pp (pIs (chkL C.env.scope C.nm tl sp dl p)) (pP (pIs (chkL C.env.scope C.nm tl sp dl q)))))) h; exact x1_ite K (E _ _ d.1.2).2 (ihp.2 _ d.2.1.2) (ihq.2 _ d.2.2.1.2), fun ss h => no1 h⟩
  | «while» t p ihp => exact ⟨fun st h => by obtain ⟨d, rfl⟩ := Pat.of (P := pWhile (pIs (chk C.env.scope C.nm tl t)) (pIs (chkL C.env.scope C.nm tl sp dl p))) h; exact x1_while K (E _ _ d.1.2).2 (ihp.2 _ d.2.1.2), fun ss h => no1 h⟩
  | forStr i a p ihp => exact ⟨fun st h => by obtain ⟨d, rfl⟩ := Pat.of (P := pFor (pI C.nm i) (pIs fun e => notSet e && chk C.env.scope C.nm tl a e) (pIs (chkL C.env.scope C.nm tl sp dl p))) h; exact x1_forStr K d.1.1.2 (andL d.2.1.2) (E _ _ (andR d.2.1.2)).1 (ihp.2 _ d.2.2.1.2), fun ss h => no1 h⟩
  | forRange1 i a p ihp => exact ⟨fun st h => by obtain ⟨d, rfl⟩ := Pat.of (P := pFor (pI C.nm i) (p1 C.env.scope "range" (chk C.env.scope C.nm tl a)) (pIs (chkL C.env.scope C.nm tl sp dl p))) h; exact x1_forRange1 K d.1.1.2 (andL d.2.1.2.1.2) d.2.1.1.1.2 rfl (E _ _ (andR d.2.1.2.1.2)).1 (ihp.2 _ d.2.2.1.2), fun ss h => no1 h⟩
  | forRange2 i a b p ihp => exact ⟨fun st h => by obtain ⟨d, rfl⟩ := Pat.of (P := pFor (pI C.nm i) (p2 C.env.scope "range" (chk C.env.scope C.nm tl a) (chk C.env.scope C.nm tl b)) (pIs (chkL C.env.scope C.nm tl sp dl p))) h; exact x1_forRange2 K d.1.1.2 (andL d.2.1.2.1.1.2) (andL d.2.1.2.1.2.2) d.2.1.1.1.2 rfl (E _ _ (andR d.2.1.2.1.1.2)).1 (E _ _ (andR d.2.1.2.1.2.2)).1 (ihp.2 _ d.2.2.1.2), fun ss h => no1 h⟩
  | forLits i l p ihp => exact ⟨fun st h => by
      obtain ⟨d, rfl⟩ := Pat.of (P := pFor (pI C.nm i) (pLst (pIs (litsAre l))) (pIs (chkL C.env.scope C.nm tl sp dl p))) (andR h)
      obtain rfl := hd (andL (andL h))
      exact x1_forLits K d.1.1.2 d.2.1.1.2 (andL (andR (andL h))) (Nat.le_of_ble_eq_true (andR (andR (andL h)))) (ihp.2 _ d.2.2.1.2), fun ss h => no1 h⟩
  | ret a => exact ⟨fun st h => by obtain ⟨d, rfl⟩ := Pat.of (P := pRet (pIs (chk C.env.scope C.nm tl a))) h; exact x1_ret K (E _ _ d.1.2).1, fun ss h => no1 h⟩
  | raise => exact ⟨fun st h => hS _ _ h, fun ss h => no1 h⟩
  | append i a => exact ⟨fun st h => hS _ _ h, fun ss h => no1 h⟩
  | fail => exact ⟨fun st h ρ h' tk Q E s H => H.elim, fun ss h ρ h' tk Q E s H => H.elim⟩
end
end Mine
end

section
set_option maxRecDepth 100000
set_option linter.unusedVariables false
set_option genSizeOf false
set_option genInjectivity false
open PySem PySem.W PySem.NumText PyProof.Rows PySem.Builtin
namespace Mine

theorem Rel.poke {S : Addr → Prop} {h h' : Heap} {I : Addr} {v : Value} {x : V} (hI : ∃ o vs, h.get? I = some o ∧ o.data = .fields vs) (hb : Heap.ExtBut I h h') (r : Rel S h v x) : Rel S h' v x := by
  obtain ⟨oI, vsI, hoI, hdI⟩ := hI
  have ne : ∀ {a : Addr} {o : Obj}, h.get? a = some o → (∀ vs, o.data ≠ .fields vs) → a ≠ I := fun {a o} e hd z => by
    subst z
    rw [hoI] at e
    cases e
    exact hd _ hdI
  cases x with
  | undef => exact r
  | «at» a => exact r
  | tup l => obtain ⟨a, vs, rfl, s, ⟨o, ho, hc, n, hd⟩, r⟩ := r; exact ⟨a, vs, rfl, s, ⟨o, hb _ _ (ne ho fun vs e => by rw [hd] at e; cases e) ho, hc, n, hd⟩, r⟩
  | lst l => obtain ⟨a, vs, rfl, s, ⟨o, n, ho, hc, hdn, hd⟩, r⟩ := r; exact ⟨a, vs, rfl, s, ⟨o, n, hb _ _ (ne ho fun vs e => by rw [hd] at e; cases e) ho, hc, hdn, hd⟩, r⟩
  | lz l => obtain ⟨a, vs, rfl, s, ⟨o, ho, hc, n, hd⟩, r⟩ := r; exact ⟨a, vs, rfl, s, ⟨o, hb _ _ (ne ho fun vs e => by rw [hd] at e; cases e) ho, hc, n, hd⟩, r⟩
  | barr l => obtain ⟨a, rfl, s, ⟨o, ho, hc, hdn, hd⟩, r⟩ := r; exact ⟨a, rfl, s, ⟨o, hb _ _ (ne ho fun vs e => by rw [hd] at e; cases e) ho, hc, hdn, hd⟩, r⟩

noncomputable def Fs.P (f : Fs) (I : Addr) : Prop := f.h₀.objs.size ≤ I ∧ I ≠ f.L
theorem ge_none {h : Heap} {I : Addr} (e : h.objs.size ≤ I) : h.get? I = none := by
  cases q : h.get? I with
  | none => rfl
  | some o => exact absurd (Heap.lt_size q) (Nat.not_lt.mpr e)
theorem Fs.Ok.kindOf {f : Fs} {KF : Frag} {d : Nat} (K : f.Ok KF d) {i : Nat} {x : Str} (e : lkF f.nm i = some x) : f.env.kindOf x = some .local :=
  eq_of_beq (List.all_eq_true.mp K.locals x (lkF_mem e))
theorem Fs.Ok.sok {f : Fs} {KF : Frag} {d : Nat} (K : f.Ok KF d) : f.cx.Sok true f.P where
  ok := K.cx
  nodup := K.nodup
  store := fun {h ρ i x v q tk Q E} ⟨m, F, V⟩ e r k => by
    have hp : (f.env.scope.kind == .class || (f.env.scope.kind == .module && f.env.locals != f.env.globals)) = false := by
      show (f.scope.kind == .class || (f.scope.kind == .module && f.L != mainGlobals)) = false
      rw [K.kind]; rfl
    refine wpAny_storeName_local (K.kindOf e) F.ns (fun h' hn hs => ?_) hp
    have ks : ∀ b o, (f.S b ∧ b ≠ f.L) → h.get? b = some o → h'.get? b = some o := fun b o sb eb => (hs.2 b sb.2).trans eb
    exact k h' _ ⟨_, F.set hn hs, V.set K.nodup e ks r⟩ ks
  load := fun {h ρ i x y} ⟨m, F, V⟩ e ne ex => by
    rcases V i x ex with z | ⟨v, hv, r⟩
    · exact absurd (e.symm.trans z) ne
    · exact ⟨v, e ▸ r, fun Q E tk hq => wpAny_loadName_local K.kind (K.kindOf ex) F.ns hv hq⟩
  poke := fun {h h' ρ I} ⟨m, F, V⟩ hP hI hb => by
    refine ⟨m, ⟨F.ns.extBut hb (Ne.symm hP.2), fun b o e => hb b o (fun z => ?_) (F.keep b o e), F.above⟩, fun i x e => ?_⟩
    · subst z
      rw [ge_none hP.1] at e
      cases e
    · rcases V i x e with z | ⟨v, hv, r⟩
      · exact Or.inl z
      · exact Or.inr ⟨v, hv, r.poke hI hb⟩
  newP := fun {h ρ} ⟨m, F, V⟩ => by
    have hL : f.L < h.objs.size := F.ns.lt
    exact ⟨Nat.le_of_lt (Nat.lt_of_le_of_lt F.above hL), Nat.ne_of_gt hL⟩
  PS := fun {a} hP => ⟨K.newS a (ge_none hP.1), hP.2⟩

/-! append -/
theorem onlyOne_flat : ∀ {ρ : List V} {i j : Nat}, onlyOne i ρ = true → j ≠ i → lkV ρ j = .undef ∨ flat (lkV ρ j) = true
  | [], _, _, _, _ => Or.inl (by rfl)
  | v :: r, 0, 0, _, h => absurd rfl h
  | v :: r, 0, j + 1, o, _ => by
    have o : r.all flat = true := o
    have : ∀ {r : List V} {j : Nat}, r.all flat = true → lkV r j = .undef ∨ flat (lkV r j) = true := fun {r} => by
      induction r with
      | nil => intro j _; exact Or.inl rfl
      | cons v r ih =>
        intro j o
        simp only [List.all_cons, Bool.and_eq_true] at o
        cases j with
        | zero => exact Or.inr o.1
        | succ j => exact ih o.2
    exact this (r := r) o
  | v :: r, i + 1, 0, o, _ => by
    have o : (flat v && onlyOne i r) = true := o
    exact Or.inr (Bool.and_eq_true_iff.mp o).1
  | v :: r, i + 1, j + 1, o, h => by
    have o : (flat v && onlyOne i r) = true := o
    exact onlyOne_flat (ρ := r) (Bool.and_eq_true_iff.mp o).2 fun e => h (by rw [e])

noncomputable def pApp (nm : List Str) (i : Nat) (p : Expr → Bool) : Pat Stmt := pEx (pMeth (pNm (pIs fun x => nth nm i x && okName x)) [97, 112, 112, 101, 110, 100] (pOne (pN p)))
noncomputable def appOk (sc : Scope) (nm : List Str) (tl : PE → Expr → Bool) (p : PS) (st : Stmt) : Bool := if h : p.ctorIdx = 14 then (PS.append.elim (motive := fun _ => Nat × PE) p h fun i a => (i, a)) |> fun d => (pApp nm d.1 (chk sc nm tl d.2)).m st else false

theorem interactive_no {env : Env} (h : env.scope.kind = .function) : interactive env = false := by
  unfold interactive
  rw [h]
  rfl
theorem relAs_snoc : ∀ {vs : List Value} {l : List A} {v : Value} {a : A}, RelAs vs l → RelA v a → RelAs (vs ++ [v]) (l ++ [a])
  | [], [], _, _, _, r => ⟨r, trivial⟩
  | _ :: _, _ :: _, _, _, ⟨r, rs⟩, q => ⟨r, relAs_snoc rs q⟩
  | [], _ :: _, _, _, r, _ => r.elim
  | _ :: _, [], _, _, r, _ => r.elim

theorem x1_append {f : Fs} {KF : Frag} {d : Nat} (K : f.Ok KF d) (hown : ∀ b, f.S b → f.h₀.get? b = none) {i : Nat} {a : PE} {x attr : Str} {e : Expr} {np ap p2 pos : Pos} (ha : attr = ("append" : Str)) (hl : (ap.endLine == p2.line) = true)
    (hx : nth f.nm i x = true) (hd : (!(x == ("__debug__" : Str))) = true) (hs : notStar e = true) (ih : ES f.cx a e) :
    X1 f.cx true (.append i a) (.Expr (.Call (.Attribute (.Name x np) attr ap) [e] [] p2) pos) := fun ρ h tk Q E s H => by
  subst ha
  have H : PostX f.cx true (match lkV ρ i with | .lst l => (evalE f.Φ a ρ).bind (appV i l ρ) | _ => .fail) Q E h := H
  refine wpAny_Expr ?_ (interactive_no K.kind) rfl
  obtain ⟨m, F, V⟩ := s
  cases hlst : lkV ρ i with
  | lst l =>
    rw [hlst] at H
    replace H : PostX f.cx true ((evalE f.Φ a ρ).bind (appV i l ρ)) Q E h := H
    rcases V i x (nth_eq hx) with z | ⟨v, hv, r⟩
    · rw [hlst] at z; cases z
    rw [hlst] at r
    obtain ⟨D, vs, rfl, hS, hL, hR, hlen⟩ := r
    refine wpAny_Call_append (base_of (v := .Name x np) rfl _ _ _) (by rw [starEach_of hs]; rfl) hl (by rw [starEach_of hs]; rfl) (wpAny_Name (wpAny_loadName_local K.kind (K.kindOf (nth_eq hx)) F.ns hv ?_) (by simpa using hd))
    refine ⟨D, vs.toArray, rfl, hL, wpAny_mono (ih ρ h tk _ E ⟨m, F, V⟩ (H.bindE K.cx)) ?_ fun _ _ e => e⟩
    rintro w s₁ ⟨h₁, tk₁, y, rfl, g, r, -, H₁⟩
    have g : Keeps h h₁ := g
    have F₁ : Fr f.h₀ f.L h₁ m := ⟨F.ns.keeps g, fun b o e => g b o (F.keep b o e), F.above⟩
    have V₁ := V.keeps g
    unfold appV at H₁
    split at H₁
    · rename_i u
      split at H₁
      · rename_i ho
        obtain ⟨ho, hn⟩ := Bool.and_eq_true_iff.mp ho
        have hn : l.length < 1000 := Nat.le_of_ble_eq_true hn
        have hL₁ : PlainL h₁ D vs.toArray := hL.keeps g
        refine list_append_plainL hL₁ (fun h' hL' hs' => ?_) (by rw [List.size_toArray, relAs_len hR]; exact le_line (Nat.le_of_lt hn))
        refine H₁ h' tk₁ ⟨m, ⟨F₁.ns.sameBut hs' (Ne.symm hS.2), fun b o eb => (hs'.2 b fun z => ?_).trans (F₁.keep b o eb), F.above⟩, fun j x' e' => ?_⟩ fun b o sb eb q => ?_
        · subst z
          rw [hown b hS.1] at eb
          cases eb
        · by_cases hj : j = i
          · subst hj
            rw [nth_eq hx] at e'
            cases e'
            rcases lkV_set (ρ := ρ) (i := j) (v := .lst (l ++ [u])) with z | z
            · rw [z]
              refine Or.inr ⟨_, hv, D, vs ++ [w], rfl, hS, ?_, relAs_snoc hR r, by simp; omega⟩
              have e : (vs ++ [w]).toArray = vs.toArray.push w := by simp
              rw [e]
              exact hL'
            · exact Or.inl z
          · rw [lkV_set_ne hj]
            rcases V₁ j x' e' with z | ⟨v', hv', r'⟩
            · exact Or.inl z
            · refine Or.inr ⟨v', hv', ?_⟩
              rcases onlyOne_flat ho hj with z | z
              · rw [z] at r'; exact r'.elim
              · cases hq : lkV ρ j with
                | undef => rw [hq] at r'; exact r'
                | «at» q => rw [hq] at r'; exact r'
                | tup q =>
                  rw [hq] at r'
                  obtain ⟨t, ts, rfl, hSt, ⟨ot, hot, hct, nt, hdt⟩, hRt⟩ := r'
                  refine ⟨t, ts, rfl, hSt, ⟨ot, (hs'.2 t fun z => ?_).trans hot, hct, nt, hdt⟩, hRt⟩
                  subst z
                  obtain ⟨o', n, ho', hc', _⟩ := hL₁
                  rw [ho'] at hot
                  cases hot
                  rw [hc'] at hct
                  injection hct with hct
                  exact absurd hct (by decide)
                | lst q => rw [hq] at z; cases z
                | lz q => rw [hq] at z; cases z
                | barr q => rw [hq] at z; cases z
        · rcases q with ⟨vs', q⟩ | q
          · refine (hs'.2 b fun z => ?_).trans eb
            subst z
            obtain ⟨o', n, ho', _, _, hd'⟩ := hL₁
            rw [ho'] at eb
            cases eb
            rw [hd'] at q
            cases q
          · cases q
      · exact H₁.elim
    · exact H₁.elim
  | _ => rw [hlst] at H; exact H.elim

theorem sp_append {f : Fs} {KF : Frag} {d : Nat} (K : f.Ok KF d) (hown : ∀ b, f.S b → f.h₀.get? b = none) {tl : PE → Expr → Bool} (hT : ∀ p e, tl p e = true → ES f.cx (.told p) e ∧ TS f.cx (.told p) e) :
    ∀ p st, appOk f.scope f.nm tl p st = true → X1 f.cx true p st := fun p st h => by
  cases p
  case append i a =>
    obtain ⟨d, rfl⟩ := Pat.of (P := pApp f.nm i (chk f.scope f.nm tl a)) h
    exact x1_append K hown rfl d.1.2 (andL d.1.1.1.1.1.2) (andR d.1.1.1.1.1.2) (andL d.1.1.2.1.2) (es_all K.cx hT _ _ (andR d.1.1.2.1.2)).1
  all_goals exact no1 h
end Mine
end

section
set_option maxRecDepth 100000
set_option linter.unusedVariables false
set_option genSizeOf false
set_option genInjectivity false
open PySem PySem.W PySem.NumText PyProof.Rows PySem.Builtin
namespace Mine

/-! calls -/
noncomputable def codeIn (KF : Frag) (cd : Value) (name : Str) : Bool := match cd with
  | .ref c => match KF.lookup c with
    | some o => match o.data with
      | .fields vs => match (vs[1]? : Option Value) with
        | some (.str q _) => q == name
        | _ => false
      | _ => false
    | none => false
  | _ => false
theorem codeRec_of {KF : Frag} {h : Heap} {cd : Value} {name : Str} (X : KF.In h) (e : codeIn KF cd name = true) : h.CodeRec cd name := by
  unfold codeIn at e
  split at e
  · split at e
    · rename_i c _ o ho
      split at e
      · rename_i vs hd
        split at e
        · rename_i q t hq
          exact ⟨c, o, vs, t, rfl, X _ _ ho, hd, by rw [hq, eq_of_beq e]⟩
        · cases e
      · cases e
    · cases e
  · cases e

/-- the parameters, told plainly -/
noncomputable def argsP : Pat Arguments := argsPat (pAny (List Arg))
noncomputable def parsOf (p : Arguments) : Option (List Str) := (argsP.get p).map fun d => d.2.1.map (·.arg)
structure FnIs (KF : Frag) (a : Addr) (F : Fn) (name : Str) (params : Arguments) (body : List Stmt) (scope : Scope) (pm cd doc : Value) : Prop where
  obj : ∃ o, KF.lookup a = some o ∧ o.data = .func (Calls.docDef name params body scope pm cd doc)
  code : codeIn KF cd name = true
  kind : scope.kind = .function
  co : scope.isCoroutine = false
  gen : scope.isGenerator = false
  cells : ∀ x ∈ scope.names, x.2 ≠ .cell
  locals : ((F.names.map mkS).all fun x => scope.names.lookup x == some .local) = true
  nodup : distinct (F.names.map mkS) = true
  pars : parsOf params = some ((F.names.take F.np).map mkS)
  np : F.np ≤ 3
  nl : F.np ≤ F.names.length

theorem pairs_lookup : ∀ {xs : List Str} {vs : List Value} {i : Nat} {x : Str} {v : Value}, distinct xs = true → lkF xs i = some x → vs[i]? = some v → xs.length = vs.length → ((xs.zip vs).reverse.lookup x) = some v := by
  intro xs vs i x v d e hv hl
  have key : ∀ (l : List (Str × Value)), (∀ p ∈ l, ∀ q ∈ l, p.1 = q.1 → p.2 = q.2) → ∀ p ∈ l, l.lookup p.1 = some p.2 := by
    intro l
    induction l with
    | nil => intro _ p hp; cases hp
    | cons q r ih =>
      intro hu p hp
      obtain ⟨qx, qv⟩ := q
      by_cases hx : p.1 = qx
      · have := hu p hp _ (List.mem_cons_self ..) hx
        rw [List.lookup_cons, hx]
        simp [this]
      · rw [List.lookup_cons, beq_false_of_ne hx]
        rcases List.mem_cons.mp hp with rfl | hp
        · exact absurd rfl hx
        · exact ih (fun a ha b hb => hu a (List.mem_cons_of_mem _ ha) b (List.mem_cons_of_mem _ hb)) p hp
  have mem : ∀ {xs : List Str} {vs : List Value} {p : Str × Value}, p ∈ xs.zip vs → ∃ i, lkF xs i = some p.1 ∧ vs[i]? = some p.2 := by
    intro xs
    induction xs with
    | nil => intro vs p hp; cases hp
    | cons a r ih =>
      intro vs p hp
      cases vs with
      | nil => cases hp
      | cons b t =>
        rw [List.zip_cons_cons] at hp
        rcases List.mem_cons.mp hp with rfl | hp
        · exact ⟨0, rfl, rfl⟩
        · obtain ⟨i, h1, h2⟩ := ih hp
          exact ⟨i + 1, h1, h2⟩
  have uniq : ∀ p ∈ (xs.zip vs).reverse, ∀ q ∈ (xs.zip vs).reverse, p.1 = q.1 → p.2 = q.2 := by
    intro p hp q hq hpq
    obtain ⟨i, h1, h2⟩ := mem (List.mem_reverse.mp hp)
    obtain ⟨j, h3, h4⟩ := mem (List.mem_reverse.mp hq)
    rw [← hpq] at h3
    have := distinct_inj d h1 h3
    subst this
    rw [h2] at h4
    exact Option.some.inj h4
  have zmem : ∀ {xs : List Str} {vs : List Value} {i : Nat} {x : Str} {v : Value}, lkF xs i = some x → vs[i]? = some v → (x, v) ∈ xs.zip vs := by
    intro xs
    induction xs with
    | nil => intro vs i x v e; cases e
    | cons a r ih =>
      intro vs i x v e hv
      cases vs with
      | nil => simp at hv
      | cons b t =>
        rw [List.zip_cons_cons]
        cases i with
        | zero => cases e; simp at hv; subst hv; exact List.mem_cons_self ..
        | succ i => exact List.mem_cons_of_mem _ (ih e (by simpa using hv))
  exact key _ uniq (x, v) (List.mem_reverse.mpr (zmem e hv))

theorem relL_len {S : Addr → Prop} {h : Heap} : ∀ {vs : List Value} {xs : List V}, RelL S h vs xs → vs.length = xs.length
  | [], [], _ => rfl
  | _ :: _, _ :: _, ⟨_, r⟩ => by simp [relL_len r]
  | [], _ :: _, r => r.elim
  | _ :: _, [], r => r.elim
theorem relL_get {S : Addr → Prop} {h : Heap} : ∀ {vs : List Value} {xs : List V} {i : Nat}, RelL S h vs xs → i < xs.length → ∃ v, vs[i]? = some v ∧ Rel S h v (lkV xs i)
  | v :: vs, x :: xs, 0, ⟨r, _⟩, _ => ⟨v, rfl, r⟩
  | v :: vs, x :: xs, i + 1, ⟨_, r⟩, hi => by
    obtain ⟨w, hw, rw⟩ := relL_get (i := i) r (Nat.lt_of_succ_lt_succ hi)
    exact ⟨w, hw, rw⟩
  | [], [], _, _, hi => absurd hi (Nat.not_lt_zero _)
  | [], _ :: _, _, r, _ => r.elim
  | _ :: _, [], _, r, _ => r.elim
theorem lkV_undefs : ∀ {xs : List V} {n i : Nat}, xs.length ≤ i → lkV (xs ++ undefs n) i = .undef
  | [], 0, _, _ => rfl
  | [], n + 1, 0, _ => rfl
  | [], n + 1, i + 1, _ => lkV_undefs (xs := []) (n := n) (Nat.zero_le _)
  | _ :: r, n, 0, h => absurd h (Nat.not_succ_le_zero _)
  | _ :: r, n, i + 1, h => lkV_undefs (xs := r) (Nat.le_of_succ_le_succ h)
theorem lkV_left : ∀ {xs ys : List V} {i : Nat}, i < xs.length → lkV (xs ++ ys) i = lkV xs i
  | _ :: _, _, 0, _ => rfl
  | _ :: r, ys, i + 1, h => lkV_left (xs := r) (Nat.lt_of_succ_lt_succ h)
  | [], _, _, h => absurd h (Nat.not_lt_zero _)
theorem lkF_take {α : Type} : ∀ {l : List α} {n i : Nat} {x : α}, lkF l i = some x → i < n → lkF (l.take n) i = some x
  | _ :: _, n + 1, 0, _, e, _ => e
  | _ :: r, n + 1, i + 1, _, e, h => lkF_take (l := r) (n := n) e (Nat.lt_of_succ_lt_succ h)
  | [], _, _, _, e, _ => by cases e
theorem distinct_take : ∀ {l : List Str} {n : Nat}, distinct l = true → distinct (l.take n) = true
  | [], _, _ => by simp [distinct]
  | _ :: _, 0, _ => rfl
  | a :: r, n + 1, h => by
    obtain ⟨h1, h2⟩ := Bool.and_eq_true_iff.mp h
    refine Bool.and_eq_true_iff.mpr ⟨List.all_eq_true.mpr fun x hx => List.all_eq_true.mp h1 x (List.mem_of_mem_take hx), distinct_take h2⟩
theorem lkF_map {α β : Type} (f : α → β) : ∀ {l : List α} {i : Nat}, lkF (l.map f) i = (lkF l i).map f
  | [], _ => rfl
  | _ :: _, 0 => rfl
  | _ :: r, i + 1 => lkF_map f (l := r)

/-- the binding of up to three parameters -/
theorem binds_of {name : Str} {params : Arguments} {body : List Stmt} {scope : Scope} {pm cd doc : Value} {ps : List Str} (hp : parsOf params = some ps) (hd : distinct ps = true) {vs : List Value} (hl : vs.length = ps.length) (h3 : ps.length ≤ 3) (h1 : 1 ≤ ps.length) :
    bindArgs (Calls.docDef name params body scope pm cd doc) ⟨vs, []⟩ = pure (ps.zip vs) := by
  obtain ⟨dA, hA, hq⟩ := Option.map_eq_some_iff.mp hp
  obtain rfl := argsP.ok _ _ hA
  clear hA hp
  obtain ⟨d1, as, d3⟩ : Unit × List Arg × Unit × Unit × Unit × Unit × Unit := dA
  obtain rfl : as.map (·.arg) = ps := hq
  cases as with
  | nil => simp at h1
  | cons a as => cases as with
    | nil => cases vs with
      | nil => simp at hl
      | cons v vs => cases vs with
        | nil => exact bind1 (x := a.arg) (ax := a.annotation) (px := a.pos) (name := name) (body := body) (scope := scope) (pm := pm) (cd := cd) (doc := doc)
        | cons => simp at hl
    | cons b as => cases as with
      | nil => cases vs with
        | nil => simp at hl
        | cons v vs => cases vs with
          | nil => simp at hl
          | cons u vs => cases vs with
            | nil =>
              simp [distinct] at hd
              exact bind2 (x := a.arg) (ax := a.annotation) (px := a.pos) (y := b.arg) (ay := b.annotation) (py := b.pos) (name := name) (body := body) (scope := scope) (pm := pm) (cd := cd) (doc := doc) (by rw [BEq.comm]; simpa using hd)
            | cons => simp at hl
      | cons c as => cases as with
        | nil => cases vs with
          | nil => simp at hl
          | cons v vs => cases vs with
            | nil => simp at hl
            | cons u vs => cases vs with
              | nil => simp at hl
              | cons w vs => cases vs with
                | nil =>
                  simp [distinct] at hd
                  exact bind3 (x := a.arg) (ax := a.annotation) (px := a.pos) (y := b.arg) (ay := b.annotation) (py := b.pos) (z := c.arg) (az := c.annotation) (pz := c.pos) (name := name) (body := body) (scope := scope) (pm := pm) (cd := cd) (doc := doc) (by rw [BEq.comm]; simpa using hd.1.1) (by rw [BEq.comm]; simpa using hd.1.2) (by rw [BEq.comm]; simpa using hd.2)
                | cons => simp at hl
        | cons => simp at h3
end Mine
end

section
set_option maxRecDepth 100000
set_option linter.unusedVariables false
set_option genSizeOf false
set_option genInjectivity false
open PySem PySem.W PySem.NumText PyProof.Rows PySem.Builtin
namespace Mine

theorem Rel.mono {S S' : Addr → Prop} {h : Heap} {v : Value} {x : V} (k : ∀ b, (∃ o, h.get? b = some o) → S b → S' b) (r : Rel S h v x) : Rel S' h v x := by
  cases x with
  | undef => exact r
  | «at» a => exact r
  | tup l => obtain ⟨a, vs, rfl, s, ⟨o, ho, i⟩, r⟩ := r; exact ⟨a, vs, rfl, k a ⟨o, ho⟩ s, ⟨o, ho, i⟩, r⟩
  | lst l => obtain ⟨a, vs, rfl, s, ⟨o, n, ho, i⟩, r⟩ := r; exact ⟨a, vs, rfl, k a ⟨o, ho⟩ s, ⟨o, n, ho, i⟩, r⟩
  | lz l => obtain ⟨a, vs, rfl, s, ⟨o, ho, i⟩, r⟩ := r; exact ⟨a, vs, rfl, k a ⟨o, ho⟩ s, ⟨o, ho, i⟩, r⟩
  | barr l => obtain ⟨a, rfl, s, ⟨o, ho, i⟩, r⟩ := r; exact ⟨a, rfl, k a ⟨o, ho⟩ s, ⟨o, ho, i⟩, r⟩
theorem Rel.isAt {S S' : Addr → Prop} {h : Heap} {v : Value} {x : V} (e : Mine.isAt x = true) (r : Rel S h v x) : Rel S' h v x := by
  cases x with
  | «at» a => exact r
  | _ => cases e
theorem lkV_all {f : V → Bool} : ∀ {xs : List V} {i : Nat}, xs.all f = true → i < xs.length → f (lkV xs i) = true
  | x :: r, 0, h, _ => by rw [List.all_cons] at h; exact (Bool.and_eq_true_iff.mp h).1
  | _ :: r, i + 1, h, hi => by rw [List.all_cons] at h; exact lkV_all (xs := r) (Bool.and_eq_true_iff.mp h).2 (Nat.lt_of_succ_lt_succ hi)
  | [], _, _, hi => absurd hi (Nat.not_lt_zero _)

section
variable {prog : Program} {w : World} {KF : Frag} {addr : Nat → Addr} {cls : Value} {Φ : Nat → List V → Res V} {d : Nat}

theorem call_fn (gl : Gl KF addr) (hc : CallOk prog w KF addr cls Φ d) {fi : Nat} {F : Fn} {name : Str} {params : Arguments} {body : List Stmt} {scope : Scope} {pm cd doc : Value} (fo : FnIs KF (addr fi) F name params body scope pm cd doc) (h1 : 1 ≤ F.np)
    (hb : ∀ f : Fs, f.Ok KF d → f.nm = F.names.map mkS → f.scope = scope → f.Φ = Φ → f.cls = cls → (F.ap = true → ∀ b, f.S b → f.h₀.get? b = none) → XS f.cx true F.body body)
    {A : Around} {outer : List Env} {B : Heap} {S : Addr → Prop} {h : Heap} {tk : Nat} {gens : Array GenState} {dr : Drawn} {os : OsState} {vs : List Value} {xs : List V} {Q E : Value → Shared → Prop}
    (room : Room A (d + 1)) (below : Below A B outer h) (base : Base KF h) (newS : ∀ a, h.get? a = none → S a) (rel : RelL S h vs xs) (hlen : xs.length = F.np) (hap : F.ap = true → xs.all isAt = true)
    (H : Ends B outer cls S h gens dr os (retOf (execP Φ F.body (xs ++ undefs (F.nl - F.np)))) Q E) :
    wpAny (model prog w) A (call (.ref (addr fi)) vs) Q E ⟨h, gens, dr, tk, os⟩ := by
  obtain ⟨X, p, l, mg, mb, T⟩ := id base
  obtain ⟨o, ho, hd⟩ := fo.obj
  have hps : ((F.names.take F.np).map mkS).length = F.np := by rw [List.length_map, List.length_take]; exact Nat.min_eq_left fo.nl
  have hvs : vs.length = F.np := (relL_len rel).trans hlen
  have hdis : distinct ((F.names.take F.np).map mkS) = true := by rw [List.map_take]; exact distinct_take fo.nodup
  have hbind := binds_of (name := name) (body := body) (scope := scope) (pm := pm) (cd := cd) (doc := doc) fo.pars hdis (vs := vs) (by rw [hps, hvs]) (by rw [hps]; exact fo.np) (by rw [hps]; exact h1)
  refine wpAny_call (call_plain (by have := room.depth; omega) (X _ _ ho) hd T.nolimit (codeRec_of X fo.code) hbind (fun x hx => ?_) (fun h₁ F₁ => ?_) fo.co fo.gen fo.kind fo.cells)
  · have hm : x.1 ∈ F.names.map mkS := by
      have := (List.of_mem_zip hx).1
      rw [List.map_take] at this
      exact List.mem_of_mem_take this
    exact eq_of_beq (List.all_eq_true.mp fo.locals _ hm)
  · let f : Fs := ⟨prog, w, A, name, scope, h.objs.size, addr fi, cd, F.names.map mkS, fun b => S b ∧ (F.ap = true → h.get? b = none), B, outer, h, Φ, addr, cls, gens, dr, os⟩
    have K : f.Ok KF d := { room := room, below := below, base := base, gl := gl, call := hc, kind := fo.kind, locals := fo.locals, nodup := fo.nodup, newS := fun a n => ⟨newS a n, fun _ => n⟩ }
    have hfr : (A.deeper f.env).frames = some (f.env :: outer) := Around.frames_deeper below.stack
    have st : f.cx.St h₁ (xs ++ undefs (F.nl - F.np)) := by
      refine ⟨_, F₁, fun i x e => ?_⟩
      by_cases hi : i < F.np
      · have hi' : i < xs.length := by omega
        rw [lkV_left hi']
        obtain ⟨v, hv, rv⟩ := relL_get rel hi'
        refine Or.inr ⟨v, ?_, ?_⟩
        · refine pairs_lookup hdis ?_ hv (by rw [hps, hvs])
          rw [List.map_take]
          exact lkF_take e hi
        · cases hq : F.ap with
          | false =>
            refine (rv.mono (S' := fun b => (S b ∧ (F.ap = true → h.get? b = none)) ∧ b ≠ h.objs.size) fun b hb' sb => ?_).keeps F₁.keep
            obtain ⟨ob, hob⟩ := hb'
            exact ⟨⟨sb, fun z => by rw [hq] at z; cases z⟩, Nat.ne_of_lt (Heap.lt_size hob)⟩
          | true => exact (rv.isAt (lkV_all (hap hq) hi')).keeps F₁.keep
      · exact Or.inl (lkV_undefs (by omega))
    refine hb f K rfl rfl rfl rfl (fun q b sb => sb.2 q) _ h₁ _ _ _ st ?_
    have relS : ∀ {h' : Heap} {v : Value} {x : V}, Rel f.cx.S h' v x → Rel S h' v x := fun r => r.mono fun b _ sb => sb.1.1
    have H : Ends B outer cls S h gens dr os (retOf (execP f.Φ F.body (xs ++ undefs (F.nl - F.np)))) Q E := H
    cases hq : execP f.Φ F.body (xs ++ undefs (F.nl - F.np)) with
    | ok fl =>
      rw [hq] at H
      cases fl with
      | next ρ' => exact fun h' tk' st' _ => H .none h' tk' (by obtain ⟨m, F', _⟩ := st'; exact F'.keep) rfl
      | ret x => exact fun u h' tk' st' _ r => H u h' tk' (by obtain ⟨ρ', m, F', _⟩ := st'; exact F'.keep) (relS r)
    | raise =>
      rw [hq] at H
      rintro e h' tk' (⟨⟨a0, fl⟩, up⟩ | ⟨⟨kh, hn, oe, ws, a0, he, hcl, hdt, h1', h0'⟩, m, hns⟩)
      · exact wpAny_leaves_onW hfr rfl fl fun h'' fl' up' => H e h'' tk' ⟨a0, fl'⟩ (up.trans up')
      · have hB : B.get? e = none := by
          cases q : B.get? e with
          | none => rfl
          | some ob => have := below.stays _ _ q; rw [hn] at this; cases this
        have hfun : h'.FunFrames B (f.env :: outer) := by
          refine ⟨(by show scope.kind ≠ .module; rw [fo.kind]; exact fun z => nomatch z), ?_, below.frames.of_keeps fun b ob hb' _ => ⟨ob, kh _ _ hb', rfl⟩⟩
          obtain ⟨oL, es, ep, hoL, hdL, _⟩ := hns
          refine ⟨h.objs.size, oL, rfl, ?_, hoL, fun vs' e' => by rw [hdL] at e'; cases e'⟩
          cases q : B.get? h.objs.size with
          | none => rfl
          | some ob => have := below.stays _ _ q; rw [get_size] at this; cases this
        subst hcl
        refine wpAny_leaving_firstW hfr hfun rfl he (fun b ob q => kh _ _ (below.stays _ _ q)) hB hdt h1' h0' fun h'' hL => ?_
        obtain ⟨k1, ⟨_, _, k2⟩, k3, k4⟩ := hL
        exact H e h'' tk' ⟨a0, k1, hB, k2, k3⟩ ((Heap.UpToSlots.of_keeps kh).trans k4)
    | fail => rw [hq] at H; exact H.elim

/-- every def is told by its term -/
noncomputable def FnsOk (KF : Frag) (addr : Nat → Addr) (cls : Value) (P : List (Option Fn)) : Prop := ∀ fi F, lkF P fi = some (some F) → ∃ name params body scope pm cd doc, FnIs KF (addr fi) F name params body scope pm cd doc ∧ 1 ≤ F.np ∧
  ∀ (f : Fs) (d : Nat), f.Ok KF d → f.nm = F.names.map mkS → f.scope = scope → f.cls = cls → (F.ap = true → ∀ b, f.S b → f.h₀.get? b = none) → XS f.cx true F.body body
theorem run_ok (gl : Gl KF addr) {P : List (Option Fn)} (hP : FnsOk KF addr cls P) : ∀ d, CallOk prog w KF addr cls (run P d) d := by
  intro d
  induction d with
  | zero =>
    intro A outer B S h tk gens dr os f vs xs Q E _ _ _ _ _ H
    exact H.elim
  | succ d ih =>
    intro A outer B S h tk gens dr os f vs xs Q E room below base newS rel H
    unfold run at H
    split at H
    · rename_i F hF
      split at H
      · rename_i hg
        obtain ⟨h1, h2⟩ := Bool.and_eq_true_iff.mp hg
        obtain ⟨name, params, body, scope, pm, cd, doc, fo, hnp, hb⟩ := hP f F hF
        refine call_fn gl ih fo hnp (fun f' K e1 e2 e3 e4 e5 => hb f' d K e1 e2 e4 e5) room below base newS rel (Nat.eq_of_beq_eq_true h1) (fun q => ?_) H
        rw [q] at h2
        simpa using h2
      · exact H.elim
    · exact H.elim
end
end Mine
end

section
set_option maxRecDepth 100000
set_option linter.unusedVariables false
set_option genSizeOf false
set_option genInjectivity false
open PySem PySem.W PySem.NumText PyProof.Rows PySem.Builtin
namespace Mine

/-! heads of defs, told by one check -/
structure DIs (KF : Frag) (a : Addr) (name : Str) (params : Arguments) (body : List Stmt) (scope : Scope) (pm cd doc : Value) : Prop where
  obj : ∃ o, KF.lookup a = some o ∧ o.data = .func (Calls.docDef name params body scope pm cd doc)
  code : codeIn KF cd name = true
  kind : scope.kind = .function
  co : scope.isCoroutine = false
  gen : scope.isGenerator = false
noncomputable def fdEq (f : FuncData) : Bool := (f.qualname == f.name && f.globals == mainGlobals) && (f.builtins == builtinsNs && f.closure == []) && ((f.defaults == .none && f.kwdefaults == .none) && (f.annotations == none && f.closureTuple == .none))
theorem fdEq_ok {f : FuncData} {b : List Stmt} (hb : f.body = .stmts b) (h : fdEq f = true) : f = Calls.docDef f.name f.params b f.scope f.pyModule f.code f.doc := by
  have e1 := eq_of_beq (andL (andL (andL h)))
  have e2 := eq_of_beq (andR (andL (andL h)))
  have e3 := eq_of_beq (andL (andR (andL h)))
  have e4 := eq_of_beq (andR (andR (andL h)))
  have e5 := eq_of_beq (andL (andL (andR h)))
  have e6 := eq_of_beq (andR (andL (andR h)))
  have e7 := eq_of_beq (andL (andR (andR h)))
  have e8 := eq_of_beq (andR (andR (andR h)))
  show (⟨f.name, f.qualname, f.params, f.body, f.scope, f.globals, f.closure, f.defaults, f.kwdefaults, f.doc, f.pyModule, f.annotations, f.code, f.closureTuple, f.builtins⟩ : FuncData) = _
  rw [e1, hb, e2, e4, e5, e6, e7, e8, e3]
  rfl
noncomputable def fdOk (KF : Frag) (f : FuncData) : Bool := fdEq f && (codeIn KF f.code f.name && f.scope.kind == .function) && (!f.scope.isCoroutine && !f.scope.isGenerator)
noncomputable def dHead (KF : Frag) (a : Addr) (p : Str → Value → Arguments → Scope → List Stmt → Bool) : Bool := (KF.lookup a).any fun o => (dFunc.get o.data).any fun f => (bStmts.get f.body).any fun b => fdOk KF f && p f.name f.code f.params f.scope b
theorem d_of_chk {KF : Frag} {a : Addr} {p : Str → Value → Arguments → Scope → List Stmt → Bool} (e : dHead KF a p = true) :
    ∃ name params body scope pm cd doc, DIs KF a name params body scope pm cd doc ∧ p name cd params scope body = true := by
  obtain ⟨o, ho, e⟩ := (Option.any_eq_true _ _).mp e
  obtain ⟨f, hf, e⟩ := (Option.any_eq_true _ _).mp e
  obtain ⟨b, hb, e⟩ := (Option.any_eq_true _ _).mp e
  have hd := (dFunc.ok _ _ hf).trans (congrArg Data.func (fdEq_ok (bStmts.ok _ _ hb) (andL (andL (andL e)))))
  exact ⟨f.name, f.params, b, f.scope, f.pyModule, f.code, f.doc, ⟨⟨o, ho, hd⟩, andL (andR (andL (andL e))), eq_of_beq (andR (andR (andL (andL e)))), Bool.not_eq_true' _ |>.mp (andL (andR (andL e))), Bool.not_eq_true' _ |>.mp (andR (andR (andL e)))⟩, andR e⟩

noncomputable def parsIs (p : Arguments) (l : List Str) : Bool := parsOf p == some l
noncomputable def fnRest (F : Fn) (params : Arguments) (scope : Scope) : Bool := (scope.names.all (fun x => x.2 != .cell) && (F.names.map mkS).all (fun x => scope.names.lookup x == some .local)) && (distinct (F.names.map mkS) && parsIs params ((F.names.take F.np).map mkS)) && (Nat.ble F.np 3 && (Nat.ble F.np F.names.length && Nat.ble 1 F.np))
noncomputable def fnHead (KF : Frag) (a : Addr) (F : Fn) (p : Scope → List Stmt → Bool) : Bool := dHead KF a fun name cd params scope body => fnRest F params scope && p scope body
theorem not_cell {scope : Scope} (h : scope.names.all (fun x => x.2 != .cell) = true) : ∀ x ∈ scope.names, x.2 ≠ .cell := fun x hx z => by
  have := List.all_eq_true.mp h x hx
  rw [z] at this
  cases this
theorem head_of_chk {KF : Frag} {a : Addr} {F : Fn} {p : Scope → List Stmt → Bool} (e : fnHead KF a F p = true) :
    ∃ name params body scope pm cd doc, FnIs KF a F name params body scope pm cd doc ∧ 1 ≤ F.np ∧ p scope body = true := by
  obtain ⟨name, params, body, scope, pm, cd, doc, di, e⟩ := d_of_chk e
  have r : fnRest F params scope = true := andL e
  unfold fnRest at r
  exact ⟨name, params, body, scope, pm, cd, doc, ⟨di.obj, di.code, di.kind, di.co, di.gen, not_cell (andL (andL (andL r))), andR (andL (andL r)), andL (andR (andL r)), eq_of_beq (andR (andR (andL r))), Nat.le_of_ble_eq_true (andL (andR r)),
    Nat.le_of_ble_eq_true (andL (andR (andR r)))⟩, Nat.le_of_ble_eq_true (andR (andR (andR r))), andR e⟩

noncomputable def pRaise (sc : Scope) : Pat Stmt := sRaise.comp (pp (pSome (pCallN (pBi sc "SqlError") (pOne (pK kStr)))) (pP pNone))
noncomputable def raiseOk (sc : Scope) (p : PS) (st : Stmt) : Bool := Nat.beq p.ctorIdx 13 && (pRaise sc).m st
noncomputable def noTold : PE → Expr → Bool := fun _ _ => false
noncomputable def spA (F : Fn) (sc : Scope) (nm : List Str) : PS → Stmt → Bool := fun p st => (F.ap && appOk sc nm noTold p st) || raiseOk sc p st
noncomputable def fnChk (KF : Frag) (a : Addr) (F : Fn) : Bool := fnHead KF a F fun scope body => chkL scope (F.names.map mkS) noTold (spA F scope (F.names.map mkS)) false F.body body

theorem fn_of_chk {KF : Frag} {a : Addr} {F : Fn} {cls : Value} (e : fnChk KF a F = true)
    (hRaise : ∀ (f : Fs) (d : Nat), f.Ok KF d → f.cls = cls → ∀ st, raiseOk f.scope .raise st = true → X1 f.cx true .raise st) :
    ∃ name params body scope pm cd doc, FnIs KF a F name params body scope pm cd doc ∧ 1 ≤ F.np ∧
      ∀ (f : Fs) (d : Nat), f.Ok KF d → f.nm = F.names.map mkS → f.scope = scope → f.cls = cls → (F.ap = true → ∀ b, f.S b → f.h₀.get? b = none) → XS f.cx true F.body body := by
  obtain ⟨name, params, body, scope, pm, cd, doc, fi, h1, e⟩ := head_of_chk e
  refine ⟨name, params, body, scope, pm, cd, doc, fi, h1, fun f d K hnm hsc hcls hown => ?_⟩
  subst hsc
  rw [← hnm] at e
  have hT : ∀ p e, noTold p e = true → ES f.cx (.told p) e ∧ TS f.cx (.told p) e := fun p e z => nomatch z
  refine ((xs_all K.sok (tl := noTold) (sp := spA F f.scope f.nm) (dl := false) (fun z => nomatch z) (fun _ => rfl) hT (fun p st h => ?_)) F.body).2 body e
  rcases Bool.or_eq_true_iff.mp h with h | h
  · exact sp_append K (hown (andL h)) hT p st (andR h)
  · obtain rfl := PS.raise.elim (motive := fun p => p = .raise) p (Nat.eq_of_beq_eq_true (andL h)) rfl
    exact hRaise f d K hcls st h

/-! the frozen heap's names -/
noncomputable def globIs (KF : Frag) (j : Nat) (x : Str) : Bool := match nsIn KF mainGlobals x with
  | some (some v) => match v, globA j with
    | .int i _, .int k => i == k
    | .str s _, .str l => strIs s l && Nat.ble l.length 1000
    | _, _ => false
  | _ => false
noncomputable def fnIs (KF : Frag) (a : Addr) (x : Str) : Bool := nsIn KF mainGlobals x == some (some (.ref a)) && (match KF.lookup a with
  | some o => match o.data with
    | .func _ => true
    | _ => false
  | none => false)
noncomputable def idxAll {α : Type} (f : Nat → α → Bool) : Nat → List α → Bool
  | _, [] => true
  | n, x :: r => f n x && idxAll f (n + 1) r
theorem idxAll_get {α : Type} {f : Nat → α → Bool} : ∀ {l : List α} {n i : Nat} {x : α}, idxAll f n l = true → lkF l i = some x → f (n + i) x = true
  | _ :: _, n, 0, x, h, e => by cases e; exact (Bool.and_eq_true_iff.mp h).1
  | _ :: r, n, i + 1, x, h, e => by
    have := idxAll_get (l := r) (n := n + 1) (i := i) (Bool.and_eq_true_iff.mp h).2 e
    rw [show n + (i + 1) = n + 1 + i by omega]
    exact this
noncomputable def glChk (KF : Frag) (addr : Nat → Addr) : Bool := idxAll (globIs KF) 0 gnames && idxAll (fun f x => fnIs KF (addr f) x) 0 fnames && biNames.all fun x => nsIn KF mainGlobals x == some none
theorem gl_of_chk {KF : Frag} {addr : Nat → Addr} (e : glChk KF addr = true) : Gl KF addr := by
  unfold glChk at e
  simp only [Bool.and_eq_true] at e
  obtain ⟨⟨e1, e2⟩, e3⟩ := e
  refine ⟨fun j x h => ?_, fun f x h => ?_, fun x h => eq_of_beq (List.all_eq_true.mp e3 x h)⟩
  · have := idxAll_get e1 h
    rw [Nat.zero_add] at this
    unfold globIs at this
    split at this
    · rename_i v hv
      refine ⟨v, hv, ?_⟩
      split at this
      · rename_i i t k hk
        rw [hk]
        exact ⟨t, by rw [eq_of_beq this]⟩
      · rename_i s t l hk
        rw [hk]
        obtain ⟨a, b⟩ := Bool.and_eq_true_iff.mp this
        exact ⟨t, by rw [strIs_eq a]; rfl, Nat.le_of_ble_eq_true b⟩
      · cases this
    · cases this
  · have := idxAll_get e2 h
    rw [Nat.zero_add] at this
    unfold fnIs at this
    obtain ⟨a, b⟩ := Bool.and_eq_true_iff.mp this
    refine ⟨eq_of_beq a, ?_⟩
    split at b
    · rename_i o ho
      split at b
      · rename_i fd hd
        exact ⟨o, fd, ho, hd⟩
      · cases b
    · cases b
noncomputable def addrs : List Addr := [65, 72, 79, 86, 93, 100, 107, 114, 121, 128, 135, 142, 149, 156, 163, 170, 177, 184, 191, 198, 205, 212, 219, 226, 233, 240, 247, 254, 261, 268, 275, 282, 289, 296, 303, 308, 315, 322, 329]
noncomputable def addrOf (f : Nat) : Addr := match lkF addrs f with
  | some a => a
  | none => 0
noncomputable def fnsChk (KF : Frag) (P : List (Option Fn)) : Bool := idxAll (fun f F => match F with | some F => fnChk KF (addrOf f) F | none => true) 0 P
theorem fns_of_chk {KF : Frag} {P : List (Option Fn)} {cls : Value} (e : fnsChk KF P = true)
    (hRaise : ∀ (f : Fs) (d : Nat), f.Ok KF d → f.cls = cls → ∀ st, raiseOk f.scope .raise st = true → X1 f.cx true .raise st) : FnsOk KF addrOf cls P := by
  intro fi F h
  have := idxAll_get e h
  rw [Nat.zero_add] at this
  exact fn_of_chk this hRaise
end Mine
end

section
set_option maxRecDepth 100000
set_option linter.unusedVariables false
set_option genSizeOf false
set_option genInjectivity false
open PySem PySem.W PySem.NumText PyProof.Rows
open Builtin Builtin.ObjectAttr
namespace Mine

/-! an own exception whose own base has an own __init__ -/
noncomputable abbrev bmE : List Value := [.type "Exception", .type "BaseException", .type "object"]
section
variable {M : Model} {A : Around} {E : Value → Shared → Prop} {h : Heap} {g : Array GenState} {d : Drawn} {t : Nat} {os : OsState}
variable {nm q nm' q' : Str} {C N D N' : Addr} {bs bs' : List Value} {sn sn' : List Str} {sub sub' : List Value} {ab ab' : Bool} {col col' : Option Bool} {dd dd' : Option Addr} {k0 k1 k2 k3 k5 l0 l1 l2 l3 l5 : Option Value} {newId newId' : String}

theorem look2 {name : Str} {mN mN' : Str → Option Value} {y : Option Value} {Q : Option Value → Shared → Prop}
    (hC : h.get? C = some (excClassObj nm q C N bs (.ref D :: bmE) true sn sub ab col dd k0 k1 k2 k3 k5 newId)) (hD : h.get? D = some (excClassObj nm' q' D N' bs' bmE true sn' sub' ab' col' dd' l0 l1 l2 l3 l5 newId'))
    (hn : h.Ns N mN) (hn' : h.Ns N' mN') (hB : typeLookup (.type "Exception") name = pure y)
    (hq : Q (match mN name with | some v => some v | none => match mN' name with | some v => some v | none => y) ⟨h, g, d, t, os⟩) : wpAny M A (typeLookup (.ref C) name) Q E ⟨h, g, d, t, os⟩ := by
  have hrest : lookupAlong bmE name = pure y := by rw [typeLookup_eq, F.store_Exception.mro] at hB; exact hB
  rw [typeLookup_eq]
  refine wpAny_bind (wpAny_mroOf_exc hC ?_)
  rw [lookupAlong_cons]
  refine wpAny_bind (wpAny_classOwn_exc hC hn ?_)
  cases hv : mN name with
  | some v => rw [hv] at hq; exact wpAny_pure hq
  | none =>
    rw [hv] at hq
    dsimp only at hq ⊢
    rw [lookupAlong_cons]
    refine wpAny_bind (wpAny_classOwn_exc hD hn' ?_)
    cases hv' : mN' name with
    | some v => rw [hv'] at hq; exact wpAny_pure hq
    | none => rw [hv'] at hq; dsimp only; rw [hrest]; exact wpAny_pure hq
end

section
variable {prog : Program} {w : World} {A : Around} {E : Value → Shared → Prop} {h : Heap} {g : Array GenState} {d : Drawn} {t : Nat} {os : OsState}
variable {nm q nm' q' : Str} {C N D N' : Addr} {bs bs' : List Value} {sn sn' : List Str} {sub sub' : List Value} {ab ab' : Bool} {col col' : Option Bool} {dd dd' : Option Addr} {k0 k1 k2 k3 k5 l0 l1 l2 l3 l5 : Option Value} {newId newId' : String}
  {mN mN' : Str → Option Value} {x : Addr} {name : Str} {v : Value}

theorem check_sa2 {M : Model} {o : Obj} {nameV : Value} {Q : Unit → Shared → Prop}
    (hC : h.get? C = some (excClassObj nm q C N bs (.ref D :: bmE) true sn sub ab col dd k0 k1 k2 k3 k5 newId)) (hx : h.get? x = some o) (hc : o.cls = .ref C) (hq : Q () ⟨h, g, d, t, os⟩) :
    wpAny M A (checkBuiltinCall "object.__setattr__" ⟨[.ref x, nameV, v], []⟩) Q E ⟨h, g, d, t, os⟩ := by
  have SF := F.store_Exception
  have hcB : (Value.ref C :: Value.ref D :: bmE).contains (.type "object") = true := by simp
  have ha := SF.args (.ref x) nameV v
  simp only [checkBuiltinCall, SF.kind, SF.split]
  refine wpAny_bind ?_
  · unfold isInstance
    repeat (first | (with_reducible refine wpAny_loadPart_at hx ?_; rw [hc]) | (with_reducible refine wpAny_isSubtype_exc hC ?_; rw [hcB]) | wp_step)
    exact hq

theorem store_entry2 {tk : Tok} {o : Obj} {Q : Fin → Shared → Prop}
    (hC : h.get? C = some (excClassObj nm q C N bs (.ref D :: bmE) true sn sub ab col dd k0 k1 k2 k3 k5 newId)) (hD : h.get? D = some (excClassObj nm' q' D N' bs' bmE true sn' sub' ab' col' dd' l0 l1 l2 l3 l5 newId'))
    (hn : h.Ns N mN) (hn' : h.Ns N' mN') (hna : mN name = none) (hna' : mN' name = none) (hB : typeLookup (.type "Exception") name = pure none)
    (hx : h.get? x = some o) (hc : o.cls = .ref C) (hnc : ∀ c, o.data ≠ .cls c) (hdn : o.dict = none)
    (hq : ∀ h' tk', (∃ dx, h'.get? x = some { o with dict := some dx }) → (∀ b ob, b ≠ x → h.get? b = some ob → h'.get? b = some ob) → Q (.done (.ret .none)) ⟨h', g, d, tk', os⟩) :
    wpAny (model prog w) A (Builtin.«object.__setattr__» ⟨[.ref x, .str name tk, v], []⟩) Q E ⟨h, g, d, t, os⟩ := by
  have hpass := F.store_Exception.passes (.ref x)
  unfold Builtin.«object.__setattr__»
  repeat (first | rw [refuse_eq] | (rw [refuseLoop_ref, refuseLoop_ref, hpass]) | (with_reducible refine wpAny_loadPart_at hx ?_; rw [hc]) | with_reducible refine wpAny_mroOf_exc hC ?_ | (with_reducible refine look2 hC hD hn hn' hB ?_; rw [hna]; dsimp only; rw [hna']) | wp_step)
  rw [hdn, if_neg (by simp [typeHasDict])]
  split
  · rename_i hcd
    cases hcd
  split
  · rename_i c hcd
    exact absurd hcd (hnc c)
  · have hx₁ : (h.push { cls := .type "dict", data := .dict #[] }).get? x = some o := Heap.get?_push_of_some _ hx
    have hxs : x ≠ h.objs.size := Nat.ne_of_lt (Heap.lt_size hx)
    refine wpAny_bind (wpAny_alloc' ?_)
    refine wpAny_bind (wpAny_update' hx₁ ?_)
    refine wpAny_pure ?_
    have hgd : ((h.push { cls := .type "dict", data := .dict #[] }).update x fun o => { cls := o.cls, dict := some h.objs.size, data := o.data, slots := o.slots }).get? h.objs.size
        = some { cls := .type "dict", data := .dict #[] } :=
      (Heap.get?_update_ne _ _ _ _ hxs.symm).trans (Heap.get?_push_at rfl rfl)
    have hnd : ((h.push { cls := .type "dict", data := .dict #[] }).update x fun o => { cls := o.cls, dict := some h.objs.size, data := o.data, slots := o.slots }).Ns h.objs.size (fun _ => none) :=
      ⟨_, #[], _, hgd, rfl, fun e he => absurd he (by simp), fun _ => rfl⟩
    show wpAny _ _ (storeInDict h.objs.size (.str name tk) name v) _ _ _
    unfold storeInDict newKeyGuard
    refine wpAny_bind (wpAny_pure (wpAny_bind (wpAny_nsSet1 (Heap.Ns1.of_empty hnd) fun h' hn' hs => ?_)))
    obtain ⟨oD, esD, epD, hoD, hdD, hcD⟩ := hn'.count (Within.cons name v Within.nil)
    refine wpAny_bind (wpAny_lookBehind hoD (by rw [hdD]; exact pastItsLine_dict (Nat.le_trans hcD (by rw [List.length_cons, List.length_nil, sizeLine_eq]; omega))) ?_)
    wp_walk
    have hx' : h'.get? x = some { cls := o.cls, dict := some h.objs.size, data := o.data, slots := o.slots } := ?_
    refine hq h' _ ⟨h.objs.size, hx'⟩ (fun b ob hbx hb => ?_)
    · exact (hs.2 b (Nat.ne_of_lt (Heap.lt_size hb))).trans ((Heap.get?_update_ne _ _ _ _ hbx).trans (Heap.get?_push_of_some _ hb))
    · refine (hs.2 x hxs).trans (Heap.get?_update_self _ hx₁ ?_)
      have hfr := (Heap.get?_some_iff.mp hx).2
      obtain ⟨oc, od, odt, osl⟩ := o
      cases odt <;> first | rfl | exact hfr

theorem store_attr2 {o : Obj} {Q : Unit → Shared → Prop}
    (hC : h.get? C = some (excClassObj nm q C N bs (.ref D :: bmE) true sn sub ab col dd k0 k1 k2 k3 k5 newId)) (hD : h.get? D = some (excClassObj nm' q' D N' bs' bmE true sn' sub' ab' col' dd' l0 l1 l2 l3 l5 newId'))
    (hn : h.Ns N mN) (hn' : h.Ns N' mN') (hna : mN name = none) (hna' : mN' name = none) (hs : mN "__setattr__" = none) (hs' : mN' "__setattr__" = none) (hB : typeLookup (.type "Exception") name = pure none)
    (hx : h.get? x = some o) (hc : o.cls = .ref C) (hnc : ∀ c, o.data ≠ .cls c) (hdn : o.dict = none)
    (hq : ∀ h' tk', (∃ dx, h'.get? x = some { o with dict := some dx }) → (∀ b ob, b ≠ x → h.get? b = some ob → h'.get? b = some ob) → Q () ⟨h', g, d, tk', os⟩) :
    wpAny (model prog w) A (setAttr (.ref x) name v) Q E ⟨h, g, d, t, os⟩ := by
  have SF := F.store_Exception
  have f3 := SF.slot.bind (.ref x)
  unfold setAttr callSpecial? specialOf
  repeat (any_goals (first | assumption | (with_reducible refine wpAny_loadPart_at hx ?_; rw [hc]) | (with_reducible refine look2 hC hD hn hn' SF.slot.lookup ?_; rw [hs]; dsimp only; rw [hs']) | wp_step))
  refine codeAny_call_builtin SF.slot.plain SF.entry (check_sa2 hC hx hc (store_entry2 hC hD hn hn' hna hna' hB hx hc hnc hdn fun h' tk' I' hk => ?_))
  repeat (any_goals (first | assumption | wp_step))
  exact hq h' tk' I' hk
end
end Mine
end

section
set_option maxRecDepth 100000
set_option linter.unusedVariables false
set_option genSizeOf false
set_option genInjectivity false
open PySem
open Builtin
namespace Mine

/-! the exception's __init__ -/
noncomputable def initFd (pa pb p1 p2 p3 p4 : Pos) (pm cd : Value) : FuncData :=
  { name := "__init__", qualname := "PagebaseError.__init__", params := ⟨[], [⟨"self", none, pa⟩, ⟨"message", none, pb⟩], none, [], [], none, []⟩,
    body := .stmts [.Assign [.Attribute (.Name "self" p1) "message" p2] (.Name "message" p3) p4],
    scope := { kind := .function, names := [("self", .local), ("message", .local)], isGenerator := false, isCoroutine := false }, globals := mainGlobals, closure := [], defaults := .none, kwdefaults := .none,
    pyModule := pm, code := cd, builtins := builtinsNs }
theorem bind_init {pa pb p1 p2 p3 p4 : Pos} {pm cd v u : Value} : bindArgs (initFd pa pb p1 p2 p3 p4 pm cd) ⟨[v, u], []⟩ = pure ([("self", v), ("message", u)] : List (Str × Value)) := by rfl

section
variable {prog : Program} {w : World} {A : Around} {E : Value → Shared → Prop} {h : Heap} {g : Array GenState} {d : Drawn} {t : Nat} {os : OsState}
variable {nm q nm' q' : Str} {C N D N' I : Addr} {bs bs' : List Value} {sn sn' : List Str} {sub sub' : List Value} {ab ab' : Bool} {col col' : Option Bool} {dd dd' : Option Addr} {k0 k1 k2 k3 k5 l0 l1 l2 l3 l5 : Option Value} {newId newId' : String}
  {mN mN' : Str → Option Value} {x : Addr} {name : Str} {v : Value}

theorem noMessage : typeLookup (.type "Exception") "message" = pure none := by rw [typeLookup_type, builtinLookup_eq_fast]; kernel_rfl

theorem call_init {pa pb p1 p2 p3 p4 : Pos} {pm cd : Value} {o oI : Obj} {R : Result → Shared → Prop} (hroom : A.depth < recursionLimit) (hI : h.get? I = some oI) (hfd : oI.data = .func (initFd pa pb p1 p2 p3 p4 pm cd)) (hlim : h.NoLimit) (hcd : h.CodeRec cd "PagebaseError.__init__")
    (hC : h.get? C = some (excClassObj nm q C N bs (.ref D :: bmE) true sn sub ab col dd k0 k1 k2 k3 k5 newId)) (hD : h.get? D = some (excClassObj nm' q' D N' bs' bmE true sn' sub' ab' col' dd' l0 l1 l2 l3 l5 newId'))
    (hn : h.Ns N mN) (hn' : h.Ns N' mN') (hna : mN "message" = none) (hna' : mN' "message" = none) (hs : mN "__setattr__" = none) (hs' : mN' "__setattr__" = none)
    (hx : h.get? x = some o) (hc : o.cls = .ref C) (hnc : ∀ c, o.data ≠ .cls c) (hdn : o.dict = none)
    (hq : ∀ h' tk', (∃ dx, h'.get? x = some { o with dict := some dx }) → (∀ b ob, b ≠ x → h.get? b = some ob → h'.get? b = some ob) → R (.ok (.ret .none)) ⟨h', g, d, tk', os⟩) :
    codeAny (model prog w) A (.call (.ref I) ⟨[.ref x, v], []⟩) R ⟨h, g, d, t, os⟩ := by
  refine codeAny_call_def hroom hI hfd hlim hcd rfl (.of_eq bind_init) (by show ∀ x ∈ ([("self", .local), ("message", .local)] : List (Str × NameKind)), x.2 ≠ .cell; decide)
    (fun y hy => by
      rcases List.mem_cons.mp hy with rfl | hy
      · rfl
      · rcases List.mem_cons.mp hy with rfl | hy
        · rfl
        · cases hy) (fun h₀ hns hk => ?_)
  have key : ∀ (z : Str) (vz : Value), (callEnv (initFd pa pb p1 p2 p3 p4 pm cd) h.objs.size I).kindOf z = some .local → ([("self", .ref x), ("message", v)] : List (Str × Value)).reverse.lookup z = some vz → (z == ("__debug__" : Str)) = false →
      ∀ {Q : Value → Shared → Prop} {E : Value → Shared → Prop} {pos : Pos} {tk : Nat}, Q vz ⟨h₀, g, d, tk, os⟩ → wpAny (model prog w) (A.deeper (callEnv (initFd pa pb p1 p2 p3 p4 pm cd) h.objs.size I)) (eval (.Name z pos) (callEnv (initFd pa pb p1 p2 p3 p4 pm cd) h.objs.size I)) Q E ⟨h₀, g, d, tk, os⟩ :=
    fun z vz hl hv hd Q E pos tk hq => wpAny_Name (wpAny_loadName_local rfl hl hns hv hq) hd
  refine wpAny_execs_cons (plainObj_wpAny_Assign_Attribute (key "message" v rfl rfl (by decide) (key "self" (.ref x) rfl rfl (by decide) ?_)))
  refine store_attr2 (hk _ _ hC) (hk _ _ hD) (hn.keeps hk) (hn'.keeps hk) hna hna' hs hs' noMessage (hk _ _ hx) hc hnc hdn fun h' tk' I' hk' => ?_
  exact wpAny_execs_nil (hq h' tk' I' fun b ob hb e => hk' b ob hb (hk b ob e))

theorem check_new2 {M : Model} {rest : List Value} {Q : Unit → Shared → Prop} (hC : h.get? C = some (excClassObj nm q C N bs (.ref D :: bmE) true sn sub ab col dd k0 k1 k2 k3 k5 "Exception.__new__"))
    (hq : Q () ⟨h, g, d, t, os⟩) : wpAny M A (checkBuiltinCall "Exception.__new__" ⟨.ref C :: rest, []⟩) Q E ⟨h, g, d, t, os⟩ := by
  have F := F.excBase_Exception
  have hcont : (Value.ref C :: .ref D :: bmE).contains (.type "Exception") = true := by simp
  have hstar := F.noStar
  simp only [checkBuiltinCall, F.newKind, F.newSplit, F.newRow]
  repeat (first | refine wpAny_loadPart_at hC ?_ | (refine wpAny_isSubtype_exc hC ?_; rw [hcont]) | refine wpAny_staticBase_exc hC ?_ | refine wpAny_madeBy_exc hC ?_ | simp only [bne_self_eq_false, Bool.false_eq_true, if_false] | wp_step)
  exact hq

theorem exc_new2 {R : Result → Shared → Prop} {rest : List Value} (hC : h.get? C = some (excClassObj nm q C N bs (.ref D :: bmE) true sn sub ab col dd k0 k1 k2 k3 k5 "Exception.__new__"))
    (hq : R (.ok (.ret (.ref (h.objs.size + 1)))) ⟨(h.push { cls := .type "tuple", data := .seq rest.toArray }).push
      { cls := .ref C, data := .fields #[.ref h.objs.size, .none, .none, .none, .bool false, .none] }, g, d, t, os⟩) (hrest : rest.length ≤ sizeLine) :
    codeAny (model prog w) A (.builtin "Exception.__new__" ⟨.ref C :: rest, []⟩) R ⟨h, g, d, t, os⟩ := by
  have F := F.excBase_Exception
  have hends := F.ends
  have hcB : (Value.ref C :: .ref D :: bmE).contains (.type "Exception") = true := by simp
  have hcA : (Value.ref C :: .ref D :: bmE).contains (.type "AttributeError") = false := by simp
  have hcN : (Value.ref C :: .ref D :: bmE).contains (.type "NameError") = false := by simp
  refine codeAny_builtinAt F.entry ?_
  unfold Builtin.«BaseException.__new__»
  refine wpAt_bind ?_
  show wpAt _ _ _ (stack >>= _) _ _ _
  refine wpAt_bind (wpAt_stack fun p below => wpAt_of_wpAny ?_)
  wp_walk
  refine wpAt_of_wpAny ?_
  rw [F.owner]
  repeat (first | with_reducible refine wpAny_madeHere_exc F.canon hC ?_ | with_reducible refine wpAny_loadPart_at hC ?_ | (with_reducible refine wpAny_isSubtype_exc hC ?_; first | rw [hcB] | rw [hcA] | rw [hcN]) | wp_step)
  show R _ _
  rw [Heap.size_push]
  exact hq
end
end Mine
end

section
set_option maxRecDepth 100000
set_option linter.unusedVariables false
set_option genSizeOf false
set_option genInjectivity false
open PySem
open Builtin
namespace Mine

section
variable {prog : Program} {w : World} {A : Around} {E : Value → Shared → Prop} {h : Heap} {g : Array GenState} {d : Drawn} {t : Nat} {os : OsState}

/-- what the frozen heap tells of the exception -/
structure ExcAt (h : Heap) (C I : Addr) (M : Model) : Prop where
  lim : h.NoLimit
  bind : ∀ h' self, (∀ b o, h.get? b = some o → h'.get? b = some o) → PySem.W.Looks M h' (bindSpecial (.ref I) self) (.ref I, [self])
  obj : ∃ (p : Nat → Pos) (pm cd : Value) (oI : Obj), h.get? I = some oI ∧ oI.data = .func (initFd (p 0) (p 1) (p 2) (p 3) (p 4) (p 5) pm cd) ∧ h.CodeRec cd "PagebaseError.__init__"
  cls : ∃ (c : ClassData) (dd : Option Addr) (kf : Nat → Option Value) (D : Addr) (c' : ClassData) (dd' : Option Addr) (lf : Nat → Option Value) (newId' : String) (mN mN' : Str → Option Value),
    h.get? C = some (excClassObj c.name c.qualname C c.ns c.bases (.ref D :: bmE) true c.slotNames c.subclasses c.abstract c.collection dd (kf 0) (kf 1) (kf 2) (kf 3) (kf 4) "Exception.__new__") ∧ h.get? D = some (excClassObj c'.name c'.qualname D c'.ns c'.bases bmE true c'.slotNames c'.subclasses c'.abstract c'.collection dd' (lf 0) (lf 1) (lf 2) (lf 3) (lf 4) newId') ∧
    h.Ns c.ns mN ∧ h.Ns c'.ns mN' ∧ mN "message" = none ∧ mN' "message" = none ∧ mN "__setattr__" = none ∧ mN' "__setattr__" = none ∧ mN "__init__" = none ∧ mN' "__init__" = some (.ref I)
theorem ExcAt.keeps {h h' : Heap} {C I : Addr} {M : Model} (x : ExcAt h C I M) (k : ∀ b o, h.get? b = some o → h'.get? b = some o) : ExcAt h' C I M := by
  obtain ⟨hlim, hb, ⟨pf, pm, cd, oI, hI, hfd, hcd⟩, c, dd, kf, D, c', dd', lf, newId', mN, mN', hC, hD, hn, hn', r⟩ := x
  exact ⟨hlim.keeps k, fun h'' self k' => hb h'' self fun b o e => k' _ _ (k _ _ e), ⟨pf, pm, cd, oI, k _ _ hI, hfd, let ⟨c, o, vs, t, a, b, r⟩ := hcd; ⟨c, o, vs, t, a, k _ _ b, r⟩⟩,
    c, dd, kf, D, c', dd', lf, newId', mN, mN', k _ _ hC, k _ _ hD, hn.keeps k, hn'.keeps k, r⟩

/-- the exception that was made -/
noncomputable def MadeE (h h' : Heap) (C e : Addr) : Prop := (∀ b o, h.get? b = some o → h'.get? b = some o) ∧ h.get? e = none ∧ ∃ dx t, h'.get? e = some { cls := .ref C, dict := some dx, data := .fields #[.ref t, .none, .none, .none, .bool false, .none] }

theorem type_call2 {C I : Addr} {v : Value} {Q : PySem.Fin → Shared → Prop} (hroom : A.depth + 3 < recursionLimit) (X : ExcAt h C I (model prog w))
    (hq : ∀ h' e tk', MadeE h h' C e → Q (.done (.ret (.ref e))) ⟨h', g, d, tk', os⟩) :
    wpAny (model prog w) A (Builtin.«type.__call__» ⟨[.ref C, v], []⟩) Q E ⟨h, g, d, t, os⟩ := by
  obtain ⟨hlim, hb, ⟨pf, pm, cd, oI, hI, hfd, hcd⟩, c, dd, kf, D, c', dd', lf, newId', mN, mN', hC, hD, hn, hn', hm, hm', hs, hs', hi, hi'⟩ := id X
  have F := F.excBase_Exception
  repeat (first | with_reducible refine wpAny_loadPart_at hC ?_ | with_reducible refine wpAny_madeBy_exc hC ?_ | wp_step)
  refine codeAny_call_builtin_code (Code.quiet_builtin _ F.quiet) (check_new2 hC ?_)
  refine exc_new2 hC ?_ (by show 1 ≤ sizeLine; decide)
  show wpAny _ _ _ _ _ _
  have kk : ∀ b o, h.get? b = some o → ((h.push { cls := .type "tuple", data := .seq [v].toArray }).push { cls := .ref C, data := .fields #[.ref h.objs.size, .none, .none, .none, .bool false, .none] }).get? b = some o :=
    fun b o e => Heap.get?_push_of_some _ (Heap.get?_push_of_some _ e)
  have hget : ((h.push { cls := .type "tuple", data := .seq [v].toArray }).push { cls := .ref C, data := .fields #[.ref h.objs.size, .none, .none, .none, .bool false, .none] }).get? (h.objs.size + 1) = some
      { cls := .ref C, data := .fields #[.ref h.objs.size, .none, .none, .none, .bool false, .none] } := by heap_get
  generalize (h.push { cls := .type "tuple", data := .seq [v].toArray }).push { cls := .ref C, data := .fields #[.ref h.objs.size, .none, .none, .none, .bool false, .none] } = h₁ at kk hget ⊢
  have hcC : (Value.ref C :: .ref D :: bmE).contains (.ref C) = true := by simp
  unfold isInstance
  repeat (first | with_reducible refine wpAny_loadPart_at hget ?_ | (with_reducible refine wpAny_isSubtype_exc (kk _ _ hC) ?_; rw [hcC]) | wp_step)
  show wpAny _ _ (typeLookup (.ref C) _) _ _ _
  refine look2 (kk _ _ hC) (kk _ _ hD) (hn.keeps kk) (hn'.keeps kk) F.init.lookup ?_
  rw [hi]
  dsimp only
  rw [hi']
  refine wpAny_holding (wpAny_bind ((hb h₁ _ kk).here ?_))
  refine wpAny_bind (wpAny_call (call_init (by show A.depth < recursionLimit; omega) (kk _ _ hI) hfd (hlim.keeps kk) (let ⟨c, o, vs, t, a, b, r⟩ := hcd; ⟨c, o, vs, t, a, kk _ _ b, r⟩)
    (kk _ _ hC) (kk _ _ hD) (hn.keeps kk) (hn'.keeps kk) hm hm' hs hs' hget rfl (fun c e => nomatch e) rfl fun h' tk' hx hk => ?_))
  wp_walk
  obtain ⟨dx, hx⟩ := hx
  exact hq h' _ tk' ⟨fun b o e => hk b o (Nat.ne_of_lt (Nat.lt_succ_of_lt (Heap.lt_size e))) (kk b o e), Heap.get?_none_of_le (Nat.le_succ _), dx, h.objs.size, hx⟩

theorem call_exc2 {C I : Addr} {v : Value} {Q : Value → Shared → Prop} (hroom : A.depth + 8 < recursionLimit) (X : ExcAt h C I (model prog w))
    (hq : ∀ h' e tk', MadeE h h' C e → Q (.ref e) ⟨h', g, d, tk', os⟩) : wpAny (model prog w) A (call (.ref C) [v]) Q E ⟨h, g, d, t, os⟩ := by
  obtain ⟨_, _, _, c, dd, kf, D, c', dd', lf, newId', mN, mN', hC, _⟩ := id X
  have f1 := tc_lookup
  have f2 := tc_bind (.ref C)
  have hT : (⟨h, g, d, t, os⟩ : Shared).TypeIs (.ref C) "type" := ⟨_, hC, rfl⟩
  refine wpAny_call (codeAny_of_tree ?_)
  show wpAny _ _ (callAny (.ref C) _) _ _ _
  repeat (any_goals (first | assumption | with_reducible refine wpAny_loadPart_at hC ?_ | wp_step))
  refine ⟨rfl, ?_⟩
  refine codeAny_call_builtin_at (Code.quiet_builtin _ (by decide +kernel)) entry_typeCall (wpAny_check_type_call_sub hC (type_call2 ?_ X fun h' e tk' hm => ?_))
  · show A.depth + (Code.builtin "type.__call__" ⟨[.ref C, v], []⟩).weight + 3 < recursionLimit
    have : (Code.builtin "type.__call__" ⟨[.ref C, v], []⟩).weight ≤ 5 := by
      show 0 + (if true then 1 else 0) + (if (Code.builtin "type.__call__" ⟨[.ref C, v], []⟩).isGuard then 1 else 0) + (if (Code.builtin "type.__call__" ⟨[.ref C, v], []⟩).isCaller then claimMargin else 0) ≤ 5
      rw [if_neg (show ¬ (Code.builtin "type.__call__" ⟨[.ref C, v], []⟩).isCaller = true from Bool.false_ne_true)]
      split <;> split <;> omega
    omega
  · exact hq h' e tk' hm
end
end Mine
end

section
set_option maxRecDepth 100000
set_option linter.unusedVariables false
set_option genSizeOf false
set_option genInjectivity false
open PySem
open Builtin
namespace Mine

section
variable {M : Model} {A : Around} {E : Value → Shared → Prop} {env : Env}
theorem raise_made2 {C I : Addr} {s : Shared} {x : Sem Value} {Q : Flow → Shared → Prop} (hh : A.handled = none)
    (h : wpAny M A x (fun v s₁ => ∃ e dx t, v = .ref e ∧ ExcAt s₁.heap C I M ∧ s₁.heap.get? e = some { cls := .ref C, dict := some dx, data := .fields #[.ref t, .none, .none, .none, .bool false, .none] } ∧ E (.ref e) s₁) E s) :
    wpAny M A (raiseStmt env (some x) none) Q E s := by
  unfold raiseStmt
  refine wpAny_bind (wpAny_mono h (fun v s₁ h₁ => ?_) fun _ _ x => x)
  obtain ⟨e, dx, t, rfl, X, he, hE⟩ := h₁
  obtain ⟨_, _, _, c, dd, kf, D, c', dd', lf, newId', mN, mN', hC, _⟩ := X
  have hcB : (Value.ref C :: .ref D :: bmE).contains (.type "BaseException") = true := by simp
  obtain ⟨hp, g, d, tk, os⟩ := s₁
  repeat (first | with_reducible refine wpAny_loadPart_at he ?_ | with_reducible refine wpAny_loadPart_at hC ?_ | (with_reducible refine wpAny_isSubtype_exc hC ?_; rw [hcB]) | wp_step)
  exact wpAny_raiseNew_none hh hE
end

section
variable {prog : Program} {w : World} {A : Around} {E : Value → Shared → Prop} {s : Shared} {env : Env}
theorem Raise_call2 {C I : Addr} {x : Str} {np cp cpos pos : Pos} {k : Nat} {m : Str} {Q : Flow → Shared → Prop} (hh : A.handled = none) (hroom : A.depth + 8 < recursionLimit)
    (h : wpAny (model prog w) A (eval (.Name x np) env) (fun f s₁ => f = .ref C ∧ ExcAt s₁.heap C I (model prog w) ∧ ∀ h' e tk', MadeE s₁.heap h' C e → E (.ref e) { s₁ with heap := h', toks := tk' }) E s) :
    wpAny (model prog w) A (exec (.Raise (some (.Call (.Name x np) [.Constant (.str m) k cp] [] cpos)) none pos) env) Q E s := by
  rw [arm_exec_Raise]
  refine wpAny_bind (wpAny_standAt (raise_made2 (C := C) (I := I) hh (wpAny_bind (wpAny_mono (wpAny_Call_ofName (wpAny_mono h (fun f s₁ h₁ => ?_) fun _ _ x => x))
    (Q := fun v s₁ => ∃ e dx t, v = .ref e ∧ ExcAt s₁.heap C I (model prog w) ∧ s₁.heap.get? e = some { cls := .ref C, dict := some dx, data := .fields #[.ref t, .none, .none, .none, .bool false, .none] } ∧ E (.ref e) s₁)
    (fun v s₂ h₂ => wpAny_bind (wpAny_standAt (wpAny_pure h₂))) fun _ _ x => x))))
  obtain ⟨rfl, X, h₂⟩ := h₁
  unfold callWith
  refine wpAny_bind (wpAny_holding (Calls.evalArgs_plain (Calls.spliced_cons (Calls.Constant_str (k := k) (pos := cp) (Calls.spliced_nil ?_)))))
  refine wpAny_bind (wpAny_standAt ?_)
  obtain ⟨hp, g, d, tk, os⟩ := s₁
  obtain ⟨_, _, _, c, dd, kf, D, c', dd', lf, newId', mN, mN', hC, _⟩ := id X
  refine wpAny_bind (wpAny_keeperOf_exc hC ?_)
  refine wpAny_bind (call_exc2 hroom X fun h' e tk' hm => wpAny_bind (wpAny_holding (wpAny_point (wpAny_pure ?_))))
  obtain ⟨hk, hn, dx, t, he⟩ := id hm
  exact ⟨e, dx, t, rfl, X.keeps hk, he, h₂ h' e tk' hm⟩
end
end Mine
end

section
set_option maxRecDepth 100000
set_option linter.unusedVariables false
set_option genSizeOf false
set_option genInjectivity false
open PySem PySem.W PySem.NumText PyProof.Rows PySem.Builtin
namespace Mine

/-- the raise of the text's own exception, in the frame that raises it -/
theorem raise_ok {KF : Frag} {C I : Addr} (hX : ∀ h M, Base KF h → ExcAt h C I M) (hname : nsIn KF mainGlobals ("SqlError" : Str) = some (some (.ref C))) :
    ∀ (f : Fs) (d : Nat), f.Ok KF d → f.cls = .ref C → ∀ st, raiseOk f.scope .raise st = true → X1 f.cx true .raise st := fun f d K hcls st h => by
  obtain ⟨d, rfl⟩ := Pat.of (P := pRaise f.scope) (andR h)
  have hg := d.1.1.1.2
  intro ρ h tk Q E s H
  obtain ⟨mm, F, V⟩ := s
  obtain ⟨X, p, l, mg, mb, T⟩ := K.base
  obtain ⟨g1, g2, _⟩ := glo_parts hg
  have hb : Base KF h := K.base.keeps F.keep
  refine Raise_call2 (C := C) (I := I) K.room.handled (by have := (K.room.deeper f.env).depth; show (f.A.deeper f.env).depth + 8 < recursionLimit; omega) (name_K F X T hname ?_ K.kind g1 g2)
  refine ⟨rfl, hX h _ hb, fun h' e tk' hm => ?_⟩
  obtain ⟨hk, hn, dx, t, he⟩ := hm
  have H : ∀ e h' tk', f.cx.Rs e h' → E (.ref e) (f.cx.mk' h' tk') := H
  exact H e h' tk' (Or.inr ⟨⟨fun b o q => hk _ _ (F.keep _ _ q), not_some F.keep hn, _, _, _, he, hcls.symm, rfl, rfl, rfl⟩, mm, F.ns.keeps hk⟩)

noncomputable def pArg (s : Str) : Pat Arg := cArg.comp (pp (pEq s) (pp pNone (pAny Pos)))
noncomputable def pInitA : Pat Arguments := cArgs.comp (pp pNil (pp (pTwo (pArg "self") (pArg "message")) (pp pNone (pp pNil (pp pNil (pp pNone pNil))))))
noncomputable def pInitB : Pat (List Stmt) := pOne (pTo (pAttr (pV "self") "message") (pV "message"))
noncomputable def initEq (f : FuncData) : Bool := ((f.name == ("__init__" : Str) && f.qualname == ("PagebaseError.__init__" : Str)) && (f.globals == mainGlobals && f.scope == { kind := .function, names := [("self", .local), ("message", .local)], isGenerator := false, isCoroutine := false })) &&
  ((f.builtins == builtinsNs && f.closure == []) && ((f.defaults == .none && f.kwdefaults == .none) && ((f.annotations == none && f.closureTuple == .none) && f.doc == .none)))
theorem initEq_ok {f : FuncData} {dA : pInitA.D} {dB : pInitB.D} (ha : f.params = pInitA.im dA) (hb : f.body = .stmts (pInitB.im dB)) (h : initEq f = true) : ∃ p : Nat → Pos, f = initFd (p 0) (p 1) (p 2) (p 3) (p 4) (p 5) f.pyModule f.code := by
  have e1 := eq_of_beq (andL (andL (andL h)))
  have e2 := eq_of_beq (andR (andL (andL h)))
  have e3 := eq_of_beq (andL (andR (andL h)))
  have e4 := eq_of_beq (andR (andR (andL h)))
  have e5 := eq_of_beq (andL (andL (andR h)))
  have e6 := eq_of_beq (andR (andL (andR h)))
  have e7 := eq_of_beq (andL (andL (andR (andR h))))
  have e8 := eq_of_beq (andR (andL (andR (andR h))))
  have e9 := eq_of_beq (andL (andL (andR (andR (andR h)))))
  have e10 := eq_of_beq (andR (andL (andR (andR (andR h)))))
  have e11 := eq_of_beq (andR (andR (andR (andR h))))
  refine ⟨fun n => ([dA.2.1.1.2.2, dA.2.1.2.2.2, dB.1.1.2, dB.1.2.2, dB.2.1.2, dB.2.2][n]?).getD dB.2.2, ?_⟩
  show (⟨f.name, f.qualname, f.params, f.body, f.scope, f.globals, f.closure, f.defaults, f.kwdefaults, f.doc, f.pyModule, f.annotations, f.code, f.closureTuple, f.builtins⟩ : FuncData) = _
  rw [e1, e2, ha, hb, e4, e3, e6, e7, e8, e11, e9, e10, e5]
  rfl
noncomputable def pSlots (V : Pat String) : Pat (List (Option Value)) := pCons (pAny _) (pCons (pAny _) (pCons (pAny _) (pCons (pAny _) (pCons (pSome (vBuiltin.comp V)) (pOne (pAny _))))))
noncomputable def clsEq (KF : Frag) (o : Obj) (c : ClassData) (C : Addr) (bm : List Value) : Bool := ((o.cls == .type "type" && c.mro == .ref C :: bm) && (c.hasDict && !c.hasDel)) && ((nsOkIn KF c.ns && nsIn KF c.ns "message" == some none) && nsIn KF c.ns "__setattr__" == some none)
theorem clsEq_ok {KF : Frag} {o : Obj} {c : ClassData} {C : Addr} {bm : List Value} {V : Pat String} {dS : (pSlots V).D} (hd : o.data = .cls c) (hs : o.slots.toList = (pSlots V).im dS) (h : clsEq KF o c C bm = true) :
    ∃ k : Nat → Option Value, o = excClassObj c.name c.qualname C c.ns c.bases bm true c.slotNames c.subclasses c.abstract c.collection o.dict (k 0) (k 1) (k 2) (k 3) (k 4) (V.im dS.2.2.2.2.1) := by
  have e1 := eq_of_beq (andL (andL (andL h)))
  have e2 := eq_of_beq (andR (andL (andL h)))
  have e3 := andL (andR (andL h))
  have e4 := Bool.not_eq_true' _ |>.mp (andR (andR (andL h)))
  obtain ⟨cl, od, da, ⟨l⟩⟩ := o
  cases c
  cases hs; cases hd; cases e1; cases e2; cases e3; cases e4
  exact ⟨fun n => ([dS.1, dS.2.1, dS.2.2.1, dS.2.2.2.1, dS.2.2.2.2.2][n]?).getD none, rfl⟩

noncomputable def initOk (KF : Frag) (I : Addr) : Bool := (KF.lookup I).any fun o => (dFunc.get o.data).any fun f => (bStmts.get f.body).any fun b => (pInitA.m f.params && pInitB.m b) && (initEq f && codeIn KF f.code "PagebaseError.__init__")
noncomputable def twoOk (KF : Frag) (C D I : Addr) : Bool := (KF.lookup C).any fun o => (KF.lookup D).any fun o' => (dCls.get o.data).any fun c => (dCls.get o'.data).any fun c' =>
  ((clsEq KF o c C (.ref D :: bmE) && clsEq KF o' c' D bmE) && ((pSlots (pEq "Exception.__new__")).m o.slots.toList && (pSlots (pAny String)).m o'.slots.toList)) && (nsIn KF c.ns "__init__" == some none && nsIn KF c'.ns "__init__" == some (some (.ref I)))
noncomputable def excChk (KF : Frag) (C D I : Addr) : Bool := (typeIn KF (.ref I) == some (.type "function") && nsIn KF mainGlobals ("SqlError" : Str) == some (some (.ref C))) && (initOk KF I && twoOk KF C D I)

theorem ns_some_of {K : Frag} {h : Heap} {N : Addr} {mg : Str → Option Value} {n : Str} {v : Value} (X : K.In h) (G : h.Ns N mg) (e : nsIn K N n = some (some v)) : mg n = some v := by
  obtain ⟨o, es, ep, ho, hd, _, hf⟩ := G
  unfold nsIn at e
  split at e
  · rename_i c d es' n' sl q
    have := X _ _ q
    rw [ho] at this
    cases this
    cases hd
    split at e
    · rename_i x he
      cases e
      rw [← hf]
      unfold nsFind findBy
      rw [← Array.find?_toList, he]
      rfl
    · split at e <;> cases e
  · cases e
theorem exc_of_chk {KF : Frag} {C D I : Addr} (e : excChk KF C D I = true) : (∀ h M, Base KF h → ExcAt h C I M) ∧ nsIn KF mainGlobals ("SqlError" : Str) = some (some (.ref C)) := by
  have e : ((typeIn KF (.ref I) == some (.type "function") && nsIn KF mainGlobals ("SqlError" : Str) == some (some (.ref C))) && (initOk KF I && twoOk KF C D I)) = true := e
  refine ⟨fun h M ⟨X, p, l, mg, mb, T⟩ => ⟨T.nolimit, fun h' self k => bind_fn (X.keeps k) self (eq_of_beq (andL (andL e))), ?_, ?_⟩, eq_of_beq (andR (andL e))⟩
  · obtain ⟨o, ho, e⟩ := (Option.any_eq_true _ _).mp (andL (andR e))
    obtain ⟨f, hf, e⟩ := (Option.any_eq_true _ _).mp e
    obtain ⟨b, hb, e⟩ := (Option.any_eq_true _ _).mp e
    obtain ⟨dA, hA⟩ := Pat.of (andL (andL e))
    obtain ⟨dB, hB⟩ := Pat.of (andR (andL e))
    obtain ⟨pf, hp⟩ := initEq_ok hA ((bStmts.ok _ _ hb).trans (congrArg FuncBody.stmts hB)) (andL (andR e))
    exact ⟨pf, f.pyModule, f.code, o, X _ _ ho, (dFunc.ok _ _ hf).trans (congrArg Data.func hp), codeRec_of X (andR (andR e))⟩
  · obtain ⟨o, ho, e⟩ := (Option.any_eq_true _ _).mp (andR (andR e))
    obtain ⟨o', ho', e⟩ := (Option.any_eq_true _ _).mp e
    obtain ⟨c, hc, e⟩ := (Option.any_eq_true _ _).mp e
    obtain ⟨c', hc', e⟩ := (Option.any_eq_true _ _).mp e
    obtain ⟨dS, hS⟩ := Pat.of (andL (andR (andL e)))
    obtain ⟨dS', hS'⟩ := Pat.of (andR (andR (andL e)))
    have q := andL (andL (andL e))
    have q' := andR (andL (andL e))
    obtain ⟨k, h1⟩ := clsEq_ok (dCls.ok _ _ hc) hS q
    obtain ⟨k', h2⟩ := clsEq_ok (dCls.ok _ _ hc') hS' q'
    have q := andR q
    have q' := andR q'
    have N1 := Heap.Ns.of_isNs (isNs_of_in X (andL (andL q)))
    have N2 := Heap.Ns.of_isNs (isNs_of_in X (andL (andL q')))
    exact ⟨c, o.dict, k, D, c', o'.dict, k', _, _, _, h1 ▸ X _ _ ho, h2 ▸ X _ _ ho', N1, N2,
      ns_none_of X N1 (eq_of_beq (andR (andL q))), ns_none_of X N2 (eq_of_beq (andR (andL q'))), ns_none_of X N1 (eq_of_beq (andR q)), ns_none_of X N2 (eq_of_beq (andR q')), ns_none_of X N1 (eq_of_beq (andL (andR e))), ns_some_of X N2 (eq_of_beq (andR (andR e)))⟩
end Mine
end

section
set_option maxRecDepth 100000
set_option linter.unusedVariables false
set_option genSizeOf false
set_option genInjectivity false
open PySem
open Sem (wp)
namespace Mine

/-! a judgement for contexts with no decoder in their stack -/
noncomputable def idOk (id : String) : Bool := !Builtin.Bytes.decodersThatHold.contains id && !(["bytearray.__contains__", "bytearray.__mod__", "bytearray.__rmod__", "_struct.pack_into.held", "bytearray.find.held"] : List String).contains id
noncomputable def noDec : Code → Bool
  | .builtin id _ => idOk id
  | _ => true
noncomputable def NdB (Γ : Ctx) : Prop := ∀ x ∈ Γ.below, noDec x.1 = true
noncomputable def Nd (Γ : Ctx) : Prop := noDec Γ.code = true ∧ NdB Γ
/-- never raises -/
noncomputable def wpN {α : Type} (M : Model) (A : Around) (t : Sem α) (Q : α → Shared → Prop) (s : Shared) : Prop :=
  ∀ Γ p, Γ.In A → Nd Γ → wp M Γ t (fun a _ s' => Q a s') (fun _ _ _ => False) p s
noncomputable def codeN (M : Model) (A : Around) (c : Code) (R : Result → Shared → Prop) (s : Shared) : Prop :=
  ∀ Γ p, Γ.code = c → Γ.Below A → NdB Γ → wpCode M Γ R p s

section
variable {α β : Type} {M : Model} {A : Around} {s : Shared}
theorem wpN_of {t : Sem α} {Q : α → Shared → Prop} (h : wpAny M A t Q (fun _ _ => False) s) : wpN M A t Q s := fun Γ p hΓ _ => h Γ p hΓ
theorem wpN_mono {t : Sem α} {Q Q' : α → Shared → Prop} (h : wpN M A t Q s) (hQ : ∀ a s, Q a s → Q' a s) : wpN M A t Q' s :=
  fun Γ p hΓ hN => Sem.wp_mono M Γ t (fun a _ s => hQ a s) (fun _ _ _ e => e) p s (h Γ p hΓ hN)
theorem wpN_bind {m : Sem α} {f : α → Sem β} {Q : β → Shared → Prop} (h : wpN M A m (fun a s' => wpN M A (f a) Q s') s) : wpN M A (m >>= f) Q s := fun Γ p hΓ hN => by
  rw [Sem.wp_bind']
  exact Sem.wp_mono M Γ m (fun a p' s' h' => h' Γ p' hΓ hN) (fun _ _ _ h' => h') p s (h Γ p hΓ hN)
/-- a plain part first -/
theorem wpN_then {m : Sem α} {f : α → Sem β} {Q : β → Shared → Prop} (h : wpAny M A m (fun a s' => wpN M A (f a) Q s') (fun _ _ => False) s) : wpN M A (m >>= f) Q s := wpN_bind (wpN_of h)
theorem wpN_pure {a : α} {Q : α → Shared → Prop} (h : Q a s) : wpN M A (pure a) Q s := wpN_of (wpAny_pure h)
theorem wpN_holding {vs : List Value} {m : Sem α} {Q : α → Shared → Prop} (h : wpN M A m Q s) : wpN M A (holding vs m) Q s := fun Γ p hΓ hN => by rw [Sem.wp_holding]; exact h Γ p hΓ hN
theorem wpN_onRaise {m : Sem α} {k : Value → Sem Unit} {Q : α → Shared → Prop} (h : wpN M A m Q s) : wpN M A (m.onRaise k) Q s := fun Γ p hΓ hN => by
  rw [Sem.wp_onRaise]
  exact Sem.wp_mono M Γ m (fun _ _ _ h' => h') (fun e p' s' h' => h'.elim) p s (h Γ p hΓ hN)
theorem wpN_of_eq {t : Sem α} {a : α} {Q : α → Shared → Prop} (e : t = pure a) (h : Q a s) : wpN M A t Q s := e ▸ wpN_pure h

theorem codeN_of {c : Code} {R : Result → Shared → Prop} (h : codeAny M A c R s) : codeN M A c R s := fun Γ p hc hΓ _ => h Γ p hc hΓ
theorem codeN_of_tree {c : Code} {R : Result → Shared → Prop} (hd : noDec c = true)
    (h : wpN M (A.under c) (M.den c) (fun fin s' => match fin with | .done f => R (.ok f) s' | .again c' => c'.quiet = true ∧ codeN M A c' R s') s) : codeN M A c R s := fun Γ p hc hΓ hN => by
  rw [wpCode_iff_wp, hc]
  refine Sem.wp_mono M Γ _ (fun fin p' s' h' => ?_) (fun _ _ _ h' => h'.elim) p s (h Γ p (hc ▸ hΓ.in) ⟨by rw [hc]; exact hd, hN⟩)
  cases fin with
  | done f => exact h'
  | again c' => exact ⟨h'.1, h'.2 (Γ.goto c') p' rfl (hΓ.goto c') hN⟩
theorem nd_enter {Γ : Ctx} (hN : Nd Γ) (c : Code) (h : Option Value) (p : Pos) : NdB (Γ.enter c h p) := by
  intro x hx
  rcases List.mem_cons.mp hx with rfl | hx
  · exact hN.1
  · exact hN.2 x hx
theorem wpN_runValue {c : Code} {Q : Value → Shared → Prop} (hc : codeN M A c (fun r s' => match r with | .ok (.ret v) => Q v s' | _ => False) s) : wpN M A (runValue c) Q s := fun Γ p hΓ hN => by
  rw [Sem.wp_runValue]
  refine wpCode_mono (fun r s' h => ?_) (hc _ p rfl (hΓ.enter c none p (by intro x; cases x)) (nd_enter hN c none p))
  cases r with
  | ok f => cases f <;> exact h
  | error e => exact h
theorem wpN_call {f : Value} {pos : List Value} {kw : List (Str × Value)} {Q : Value → Shared → Prop} (hc : codeN M A (.call f ⟨pos, kw⟩) (fun r s' => match r with | .ok (.ret v) => Q v s' | _ => False) s) : wpN M A (call f pos kw) Q s := wpN_runValue hc
theorem wpN_run {c : Code} {Q : Flow → Shared → Prop} (hc : codeN M (A.mark none) c (fun r s' => match r with | .ok f => Q f s' | .error _ => False) s) : wpN M A (PySem.run c none) Q s := fun Γ p hΓ hN => by
  rw [Sem.wp_run]
  refine wpCode_mono (fun r s' h => ?_) (hc _ p rfl (hΓ.enter c none p (by intro x; cases x)) (nd_enter hN c none p))
  cases r with
  | ok f => exact h
  | error e => exact h
end

section
variable {prog : Program} {w : World} {A : Around} {s : Shared} {env : Env}

theorem execsN_nil {Q : Flow → Shared → Prop} (h : Q .next s) : wpN (model prog w) A (execs [] env) Q s := wpN_of (wpAny_execs_nil h)
theorem execsN_cons {st : Stmt} {rest : List Stmt} {Q : Flow → Shared → Prop}
    (h : wpN (model prog w) A (exec st env) (fun f s' => match f with | .next => wpN (model prog w) A (execs rest env) Q s' | f => Q f s') s) : wpN (model prog w) A (execs (st :: rest) env) Q s := fun Γ p hΓ hN => by
  rw [execs_cons, Sem.wp_bind']
  refine Sem.wp_mono (model prog w) Γ _ (fun f p' s' h' => ?_) (fun _ _ _ h' => h') _ _ (h Γ p hΓ hN)
  cases f <;> first | exact h' Γ p' hΓ hN | exact h'
theorem execs_append {M : Model} {Γ : Ctx} {xs ys : List Stmt} {Q : Flow → Pos → Shared → Prop} {E : Value → Pos → Shared → Prop} : ∀ {p : Pos} {s : Shared},
    wp M Γ (execs xs env) (fun f p' s' => match f with | .next => wp M Γ (execs ys env) Q E p' s' | f => Q f p' s') E p s → wp M Γ (execs (xs ++ ys) env) Q E p s := by
  induction xs with
  | nil => intro p s h; exact h
  | cons st r ih =>
    intro p s h
    rw [execs_cons, Sem.wp_bind'] at h
    show wp M Γ (execs (st :: (r ++ ys)) env) Q E p s
    rw [execs_cons, Sem.wp_bind']
    refine Sem.wp_mono M Γ _ (fun f p' s' h' => ?_) (fun _ _ _ h' => h') _ _ h
    cases f with
    | next => exact ih h'
    | _ => exact h'
/-- a plain row of statements first -/
theorem execsN_append {xs ys : List Stmt} {Q : Flow → Shared → Prop}
    (h : wpAny (model prog w) A (execs xs env) (fun f s' => match f with | .next => wpN (model prog w) A (execs ys env) Q s' | f => Q f s') (fun _ _ => False) s) : wpN (model prog w) A (execs (xs ++ ys) env) Q s := fun Γ p hΓ hN => by
  refine execs_append (Sem.wp_mono (model prog w) Γ _ (fun f p' s' h' => ?_) (fun _ _ _ h' => h') _ _ (h Γ p hΓ))
  cases f with
  | next => exact h' Γ p' hΓ hN
  | _ => exact h'
theorem ReturnN {e : Expr} {pos : Pos} {Q : Flow → Shared → Prop} (h : wpN (model prog w) A (eval e env) (fun v => Q (.ret v)) s) : wpN (model prog w) A (exec (.Return (some e) pos) env) Q s := by
  rw [exec_Return_some]
  exact wpN_then (wpAny_standAt (wpN_bind (wpN_mono h fun v s' hq => wpN_pure hq)))
theorem IfN {test : Expr} {body els : List Stmt} {pos : Pos} {Q : Flow → Shared → Prop}
    (h : wpN (model prog w) A (isTrue test env (eval test env)) (fun b s₂ => if b then wpN (model prog w) A (execs body env) Q s₂ else wpN (model prog w) A (execs els env) Q s₂) s) : wpN (model prog w) A (exec (.If test body els pos) env) Q s := by
  rw [exec_If]
  refine wpN_then (wpAny_standAt (wpN_bind (wpN_mono h fun b s' hq => ?_)))
  cases b <;> exact hq
theorem ExprN {e : Expr} {pos : Pos} {Q : Flow → Shared → Prop} (hi : interactive env = false) (hs : swapsWith e none pos.line env = pure false)
    (h : wpN (model prog w) A (eval e env) (fun _ s' => Q .next s') s) : wpN (model prog w) A (exec (.Expr e pos) env) Q s := by
  rw [exec_Expr env e pos hi hs]
  refine wpN_then (wpAny_standAt (wpN_bind (wpN_mono h fun v s' hq => ?_)))
  exact wpN_of (wpAny_dropValue hq)

/-! a call of a def -/
theorem funcN {body : List Stmt} {env : Env} {R : Result → Shared → Prop} (h : wpN (model prog w) (A.deeper env) (execs body env) (fun f s' => R (.ok (.ret (match f with | .ret v => v | _ => .none))) s') s) : codeN (model prog w) A (.func body env) R s := by
  refine codeN_of_tree rfl ?_
  show wpN _ (A.deeper env) (do point; match ← (execs body env).onRaise (leaving env) with | .ret v => ret v | _ => ret .none) _ s
  refine wpN_then (wpAny_point (wpN_bind (wpN_onRaise (wpN_mono h fun f s' h' => ?_))))
  cases f <;> exact wpN_pure h'
theorem call_functionN {a : Addr} {args : Args} {o : Obj} {fd : FuncData} {body : List Stmt} {R : Result → Shared → Prop} (hroom : A.depth < recursionLimit) (ho : s.heap.get? a = some o)
    (hd' : o.data = .func fd) (hco : fd.scope.isCoroutine = false) (hgen : fd.scope.isGenerator = false) (hbody : fd.body = .stmts body) (hcd : s.heap.CodeRec fd.code fd.qualname)
    (h : wpAny (model prog w) A.in1 (bindArgs fd args) (fun binds s₁ =>
      wpAny (model prog w) A.in1 (newFunctionEnv fd.scope fd.globals fd.closure binds (fd.qualname ++ ".<locals>.") (some a) fd.code none fd.builtins)
        (fun env s₂ => s₂.heap.NoLimit ∧ codeN (model prog w) A (.func body env) R s₂) (fun _ _ => False) s₁) (fun _ _ => False) s) :
    codeN (model prog w) A (.call (.ref a) args) R s := by
  refine codeN_of_tree rfl ?_
  show wpN _ A.in1 (callAny (.ref a) args) _ s
  refine wpN_of ?_
  simp only [callAny]
  refine wpAny_bind (wpAny_load ho ?_)
  obtain ⟨c, oc, vs, tq, hc, hoc, hdc, hq⟩ := hcd
  simp only [hd', callFunction, hco, hgen, hbody, hc]
  rw [hc] at h
  refine wpAny_bind (m := field (.ref c) 1) (wpAny_field hoc hdc hq (wpAny_bind (wpAny_pure ?_)))
  exact wpAny_bind (wpAny_mono h (fun binds s₁ h₁ => wpAny_bind (wpAny_mono h₁ (fun env s₂ h₂ => wpAny_bind (wpAny_enterFrame h₂.1 hroom
    (wpAny_pure (And.intro rfl h₂.2)))) fun _ _ h' => h'.elim)) fun _ _ h' => h'.elim)

/-! loops -/
theorem loopN {c : Code} {R : Result → Shared → Prop} (hd : noDec c = true) (hq : c.quiet = true) (I : Nat → Shared → Prop)
    (turn : ∀ n s, I n s → wpN (model prog w) (A.under c) ((model prog w).den c)
      (fun fin s' => match fin with
        | .done f => R (.ok f) s'
        | .again c' => (c' = c ∧ ∃ m, m < n ∧ I m s') ∨ (c'.quiet = true ∧ codeN (model prog w) A c' R s')) s)
    (n : Nat) (h : I n s) : codeN (model prog w) A c R s := by
  induction n using Nat.strongRecOn generalizing s with
  | ind n ih =>
    refine codeN_of_tree hd (wpN_mono (turn n s h) fun fin s' hf => ?_)
    cases fin with
    | done f => exact hf
    | again c' =>
      rcases hf with ⟨rfl, m, hm, hI⟩ | hf
      · exact ⟨hq, ih m hm hI⟩
      · exact hf
theorem forLoopN {R : Result → Shared → Prop} {target : Expr} {it : Value} {body : List Stmt} {env : Env} (I : Nat → Shared → Prop)
    (turn : ∀ n s, I n s → wpAny (model prog w) A (pyNext it) (fun r s₁ => match r with
      | none => R (.ok .next) s₁
      | some v => wpAny (model prog w) A (assign target env v) (fun _ s₂ => wpN (model prog w) A (execs body env) (fun f s₃ => match f with
          | .next | .cont => ∃ m, m < n ∧ I m s₃
          | .brk => R (.ok .next) s₃
          | .ret v => R (.ok (.ret v)) s₃) s₂) (fun _ _ => False) s₁) (fun _ _ => False) s)
    (n : Nat) (h : I n s) (ht : ∀ v, letOwnedTupleGo target it v = pure ()) : codeN (model prog w) A (.forLoop target it body [] env) R s := by
  refine loopN rfl rfl I (fun n s hI => ?_) n h
  show wpN _ A ((forTurn target it body [] env).onRaise (fun x => do noteFrame x env; theTreesLotGoes x)) _ s
  refine wpN_onRaise ?_
  simp only [forTurn]
  refine wpN_then (wpAny_standAt (wpN_bind (wpN_onRaise (wpN_of (wpAny_mono (turn n s hI) (fun r s₁ h₁ => ?_) fun _ _ h' => h')))))
  cases r with
  | none => exact wpN_pure (.inr ⟨rfl, codeN_of (codeAny_block (wpAny_execs_nil h₁))⟩)
  | some v =>
    refine wpN_bind (wpN_of_eq (ht v) ?_)
    refine wpN_bind (wpN_of (wpAny_mono h₁ (fun _ s₂ h₂ => wpN_bind (wpN_mono h₂ fun f s₃ h₃ => ?_)) fun _ _ h' => h'))
    cases f with
    | next => exact wpN_pure (.inl ⟨rfl, h₃⟩)
    | cont => exact wpN_pure (.inl ⟨rfl, h₃⟩)
    | brk => exact wpN_pure h₃
    | ret v => exact wpN_pure h₃
theorem ForN {target iter : Expr} {body : List Stmt} {pos : Pos} {Q : Flow → Shared → Prop}
    (h : wpAny (model prog w) A (eval iter env) (fun x s₁ => wpAny (model prog w) A (pyIter x) (fun it s₂ =>
      codeN (model prog w) A (.forLoop target it body [] env) (fun r s' => match r with | .ok f => Q f s' | .error _ => False) s₂) (fun _ _ => False) s₁) (fun _ _ => False) s)
    (hs : ∀ x, foldedSetIterable iter env x = pure x) (hh : A.handled = none) : wpN (model prog w) A (exec (.For target iter body [] pos) env) Q s := by
  rw [exec_For]
  refine wpN_then (wpAny_standAt (wpN_then (wpAny_mono h (fun x s₁ h₁ => wpN_bind (wpN_of_eq (hs x) (wpN_then (wpAny_standAt (wpN_then (wpAny_holding (wpAny_mono h₁ (fun it s₂ h₂ => ?_) fun _ _ e => e))))))) fun _ _ e => e)))
  unfold runOwn
  refine wpN_onRaise (wpN_run ?_)
  exact h₂
end
end Mine
end

section
set_option maxRecDepth 100000
set_option linter.unusedVariables false
set_option genSizeOf false
set_option genInjectivity false
open PySem
open Sem (wp)
open Builtin Builtin.Bytes
namespace Mine
theorem lb_new : typeLookup (.type "bytearray") "__new__" = pure (some (.builtin "bytearray.__new__")) := by rw [typeLookup_type, builtinLookup_eq_fast]; kernel_rfl
theorem mro_ba : mroOf (.type "bytearray") = pure [.type "bytearray", .type "object"] := by rw [mroOf_type]; kernel_rfl
theorem slot_ba_init : Slot "bytearray" "__init__" "bytearray.__init__" :=
  .of (owner := "bytearray") (n := "__init__") (by rw [typeLookup_type, builtinLookup_eq_fast]; kernel_rfl) (by decide +kernel) (by decide +kernel) (by decide +kernel)
    (by first | exact .inl (by decide +kernel) | exact .inr (by decide +kernel)) (by rw [isSubtype_type]; kernel_rfl)
theorem slot_ba_append : Slot "bytearray" "append" "bytearray.append" :=
  .of (owner := "bytearray") (n := "append") (by rw [typeLookup_type, builtinLookup_eq_fast]; kernel_rfl) (by decide +kernel) (by decide +kernel) (by decide +kernel)
    (by first | exact .inl (by decide +kernel) | exact .inr (by decide +kernel)) (by rw [isSubtype_type]; kernel_rfl)
theorem sub_ba : isSubtype (.type "bytearray") (.type "bytearray") = pure true := by rw [isSubtype_type]; kernel_rfl
theorem newCall_ba : checkBuiltinCall "bytearray.__new__" ⟨[.type "bytearray"], []⟩ = pure () := by kernel_rfl
theorem entry_ba_new : entryFor table "bytearray.__new__" = some Builtin.«list.__new__» := entryFor_alias (id' := "list.__new__") (by rw [fastTable_eq_tree]; kernel_rfl) (by first | rfl | decide +kernel) (by decide +kernel) (by rw [fastTable_eq_tree]; kernel_rfl)
theorem entry_ba_init : entryFor table "bytearray.__init__" = some Builtin.«bytearray.__init__» := entryFor_of_tree (by kernel_rfl)
theorem entry_ba_append : entryFor table "bytearray.append" = some Builtin.«bytearray.append» := entryFor_of_tree (by kernel_rfl)
theorem plain_ba_new : plainId "bytearray.__new__" = true := by decide +kernel
theorem plain_ba_init : plainId "bytearray.__init__" = true := by decide +kernel
theorem plain_ba_append : plainId "bytearray.append" = true := by decide +kernel
theorem args_ba_init (a : Value) : argsOk "bytearray.__init__" ⟨[a], []⟩ := by unfold argsOk; kernel_rfl
theorem args_ba_append (a b : Value) : argsOk "bytearray.append" ⟨[a, b], []⟩ := by unfold argsOk; kernel_rfl
set_option maxRecDepth 1000000 in
set_option maxHeartbeats 4000000 in
theorem owner_ba : ("bytearray.__new__".splitOn ".__new__").headD "" = "bytearray" := by simp +decide [String.splitOn, String.splitOnAux]
theorem tcall_eq : Builtin.«type.__call__» ⟨[.type "bytearray"], []⟩ = (holding [.builtin "bytearray.__new__"] (call (.builtin "bytearray.__new__") [.type "bytearray"] []) >>= fun obj =>
    isInstance obj (.type "bytearray") >>= fun b => if (!b) = true then (do rule "type.call.new-gave-other-type"; ret obj) else (holding [obj] (callSpecial? obj "__init__" [] []) >>= fun r => match r with
      | none => ret obj
      | some r => if (r != .none) = true then (do rule "type.call.init-returned-value"; raiseError "TypeError" s!"__init__() should return None, not '{← PySem.typeNameOf r}'"; ret obj) else ret obj)) := by kernel_rfl
theorem init_eq (self : Value) : Builtin.«bytearray.__init__» ⟨[self], []⟩ = (do
  if ← Bytes.ownRelease self then unsupported "bytearray.__init__:own-__release_buffer__-on-a-subclass"
  if ← Bytes.exported self <||> (do return (← Bytes.exportsOf self) > 0) then
    if !(← Bytes.payload self).isEmpty then Bytes.checkResize self
    unsupported "bytearray.__init__:exported"
  Bytes.write self fun _ => #[]
  ret .none) := by kernel_rfl
theorem append_eq (self x : Value) : Builtin.«bytearray.append» ⟨[self, x], []⟩ = (do
  let c ← Bytes.byteValue x
  Bytes.checkResize self
  Bytes.write self (·.push c)
  ret .none) := by kernel_rfl

section
variable {prog : Program} {w : World} {A : Around} {s : Shared}

theorem builtinN {id : String} {args : Args} {b : Builtin} {R : Result → Shared → Prop} (hb : entryFor table id = some b) (hd : noDec (.builtin id args) = true)
    (h : wpN (model prog w) (A.under (.builtin id args)) (b args) (fun fin s' => match fin with | .done f => R (.ok f) s' | .again c' => c'.quiet = true ∧ codeN (model prog w) A c' R s') s) :
    codeN (model prog w) A (.builtin id args) R s := by
  refine codeN_of_tree hd ?_
  show wpN _ _ (match entryFor table id with | some b => b args | none => unsupported ((withoutEnding? id "#data").getD id)) _ s
  rw [hb]; exact h
/-- a call of a slot's builtin -/
theorem call_slotN {T : String} {name : Str} {id : String} {self : Value} {rest : List Value} {B : Builtin} {Q : Value → Shared → Prop} (hT : s.TypeIs self T) (sl : Slot T name id) (hb : entryFor table id = some B) (ha : argsOk id ⟨self :: rest, []⟩)
    (hd : noDec (.builtin id ⟨self :: rest, []⟩) = true)
    (h : wpN (model prog w) (A.under (.builtin id ⟨self :: rest, []⟩)) (B ⟨self :: rest, []⟩) (fun fin s' => ∃ v, fin = .done (.ret v) ∧ Q v s') s) : wpN (model prog w) A (call (.builtin id) (self :: rest) []) Q s := by
  refine wpN_call (codeN_of_tree rfl ?_)
  show wpN _ A.in1 (do checkBuiltinCall id ⟨self :: rest, []⟩; again (.builtin id ⟨self :: rest, []⟩)) _ s
  refine wpN_then (sl.check _ _ _ _ _ _ _ _ hT ha (wpN_pure ⟨plainId_quiet sl.plain _, builtinN hb hd (wpN_mono h fun fin s' h' => ?_)⟩))
  obtain ⟨v, rfl, hq⟩ := h'
  exact hq
theorem callSpecialN {T : String} {name : Str} {id : String} {self : Value} {rest : List Value} {Q : Option Value → Shared → Prop} (hT : s.TypeIs self T) (sl : Slot T name id)
    (h : wpN (model prog w) A (call (.builtin id) (self :: rest) []) (fun v => Q (some v)) s) : wpN (model prog w) A (callSpecial? self name rest []) Q s := by
  simp only [callSpecial?]
  refine wpN_then (wpAny_specialOf hT sl.lookup ?_)
  simp only [sl.bind]
  exact wpN_holding (wpN_bind (wpN_pure (wpN_bind (wpN_mono h fun v s' h' => wpN_pure h'))))

theorem exportedN {self : Value} {Q : Bool → Shared → Prop} (h : Q false s) : wpN (model prog w) A (exported self) Q s := fun Γ p hΓ hN => by
  unfold exported
  show wp _ Γ (Sem.bind stack _) _ _ p s
  unfold stack
  rw [Sem.wp_bind, Sem.wp_stack]
  have e : ∀ {f : Code × Pos → Bool}, (∀ c q, noDec c = true → f (c, q) = false) → List.any ((Γ.code, p) :: Γ.below) f = false := fun {f} hf => by
    refine Bool.eq_false_iff.mpr fun q => ?_
    obtain ⟨⟨c, p'⟩, hm, hq⟩ := List.any_eq_true.mp q
    have hn : noDec c = true := by
      rcases List.mem_cons.mp hm with hm | hm
      · cases hm; exact hN.1
      · exact hN.2 _ hm
    rw [hf c p' hn] at hq
    cases hq
  show Q (List.any ((Γ.code, p) :: Γ.below) _) s
  rw [e]
  · exact h
  · intro c q hn
    cases c with
    | builtin i args =>
      have hn : (!decodersThatHold.contains i && !(["bytearray.__contains__", "bytearray.__mod__", "bytearray.__rmod__", "_struct.pack_into.held", "bytearray.find.held"] : List String).contains i) = true := hn
      have h1 : decodersThatHold.contains i = false := (Bool.not_eq_true' _).mp (Bool.and_eq_true_iff.mp hn).1
      have ne : ∀ x ∈ (["bytearray.__contains__", "bytearray.__mod__", "bytearray.__rmod__", "_struct.pack_into.held", "bytearray.find.held"] : List String), i ≠ x := fun x hx z => by
        have := (Bool.not_eq_true' _).mp (Bool.and_eq_true_iff.mp hn).2
        rw [z, List.contains_iff_mem.mpr hx] at this
        cases this
      delta PySem.Builtin.Bytes.exported.match_1
      refine (dif_neg (ne "bytearray.__contains__" (.head _))).trans ?_
      refine (dif_neg (ne "bytearray.__mod__" (.tail _ (.head _)))).trans ?_
      refine (dif_neg (ne "bytearray.__rmod__" (.tail _ (.tail _ (.head _))))).trans ?_
      refine (dif_neg (ne "_struct.pack_into.held" (.tail _ (.tail _ (.tail _ (.head _)))))).trans ?_
      refine (dif_neg (ne "bytearray.find.held" (.tail _ (.tail _ (.tail _ (.tail _ (.head _))))))).trans ?_
      obtain ⟨pos, kw⟩ := args
      cases pos with
      | nil => rfl
      | cons v r => show (_ && decodersThatHold.contains i) = false; rw [h1, Bool.and_false]
    | _ => rfl
end
end Mine
end

section
set_option maxRecDepth 100000
set_option linter.unusedVariables false
set_option genSizeOf false
set_option genInjectivity false
open PySem
open Sem (wp)
open Builtin Builtin.Bytes
namespace Mine

theorem look_rel : typeLookup (.type "bytearray") "__release_buffer__" = pure (some (.builtin "bytearray.__release_buffer__")) := by rw [typeLookup_type, builtinLookup_eq_fast]; kernel_rfl
theorem ends_rel : ("bytearray.__release_buffer__" : String).endsWith ("." ++ "__release_buffer__") = true := by decide +kernel
theorem drop_rel : ("bytearray.__release_buffer__" : String).dropRight (("__release_buffer__" : String).length + 1) = "bytearray" := by decide +kernel

section
variable {prog : Program} {w : World} {A : Around} {E : Value → Shared → Prop} {s : Shared} {a : Addr} {l : Array UInt8}

/-- a plain bytearray -/
noncomputable def IsBa (h : Heap) (a : Addr) (l : Array UInt8) : Prop := h.get? a = some { cls := .type "bytearray", data := .bytearray l }
theorem IsBa.typeIs (hb : IsBa s.heap a l) : s.TypeIs (.ref a) "bytearray" := ⟨_, hb, rfl⟩
theorem ownRelease_ {Q : Bool → Shared → Prop} (hb : IsBa s.heap a l) (h : Q false s) : wpAny (model prog w) A (ownRelease (.ref a)) Q E s := by
  unfold ownRelease slotIsOwn
  refine wpAny_bind (wpAny_bind (wpAny_specialOf hb.typeIs look_rel ?_))
  dsimp only
  rw [ends_rel, drop_rel]
  refine wpAny_isInstance hb.typeIs sub_ba (wpAny_pure h)
theorem exportsOf_ {Q : Nat → Shared → Prop} (hb : IsBa s.heap a l) (h : Q 0 s) : wpAny (model prog w) A (exportsOf (.ref a)) Q E s := by
  unfold exportsOf
  exact wpAny_bind (wpAny_load hb (wpAny_pure h))
theorem exportsN {Q : Bool → Shared → Prop} (hb : IsBa s.heap a l) (h : Q false s) : wpN (model prog w) A (exported (.ref a) <||> (do return (← exportsOf (.ref a)) > 0)) Q s := by
  refine wpN_bind (exportedN ?_)
  exact wpN_of (wpAny_bind (exportsOf_ hb (wpAny_pure h)))
theorem write_ {f : Array UInt8 → Array UInt8} {Q : Unit → Shared → Prop} (hb : IsBa s.heap a l) (hz : (f l).size ≤ sizeLine) (h : ∀ h', IsBa h' a (f l) → Heap.SameBut a s.heap h' → Q () { s with heap := h' }) : wpAny (model prog w) A (write (.ref a) f) Q E s := by
  show wpAny _ _ (updateBytearray a f) Q E s
  unfold updateBytearray
  refine wpAny_bind (wpAny_load hb ?_)
  have hb' : (s.heap.update a (Obj.mapBytearray f)).get? a = some { cls := .type "bytearray", data := .bytearray (f l) } := Heap.get?_update_self _ hb rfl
  refine wpAny_bind (wpAny_update hb (wpAny_lookBehind hb' ?_ (h _ hb' (Heap.SameBut.update ..))))
  show (if (f l).size > sizeLine then some "bytearray:memory" else none) = none
  rw [if_neg (Nat.not_lt.mpr hz)]

theorem ba_new {Q₁ : Value → Shared → Prop} (h : Q₁ (.ref s.heap.objs.size) { s with heap := s.heap.push { cls := .type "bytearray", data := .bytearray #[] } }) :
    wpAny (model prog w) A (call (.builtin "bytearray.__new__") [.type "bytearray"] []) Q₁ E s := by
  refine wpAny_call (codeAny_of_tree ?_)
  show wpAny _ A.in1 (do checkBuiltinCall "bytearray.__new__" ⟨[.type "bytearray"], []⟩; again (.builtin "bytearray.__new__" ⟨[.type "bytearray"], []⟩)) _ _ s
  refine wpAny_bind (wpAny_of_eq newCall_ba (wpAny_pure ⟨plainId_quiet plain_ba_new _, codeAny_builtin_stack entry_ba_new rfl fun p st => ?_⟩))
  rw [Around.under_plainId plain_ba_new _]
  have hsub := sub_ba
  have hown := owner_ba
  obtain ⟨hp, g, d, tk, os⟩ := s
  simp only [hown]
  wp_walk
  exact h
theorem ba_init {Q : Value → Shared → Prop} (hb : IsBa s.heap a l) (h : ∀ h', IsBa h' a #[] → Heap.SameBut a s.heap h' → Q .none { s with heap := h' }) :
    wpN (model prog w) A (call (.builtin "bytearray.__init__") [.ref a] []) Q s := by
  refine call_slotN hb.typeIs slot_ba_init entry_ba_init (args_ba_init _) (show idOk "bytearray.__init__" = true by decide +kernel) ?_
  rw [init_eq]
  refine wpN_then (ownRelease_ hb ?_)
  rw [if_neg Bool.false_ne_true]
  refine wpN_bind (exportsN hb ?_)
  rw [if_neg Bool.false_ne_true]
  exact wpN_then (write_ hb (Nat.zero_le _) fun h' hb' hs => wpN_pure ⟨_, rfl, h h' hb' hs⟩)
theorem ba_call {Q : Value → Shared → Prop} (h : ∀ h' D, s.heap.get? D = none → IsBa h' D #[] → (∀ b o, s.heap.get? b = some o → h'.get? b = some o) → Q (.ref D) { s with heap := h' }) : wpN (model prog w) A (call (.type "bytearray") [] []) Q s := by
  refine wpN_call (codeN_of_tree rfl ?_)
  show wpN _ _ (callAny (.type "bytearray") ⟨[], []⟩) _ s
  refine wpN_pure ⟨Code.quiet_builtin _ (by decide +kernel), builtinN F.entry_type_call (show idOk "type.__call__" = true by decide +kernel) ?_⟩
  rw [tcall_eq]
  refine wpN_bind (wpN_holding (wpN_of (ba_new ?_)))
  have hb : IsBa (s.heap.push { cls := .type "bytearray", data := .bytearray #[] }) s.heap.objs.size #[] := Heap.get?_push_size _ rfl
  refine wpN_then (wpAny_isInstance (T := "bytearray") ⟨_, hb, rfl⟩ sub_ba ?_)
  rw [if_neg (by decide)]
  refine wpN_bind (wpN_holding (callSpecialN (T := "bytearray") ⟨_, hb, rfl⟩ slot_ba_init (ba_init hb fun h' hb' hs => ?_)))
  dsimp only
  rw [if_neg (by decide)]
  refine wpN_pure ?_
  refine h h' _ (by
    cases q : s.heap.get? s.heap.objs.size with
    | none => rfl
    | some o => exact absurd (Heap.lt_size q) (Nat.lt_irrefl _)) hb' fun b o e => (hs.2 b (Nat.ne_of_lt (Heap.lt_size e))).trans (Heap.get?_push_of_some _ e)

theorem byteValue_ {n : Nat} {t : Tok} {Q : UInt8 → Shared → Prop} (hn : n < 256) (h : Q n.toUInt8 s) : wpAny (model prog w) A (byteValue (.int (n : Int) t)) Q E s := by
  unfold byteValue asIndex
  refine wpAny_bind (wpAny_bind (wpAny_pure (wpAny_pure ?_)))
  have e : (decide ((n : Int) < 0) || decide ((n : Int) ≥ 256)) = false := by
    rw [decide_eq_false (by omega), decide_eq_false (by omega)]; rfl
  simp only [e]
  exact wpAny_pure h
theorem ba_append {n : Nat} {t : Tok} {Q : Value → Shared → Prop} (hb : IsBa s.heap a l) (hn : n < 256) (hz : l.size < 1000) (h : ∀ h', IsBa h' a (l.push n.toUInt8) → Heap.SameBut a s.heap h' → Q .none { s with heap := h' }) :
    wpN (model prog w) A (call (.builtin "bytearray.append") [.ref a, .int (n : Int) t] []) Q s := by
  refine call_slotN hb.typeIs slot_ba_append entry_ba_append (args_ba_append _ _) (show idOk "bytearray.append" = true by decide +kernel) ?_
  rw [append_eq]
  refine wpN_then (byteValue_ hn ?_)
  refine wpN_bind ?_
  unfold checkResize
  refine wpN_bind (exportsN hb ?_)
  rw [if_neg Bool.false_ne_true]
  refine wpN_pure ?_
  exact wpN_then (write_ hb (by rw [Array.size_push]; exact le_line (by omega)) fun h' hb' hs => wpN_pure ⟨_, rfl, h h' hb' hs⟩)
end
end Mine
end

section
set_option maxRecDepth 100000
set_option linter.unusedVariables false
set_option genSizeOf false
set_option genInjectivity false
open PySem
open Sem (wp)
open Builtin Builtin.Bytes
namespace Mine

theorem look_ba_bytes : typeLookup (.type "bytearray") "__bytes__" = pure none := by rw [typeLookup_type, builtinLookup_eq_fast]; kernel_rfl
theorem look_ba_index : typeLookup (.type "bytearray") "__index__" = pure none := by rw [typeLookup_type, builtinLookup_eq_fast]; kernel_rfl
theorem look_ba_buffer : typeLookup (.type "bytearray") "__buffer__" = pure (some (.builtin "bytearray.__buffer__")) := by rw [typeLookup_type, builtinLookup_eq_fast]; kernel_rfl
theorem ends_buf : ("bytearray.__buffer__" : String).endsWith ("." ++ "__buffer__") = true := by decide +kernel
theorem drop_buf : ("bytearray.__buffer__" : String).dropRight (("__buffer__" : String).length + 1) = "bytearray" := by decide +kernel

section
variable {prog : Program} {w : World} {A : Around} {E : Value → Shared → Prop} {s : Shared} {a : Addr} {l : Array UInt8}
theorem slotOwnBuf {Q : Bool → Shared → Prop} (hb : IsBa s.heap a l) (h : Q true s) : wpAny (model prog w) A (slotIsOwn (.ref a) "__buffer__") Q E s := by
  unfold slotIsOwn
  refine wpAny_bind (wpAny_specialOf hb.typeIs look_ba_buffer ?_)
  dsimp only
  rw [ends_buf, drop_buf]
  exact wpAny_isInstance hb.typeIs sub_ba h
set_option maxHeartbeats 1000000 in
theorem bb_new {Q : Value → Shared → Prop} (hb : IsBa s.heap a l) (hz : l.size ≤ sizeLine) (h : Q (.bytes l s.toks) { s with toks := s.toks + 1 }) :
    codeAny (model prog w) A (.call (.builtin "bytes.__new__") ⟨[.type "bytes", .ref a], []⟩) (wants Q E) s := by
  refine codeAny_of_tree ?_
  show wpAny _ A.in1 (do checkBuiltinCall "bytes.__new__" ⟨[.type "bytes", .ref a], []⟩; again (.builtin "bytes.__new__" ⟨[.type "bytes", .ref a], []⟩)) _ _ s
  refine wpAny_bind (wpAny_of_eq (F.bm_newCall _) (wpAny_pure ⟨plainId_quiet F.bm_plain _, codeAny_builtin F.bm_entry ?_⟩))
  rw [Around.under_plainId F.bm_plain _]
  have hT : s.TypeIs (.ref a) "bytearray" := hb.typeIs
  unfold Builtin.«bytes.__new__»
  refine wpAny_bind (wpAny_of_eq (a := true) rfl ?_)
  refine bm_if_false rfl ?_
  refine wpAny_bind (wpAny_of_eq F.bm_sub ?_)
  refine bm_if_false rfl ?_
  refine wpAny_bind (wpAny_of_eq (F.bm_bind _) ?_)
  refine wpAny_bind (wpAny_of_eq (a := ()) rfl ?_)
  refine wpAny_bind (wpAny_of_eq (a := ()) rfl ?_)
  refine bm_if_false rfl ?_
  refine wpAny_bind (wpAny_specialOf hT look_ba_bytes ?_)
  refine wpAny_bind (wpAny_bind ?_)
  show wpAny _ _ (load a >>= _) _ _ _
  refine wpAny_bind (wpAny_load hb ?_)
  dsimp only
  refine wpAny_pure (wpAny_pure ?_)
  refine bm_if_false rfl ?_
  refine wpAny_bind (wpAny_specialOf hT look_ba_index ?_)
  refine bm_if_true rfl ?_
  first
    | show wpAny _ _ (Builtin.Bytes.buffer? "bytes.__new__" (.ref a) true >>= _) _ _ _
    | (refine wpAny_bind ?_; show wpAny _ _ (Builtin.Bytes.buffer? "bytes.__new__" (.ref a) true >>= _) _ _ _)
  refine wpAny_bind ?_
  unfold Builtin.Bytes.buffer?
  refine wpAny_bind (wpAny_specialOf hT look_ba_buffer ?_)
  refine wpAny_bind (slotOwnBuf hb ?_)
  refine bm_if_false rfl ?_
  refine wpAny_bind (wpAny_specialOf hT look_ba_buffer ?_)
  refine wpAny_bind (ownRelease_ hb ?_)
  refine bm_if_false rfl ?_
  unfold payload
  refine wpAny_bind (wpAny_bind ?_)
  show wpAny _ _ (load a >>= _) _ _ _
  refine wpAny_bind (wpAny_load hb (wpAny_pure (wpAny_pure (wpAny_pure ?_))))
  refine wpAny_bind (wpAny_rule ?_)
  refine wpAny_bind (wpAny_mkBytes (hb := hz) ?_)
  refine wpAny_pure ?_
  exact h
theorem call_bytes_ba {Q : Value → Shared → Prop} (hb : IsBa s.heap a l) (hz : l.size ≤ sizeLine) (hQ : Q (.bytes l s.toks) { s with toks := s.toks + 1 }) : wpAny (model prog w) A (call (.type "bytes") [.ref a] []) Q E s := by
  refine callType_codes (Q₁ := fun obj s₁ => s₁.TypeIs obj "bytes" ∧ Q obj s₁) F.bm_called (F.bm_typeCall _) F.entry_object_init
    (bb_new hb hz ⟨PySem.W.typeIs_bytes _ _ _, hQ⟩) fun obj s₁ h₁ => ?_
  exact ⟨h₁.1, F.args_object_init_2 obj _, object_init_meets F.bm_called.init.lookup F.bm_called.made (by decide) prog w A.in1 _ s₁ ⟨h₁.1, rfl, h₁.2⟩⟩
end
end Mine
end

section
set_option maxRecDepth 100000
set_option linter.unusedVariables false
set_option genSizeOf false
set_option genInjectivity false
open PySem
open Sem (wp)
open Builtin Builtin.Bytes
namespace Mine

section
variable {prog : Program} {w : World} {A : Around} {s : Shared} {env : Env}
theorem splicedN_cons {M : Model} {x : Sem Value} {rest : List (Bool × Sem Value)} {Q : List Value → Shared → Prop}
    (h : wpN M A x (fun v s₁ => wpN M A (spliced rest) (fun vs s₂ => Q (v :: vs) s₂) s₁) s) : wpN M A (spliced ((false, x) :: rest)) Q s := by
  rw [spliced]
  refine wpN_bind (wpN_mono h (fun v s₁ h₁ => ?_))
  simp only [Bool.false_eq_true, if_false]
  exact wpN_bind (wpN_pure (wpN_bind (wpN_holding (wpN_mono h₁ fun vs s₂ h₂ => wpN_pure h₂))))
theorem splicedN_nil {M : Model} {Q : List Value → Shared → Prop} (h : Q [] s) : wpN M A (spliced []) Q s := wpN_pure h
theorem evalArgsN {M : Model} {f : Value} {xs : List (Bool × Sem Value)} {Q : Args → Shared → Prop} (hp : xs.any (·.1) = false)
    (h : wpN M A (spliced xs) (fun vs s' => Q ⟨vs, []⟩ s') s) : wpN M A (evalArgs f true xs []) Q s := by
  unfold evalArgs
  have go : ∀ vs s', Q ⟨vs, []⟩ s' → wpN M A (holding (vs ++ ([] : List Value)) (evalAll [] >>= fun l => pure vs >>= fun q => (pure ⟨q, []⟩ : Sem Args))) Q s' := fun vs s' h' =>
    wpN_holding (wpN_bind (wpN_pure (wpN_bind (wpN_pure (wpN_pure h')))))
  cases xs with
  | nil => exact wpN_bind (wpN_mono h fun vs s' h' => wpN_bind (wpN_pure (go vs s' h')))
  | cons x r =>
    obtain ⟨b, x⟩ := x
    cases b with
    | false => exact wpN_bind (wpN_mono h fun vs s' h' => wpN_bind (wpN_pure (go vs s' h')))
    | true => simp at hp
theorem callWithN_builtin {M : Model} {pos : Pos} {id : String} {first : List Value} {args : List (Bool × Sem Value)} {Q : Value → Shared → Prop} (hplain : args.any (·.1) = false)
    (h : wpN M A (spliced args) (fun vs s₁ => wpN M A (call (.builtin id) (first ++ vs) []) Q s₁) s) :
    wpN M A (callWith pos (.builtin id) first args []) Q s := by
  unfold callWith
  refine wpN_bind (wpN_holding (evalArgsN hplain (wpN_mono h (fun a s₁ h₁ => wpN_then (wpAny_standAt ?_)))))
  simp only [hplain, List.any_nil, Bool.or_false]
  refine wpN_bind (wpN_pure ?_)
  exact wpN_bind (wpN_mono h₁ (fun r s₂ hr => wpN_then (wpAny_holding (wpAny_point (wpN_pure hr)))))
theorem callWithN_type {M : Model} {pos : Pos} {T : String} {first : List Value} {args : List (Bool × Sem Value)} {Q : Value → Shared → Prop} (hplain : args.any (·.1) = false)
    (h : wpN M A (spliced args) (fun vs s₁ => wpN M A (call (.type T) (first ++ vs) []) Q s₁) s) :
    wpN M A (callWith pos (.type T) first args []) Q s := by
  unfold callWith
  refine wpN_bind (wpN_holding (evalArgsN hplain (wpN_mono h (fun a s₁ h₁ => wpN_then (wpAny_standAt ?_)))))
  simp only [hplain, List.any_nil, Bool.or_false]
  refine wpN_bind (wpN_pure ?_)
  exact wpN_bind (wpN_mono h₁ (fun r s₂ hr => wpN_then (wpAny_holding (wpAny_point (wpN_pure hr)))))
theorem keepN {α : Type} {M : Model} {vs : List Value} {m : Sem α} {Q : α → Shared → Prop} (h : wpN M A m Q s) : wpN M A (m.keep vs) Q s :=
  fun Γ p hΓ hN => by rw [Sem.wp_keep]; exact h Γ p hΓ hN
theorem callWithN_function {M : Model} {pos : Pos} {a : Addr} {o : Obj} {fd : FuncData} {args : List (Bool × Sem Value)} {Q : Value → Shared → Prop} (hplain : args.any (·.1) = false)
    (h : wpN M A (spliced args) (fun vs s₁ => (s₁.heap.get? a = some o ∧ o.data = .func fd) ∧ wpN M A (call (.ref a) vs []) Q s₁) s) :
    wpN M A (callWith pos (.ref a) [] args []) Q s := by
  unfold callWith
  refine wpN_bind (wpN_holding (evalArgsN hplain (wpN_mono h (fun x s₁ h₁ => wpN_then (wpAny_standAt ?_)))))
  have tail : ∀ {t : Sem Value}, wpN M A t Q s₁ → wpN M A (t >>= fun r => holding [r] point >>= fun _ => pure r) Q s₁ :=
    fun ht => wpN_bind (wpN_mono ht (fun r s₂ hr => wpN_then (wpAny_holding (wpAny_point (wpN_pure hr)))))
  simp only [hplain, List.any_nil, Bool.or_false]
  refine wpN_then (m := keeperOf (.ref a)) ?_
  unfold keeperOf
  refine wpAny_bind (wpAny_load h₁.1.1 ?_)
  rw [h₁.1.2]
  refine wpAny_pure ?_
  dsimp only
  split
  · exact tail h₁.2
  · exact tail (by unfold callMarked; exact keepN h₁.2)
theorem CallNameN {M : Model} {id : Str} {p pos : Pos} {args : List Expr} {Q : Value → Shared → Prop}
    (h : wpAny M A (eval (.Name id p) env) (fun f s₁ => wpN M A (callWith pos f [] (backTo pos (starEach args env)) []) Q s₁) (fun _ _ => False) s) :
    wpN M A (eval (.Call (.Name id p) args [] pos) env) Q s := by
  show wpN M A (do callWith pos (← eval (.Name id p) env) [] (backTo pos (starEach args env)) (backToKw pos (keywordEach [] env))) Q s
  exact wpN_then h
theorem AssignNameN {x : Str} {px pos : Pos} {value : Expr} {Q : Flow → Shared → Prop}
    (h : wpN (model prog w) A (eval value env) (fun v s₁ => wpAny (model prog w) A (storeName env x v) (fun _ => Q .next) (fun _ _ => False) s₁) s) (hs : swapsWith value (some (.Name x px)) pos.line env = pure false) :
    wpN (model prog w) A (exec (.Assign [.Name x px] value pos) env) Q s := fun Γ p hΓ hN => by
  simp only [exec_Assign_Name env x px value pos hs, Sem.wp_bind', Sem.wp_cmd_standAt, Sem.wp_bindName, Sem.wp_pure']
  exact Sem.wp_mono _ Γ _ (fun v _ s₁ h₁ => h₁ Γ _ hΓ) (fun _ _ _ h' => h') _ _ (h Γ _ hΓ hN)
theorem CallMethodN {o : Expr} {name : Str} {apos pos : Pos} {args : List Expr} {T id : String} {Q : Value → Shared → Prop}
    (hbase : attributeBase o name env (eval o env) = eval o env)
    (hfew : ((backTo pos (starEach args env)).all (fun x => !x.1) && (backToKw pos (keywordEach [] env)).all (fun x => x.1.isSome)
      && decide (args.length + ([] : List Keyword).length + (if ([] : List Keyword).isEmpty then 0 else 1) < 30)) = true)
    (hline : (apos.endLine == pos.line) = true)
    (pa : PlainAttrs T) (slot : Slot T name id) (hty : typeOf (.builtin id) = pure (.type "method_descriptor"))
    (h : wpAny (model prog w) A (eval o env) (fun ov s₁ => s₁.TypeIs ov T ∧ (∀ a, ov = .ref a → ∃ ob, s₁.heap.get? a = some ob ∧ ob.dict = none) ∧
      wpN (model prog w) A (callWith pos (.builtin id) [ov] (backTo pos (starEach args env)) []) Q s₁) (fun _ _ => False) s) :
    wpN (model prog w) A (eval (.Call (.Attribute o name apos) args [] pos) env) Q s := by
  rw [arm_eval_Call, hbase]
  refine wpN_then (wpAny_mono h (fun ov s₁ h₁ => ?_) fun _ _ e => e)
  obtain ⟨hT, hd, hc⟩ := h₁
  refine wpN_then (wpAny_standAt ?_)
  have hform : methodCallForm (args.length + ([] : List Keyword).length) (backTo pos (starEach args env)) (backToKw pos (keywordEach [] env)) = true := hfew
  have hpos : methodCallPos true o env apos pos = pure pos := by unfold methodCallPos; simp [hline]
  unfold methodCall
  rw [hform]
  refine wpN_then (wpAny_holding (getMethod_builtin hT pa slot hty hd ?_))
  exact wpN_then (wpAny_of_eq hpos hc)
theorem call_plainN {R : Result → Shared → Prop} {name : Str} {params : Arguments} {body : List Stmt} {scope : Scope}
    {pm cd doc : Value} {a : Addr} {o : Obj} {args : List Value} {binds : List (Str × Value)}
    (hroom : A.depth < recursionLimit) (ho : s.heap.get? a = some o) (hdata : o.data = .func (Calls.docDef name params body scope pm cd doc)) (hlim : s.heap.NoLimit) (hcd : s.heap.CodeRec cd name)
    (hbind : bindArgs (Calls.docDef name params body scope pm cd doc) ⟨args, []⟩ = pure binds)
    (hloc : ∀ x ∈ binds, scope.names.lookup x.1 = some .local)
    (h : ∀ h₁, PyProof.Rows.Fr s.heap s.heap.objs.size h₁ (fun x => binds.reverse.lookup x) →
      wpN (model prog w) (A.deeper (PyProof.Rows.envOf name scope s.heap.objs.size a cd)) (execs body (PyProof.Rows.envOf name scope s.heap.objs.size a cd))
        (fun f s' => R (.ok (.ret (match f with | .ret v => v | _ => .none))) s')
        { s with heap := h₁, toks := s.toks + binds.length })
    (hco : scope.isCoroutine = false) (hgen : scope.isGenerator = false) (hk : scope.kind = .function)
    (hcell : ∀ x ∈ scope.names, x.2 ≠ .cell) :
    codeN (model prog w) A (.call (.ref a) ⟨args, []⟩) R s := by
  refine call_functionN hroom ho hdata hco hgen rfl hcd ?_
  rw [hbind]
  refine wpAny_pure (wpAny_newFunctionEnv hcell hloc (fun h₁ hns hsb => ⟨hlim.fresh _ hsb, ?_⟩) hk)
  show codeN _ _ (.func body (PyProof.Rows.envOf name scope s.heap.objs.size a cd)) _ _
  exact funcN (h h₁ ⟨hns, fun b o e => hsb.extBut b o (Nat.ne_of_lt (Heap.lt_size e)) (Heap.get?_push_of_some _ e), Nat.le_refl _⟩)
end
end Mine
end

section
set_option maxRecDepth 100000
set_option linter.unusedVariables false
set_option genSizeOf false
set_option genInjectivity false
open PySem PySem.W PySem.NumText PyProof.Rows PySem.Builtin
namespace Mine

section
variable {prog : Program} {w : World} {KF : Frag} {addr : Nat → Addr} {cls : Value} {Φ : Nat → List V → Res V} {d : Nat}

/-- what a def gives back, with no decoder about -/
noncomputable def CallN (prog : Program) (w : World) (KF : Frag) (a : Addr) (d : Nat) (xs : List V) (r : V) : Prop :=
  ∀ A outer B S h tk gens dr os vs Q, Room A d → Below A B outer h → Base KF h → (∀ a, h.get? a = none → S a) → RelL S h vs xs → (∀ v h' tk', Keeps h h' → Rel S h' v r → Q v ⟨h', gens, dr, tk', os⟩) →
    wpN (model prog w) A (call (.ref a) vs) Q ⟨h, gens, dr, tk, os⟩
theorem CallN.of {f : Nat} {xs : List V} {r : V} (hc : CallOk prog w KF addr cls Φ d) (e : Φ f xs = .ok r) : CallN prog w KF (addr f) d xs r := by
  intro A outer B S h tk gens dr os vs Q room below base newS rel hQ
  refine wpN_of (hc A outer B S h tk gens dr os f vs xs Q (fun _ _ => False) room below base newS rel ?_)
  rw [e]
  exact hQ
/-- a body, with no decoder about -/
noncomputable def BodyN (f : Fs) (body : List Stmt) (ρ : List V) (r : V) : Prop := ∀ h₁ tk Q, f.cx.St h₁ ρ → (∀ u h' tk', (∃ ρ', f.cx.St h' ρ') → Rel f.cx.S h' u r → Q (.ret u) (f.cx.mk' h' tk')) →
  wpN f.cx.M f.cx.A (execs body f.env) Q (f.cx.mk' h₁ tk)

theorem call_fnN (gl : Gl KF addr) (hc : CallOk prog w KF addr cls Φ d) {a : Addr} {F : Fn} {name : Str} {params : Arguments} {body : List Stmt} {scope : Scope} {pm cd doc : Value} (fo : FnIs KF a F name params body scope pm cd doc) (h1 : 1 ≤ F.np)
    {xs : List V} {r : V} (hlen : xs.length = F.np) (hap : F.ap = true → xs.all isAt = true)
    (hb : ∀ f : Fs, f.Ok KF d → f.nm = F.names.map mkS → f.scope = scope → f.Φ = Φ → f.cls = cls → f.addr = addr → f.prog = prog → f.w = w → (F.ap = true → ∀ b, f.S b → f.h₀.get? b = none) → BodyN f body (xs ++ undefs (F.nl - F.np)) r) :
    CallN prog w KF a (d + 1) xs r := by
  intro A outer B S h tk gens dr os vs Q room below base newS rel hQ
  obtain ⟨X, p, l, mg, mb, T⟩ := id base
  obtain ⟨o, ho, hd⟩ := fo.obj
  have hps : ((F.names.take F.np).map mkS).length = F.np := by rw [List.length_map, List.length_take]; exact Nat.min_eq_left fo.nl
  have hvs : vs.length = F.np := (relL_len rel).trans hlen
  have hdis : distinct ((F.names.take F.np).map mkS) = true := by rw [List.map_take]; exact distinct_take fo.nodup
  have hbind := binds_of (name := name) (body := body) (scope := scope) (pm := pm) (cd := cd) (doc := doc) fo.pars hdis (vs := vs) (by rw [hps, hvs]) (by rw [hps]; exact fo.np) (by rw [hps]; exact h1)
  refine wpN_call (call_plainN (by have := room.depth; omega) (X _ _ ho) hd T.nolimit (codeRec_of X fo.code) hbind (fun x hx => ?_) (fun h₁ F₁ => ?_) fo.co fo.gen fo.kind fo.cells)
  · have hm : x.1 ∈ F.names.map mkS := by
      have := (List.of_mem_zip hx).1
      rw [List.map_take] at this
      exact List.mem_of_mem_take this
    exact eq_of_beq (List.all_eq_true.mp fo.locals _ hm)
  · let f : Fs := ⟨prog, w, A, name, scope, h.objs.size, a, cd, F.names.map mkS, fun b => S b ∧ (F.ap = true → h.get? b = none), B, outer, h, Φ, addr, cls, gens, dr, os⟩
    have K : f.Ok KF d := { room := room, below := below, base := base, gl := gl, call := hc, kind := fo.kind, locals := fo.locals, nodup := fo.nodup, newS := fun a n => ⟨newS a n, fun _ => n⟩ }
    have st : f.cx.St h₁ (xs ++ undefs (F.nl - F.np)) := by
      refine ⟨_, F₁, fun i x e => ?_⟩
      by_cases hi : i < F.np
      · have hi' : i < xs.length := by omega
        rw [lkV_left hi']
        obtain ⟨v, hv, rv⟩ := relL_get rel hi'
        refine Or.inr ⟨v, ?_, ?_⟩
        · refine pairs_lookup hdis ?_ hv (by rw [hps, hvs])
          rw [List.map_take]
          exact lkF_take e hi
        · cases hq : F.ap with
          | false =>
            refine (rv.mono (S' := fun b => (S b ∧ (F.ap = true → h.get? b = none)) ∧ b ≠ h.objs.size) fun b hb' sb => ?_).keeps F₁.keep
            obtain ⟨ob, hob⟩ := hb'
            exact ⟨⟨sb, fun z => by rw [hq] at z; cases z⟩, Nat.ne_of_lt (Heap.lt_size hob)⟩
          | true => exact (rv.isAt (lkV_all (hap hq) hi')).keeps F₁.keep
      · exact Or.inl (lkV_undefs (by omega))
    refine hb f K rfl rfl rfl rfl rfl rfl rfl (fun q b sb => sb.2 q) _ _ _ st fun u h' tk' st' rel' => ?_
    obtain ⟨ρ', m, F', _⟩ := st'
    exact hQ u h' tk' F'.keep (rel'.mono fun b _ sb => sb.1.1)
end
end Mine
end

section
set_option maxRecDepth 100000
set_option linter.unusedVariables false
set_option genSizeOf false
set_option genInjectivity false
open PySem PySem.W PySem.NumText PyProof.Rows PySem.Builtin
namespace Mine

theorem pa_ba : PlainAttrs "bytearray" := ⟨⟨"bytearray.__getattribute__", by rw [typeLookup_type, builtinLookup_eq_fast]; kernel_rfl, by decide +kernel⟩, by rw [typeLookup_type, builtinLookup_eq_fast]; kernel_rfl⟩
theorem ty_ba_append : typeOf (.builtin "bytearray.append") = pure (.type "method_descriptor") := by kernel_rfl
theorem boot_ba : bootBuiltins ("bytearray" : Str) = some (.type "bytearray") := by kernel_rfl
theorem boot_bytes : bootBuiltins ("bytes" : Str) = some (.type "bytes") := by kernel_rfl

theorem appendN {f : Fs} {KF : Frag} {d : Nat} (K : f.Ok KF d) (hown : ∀ b, f.S b → f.h₀.get? b = none) {i : Nat} {a : PE} {x attr : Str} {e : Expr} {np ap p2 pos : Pos} (ha : attr = ("append" : Str)) (hl : (ap.endLine == p2.line) = true)
    (hx : nth f.nm i x = true) (hd : (!(x == ("__debug__" : Str))) = true) (hs : notStar e = true) (ih : ES f.cx a e)
    {ρ : List V} {h : Heap} {tk : Nat} {Q : Flow → Shared → Prop} {l : List Nat} {c : Nat} (s : f.cx.St h ρ) (hlst : lkV ρ i = .barr l) (ho : onlyOne i ρ = true) (hn : l.length < 1000) (he : evalE f.Φ a ρ = .ok (.at (.int c))) (hc : c < 256)
    (hQ : ∀ h' tk', f.cx.St h' (setV ρ i (.barr (l ++ [c]))) → FK f.cx true h h' → Q .next (f.cx.mk' h' tk')) :
    wpN f.cx.M f.cx.A (exec (.Expr (.Call (.Attribute (.Name x np) attr ap) [e] [] p2) pos) f.env) Q (f.cx.mk' h tk) := by
  subst ha
  refine ExprN (interactive_no K.kind) rfl ?_
  obtain ⟨m, F, V⟩ := s
  rcases V i x (nth_eq hx) with z | ⟨v, hv, r⟩
  · rw [hlst] at z; cases z
  rw [hlst] at r
  obtain ⟨D, rfl, hS, ⟨oD, hoD, hclD, heD, hdD⟩, hlen, hall⟩ := r
  refine CallMethodN (T := "bytearray") (base_of (v := .Name x np) rfl _ _ _) (by rw [starEach_of hs]; rfl) hl pa_ba slot_ba_append ty_ba_append (wpAny_Name (wpAny_loadName_local K.kind (K.kindOf (nth_eq hx)) F.ns hv ?_) (by simpa using hd))
  refine ⟨⟨oD, hoD, hclD⟩, fun a' ea => ?_, ?_⟩
  · cases ea
    exact ⟨oD, hoD, by rw [heD]⟩
  refine callWithN_builtin (by rw [starEach_of hs]; rfl) ?_
  rw [starEach_of hs]
  refine splicedN_cons (wpN_of (ih ρ h tk _ (fun _ _ => False) ⟨m, F, V⟩ ?_))
  rw [show evalE f.cx.Φ a ρ = .ok (.at (.int c)) from he]
  intro w h₁ tk₁ g r
  have g : Keeps h h₁ := g
  obtain ⟨t, rfl⟩ := r
  refine splicedN_nil ?_
  have F₁ : Fr f.h₀ f.L h₁ m := ⟨F.ns.keeps g, fun b o e => g b o (F.keep b o e), F.above⟩
  have V₁ := V.keeps g
  have hB : IsBa h₁ D (l.map UInt8.ofNat).toArray := by
    have := g _ _ hoD
    rw [heD] at this
    exact this
  refine ba_append (s := f.cx.mk' h₁ tk₁) hB hc (by simpa using hn) fun h' hB' hs' => ?_
  refine hQ h' tk₁ ⟨m, ⟨F₁.ns.sameBut hs' (Ne.symm hS.2), fun b o eb => (hs'.2 b fun z => ?_).trans (F₁.keep b o eb), F.above⟩, fun j x' e' => ?_⟩ fun b o sb eb q => ?_
  · subst z
    rw [hown b hS.1] at eb
    cases eb
  · by_cases hj : j = i
    · subst hj
      rw [nth_eq hx] at e'
      cases e'
      rcases lkV_set (ρ := ρ) (i := j) (v := .barr (l ++ [c])) with z | z
      · rw [z]
        refine Or.inr ⟨_, hv, D, rfl, hS, ⟨_, hB', rfl, ?_, ?_⟩, by simp; omega, ?_⟩
        · simp [Nat.toUInt8]
        · simp [Nat.toUInt8]
        · rw [List.all_append, hall]
          simp [Nat.blt_eq, hc]
      · exact Or.inl z
    · rw [lkV_set_ne hj]
      rcases V₁ j x' e' with z | ⟨v', hv', r'⟩
      · exact Or.inl z
      · refine Or.inr ⟨v', hv', ?_⟩
        rcases onlyOne_flat ho hj with z | z
        · rw [z] at r'; exact r'.elim
        · cases hq : lkV ρ j with
          | undef => rw [hq] at r'; exact r'
          | «at» q => rw [hq] at r'; exact r'
          | tup q =>
            rw [hq] at r'
            obtain ⟨t, ts, rfl, hSt, ⟨ot, hot, hct, nt, hdt⟩, hRt⟩ := r'
            refine ⟨t, ts, rfl, hSt, ⟨ot, (hs'.2 t fun z => ?_).trans hot, hct, nt, hdt⟩, hRt⟩
            subst z
            rw [show h₁.get? t = _ from hB] at hot
            cases hot
            injection hct with hct
            exact absurd hct (by decide)
          | lst q => rw [hq] at z; cases z
          | lz q => rw [hq] at z; cases z
          | barr q => rw [hq] at z; cases z
  · rcases q with ⟨vs', q⟩ | q
    · refine (hs'.2 b fun z => ?_).trans (g b o eb)
      subst z
      rw [hoD] at eb
      cases eb
      rw [heD] at q
      cases q
    · cases q
end Mine
end

section
set_option maxRecDepth 100000
set_option linter.unusedVariables false
set_option genSizeOf false
set_option genInjectivity false
open PySem PySem.W PySem.NumText PyProof.Rows PySem.Builtin
namespace Mine

/-- the shape of utf8's body -/
noncomputable def pL (nm : List Str) (i : Nat) : Pat Expr := pNm (pIs fun x => nth nm i x && okName x)
noncomputable def utf8Pat (nm : List Str) (sc : Scope) : Pat (List Stmt) := pThree
  (pTo (pI nm 1) (pCallN (pBi sc "bytearray") pNil))
  (pFor (pI nm 2) (pL nm 0) (pTwo (pTo (pI nm 3) (pIs fun e => notComp e && chk sc nm noTold (.ord (.loc 2)) e)) (sIf.comp (pp (pIs (chk sc nm noTold (.cmp .lt (.loc 3) (.const (.int 128))))) (pp (pOne (pApp nm 1 (chk sc nm noTold (.loc 3)))) (pP (pAny (List Stmt))))))))
  (pRet (pCallN (pBi sc "bytes") (pOne (pL nm 1))))
noncomputable def utf8Chk (nm : List Str) (sc : Scope) : List Stmt → Bool := (utf8Pat nm sc).m

theorem utf8_core {f : Fs} {KF : Frag} {d : Nat} (K : f.Ok KF d) (hown : ∀ b, f.S b → f.h₀.get? b = none) {f1 x t cn f2 f3 : Str} {oe test ee : Expr} {els : List Stmt} {q1 q2 q3 q4 q5 q6 q7 q8 q9 ap p2 q10 q11 q12 q13 q14 q15 q16 : Pos} (e1 : nth f.nm 1 f1 = true) (e3 : glo f.scope ("bytearray" : Str) = true) (e4 : nth f.nm 2 x = true) (e5 : nth f.nm 0 t = true) (e5' : okName t = true)
    (e6 : nth f.nm 3 cn = true) (e7 : notComp oe = true) (e8 : chk f.scope f.nm noTold (.ord (.loc 2)) oe = true) (e9 : chk f.scope f.nm noTold (.cmp .lt (.loc 3) (.const (.int 128))) test = true) (e11 : (ap.endLine == p2.line) = true) (e12 : nth f.nm 1 f2 = true) (e12' : okName f2 = true) (e13 : notStar ee = true) (e14 : chk f.scope f.nm noTold (.loc 3) ee = true)
    (e16 : glo f.scope ("bytes" : Str) = true) (e17 : nth f.nm 1 f3 = true) (e17' : okName f3 = true) {l : List Nat} (hA : ascii l = true) (hn : l.length ≤ 1000) :
    BodyN f [.Assign [.Name f1 q1] (.Call (.Name ("bytearray" : Str) q2) [] [] q3) q4, .For (.Name x q5) (.Name t q6) [.Assign [.Name cn q7] oe q8, .If test [.Expr (.Call (.Attribute (.Name f2 q9) ("append" : Str) ap) [ee] [] p2) q10] els q11] [] q12, .Return (some (.Call (.Name ("bytes" : Str) q13) [.Name f3 q14] [] q15)) q16]
      [.at (.str l), .undef, .undef, .undef] (.at (.bytes l)) := by
  have hT : ∀ p e, noTold p e = true → ES f.cx (.told p) e ∧ TS f.cx (.told p) e := fun p e z => nomatch z
  have EA := es_all K.cx hT
  intro h tk Q st hQ
  -- found = bytearray()
  refine execsN_cons (AssignNameN (CallNameN (K.cx.bi st boot_ba e3 (by simp) _ _ _ _ ?_)) rfl)
  refine callWithN_type rfl (splicedN_nil (ba_call fun h₁ D hD hB k₁ => ?_))
  have g₁ : Keeps h h₁ := k₁
  have st₁ := K.cx.st g₁ st
  have hSD : f.cx.S D := K.cx.newS st hD
  refine K.sok.store st₁ (nth_eq e1) (q := .barr []) ⟨D, rfl, hSD, ⟨_, hB, rfl, rfl, rfl⟩, Nat.zero_le _, rfl⟩ fun h₂ tk₂ st₂ ks₂ => ?_
  -- the loop
  have st₂ : f.cx.St h₂ [.at (.str l), .barr [], .undef, .undef] := st₂
  obtain ⟨v, r, kv⟩ := K.cx.loc (i := 0) st₂ rfl (by intro z; cases z) (nth_eq e5) e5'
  obtain ⟨tx, rfl, _⟩ := r
  refine execsN_cons (ForN (kv _ _ _ _ ?_) (fun _ => rfl) K.cx.handled)
  refine wpAny_pyIter_ascii ?_ ?_
  · show (mkS l).cps.all (· < 128) = true
    simp only [mkS, List.all_toArray]
    exact List.all_eq_true.mpr fun c hc => decide_eq_true (Nat.le_of_ble_eq_true (List.all_eq_true.mp hA c hc))
  have hP := K.sok.newP st₂
  have g₃ : Keeps h₂ (h₂.push { cls := .type "str_ascii_iterator", data := .fields #[.str (mkS l) tx, .int 0 0] }) := Keeps.push _ _
  have it := it_str K.sok hP l tx
  refine forLoopN (fun n s => ∃ i h tk y z, s = f.cx.mk' h tk ∧ n = l.length - i ∧ i ≤ l.length ∧ f.cx.St h [.at (.str l), .barr (l.take i), y, z] ∧ flat y = true ∧ flat z = true ∧
    (∃ j, h.IsStrIter h₂.objs.size "str_ascii_iterator" (mkS l) tx j ∧ (l.drop i).map (fun c => V.at (.str [c])) = (l.drop j).map fun c => V.at (.str [c]))) ?_ l.length
    ⟨0, _, _, .undef, .undef, rfl, by simp, Nat.zero_le _, K.cx.st g₃ st₂, rfl, rfl, 0, ⟨_, Heap.get?_push_size _ rfl, rfl, rfl⟩, rfl⟩ (fun _ => rfl)
  rintro n s ⟨i, h', tk', y, z, rfl, rfl, hi, st', hy, hz, hit⟩
  cases hd : l.drop i with
  | nil =>
    have hil : i = l.length := by
      have : l.length ≤ i := by simpa using hd
      omega
    rw [hd] at hit
    refine it.stop hit fun h₄ hb => ?_
    have st₄ := K.sok.poke st' hP (it.fields hit) hb
    show wpN _ _ (execs _ f.env) _ _
    -- return bytes(found)
    rw [hil, List.take_length] at st₄
    refine execsN_cons (ReturnN (CallNameN (K.cx.bi st₄ boot_bytes e16 (by simp) _ _ _ _ ?_)))
    obtain ⟨v, r, kv⟩ := K.cx.loc (i := 1) st₄ rfl (by intro z; cases z) (nth_eq e17) e17'
    obtain ⟨D', rfl, hS', ⟨oD, hoD, _, heD, _⟩, hlen, hall⟩ := r
    refine callWithN_type rfl (splicedN_cons (wpN_of (kv _ _ _ _ (splicedN_nil (wpN_of (call_bytes_ba (a := D') (l := (l.map UInt8.ofNat).toArray) ?_ ?_ ?_))))))
    · rw [heD] at hoD; exact hoD
    · simpa using le_line hn
    · exact hQ _ h₄ _ ⟨_, st₄⟩ ⟨_, rfl, hn, hall⟩
  | cons c rest =>
    have hil : i < l.length := by
      rcases Nat.lt_or_ge i l.length with q | q
      · exact q
      · rw [List.drop_eq_nil_of_le q] at hd; cases hd
    obtain ⟨ec, er⟩ := drop_get hd
    have hc : c < 128 := Nat.le_of_ble_eq_true (List.all_eq_true.mp hA c (List.mem_of_getElem? ec))
    rw [hd] at hit
    refine it.next hit fun v h₄ tk₄ rel hit₄ hb => ?_
    have st₄ := K.sok.poke st' hP (it.fields hit) hb
    refine assign_Name (K.sok.store st₄ (nth_eq e4) rel fun h₅ tk₅ st₅ ks₅ => ?_)
    have st₅ : f.cx.St h₅ [.at (.str l), .barr (l.take i), .at (.str [c]), z] := st₅
    have hit₅ := it.kept hit₄ (FK.of ks₅)
    -- code = ord(sign)
    have x1 := x1_assign K.sok (px := q7) (pos := q8) e6 e7 (EA _ _ e8).1
    refine execsN_cons (wpN_of (x1 _ _ _ _ _ st₅ ?_))
    intro h₆ tk₆ st₆ fk₆
    have st₆ : f.cx.St h₆ [.at (.str l), .barr (l.take i), .at (.str [c]), .at (.int c)] := st₆
    have hit₆ := it.kept hit₅ fk₆
    refine execsN_cons (IfN (wpN_of ((EA _ _ e9).2 _ _ _ _ _ st₆ ?_)))
    have ht : ((evalE f.cx.Φ (.cmp .lt (.loc 3) (.const (.int 128))) [.at (.str l), .barr (l.take i), .at (.str [c]), .at (.int c)]).bind truthy) = .ok true := by
      show (Res.ok (V.at (A.bool (decide ((c : Int) < 128))))).bind truthy = _
      rw [decide_eq_true (by omega)]; rfl
    rw [ht]
    intro h₇ tk₇ g₇
    rw [if_pos rfl]
    have st₇ := K.cx.st g₇ st₆
    have hit₇ := it.kept hit₆ (K.cx.fk g₇)
    refine execsN_cons (appendN K hown (a := .loc 3) rfl e11 e12 e12' e13 (EA _ _ e14).1 (c := c) st₇ rfl (by simp [onlyOne, flat]) (by rw [List.length_take]; omega) rfl (by omega) fun h₈ tk₈ st₈ fk₈ => ?_)
    refine execsN_nil ?_
    refine execsN_nil ?_
    refine ⟨_, ?_, i + 1, h₈, tk₈, .at (.str [c]), .at (.int c), rfl, rfl, hil, ?_, rfl, rfl, ?_⟩
    · omega
    · rw [List.take_add_one, ec]
      exact st₈
    · have : l.drop (i + 1) = rest := by rw [← List.tail_drop, hd]; rfl
      rw [this]
      exact it.kept hit₇ fk₈
theorem utf8_body {f : Fs} {KF : Frag} {dd : Nat} (K : f.Ok KF dd) (hown : ∀ b, f.S b → f.h₀.get? b = none) {body : List Stmt} (e : utf8Chk f.nm f.scope body = true) {l : List Nat} (hA : ascii l = true) (hn : l.length ≤ 1000) :
    BodyN f body [.at (.str l), .undef, .undef, .undef] (.at (.bytes l)) := by
  obtain ⟨d, rfl⟩ := Pat.of e
  exact utf8_core K hown d.1.1.1.2 d.1.2.1.1.1.2 d.2.1.1.1.2 (andL d.2.1.2.1.1.2) (andR d.2.1.2.1.1.2) d.2.1.2.2.1.1.1.1.2 (andL d.2.1.2.2.1.1.2.1.2) (andR d.2.1.2.2.1.1.2.1.2) d.2.1.2.2.1.2.1.2 d.2.1.2.2.1.2.2.1.1.2 (andL d.2.1.2.2.1.2.2.1.1.1.1.1.1.2) (andR d.2.1.2.2.1.2.2.1.1.1.1.1.1.2) (andL d.2.1.2.2.1.2.2.1.1.1.2.1.2) (andR d.2.1.2.2.1.2.2.1.1.1.2.1.2) d.2.2.1.1.1.2 (andL d.2.2.1.2.1.1.2) (andR d.2.2.1.2.1.1.2) hA hn
end Mine
end

section
set_option maxRecDepth 100000
set_option linter.unusedVariables false
set_option genSizeOf false
set_option genInjectivity false
open PySem PySem.W PySem.NumText PyProof.Rows PySem.Builtin
namespace Mine

theorem callN_in {f : Fs} {KF : Frag} {d : Nat} (K : f.Ok KF d) {a : Addr} {vs : List Value} {xs : List V} {r : V} {h : Heap} {tk : Nat} {ρ : List V} {Q : Value → Shared → Prop} (hN : CallN f.prog f.w KF a d xs r) (st : f.cx.St h ρ) (rel : RelL f.cx.S h vs xs)
    (hQ : ∀ v h' tk', Keeps h h' → Rel f.cx.S h' v r → Q v (f.cx.mk' h' tk')) : wpN f.cx.M f.cx.A (call (.ref a) vs) Q (f.cx.mk' h tk) := by
  obtain ⟨m, F, V⟩ := st
  refine hN (f.A.deeper f.env) (f.env :: f.outer) f.B (fun b => f.S b ∧ b ≠ f.L) h tk f.gens f.dr f.os vs Q (K.room.deeper _) (K.below.push F K.kind) (K.base.keeps F.keep) (fun a n => ?_) rel hQ
  exact ⟨K.newS a (not_some F.keep n), fun z => by
    obtain ⟨o, _, _, ho, _⟩ := F.ns
    rw [z, ho] at n; cases n⟩
theorem retCall1N {f : Fs} {KF : Frag} {d : Nat} (K : f.Ok KF d) {j : Nat} {g : Str} {arg : Expr} {a : PE} {gp cp rp : Pos} (hg : nth fnames j g = true) (hgl : glo f.scope g = true) (hs : notStar arg = true) (ih : ES f.cx a arg)
    {ρ : List V} {h : Heap} {tk : Nat} {Q : Flow → Shared → Prop} {x r : V} (st : f.cx.St h ρ) (he : evalE f.Φ a ρ = .ok x) (hN : CallN f.prog f.w KF (f.addr j) d [x] r)
    (hQ : ∀ u h' tk', (∃ ρ', f.cx.St h' ρ') → Rel f.cx.S h' u r → Q (.ret u) (f.cx.mk' h' tk')) : wpN f.cx.M f.cx.A (execs [.Return (some (.Call (.Name g gp) [arg] [] cp)) rp] f.env) Q (f.cx.mk' h tk) := by
  obtain ⟨⟨o, fd, ho, hd⟩, kf⟩ := K.cx.fn st (nth_eq hg) hgl
  refine execsN_cons (ReturnN (CallNameN (kf _ _ _ _ (callWithN_function (o := o) (fd := fd) (by rw [starEach_of hs]; rfl) ?_))))
  rw [starEach_of hs]
  refine splicedN_cons (wpN_of (ih ρ h tk _ (fun _ _ => False) st ?_))
  rw [show evalE f.cx.Φ a ρ = .ok x from he]
  intro v h₁ tk₁ g₁ r₁
  have g₁ : Keeps h h₁ := g₁
  refine splicedN_nil ⟨⟨g₁ _ _ ho, hd⟩, ?_⟩
  have st₁ := K.cx.st g₁ st
  exact callN_in K hN st₁ ⟨r₁, trivial⟩ fun u h' tk' k r' => hQ u h' tk' ⟨ρ, K.cx.st k st₁⟩ r'

section
variable {prog : Program} {w : World} {KF : Frag} {addr : Nat → Addr} {cls : Value} {Φ : Nat → List V → Res V} {dd : Nat}
theorem utf8_call (gl : Gl KF addr) (hc : CallOk prog w KF addr cls Φ dd) {a : Addr} (e : fnHead KF a f_utf8 (fun sc b => utf8Chk (f_utf8.names.map mkS) sc b) = true) {l : List Nat} (hA : ascii l = true) (hn : l.length ≤ 1000) :
    CallN prog w KF a (dd + 1) [.at (.str l)] (.at (.bytes l)) := by
  obtain ⟨name, params, body, scope, pm, cd, doc, fo, h1, hp⟩ := head_of_chk e
  refine call_fnN gl hc fo h1 rfl (fun _ => rfl) fun f K e1 e2 e3 e4 e5 e6 e7 hown => ?_
  exact utf8_body K (hown rfl) (by rw [e1, e2]; exact hp) hA hn

/-- as_blob's body -/
noncomputable def pBlob : PS := .ite (.or (.isNone (.loc 0)) (.isinst .bytes (.loc 0))) (.seq (.ret (.loc 0)) .skip) .skip
noncomputable def pTail (nm : List Str) (sc : Scope) (j : Nat) (a : PE) : Pat (List Stmt) := pOne (pRet (pCallN (pFn sc j) (pOne (pN (chk sc nm noTold a)))))
noncomputable def blobPat (nm : List Str) (sc : Scope) : Pat (List Stmt) := pCons (pIs (chk1 sc nm noTold (fun _ _ => false) false pBlob)) (pTail nm sc 0 (.call1 9 (.loc 0)))
noncomputable def asBlobChk (nm : List Str) (sc : Scope) : List Stmt → Bool := (blobPat nm sc).m
/-- the value and its text, as the evaluator tells them -/
noncomputable def blobOfV (Φ : Nat → List V → Res V) : A → Res V
  | .none => .ok (.at .none)
  | .bytes l => .ok (.at (.bytes l))
  | a => (Φ 9 [.at a]).bind fun v => match v with
    | .at (.str l) => (match ascii l && Nat.ble l.length 1000 with | true => .ok (.at (.bytes l)) | false => .fail)
    | _ => .fail
theorem execsN_last {C : Cx} {st : Stmt} {rest : List Stmt} {p : PS} {full : Bool} (h1 : X1 C full p st) {ρ ρ' : List V} {h : Heap} {tk : Nat} {Q : Flow → Shared → Prop} (s : C.St h ρ) (he : execP C.Φ p ρ = .ok (.next ρ'))
    (hQ : ∀ h' tk', C.St h' ρ' → FK C full h h' → wpN C.M C.A (execs rest C.env) Q (C.mk' h' tk')) : wpN C.M C.A (execs (st :: rest) C.env) Q (C.mk' h tk) := by
  refine execsN_cons (wpN_of (h1 ρ h tk _ (fun _ _ => False) s ?_))
  rw [he]
  exact hQ
theorem execsN_ret {C : Cx} {st : Stmt} {rest : List Stmt} {p : PS} {full : Bool} (h1 : X1 C full p st) {ρ : List V} {v : V} {h : Heap} {tk : Nat} {Q : Flow → Shared → Prop} (s : C.St h ρ) (he : execP C.Φ p ρ = .ok (.ret v))
    (hQ : ∀ u h' tk', (∃ ρ', C.St h' ρ') → FK C full h h' → Rel C.S h' u v → Q (.ret u) (C.mk' h' tk')) : wpN C.M C.A (execs (st :: rest) C.env) Q (C.mk' h tk) := by
  refine execsN_cons (wpN_of (h1 ρ h tk _ (fun _ _ => False) s ?_))
  rw [he]
  exact hQ

theorem asBlob_call (gl : Gl KF addr) (hc : CallOk prog w KF addr cls Φ dd) {a : Addr} (e : fnHead KF a f_as_blob (fun sc b => asBlobChk (f_as_blob.names.map mkS) sc b) = true) {x : A} {r : V} (hr : blobOfV Φ x = .ok r)
    (hU : ∀ l, ascii l = true → l.length ≤ 1000 → CallN prog w KF (addr 0) dd [.at (.str l)] (.at (.bytes l))) :
    CallN prog w KF a (dd + 1) [.at x] r := by
  obtain ⟨name, params, body, scope, pm, cd, doc, fo, h1, hp⟩ := head_of_chk e
  refine call_fnN gl hc fo h1 rfl (fun _ => rfl) fun f K e1 e2 e3 e4 e5 e6 e7 hown => ?_
  subst e2
  rw [← e1] at hp
  obtain ⟨d, rfl⟩ := Pat.of hp
  have hT : ∀ p e, noTold p e = true → ES f.cx (.told p) e ∧ TS f.cx (.told p) e := fun p e z => nomatch z
  have X := (xs_all K.sok (tl := noTold) (sp := fun _ _ => false) (dl := false) (fun z => nomatch z) (fun _ => rfl) hT (fun p st h => nomatch h) pBlob).1 _ d.1.2
  intro h tk Q st hQ
  have st : f.cx.St h [.at x] := st
  by_cases hx : x = .none ∨ ∃ l, x = .bytes l
  · have hev : execP f.cx.Φ pBlob [.at x] = .ok (.ret (.at x)) := by rcases hx with rfl | ⟨l, rfl⟩ <;> rfl
    have hrr : r = .at x := by rcases hx with rfl | ⟨l, rfl⟩ <;> (cases hr; rfl)
    subst hrr
    exact execsN_ret X st hev fun u h' tk' st' _ r' => hQ u h' tk' st' r'
  · have hev : execP f.cx.Φ pBlob [.at x] = .ok (.next [.at x]) := by
      cases x with
      | none => exact absurd (Or.inl rfl) hx
      | bytes l => exact absurd (Or.inr ⟨l, rfl⟩) hx
      | bool b => rfl
      | int i => rfl
      | str l => rfl
    refine execsN_last X st hev fun h' tk' st' _ => ?_
    have hr' : ((Φ 9 [.at x]).bind fun v => match v with
      | .at (.str l) => (match ascii l && Nat.ble l.length 1000 with | true => .ok (.at (.bytes l)) | false => .fail)
      | _ => .fail) = .ok r := by
      cases x with
      | none => exact absurd (Or.inl rfl) hx
      | bytes l => exact absurd (Or.inr ⟨l, rfl⟩) hx
      | bool b => exact hr
      | int i => exact hr
      | str l => exact hr
    cases q : Φ 9 [.at x] with
    | ok v =>
      rw [q] at hr'
      dsimp only [Res.bind] at hr'
      split at hr'
      · rename_i l
        split at hr'
        · rename_i hq
          cases hr'
          obtain ⟨qa, qn⟩ := Bool.and_eq_true_iff.mp hq
          refine retCall1N K (andL d.2.1.1.1.2) (andR d.2.1.1.1.2) (andL d.2.1.2.1.2) ((es_all K.cx hT) _ _ (andR d.2.1.2.1.2)).1 st' (x := .at (.str l)) ?_ (by rw [e5, e6, e7]; exact hU l qa (Nat.le_of_ble_eq_true qn)) hQ
          show (Res.ok (V.at x)).bind (fun v => f.Φ 9 [v]) = _
          rw [e3]
          exact q
        · cases hr'
      · cases hr'
    | raise => rw [q] at hr'; cases hr'
    | fail => rw [q] at hr'; cases hr'

/-- cast_value's body, for 'blob' -/
noncomputable def pCast1 : PS := .ite (.isNone (.loc 0)) (.seq (.ret (.const A.none)) .skip) .skip
noncomputable def pCast2 : PS := .ite (.cmp .eq (.loc 1) (.const (A.str [116, 101, 120, 116]))) (.seq .fail .skip) .skip
noncomputable def castPat (nm : List Str) (sc : Scope) : Pat (List Stmt) := pCons (pIs (chk1 sc nm noTold (fun _ _ => false) false pCast1)) (pCons (pIs (chk1 sc nm noTold (fun _ _ => false) false pCast2))
  (pTwo (sIf.comp (pp (pIs (chk sc nm noTold (.cmp .eq (.loc 1) (.const (A.str [98, 108, 111, 98]))))) (pp (pTail nm sc 10 (.loc 0)) (pP (pAny (List Stmt)))))) (pAny Stmt)))
noncomputable def castChk (nm : List Str) (sc : Scope) : List Stmt → Bool := (castPat nm sc).m
theorem cast_call (gl : Gl KF addr) (hc : CallOk prog w KF addr cls Φ dd) {a : Addr} (e : fnHead KF a f_cast_value (fun sc b => castChk (f_cast_value.names.map mkS) sc b) = true) {x : A} {r : V}
    (hr : x = .none → r = .at .none) (hU : x ≠ .none → CallN prog w KF (addr 10) dd [.at x] r) :
    CallN prog w KF a (dd + 1) [.at x, .at (.str [98, 108, 111, 98])] r := by
  obtain ⟨name, params, body, scope, pm, cd, doc, fo, h1, hp⟩ := head_of_chk e
  refine call_fnN gl hc fo h1 rfl (fun z => nomatch z) fun f K e1 e2 e3 e4 e5 e6 e7 hown => ?_
  subst e2
  rw [← e1] at hp
  obtain ⟨d, rfl⟩ := Pat.of hp
  have hT : ∀ p e, noTold p e = true → ES f.cx (.told p) e ∧ TS f.cx (.told p) e := fun p e z => nomatch z
  have X := fun p => (xs_all K.sok (tl := noTold) (sp := fun _ _ => false) (dl := false) (fun z => nomatch z) (fun _ => rfl) hT (fun p st h => nomatch h) p).1
  intro h tk Q st hQ
  have st : f.cx.St h [.at x, .at (.str [98, 108, 111, 98])] := st
  by_cases hx : x = .none
  · subst hx
    rw [hr rfl] at hQ
    exact execsN_ret (X _ _ d.1.2) st (v := .at .none) rfl fun u h' tk' st' _ r' => hQ u h' tk' st' r'
  · refine execsN_last (X _ _ d.1.2) st (ρ' := [.at x, .at (.str [98, 108, 111, 98])]) (by cases x <;> first | exact absurd rfl hx | rfl) fun h' tk' st' _ => ?_
    refine execsN_last (X _ _ d.2.1.2) st' (ρ' := [.at x, .at (.str [98, 108, 111, 98])]) (by cases x <;> rfl) fun h₂ tk₂ st₂ _ => ?_
    refine execsN_cons (IfN (wpN_of (((es_all K.cx hT) _ _ d.2.2.1.1.2).2 _ _ _ _ _ st₂ ?_)))
    have ht : ((evalE f.cx.Φ (.cmp .eq (.loc 1) (.const (A.str [98, 108, 111, 98]))) [.at x, .at (.str [98, 108, 111, 98])]).bind truthy) = .ok true := by cases x <;> rfl
    rw [ht]
    intro h₃ tk₃ g₃
    rw [if_pos rfl]
    refine wpN_mono (retCall1N K (andL d.2.2.1.2.1.1.1.1.2) (andR d.2.2.1.2.1.1.1.1.2) (andL d.2.2.1.2.1.1.2.1.2) ((es_all K.cx hT) _ _ (andR d.2.2.1.2.1.1.2.1.2)).1 (K.cx.st g₃ st₂) (x := .at x) rfl (by rw [e5, e6, e7]; exact hU hx) (Q := fun fl s => ∃ u, fl = .ret u ∧ Q (.ret u) s) fun u h' tk' a b => ⟨u, rfl, hQ u h' tk' a b⟩) ?_
    rintro fl s ⟨u, rfl, h⟩
    exact h
end
end Mine
end

section
set_option maxRecDepth 100000
set_option linter.unusedVariables false
set_option genSizeOf false
set_option genInjectivity false
open PySem PySem.W PySem.NumText PyProof.Rows PySem.Builtin
namespace Mine

/-! frames of the law's own defs -/
noncomputable def FrsAt (h : Heap) (l : List Env) : Prop := ∀ env ∈ l, env.scope.kind ≠ .module ∧ ∃ L o, env.frame = some L ∧ h.get? L = some o ∧ ∀ vs, o.data ≠ .fields vs
noncomputable def wobOf (l : List Env) : List Addr := l.filterMap (·.frame)
theorem mem_wob {l : List Env} {env : Env} {L : Addr} (he : env ∈ l) (hf : env.frame = some L) : L ∈ wobOf l := List.mem_filterMap.mpr ⟨env, he, hf⟩
theorem funFrames_of {h B : Heap} : ∀ {l : List Env}, FrsAt h l → (∀ L ∈ wobOf l, B.get? L = none) → h.FunFrames B l
  | [], _, _ => trivial
  | env :: r, F, hn => by
    obtain ⟨hk, L, o, hf, ho, hd⟩ := F env (.head _)
    exact ⟨hk, ⟨L, o, hf, hn L (mem_wob (.head _) hf), ho, hd⟩, funFrames_of (fun e he => F e (.tail _ he)) fun L' hL => hn L' (by
      obtain ⟨e, he, q⟩ := List.mem_filterMap.mp hL
      exact mem_wob (.tail _ he) q)⟩
theorem below_hide {A : Around} {h : Heap} {l : List Env} (hf : A.frames = some l) (F : FrsAt h l) : Below A (hideAll h (wobOf l)) l h :=
  ⟨hf, fun b o e => of_hideAll _ e, funFrames_of F fun L hL => hideAll_none _ hL⟩
theorem FrsAt.keeps {h h' : Heap} {l : List Env} (k : Keeps h h') (F : FrsAt h l) : FrsAt h' l := fun e he =>
  let ⟨hk, L, o, hf, ho, hd⟩ := F e he
  ⟨hk, L, o, hf, k _ _ ho, hd⟩

noncomputable def VarsX (S : Addr → Prop) (env : Env) (nm : List Str) (m : Str → Option Value) (h : Heap) (ρ : List V) : Prop :=
  ∀ i x, lkF nm i = some x → (env.kindOf x = some .local ∧ (lkV ρ i = .undef ∨ ∃ v, m x = some v ∧ Rel S h v (lkV ρ i))) ∨
    (env.kindOf x = some .cell ∧ ∃ c v₀, env.cells.lookup x = some c ∧ h.IsCell c v₀ ∧ (lkV ρ i = .undef ∨ ∃ v, v₀ = some v ∧ Rel S h v (lkV ρ i)))

/-- a segment of a body -/
structure Sg where
  prog : Program
  w : World
  A : Around
  name : Str
  scope : Scope
  L : Addr
  a : Addr
  cd : Value
  cells : List (Str × Addr)
  nm : List Str
  S : Addr → Prop
  hS : Heap
  outer : List Env
  Φ : Nat → List V → Res V
  addr : Nat → Addr
  cls : Value
  gens : Array GenState
  dr : Drawn
  os : OsState
noncomputable abbrev Sg.env (f : Sg) : Env := envX f.name f.scope f.L f.a f.cd f.cells
noncomputable def Sg.own (f : Sg) (b : Addr) : Prop := b = f.L ∨ b ∈ f.cells.map (·.2)
noncomputable abbrev Sg.S' (f : Sg) (b : Addr) : Prop := f.S b ∧ ¬ f.own b
noncomputable abbrev Sg.cx (f : Sg) : Cx where
  prog := f.prog
  w := f.w
  A := f.A.deeper f.env
  env := f.env
  nm := f.nm
  S := f.S'
  Go := Keeps
  St := fun h ρ => ∃ m, h.Ns f.L m ∧ (∀ b o, ¬ f.own b → f.hS.get? b = some o → h.get? b = some o) ∧ (∀ p ∈ f.cells, ∃ v, h.IsCell p.2 v) ∧ VarsX f.S' f.env f.nm m h ρ
  Rs := fun _ _ => True
  Φ := f.Φ
  addr := f.addr
  gens := f.gens
  d := f.dr
  os := f.os
structure Sg.Ok (f : Sg) (KF : Frag) (g : Heap) (d : Nat) : Prop where
  room : Room f.A (d + 1)
  fr : f.A.frames = some f.outer
  frs : FrsAt f.hS f.outer
  apart : ∀ env ∈ f.outer, ∀ L, env.frame = some L → ¬ f.own L
  base : Base KF g
  sub : ∀ b o, g.get? b = some o → f.hS.get? b = some o ∧ ¬ f.own b
  above : g.objs.size ≤ f.L
  gl : Gl KF f.addr
  call : CallOk f.prog f.w KF f.addr f.cls f.Φ d
  kind : f.scope.kind = .function
  nodup : distinct f.nm = true
  newS : ∀ a, f.hS.get? a = none → f.S a
  cne : ∀ p ∈ f.cells, p.2 ≠ f.L
  inj : f.cells.Pairwise fun x y => x.2 ≠ y.2

section
variable {f : Sg} {KF : Frag} {g : Heap} {d : Nat} {h : Heap} {ρ : List V}
theorem VarsX.keeps {S : Addr → Prop} {env : Env} {nm : List Str} {m : Str → Option Value} {h h' : Heap} {ρ : List V} (k : Keeps h h') (x : VarsX S env nm m h ρ) : VarsX S env nm m h' ρ := fun i y e => by
  rcases x i y e with ⟨hk, q⟩ | ⟨hk, c, v₀, hc, hv, q⟩
  · refine Or.inl ⟨hk, ?_⟩
    rcases q with q | ⟨v, hv, r⟩
    · exact Or.inl q
    · exact Or.inr ⟨v, hv, r.keeps k⟩
  · refine Or.inr ⟨hk, c, v₀, hc, hv.keeps k, ?_⟩
    rcases q with q | ⟨v, hv, r⟩
    · exact Or.inl q
    · exact Or.inr ⟨v, hv, r.keeps k⟩
theorem Sg.Ok.frG (K : f.Ok KF g d) {m : Str → Option Value} (hn : h.Ns f.L m) (hk : ∀ b o, ¬ f.own b → f.hS.get? b = some o → h.get? b = some o) : Fr g f.L h m :=
  ⟨hn, fun b o e => hk b o (K.sub b o e).2 (K.sub b o e).1, K.above⟩
theorem Sg.Ok.frsAt (K : f.Ok KF g d) (st : f.cx.St h ρ) : FrsAt h (f.env :: f.outer) := fun e he => by
  obtain ⟨m, hn, hk, hc, V⟩ := st
  rcases List.mem_cons.mp he with rfl | he
  · obtain ⟨o, es, ep, ho, hd, _⟩ := hn
    exact ⟨(by show f.scope.kind ≠ .module; rw [K.kind]; exact ScopeKind.noConfusion), f.L, o, rfl, ho, fun vs q => by rw [hd] at q; cases q⟩
  · obtain ⟨hkd, L, o, hf, ho, hd⟩ := K.frs e he
    exact ⟨hkd, L, o, hf, hk _ _ (K.apart e he L hf) ho, hd⟩
theorem Sg.Ok.below (K : f.Ok KF g d) (st : f.cx.St h ρ) : Below (f.A.deeper f.env) (hideAll h (wobOf (f.env :: f.outer))) (f.env :: f.outer) h :=
  below_hide (Around.frames_deeper K.fr) (K.frsAt st)
theorem Sg.Ok.fresh (K : f.Ok KF g d) (st : f.cx.St h ρ) {a : Addr} (n : h.get? a = none) : f.S' a := by
  obtain ⟨m, hn, hk, hc, V⟩ := st
  have ho : ¬ f.own a := fun q => by
    rcases q with rfl | q
    · obtain ⟨o, _, _, ho, _⟩ := hn
      rw [ho] at n; cases n
    · obtain ⟨p, hp, rfl⟩ := List.mem_map.mp q
      obtain ⟨v, o, ho, _⟩ := hc p hp
      rw [ho] at n; cases n
  refine ⟨K.newS a ?_, ho⟩
  cases q : f.hS.get? a with
  | none => rfl
  | some o => rw [hk a o ho q] at n; cases n
theorem Sg.Ok.base' (K : f.Ok KF g d) (st : f.cx.St h ρ) : Base KF h := by
  obtain ⟨m, hn, hk, hc, V⟩ := st
  exact K.base.keeps fun b o e => hk b o (K.sub b o e).2 (K.sub b o e).1

theorem Sg.Ok.cx (K : f.Ok KF g d) : f.cx.Ok where
  handled := K.room.handled
  units := by have := (K.room.deeper f.env).units; show (f.A.deeper f.env).units + 16 < cLine; omega
  depth := by have := (K.room.deeper f.env).depth; show (f.A.deeper f.env).depth + 16 < recursionLimit; omega
  keeps := fun k => k
  trans := Keeps.trans
  st := fun {h h' ρ} k ⟨m, hn, hk, hc, V⟩ => ⟨m, hn.keeps k, fun b o n e => k b o (hk b o n e), fun p hp => (hc p hp).imp fun v x => x.keeps k, V.keeps k⟩
  own := fun g _ e => g _ _ e
  fill := fun {h h₁ h₂ a} g n s b o e => (s.2 b fun z => by subst z; rw [e] at n; cases n).trans (g b o e)
  newS := fun {h ρ a} st n => K.fresh st n
  loc := fun {h ρ i x y} ⟨m, hn, hk, hc, V⟩ e ne ex hd => by
    rcases V i x ex with ⟨hl, q⟩ | ⟨hl, c, v₀, hcl, hcv, q⟩
    · rcases q with z | ⟨v, hv, r⟩
      · exact absurd (e.symm.trans z) ne
      · exact ⟨v, e ▸ r, fun pos Q E tk hq => wpAny_Name (wpAny_loadName_local K.kind hl hn hv hq) (by simpa using hd)⟩
    · rcases q with z | ⟨v, hv, r⟩
      · exact absurd (e.symm.trans z) ne
      · subst hv
        exact ⟨v, e ▸ r, fun pos Q E tk hq => wpAny_Name (wpAny_loadName_cell K.kind hl hcl hcv hq) (by simpa using hd)⟩
  glob := fun {h ρ j x} ⟨m, hn, hk, hc, V⟩ ex gg => by
    obtain ⟨v, hv, r⟩ := K.gl.glob j x ex
    obtain ⟨X, p, l, mg, mb, T⟩ := K.base
    obtain ⟨g1, g2, _⟩ := glo_parts gg
    exact ⟨v, r, fun pos Q E tk hq => nameX_K (K.frG hn hk) X T hv hq K.kind g1 g2⟩
  fn := fun {h ρ j x} ⟨m, hn, hk, hc, V⟩ ex gg => by
    obtain ⟨hv, o, fd, ho, hd⟩ := K.gl.fn j x ex
    obtain ⟨X, p, l, mg, mb, T⟩ := K.base
    obtain ⟨g1, g2, _⟩ := glo_parts gg
    exact ⟨⟨o, fd, (K.frG hn hk).keep _ _ (X _ _ ho), hd⟩, fun pos Q E tk hq => nameX_K (K.frG hn hk) X T hv hq K.kind g1 g2⟩
  bi := fun {h ρ x v} ⟨m, hn, hk, hc, V⟩ hb gg hm pos Q E tk hq => by
    obtain ⟨X, p, l, mg, mb, T⟩ := K.base
    obtain ⟨g1, g2, g3⟩ := glo_parts gg
    exact nameX_B (K.frG hn hk) X T (K.gl.bi x hm) hb (by intro z; rw [z] at g3; cases g3) hq K.kind g1 g2
  call := fun {h ρ j vs xs Q E tk} st r H => by
    refine K.call (f.A.deeper f.env) (f.env :: f.outer) _ f.S' h tk f.gens f.dr f.os j vs xs Q E (K.room.deeper _) (K.below st) (K.base' st) (fun a n => K.fresh st n) r ?_
    replace H : Post f.cx (f.Φ j xs) Q E h := H
    cases q : f.Φ j xs with
    | ok x => rw [q] at H; exact fun v h' tk' k rel => H v h' tk' k rel
    | raise => rw [q] at H; exact fun e h' tk' fl up => H e h' tk' trivial
    | fail => rw [q] at H; exact H
end
end Mine
end

section
set_option maxRecDepth 100000
set_option linter.unusedVariables false
set_option genSizeOf false
set_option genInjectivity false
open PySem PySem.W PySem.NumText PyProof.Rows PySem.Builtin
namespace Mine

section
variable {f : Sg} {KF : Frag} {g : Heap} {d : Nat} {h : Heap} {ρ : List V}
noncomputable def Sg.P (f : Sg) (I : Addr) : Prop := f.hS.get? I = none ∧ ¬ f.own I
theorem lookup_mem {α : Type} : ∀ {l : List (Str × α)} {n : Str} {c : α}, l.lookup n = some c → (n, c) ∈ l := fun e => mem_of_lookup e
theorem Sg.own_cell {x : Str} {c : Addr} (e : f.cells.lookup x = some c) : f.own c := Or.inr (List.mem_map.mpr ⟨_, mem_of_lookup e, rfl⟩)
theorem Sg.Ok.sok (K : f.Ok KF g d) : f.cx.Sok false f.P where
  ok := K.cx
  nodup := K.nodup
  store := fun {h ρ i x v q tk Q E} ⟨m, hn, hk, hc, V⟩ e r k => by
    rcases V i x e with ⟨hl, -⟩ | ⟨hl, c, v₀, hcl, hcv, -⟩
    · have hp : (f.env.scope.kind == .class || (f.env.scope.kind == .module && f.env.locals != f.env.globals)) = false := by
        show (f.scope.kind == .class || (f.scope.kind == .module && f.L != mainGlobals)) = false
        rw [K.kind]; rfl
      refine wpAny_storeName_local hl hn (fun h' hn' hs => ?_) hp
      have ks : ∀ b o, f.S' b → h.get? b = some o → h'.get? b = some o := fun b o sb eb => (hs.2 b fun z => sb.2 (Or.inl z)).trans eb
      refine k h' _ ⟨_, hn', fun b o n eb => (hs.2 b fun z => n (Or.inl z)).trans (hk b o n eb), fun p hp => (hc p hp).imp fun u y => y.sameBut hs (K.cne p hp), fun j y e' => ?_⟩ ks
      by_cases hj : j = i
      · subst hj
        rw [e] at e'
        cases e'
        refine Or.inl ⟨hl, ?_⟩
        rcases lkV_set (ρ := ρ) (i := j) (v := q) with z | z
        · rw [z]; exact Or.inr ⟨v, if_pos rfl, r.own ks⟩
        · exact Or.inl z
      · rw [lkV_set_ne hj]
        rcases V j y e' with ⟨hl', z⟩ | ⟨hl', c, v₀, hcl, hcv, z⟩
        · refine Or.inl ⟨hl', ?_⟩
          rcases z with z | ⟨u, hu, ru⟩
          · exact Or.inl z
          · refine Or.inr ⟨u, (if_neg fun z => ?_).trans hu, ru.own ks⟩
            subst z
            exact hj (distinct_inj K.nodup e' e)
        · refine Or.inr ⟨hl', c, v₀, hcl, hcv.sameBut hs (K.cne (y, c) (mem_of_lookup hcl)), ?_⟩
          rcases z with z | ⟨u, hu, ru⟩
          · exact Or.inl z
          · exact Or.inr ⟨u, hu, ru.own ks⟩
    · refine wpAny_storeName_cell K.kind hl hcl hcv fun h' hcv' hs => ?_
      have ks : ∀ b o, f.S' b → h.get? b = some o → h'.get? b = some o := fun b o sb eb => (hs.2 b fun z => sb.2 (z ▸ Sg.own_cell hcl)).trans eb
      have hcL := K.cne (x, c) (mem_of_lookup hcl)
      refine k h' tk ⟨m, hn.sameBut hs (Ne.symm hcL), fun b o n eb => (hs.2 b fun z => n (z ▸ Sg.own_cell hcl)).trans (hk b o n eb), fun p hp => ?_, fun j y e' => ?_⟩ ks
      · by_cases z : p.2 = c
        · rw [z]; exact ⟨_, hcv'⟩
        · exact (hc p hp).imp fun u y => y.sameBut hs z
      · by_cases hj : j = i
        · subst hj
          rw [e] at e'
          cases e'
          refine Or.inr ⟨hl, c, _, hcl, hcv', ?_⟩
          rcases lkV_set (ρ := ρ) (i := j) (v := q) with z | z
          · rw [z]; exact Or.inr ⟨v, rfl, r.own ks⟩
          · exact Or.inl z
        · rw [lkV_set_ne hj]
          rcases V j y e' with ⟨hl', z⟩ | ⟨hl', c', v₁, hcl', hcv₁, z⟩
          · refine Or.inl ⟨hl', ?_⟩
            rcases z with z | ⟨u, hu, ru⟩
            · exact Or.inl z
            · exact Or.inr ⟨u, hu, ru.own ks⟩
          · have hne : c' ≠ c := fun z => by
              subst z
              have := name_of_addr K.inj (mem_of_lookup hcl') (mem_of_lookup hcl)
              subst this
              exact hj (distinct_inj K.nodup e' e)
            refine Or.inr ⟨hl', c', v₁, hcl', hcv₁.sameBut hs hne, ?_⟩
            rcases z with z | ⟨u, hu, ru⟩
            · exact Or.inl z
            · exact Or.inr ⟨u, hu, ru.own ks⟩
  load := fun {h ρ i x y} ⟨m, hn, hk, hc, V⟩ e ne ex => by
    rcases V i x ex with ⟨hl, q⟩ | ⟨hl, c, v₀, hcl, hcv, q⟩
    · rcases q with z | ⟨v, hv, r⟩
      · exact absurd (e.symm.trans z) ne
      · exact ⟨v, e ▸ r, fun Q E tk hq => wpAny_loadName_local K.kind hl hn hv hq⟩
    · rcases q with z | ⟨v, hv, r⟩
      · exact absurd (e.symm.trans z) ne
      · subst hv
        exact ⟨v, e ▸ r, fun Q E tk hq => wpAny_loadName_cell K.kind hl hcl hcv hq⟩
  poke := fun {h h' ρ I} ⟨m, hn, hk, hc, V⟩ hP hI hb => by
    refine ⟨m, hn.extBut hb fun z => hP.2 (Or.inl z.symm), fun b o n e => hb b o (fun z => ?_) (hk b o n e), fun p hp => ?_, fun i x e => ?_⟩
    · subst z
      rw [hP.1] at e
      cases e
    · obtain ⟨v, o, ho, hd⟩ := hc p hp
      exact ⟨v, o, hb _ _ (fun z => hP.2 (Or.inr (z ▸ List.mem_map.mpr ⟨p, hp, rfl⟩))) ho, hd⟩
    · rcases V i x e with ⟨hl, q⟩ | ⟨hl, c, v₀, hcl, ⟨o, ho, hd⟩, q⟩
      · refine Or.inl ⟨hl, ?_⟩
        rcases q with z | ⟨u, hu, ru⟩
        · exact Or.inl z
        · exact Or.inr ⟨u, hu, ru.poke hI hb⟩
      · refine Or.inr ⟨hl, c, v₀, hcl, ⟨o, hb _ _ (fun z => hP.2 (z ▸ Sg.own_cell hcl)) ho, hd⟩, ?_⟩
        rcases q with z | ⟨u, hu, ru⟩
        · exact Or.inl z
        · exact Or.inr ⟨u, hu, ru.poke hI hb⟩
  newP := fun {h ρ} st => by
    have n : h.get? h.objs.size = none := get_size h
    refine ⟨?_, (K.fresh st n).2⟩
    obtain ⟨m, hn, hk, hc, V⟩ := id st
    cases q : f.hS.get? h.objs.size with
    | none => rfl
    | some o => have := hk _ o (K.fresh st n).2 q; rw [n] at this; cases this
  PS := fun {a} hP => ⟨K.newS a hP.1, hP.2⟩
end
end Mine
end

section
set_option maxRecDepth 100000
set_option linter.unusedVariables false
set_option genSizeOf false
set_option genInjectivity false
open PySem PySem.W PySem.NumText PyProof.Rows PySem.Builtin
namespace Mine

/-- what the law's own defs need of the start -/
structure Gd (KF : Frag) (g : Heap) (mg : Str → Option Value) : Prop where
  X : KF.In g
  ns : g.Ns mainGlobals mg
  bmain : ∃ bm ob, mg "__builtins__" = some (.ref bm) ∧ bm ≠ builtinsNs ∧ g.get? bm = some ob ∧ ob.cls = .type "module" ∧ ob.dict = some builtinsNs ∧ ob.data = .plain
/-- a code object's table: no lambda made yet, or the one -/
noncomputable def TabOk (P : Addr) (pos : Pos) (qual : Str) (h : Heap) : Prop := h.get? P = some (tabObj #[]) ∨ ∃ c', h.get? P = some (tabObj #[rawInt pos.line, rawInt pos.col, .ref c']) ∧ h.CodeRec (.ref c') qual
theorem TabOk.keeps {P : Addr} {pos : Pos} {qual : Str} {h h' : Heap} (k : Keeps h h') (x : TabOk P pos qual h) : TabOk P pos qual h' := by
  rcases x with x | ⟨c', x, oc, y⟩
  · exact Or.inl (k _ _ x)
  · obtain ⟨o, vs, t, e, ho, r⟩ := y
    exact Or.inr ⟨c', k _ _ x, oc, o, vs, t, e, k _ _ ho, r⟩

section
variable {M : Model} {A : Around} {E : Value → Shared → Prop} {s : Shared} {KF : Frag} {g : Heap} {mg : Str → Option Value} {L a c P : Addr} {cn : Str} {cs : Scope} {cl clos : List (Str × Addr)} {params : Arguments} {body : Expr} {lscope : Scope} {pos : Pos}

theorem lam_make {Q : Value → Shared → Prop} (G : Gd KF g mg) (k : Keeps g s.heap) (hP0 : g.get? P = none) (C : CodeHd g c P) (tab : TabOk P pos ((envX cn cs L a (.ref c) cl).qual ++ "<lambda>") s.heap)
    (hcl : closureFor lscope (envX cn cs L a (.ref c) cl) = pure clos) (hdef : defaultsOf params (envX cn cs L a (.ref c) cl) = ([], []))
    (hQ : ∀ F h' tk' pm c' ctv, s.heap.get? F = none → h'.get? F = some (kla_obj "<lambda>" ((envX cn cs L a (.ref c) cl).qual ++ "<lambda>") params body lscope clos pm c' ctv) → Heap.ExtBut P s.heap h' →
      TabOk P pos ((envX cn cs L a (.ref c) cl).qual ++ "<lambda>") h' → h'.CodeRec (.ref c') ((envX cn cs L a (.ref c) cl).qual ++ "<lambda>") → Q (.ref F) { s with heap := h', toks := tk' }) :
    wpAny M A (eval (.Lambda params body lscope pos) (envX cn cs L a (.ref c) cl)) Q E s := by
  obtain ⟨bm, ob, b1, b2, b3, b4, b5, b6⟩ := G.bmain
  have hgP : mainGlobals ≠ P := fun q => by
    obtain ⟨o, es, ep, e, _⟩ := G.ns
    rw [q, hP0] at e; cases e
  have hbP : bm ≠ P := fun q => by rw [q, hP0] at b3; cases b3
  have hbG : bm ≠ mainGlobals := fun q => by
    obtain ⟨o, es, ep, e, hd, _⟩ := G.ns
    rw [q, e] at b3; cases b3; rw [hd] at b6; cases b6
  have hB : s.heap.BuiltinsAt mg P := ⟨bm, ob, b1, b2, hbG, hbP, k _ _ b3, b4, b5, b6⟩
  refine kla_eval hdef ?_
  rcases tab with tab | ⟨c', tab, rec⟩
  · refine kla_makeFunction (mg := mg) hcl rfl (G.ns.keeps k) rfl (C.keeps k) tab trivial rfl hgP hB fun c' ctv h' tk hx hge hlt hrec htb => ?_
    have hrec' : (h'.push (kla_obj "<lambda>" ((envX cn cs L a (.ref c) cl).qual ++ "<lambda>") params body lscope clos ((mg "__name__").getD .none) c' ctv)).CodeRec (.ref c') ((envX cn cs L a (.ref c) cl).qual ++ "<lambda>") := by
      obtain ⟨c₂, oc, vs, t, e2, hoc, r⟩ := hrec
      exact ⟨c₂, oc, vs, t, e2, Heap.get?_push_of_some _ hoc, r⟩
    refine hQ _ _ _ _ c' ctv ?_ (Heap.get?_push_size _ rfl) (fun b o hb e => Heap.get?_push_of_some _ (hx b o hb e)) (Or.inr ⟨c', ?_, hrec'⟩) hrec'
    · cases q : s.heap.get? h'.objs.size with
      | none => rfl
      | some o =>
        by_cases z : h'.objs.size = P
        · rw [← z] at htb
          rw [get_size] at htb; cases htb
        · have := hx _ o z q
          rw [get_size] at this; cases this
    · have := Heap.get?_push_of_some (kla_obj "<lambda>" ((envX cn cs L a (.ref c) cl).qual ++ "<lambda>") params body lscope clos ((mg "__name__").getD .none) c' ctv) htb
      simpa using this
  · refine kla_makeFunctionHit (mg := mg) hcl rfl (G.ns.keeps k) rfl (C.keeps k) tab (by simp [TriplesOk, rawInt]) (by simp [codeAmong, rawInt]; rfl) hB fun ctv h' tk hk hsz => ?_
    have kk : Keeps s.heap (h'.push (kla_obj "<lambda>" ((envX cn cs L a (.ref c) cl).qual ++ "<lambda>") params body lscope clos ((mg "__name__").getD .none) c' ctv)) := fun b o e => Heap.get?_push_of_some _ (hk b o e)
    have hrec' : (h'.push (kla_obj "<lambda>" ((envX cn cs L a (.ref c) cl).qual ++ "<lambda>") params body lscope clos ((mg "__name__").getD .none) c' ctv)).CodeRec (.ref c') ((envX cn cs L a (.ref c) cl).qual ++ "<lambda>") := by
      obtain ⟨c₂, oc, vs, t, e2, hoc, r⟩ := rec
      exact ⟨c₂, oc, vs, t, e2, kk _ _ hoc, r⟩
    refine hQ _ _ _ _ c' ctv (ge_none hsz) (Heap.get?_push_size _ rfl) (fun b o _ e => kk b o e) (Or.inr ⟨c', kk _ _ tab, hrec'⟩) hrec'
end
end Mine
end

section
set_option maxRecDepth 100000
set_option linter.unusedVariables false
set_option genSizeOf false
set_option genInjectivity false
open PySem PySem.W PySem.NumText PyProof.Rows PySem.Builtin
namespace Mine

/-- how the call of a lambda without parameters ends -/
noncomputable def ThunkOk (prog : Program) (w : World) (cls : Value) (F : Addr) (d : Nat) (x : Res V) (h : Heap) : Prop :=
  ∀ A outer B S h₂ tk gens dr os Q E, Room A d → Below A B outer h₂ → Keeps h h₂ → (∀ a, h₂.get? a = none → S a) → Ends B outer cls S h₂ gens dr os x Q E →
    wpAny (model prog w) A (call (.ref F) []) Q E ⟨h₂, gens, dr, tk, os⟩
noncomputable def refusedL : List Nat := [114, 101, 102, 117, 115, 101, 100]
noncomputable def toldPat (nm : List Str) (sc : Scope) : Pat (List Stmt) := pOne (sTry.comp (pp (pOne (pRet (pCall (pL nm 0) pNil))) (pp (pOne (cHan.comp (pp (pSome (pNm (pBi sc "SqlError"))) (pp pNone (pP (pOne (pRet (pSt refusedL)))))))) (pp pNil (pP pNil)))))
noncomputable def toldChk (nm : List Str) (sc : Scope) : List Stmt → Bool := (toldPat nm sc).m
noncomputable def f_told : Fn := ⟨1, 1, .fail, false, [[99, 97, 108, 108]]⟩

noncomputable def ToldPost (B h : Heap) (S : Addr → Prop) (gens : Array GenState) (dr : Drawn) (os : OsState) (Q : Value → Shared → Prop) (x : Res V) : Prop := match x with
  | .ok v => ∀ u h' tk', Keeps h h' → Rel S h' u v → Q u ⟨h', gens, dr, tk', os⟩
  | .raise => ∀ h' tk' t, B.StaysIn h' → h.UpToSlots h' → Q (.str (mkS refusedL) t) ⟨h', gens, dr, tk', os⟩
  | .fail => False
section
variable {prog : Program} {w : World} {KF : Frag} {d : Nat} {C : Addr} {bmB : List Value} {newId : String}
theorem told_call {a F : Addr} (e : fnHead KF a f_told (fun sc b => toldChk (f_told.names.map mkS) sc b) = true) (hname : nsIn KF mainGlobals ("SqlError" : Str) = some (some (.ref C))) (hex : excIn KF C bmB newId = true) (hbase : bmB.contains (.type "BaseException") = true)
    {x : Res V} {A : Around} {outer : List Env} {B : Heap} {S : Addr → Prop} {h : Heap} {tk : Nat} {gens : Array GenState} {dr : Drawn} {os : OsState} {Q : Value → Shared → Prop}
    (room : Room A (d + 1)) (below : Below A B outer h) (base : Base KF h) (baseB : Base KF B) (hBs : B.objs.size ≤ h.objs.size) (newS : ∀ a, h.get? a = none → S a) (hF : ∃ o fd, h.get? F = some o ∧ o.data = .func fd) (hT : ThunkOk prog w (.ref C) F d x h)
    (hQ : ToldPost B h S gens dr os Q x) :
    wpAny (model prog w) A (call (.ref a) [.ref F]) Q (fun _ _ => False) ⟨h, gens, dr, tk, os⟩ := by
  obtain ⟨name, params, body, scope, pm, cd, doc, fo, h1, hp⟩ := head_of_chk e
  obtain ⟨X, p, l, mg, mb, T⟩ := id base
  obtain ⟨o, ho, hd⟩ := fo.obj
  have hbind := binds_of (name := name) (body := body) (scope := scope) (pm := pm) (cd := cd) (doc := doc) fo.pars (by rw [List.map_take]; exact distinct_take fo.nodup) (vs := [.ref F]) rfl (by decide) (by decide)
  obtain ⟨D0, rfl⟩ := Pat.of hp
  have hc : D0.1.1.1.1.1 = mkS [99, 97, 108, 108] := by
    have := nth_eq (andL D0.1.1.1.1.2)
    exact (Option.some.inj this).symm
  have hloc : scope.names.lookup D0.1.1.1.1.1 = some .local := eq_of_beq (List.all_eq_true.mp fo.locals D0.1.1.1.1.1 (lkF_mem (nth_eq (andL D0.1.1.1.1.2))))
  refine wpAny_call (call_plain (by have := room.depth; omega) (X _ _ ho) hd T.nolimit (codeRec_of X fo.code) hbind (fun y hy => ?_) (fun h₁ F₁ => ?_) fo.co fo.gen fo.kind fo.cells)
  · have hm : y.1 ∈ f_told.names.map mkS := by
      have := (List.of_mem_zip hy).1
      rw [List.map_take] at this
      exact List.mem_of_mem_take this
    exact eq_of_beq (List.all_eq_true.mp fo.locals _ hm)
  · have hfr : (A.deeper (envOf name scope h.objs.size a cd)).frames = some (envOf name scope h.objs.size a cd :: outer) := Around.frames_deeper below.stack
    have hcv : (fun y => ((List.map mkS (List.take f_told.np f_told.names)).zip [Value.ref F]).reverse.lookup y) D0.1.1.1.1.1 = some (.ref F) := by
      rw [hc]
      simp [f_told, List.lookup]
    obtain ⟨oF, fdF, hoF, hdF⟩ := hF
    obtain ⟨g1, g2, _⟩ := glo_parts D0.2.1.1.1.2
    refine wpAny_execs_cons (wpAny_Try_except (wpAny_execs_cons (wpAny_Return_some (wpAny_Call_NameR (wpAny_Name (wpAny_loadName_local fo.kind hloc F₁.ns hcv ?_) ((Bool.not_eq_true' _).mp (andR D0.1.1.1.1.2)))))))
    refine Calls.callWith_function (o := oF) (fd := fdF) (PyProof.Rows.evalArgs_none ⟨⟨F₁.keep _ _ hoF, hdF⟩, ?_⟩)
    refine hT (A.deeper (envOf name scope h.objs.size a cd)) (envOf name scope h.objs.size a cd :: outer) B S h₁ _ gens dr os _ _ (room.deeper _) (below.push F₁ fo.kind) F₁.keep (fun b n => newS b (not_some F₁.keep n)) ?_
    cases x with
    | ok v => exact fun u h' tk' k r => hQ u h' tk' (Keeps.trans F₁.keep k) r
    | fail => exact hQ.elim
    | raise =>
      rintro ee h' tk' ⟨a0, fl⟩ up
      refine wpAny_looks_onW hfr rfl fl fun h₄ hheld₄ hsm₄ => ?_
      refine wpAny_landsW hheld₄ fun h₅ hheld hsm₅' => ?_
      have hsm₅ := (up.trans hsm₄).trans hsm₅'
      obtain ⟨XB, pB, lB, mgB, mbB, TB⟩ := id baseB
      have FB : Fr B h.objs.size h₅ (fun y => ((List.map mkS (List.take f_told.np f_told.names)).zip [Value.ref F]).reverse.lookup y) := ⟨hsm₅.ns F₁.ns, hheld.1, hBs⟩
      obtain ⟨ob, hob, hobc⟩ := hheld.there
      refine wpAny_handleBy_cons (codeAny_handlers_test (name_K FB XB TB hname ?_ fo.kind g1 g2)) (by intro q; cases q)
      obtain ⟨bm, N, nm, qn, bs, hdct, sn, sub, ab, col, dd, k0, k1, k2, k3, k5, mN, hC, hN, hni, TL⟩ := ((own_of_in XB TB hname hex).keeps FB.keep).obj
      refine wpAny_excMatches_sub_self hC hob hobc (TL.hasType hbase) (codeAny_handlers_suite ?_)
      refine lands_againW hheld fun h₆ hfl₆ hsm₆ => ?_
      refine wpAny_execs_cons (wpAny_Return_some (Calls.Constant_str ?_))
      have hs : D0.2.1.2.2.1.1.1.1 = mkS refusedL := strIs_eq D0.2.1.2.2.1.1.1.2
      show Q (.str D0.2.1.2.2.1.1.1.1 _) _
      rw [hs]
      exact hQ h₆ _ _ hfl₆.1 ((Heap.UpToSlots.of_keeps F₁.keep).trans (hsm₅.trans hsm₆))
end
end Mine
end

section
set_option maxRecDepth 100000
set_option linter.unusedVariables false
set_option genSizeOf false
set_option genInjectivity false
open PySem PySem.W PySem.NumText PyProof.Rows PySem.Builtin
namespace Mine

/-- the setting of a lambda's body -/
structure Lm where
  prog : Program
  w : World
  A : Around
  name : Str
  scope : Scope
  L : Addr
  a : Addr
  cd : Value
  cells : List (Str × Addr)
  nm : List Str
  S : Addr → Prop
  B : Heap
  outer : List Env
  h₀ : Heap
  Φ : Nat → List V → Res V
  addr : Nat → Addr
  cls : Value
  gens : Array GenState
  dr : Drawn
  os : OsState
noncomputable abbrev Lm.env (f : Lm) : Env := envX f.name f.scope f.L f.a f.cd f.cells
noncomputable abbrev Lm.cx (f : Lm) : Cx where
  prog := f.prog
  w := f.w
  A := f.A.deeper f.env
  env := f.env
  nm := f.nm
  S := fun b => f.S b ∧ b ≠ f.L
  Go := Keeps
  St := fun h ρ => ∃ m, Fr f.h₀ f.L h m ∧ ∀ i x, lkF f.nm i = some x → ∃ c v, f.cells.lookup x = some c ∧ h.IsCell c (some v) ∧ Rel (fun b => f.S b ∧ b ≠ f.L) h v (lkV ρ i)
  Rs := fun e h' => (∃ a0, Heap.FlyingW f.B (f.env :: f.outer) e f.cls a0 h') ∧ f.h₀.UpToSlots h'
  Φ := f.Φ
  addr := f.addr
  gens := f.gens
  d := f.dr
  os := f.os
structure Lm.Ok (f : Lm) (KF : Frag) (d : Nat) : Prop where
  room : Room f.A (d + 1)
  below : Below f.A f.B f.outer f.h₀
  base : Base KF f.h₀
  gl : Gl KF f.addr
  call : CallOk f.prog f.w KF f.addr f.cls f.Φ d
  kind : f.scope.kind = .function
  frees : ∀ x ∈ f.nm, f.scope.names.lookup x = some .free ∧ (x == ("__classdict__" : Str)) = false
  newS : ∀ a, f.h₀.get? a = none → f.S a

theorem Lm.Ok.cx {f : Lm} {KF : Frag} {d : Nat} (K : f.Ok KF d) : f.cx.Ok where
  handled := K.room.handled
  units := by have := (K.room.deeper f.env).units; show (f.A.deeper f.env).units + 16 < cLine; omega
  depth := by have := (K.room.deeper f.env).depth; show (f.A.deeper f.env).depth + 16 < recursionLimit; omega
  keeps := fun k => k
  trans := Keeps.trans
  st := fun {h h' ρ} g ⟨m, F, V⟩ => ⟨m, ⟨F.ns.keeps g, fun b o e => g b o (F.keep b o e), F.above⟩, fun i x e => by
    obtain ⟨c, v, hc, hv, r⟩ := V i x e
    exact ⟨c, v, hc, hv.keeps g, r.keeps g⟩⟩
  own := fun g _ e => g _ _ e
  fill := fun {h h₁ h₂ a} g n s b o e => (s.2 b fun z => by subst z; rw [e] at n; cases n).trans (g b o e)
  newS := fun {h ρ a} ⟨m, F, V⟩ n => ⟨K.newS a (not_some F.keep n), fun z => by
    obtain ⟨o, _, _, ho, _⟩ := F.ns
    rw [z, ho] at n; cases n⟩
  loc := fun {h ρ i x y} ⟨m, F, V⟩ e ne ex hd => by
    obtain ⟨c, v, hc, hv, r⟩ := V i x ex
    obtain ⟨hl, hn⟩ := K.frees x (lkF_mem ex)
    exact ⟨v, e ▸ r, fun pos Q E tk hq => wpAny_Name (wpAny_loadName_free K.kind hl hc hv hq hn) (by simpa using hd)⟩
  glob := fun {h ρ j x} ⟨m, F, V⟩ ex g => by
    obtain ⟨v, hv, r⟩ := K.gl.glob j x ex
    obtain ⟨X, p, l, mg, mb, T⟩ := K.base
    obtain ⟨g1, g2, _⟩ := glo_parts g
    exact ⟨v, r, fun pos Q E tk hq => nameX_K F X T hv hq K.kind g1 g2⟩
  fn := fun {h ρ j x} ⟨m, F, V⟩ ex g => by
    obtain ⟨hv, o, fd, ho, hd⟩ := K.gl.fn j x ex
    obtain ⟨X, p, l, mg, mb, T⟩ := K.base
    obtain ⟨g1, g2, _⟩ := glo_parts g
    exact ⟨⟨o, fd, F.keep _ _ (X _ _ ho), hd⟩, fun pos Q E tk hq => nameX_K F X T hv hq K.kind g1 g2⟩
  bi := fun {h ρ x v} ⟨m, F, V⟩ hb g hm pos Q E tk hq => by
    obtain ⟨X, p, l, mg, mb, T⟩ := K.base
    obtain ⟨g1, g2, g3⟩ := glo_parts g
    exact nameX_B F X T (K.gl.bi x hm) hb (by intro z; rw [z] at g3; cases g3) hq K.kind g1 g2
  call := fun {h ρ j vs xs Q E tk} st r H => by
    obtain ⟨m, F, V⟩ := st
    refine K.call (f.A.deeper f.env) (f.env :: f.outer) f.B (fun b => f.S b ∧ b ≠ f.L) h tk f.gens f.dr f.os j vs xs Q E (K.room.deeper _) (pushX K.below F rfl K.kind) (K.base.keeps F.keep) (fun a n => ?_) r ?_
    · exact ⟨K.newS a (not_some F.keep n), fun z => by
        obtain ⟨o, _, _, ho, _⟩ := F.ns
        rw [z, ho] at n; cases n⟩
    · replace H : Post f.cx (f.Φ j xs) Q E h := H
      cases q : f.Φ j xs with
      | ok x => rw [q] at H; exact fun v h' tk' k rel => H v h' tk' k rel
      | raise => rw [q] at H; exact fun e h' tk' fl up => H e h' tk' ⟨fl, (Heap.UpToSlots.of_keeps F.keep).trans up⟩
      | fail => rw [q] at H; exact H

noncomputable def noPars : Arguments → Bool := (argsPat pNil).m
theorem bind0 {params : Arguments} (h : noPars params = true) {name qual : Str} {body : Expr} {scope : Scope} {cl : List (Str × Addr)} {pm cdv ct : Value} : bindArgs (kla_fn name qual params body scope cl pm cdv ct) ⟨[], []⟩ = pure [] := by
  obtain ⟨d, rfl⟩ := Pat.of (P := argsPat pNil) h
  rfl

section
variable {prog : Program} {w : World} {KF : Frag} {addr : Nat → Addr} {cls : Value} {Φ : Nat → List V → Res V} {d : Nat}
/-- the check of a lambda's head and body -/
noncomputable def lamChk (nm : List Str) (p : PE) (params : Arguments) (body : Expr) (scope : Scope) : Bool :=
  noPars params && scope.kind == .function && !scope.isCoroutine && !scope.isGenerator && scope.names.all (fun x => x.2 != .cell) && nm.all (fun x => scope.names.lookup x == some .free && !(x == ("__classdict__" : Str))) && chk scope nm noTold p body

theorem thunk_ok (gl : Gl KF addr) (hc : CallOk prog w KF addr cls Φ d) {F c' : Addr} {qual : Str} {params : Arguments} {body : Expr} {scope : Scope} {clos : List (Str × Addr)} {pm ctv : Value} {nm : List Str} {p : PE} {ρ : List V} {h : Heap}
    (hk : lamChk nm p params body scope = true) (hF : h.get? F = some (kla_obj "<lambda>" qual params body scope clos pm c' ctv)) (hcd : h.CodeRec (.ref c') qual) (base : Base KF h)
    (hv : ∀ i x, lkF nm i = some x → ∃ c v, clos.lookup x = some c ∧ h.IsCell c (some v) ∧ ∃ a, lkV ρ i = .at a ∧ RelA v a) :
    ThunkOk prog w cls F (d + 1) (evalE Φ p ρ) h := by
  intro A outer B S h₂ tk gens dr os Q E room below k newS H
  unfold lamChk at hk
  simp only [Bool.and_eq_true, beq_iff_eq, Bool.not_eq_true'] at hk
  obtain ⟨⟨⟨⟨⟨⟨k1, k2⟩, k3⟩, k4⟩, k5⟩, k6⟩, k7⟩ := hk
  have base₂ : Base KF h₂ := base.keeps k
  obtain ⟨X, pp, l, mg, mb, T⟩ := id base₂
  have hcd₂ : h₂.CodeRec (.ref c') qual := by
    obtain ⟨c₂, oc, vs, t, e2, hoc, r⟩ := hcd
    exact ⟨c₂, oc, vs, t, e2, k _ _ hoc, r⟩
  refine wpAny_call (kla_callFunE (by have := room.depth; omega) (k _ _ hF) rfl k3 k4 rfl hcd₂ ?_)
  rw [bind0 k1]
  refine wpAny_pure (wpAny_newFunctionEnv (fun x hx z => ?_) (fun x hx => nomatch hx) (fun h₁ hns hsb => ⟨T.nolimit.fresh _ hsb, ?_⟩) k2)
  · have := List.all_eq_true.mp k5 x hx
    rw [z] at this
    cases this
  show codeAny _ _ (.expr body (envX qual scope h₂.objs.size F (.ref c') clos)) _ _
  have hk₁ : Keeps h₂ h₁ := fun b o e => hsb.extBut b o (Nat.ne_of_lt (Heap.lt_size e)) (Heap.get?_push_of_some _ e)
  have hfrees : ∀ x ∈ nm, scope.names.lookup x = some .free ∧ (x == ("__classdict__" : Str)) = false := fun x hx => by
    have := List.all_eq_true.mp k6 x hx
    simp only [Bool.and_eq_true, beq_iff_eq, Bool.not_eq_true'] at this
    exact this
  let f : Lm := ⟨prog, w, A, qual, scope, h₂.objs.size, F, .ref c', clos, nm, S, B, outer, h₂, Φ, addr, cls, gens, dr, os⟩
  have K : f.Ok KF d := { room := room, below := below, base := base₂, gl := gl, call := hc, kind := k2, newS := newS, frees := hfrees }
  have F₁ : Fr h₂ h₂.objs.size h₁ (fun x => ([] : List (Str × Value)).reverse.lookup x) := ⟨hns, hk₁, Nat.le_refl _⟩
  have st : f.cx.St h₁ ρ := ⟨_, F₁, fun i x e => by
    obtain ⟨c, v, e1, e2, a, e3, e4⟩ := hv i x e
    exact ⟨c, v, e1, (e2.keeps k).keeps hk₁, by rw [e3]; exact e4⟩⟩
  have hT : ∀ p e, noTold p e = true → ES f.cx (.told p) e ∧ TS f.cx (.told p) e := fun p e z => nomatch z
  refine kla_codeExpr ((es_all K.cx hT p body k7).1 ρ h₁ _ _ _ st ?_)
  have hfr : (A.deeper f.env).frames = some (f.env :: outer) := Around.frames_deeper below.stack
  have H : Ends B outer cls S h₂ gens dr os (evalE f.Φ p ρ) Q E := H
  show Post f.cx (evalE f.Φ p ρ) _ _ h₁
  cases q : evalE f.Φ p ρ with
  | ok x =>
    rw [q] at H
    exact fun v h' tk' kk r => H v h' tk' (Keeps.trans hk₁ kk) (r.mono fun b _ sb => sb.1)
  | raise =>
    rw [q] at H
    rintro e h' tk' ⟨⟨a0, fl⟩, up⟩
    exact wpAny_leaves_onW hfr rfl fl fun h'' fl' up' => H e h'' tk' ⟨a0, fl'⟩ (up.trans up')
  | fail => rw [q] at H; exact H.elim
end
end Mine
end

section
set_option maxRecDepth 100000
set_option linter.unusedVariables false
set_option genSizeOf false
set_option genInjectivity false
open PySem PySem.W PySem.NumText PyProof.Rows PySem.Builtin
namespace Mine

/-- what a told call keeps: all but the table, the frames up to slots -/
structure WK (P : Addr) (ls : List Addr) (h h' : Heap) : Prop where
  keep : ∀ b o, b ≠ P → b ∉ ls → h.get? b = some o → h'.get? b = some o
  slot : ∀ b o, b ∈ ls → h.get? b = some o → ∃ sl, h'.get? b = some { o with slots := sl }
theorem WK.of_ext {P : Addr} {ls : List Addr} {h h' : Heap} (hP : P ∉ ls) (x : Heap.ExtBut P h h') : WK P ls h h' :=
  ⟨fun b o hb _ e => x b o hb e, fun b o hb e => ⟨o.slots, x b o (fun z => hP (z ▸ hb)) e⟩⟩
theorem WK.of_keeps {P : Addr} {ls : List Addr} {h h' : Heap} (x : Keeps h h') : WK P ls h h' := ⟨fun b o _ _ e => x b o e, fun b o _ e => ⟨o.slots, x b o e⟩⟩
theorem WK.trans {P : Addr} {ls : List Addr} {h₁ h₂ h₃ : Heap} (x : WK P ls h₁ h₂) (y : WK P ls h₂ h₃) : WK P ls h₁ h₃ :=
  ⟨fun b o hb hn e => y.keep b o hb hn (x.keep b o hb hn e), fun b o hb e => by
    obtain ⟨sl, e₁⟩ := x.slot b o hb e
    obtain ⟨sl', e₂⟩ := y.slot b _ hb e₁
    exact ⟨sl', e₂⟩⟩
theorem WK.of_raise {P : Addr} {ls : List Addr} {h h' : Heap} (hd : ∀ b ∈ ls, ∀ o, h.get? b = some o → ∀ vs, o.data ≠ .fields vs) (x : (hideAll h ls).StaysIn h') (y : h.UpToSlots h') : WK P ls h h' :=
  ⟨fun b o _ hn e => x b o (hideAll_get _ e hn), fun b o hb e => y b o e (hd b hb o e)⟩

noncomputable def atoms (ρ : List V) : Bool := ρ.all fun v => match v with | .at _ | .undef => true | _ => false
theorem atoms_get : ∀ {ρ : List V} {i : Nat}, atoms ρ = true → lkV ρ i = .undef ∨ ∃ a, lkV ρ i = .at a
  | [], i, _ => Or.inl (by cases i <;> rfl)
  | v :: r, 0, h => by
    have h : (_ && _) = true := h
    obtain ⟨h1, _⟩ := Bool.and_eq_true_iff.mp h
    cases v with
    | «at» a => exact Or.inr ⟨a, rfl⟩
    | undef => exact Or.inl rfl
    | _ => cases h1
  | v :: r, i + 1, h => by
    have h : (_ && _) = true := h
    exact atoms_get (ρ := r) (Bool.and_eq_true_iff.mp h).2

section
variable {f : Sg} {KF : Frag} {g : Heap} {d : Nat} {h h' : Heap} {ρ : List V} {P : Addr}
/-- the next segment's setting -/
noncomputable abbrev Sg.at (f : Sg) (h' : Heap) : Sg := { f with hS := h' }
theorem mem_wobOf {l : List Env} {L : Addr} (hL : L ∈ wobOf l) : ∃ e ∈ l, e.frame = some L := by
  obtain ⟨e, he, q⟩ := List.mem_filterMap.mp hL
  exact ⟨e, he, q⟩
theorem Sg.Ok.next (K : f.Ok KF g d) (st : f.cx.St h ρ) (w : WK P (wobOf (f.env :: f.outer)) h h') (hP : ∃ vs o, h.get? P = some o ∧ o.data = .fields vs) (hP' : h'.get? P ≠ none) (hPg : g.get? P = none) (gout : ∀ e ∈ f.outer, ∀ L, e.frame = some L → g.get? L = none) (hat : atoms ρ = true) :
    (f.at h').Ok KF g d ∧ (f.at h').cx.St h' ρ := by
  have frs := K.frsAt st
  have kg : ∀ b o, g.get? b = some o → b ≠ P ∧ b ∉ wobOf (f.env :: f.outer) := fun b o e => ⟨(fun z => by rw [z, hPg] at e; cases e), fun z => by
    obtain ⟨en, hen, hf⟩ := mem_wobOf z
    rcases List.mem_cons.mp hen with rfl | hen
    · exact (K.sub b o e).2 (Or.inl (Option.some.inj hf).symm)
    · rw [gout en hen b hf] at e; cases e⟩
  obtain ⟨m, hn, hk, hc, V⟩ := id st
  obtain ⟨vsP, oP, hoP, hdP⟩ := hP
  have hcell : ∀ p ∈ f.cells, ∀ v, h.IsCell p.2 v → h'.IsCell p.2 v := fun p hp v ⟨o, ho, hd⟩ => by
    refine ⟨o, w.keep _ _ (fun z => ?_) (fun z => ?_) ho, hd⟩
    · rw [z, hoP] at ho; cases ho; rw [hdP] at hd; cases hd
    · obtain ⟨en, hen, hf⟩ := mem_wobOf z
      rcases List.mem_cons.mp hen with rfl | hen
      · exact K.cne p hp (Option.some.inj hf).symm
      · exact K.apart en hen p.2 hf (Or.inr (List.mem_map.mpr ⟨p, hp, rfl⟩))
  have hnL : h'.Ns f.L m := by
    obtain ⟨o, es, ep, ho, hd, r⟩ := hn
    obtain ⟨sl, e⟩ := w.slot f.L o (mem_wob (.head _) rfl) ho
    exact ⟨_, es, ep, e, hd, r⟩
  refine ⟨{ room := K.room, fr := K.fr, frs := fun e he => ?_, apart := K.apart, base := K.base, sub := fun b o e => ⟨w.keep b o (kg b o e).1 (kg b o e).2 (hk b o (K.sub b o e).2 (K.sub b o e).1), (K.sub b o e).2⟩, above := K.above, gl := K.gl, call := K.call, kind := K.kind, nodup := K.nodup, newS := fun a n => ?_, cne := K.cne, inj := K.inj },
    ⟨m, hnL, fun b o _ e => e, fun p hp => (hc p hp).imp fun v y => hcell p hp v y, fun i x e => ?_⟩⟩
  · obtain ⟨hkd, L, o, hf, ho, hd⟩ := frs e (.tail _ he)
    obtain ⟨sl, e'⟩ := w.slot L o (mem_wob (.tail _ he) hf) ho
    exact ⟨hkd, L, _, hf, e', hd⟩
  · refine (K.fresh st ?_).1
    cases q : h.get? a with
    | none => rfl
    | some o =>
      by_cases zP : a = P
      · subst zP
        exact absurd n hP'
      · by_cases zw : a ∈ wobOf (f.env :: f.outer)
        · obtain ⟨sl, e'⟩ := w.slot a o zw q
          rw [show (f.at h').hS = h' from rfl] at n
          rw [n] at e'; cases e'
        · have := w.keep a o zP zw q
          rw [show (f.at h').hS = h' from rfl] at n
          rw [n] at this; cases this
  · rcases V i x e with ⟨hl, q⟩ | ⟨hl, c, v₀, hcl, hcv, q⟩
    · refine Or.inl ⟨hl, ?_⟩
      rcases q with z | ⟨u, hu, ru⟩
      · exact Or.inl z
      · rcases atoms_get hat (i := i) with z | ⟨a, z⟩
        · exact Or.inl z
        · rw [z] at ru ⊢; exact Or.inr ⟨u, hu, ru⟩
    · refine Or.inr ⟨hl, c, v₀, hcl, hcell (x, c) (mem_of_lookup hcl) _ hcv, ?_⟩
      rcases q with z | ⟨u, hu, ru⟩
      · exact Or.inl z
      · rcases atoms_get hat (i := i) with z | ⟨a, z⟩
        · exact Or.inl z
        · rw [z] at ru ⊢; exact Or.inr ⟨u, hu, ru⟩
end
end Mine
end

section
set_option maxRecDepth 100000
set_option linter.unusedVariables false
set_option genSizeOf false
set_option genInjectivity false
open PySem PySem.W PySem.NumText PyProof.Rows PySem.Builtin
namespace Mine

noncomputable def toldRes : Res V → Option A
  | .ok (.at a) => some a
  | .raise => some (.str refusedL)
  | _ => none

section
variable {f : Sg} {KF : Frag} {g : Heap} {d : Nat} {h : Heap} {ρ ρL : List V} {P c C : Addr} {mg : Str → Option Value} {bmB : List Value} {newId : String} {Φ₀ : Nat → List V → Res V}

theorem told_seg (K : f.Ok KF g (d + 2)) (G : Gd KF g mg) (hcls : f.cls = .ref C) (hcd : f.cd = .ref c) (Cd : CodeHd g c P) (hPg : g.get? P = none) (gout : ∀ e ∈ f.outer, ∀ L, e.frame = some L → g.get? L = none)
    (hc : CallOk f.prog f.w KF f.addr f.cls Φ₀ d)
    (etold : fnHead KF (f.addr 32) f_told (fun sc b => toldChk (f_told.names.map mkS) sc b) = true) (hname : nsIn KF mainGlobals ("SqlError" : Str) = some (some (.ref C))) (hex : excIn KF C bmB newId = true) (hbase : bmB.contains (.type "BaseException") = true)
    {tn : Str} {np cp lpos : Pos} {params : Arguments} {body : Expr} {lscope : Scope} {clos : List (Str × Addr)} {nmL : List Str} {p : PE} {a : A}
    (htn : nth fnames 32 tn = true) (htg : glo f.scope tn = true) (hclos : closureFor lscope f.env = pure clos) (hdef : defaultsOf params f.env = ([], [])) (hlam : lamChk nmL p params body lscope = true)
    (st : f.cx.St h ρ) (tab : TabOk P lpos (f.env.qual ++ "<lambda>") h)
    (hv : ∀ i x, lkF nmL i = some x → ∃ j, lkF f.nm j = some x ∧ f.env.kindOf x = some .cell ∧ clos.lookup x = f.cells.lookup x ∧ lkV ρL i = lkV ρ j ∧ ∃ a, lkV ρ j = .at a)
    (hr : toldRes (evalE Φ₀ p ρL) = some a) {tk : Nat} {Q : Value → Shared → Prop}
    (hQ : ∀ u h' tk', WK P (wobOf (f.env :: f.outer)) h h' → TabOk P lpos (f.env.qual ++ "<lambda>") h' → RelA u a → Q u (f.cx.mk' h' tk')) :
    wpAny f.cx.M f.cx.A (eval (.Call (.Name tn np) [.Lambda params body lscope lpos] [] cp) f.env) Q (fun _ _ => False) (f.cx.mk' h tk) := by
  obtain ⟨⟨o, fd, ho, hd⟩, kf⟩ := K.cx.fn st (nth_eq htn) htg
  have frs := K.frsAt st
  obtain ⟨m, hn, hk, hcs, V⟩ := id st
  have kg : Keeps g h := fun b o e => hk b o (K.sub b o e).2 (K.sub b o e).1
  have hP : ∃ vs o, h.get? P = some o ∧ o.data = .fields vs := by
    rcases tab with t | ⟨c', t, _⟩
    · exact ⟨_, _, t, rfl⟩
    · exact ⟨_, _, t, rfl⟩
  obtain ⟨vsP, oP, hoP, hdP⟩ := hP
  have hPls : P ∉ wobOf (f.env :: f.outer) := fun z => by
    obtain ⟨en, hen, hf⟩ := mem_wobOf z
    obtain ⟨_, L, oL, hf', hoL, hdL⟩ := frs en hen
    rw [hf] at hf'
    cases hf'
    rw [hoP] at hoL
    cases hoL
    exact hdL _ hdP
  have hlsg : ∀ b o, g.get? b = some o → b ∉ wobOf (f.env :: f.outer) := fun b o e z => by
    obtain ⟨en, hen, hf⟩ := mem_wobOf z
    rcases List.mem_cons.mp hen with rfl | hen
    · exact (K.sub b o e).2 (Or.inl (Option.some.inj hf).symm)
    · rw [gout en hen b hf] at e; cases e
  refine wpAny_Call_NameR (kf _ _ _ _ ?_)
  refine Calls.callWith_function (o := o) (fd := fd) (Calls.evalArgs_plain (Calls.spliced_cons ?_))
  show wpAny _ _ (eval (.Lambda params body lscope lpos) f.env) _ _ _
  have hfe : f.env = envX f.name f.scope f.L f.a (.ref c) f.cells := by rw [← hcd]
  rw [hfe] at hclos hdef tab ⊢
  refine lam_make (s := f.cx.mk' h tk) G kg hPg Cd tab hclos hdef fun F h₁ tk₁ pm c' ctv hFn hF x₁ tab₁ hrec => ?_
  rw [← hfe] at hF tab₁ hrec
  have g₁ : Keeps g h₁ := fun b o e => x₁ b o (fun z => by rw [z, hPg] at e; cases e) (kg b o e)
  have frs₁ : FrsAt h₁ (f.env :: f.outer) := fun en hen => by
    obtain ⟨hkd, L, oL, hf, hoL, hdL⟩ := frs en hen
    exact ⟨hkd, L, oL, hf, x₁ L oL (fun z => hPls (z ▸ mem_wob hen hf)) hoL, hdL⟩
  have w₁ : WK P (wobOf (f.env :: f.outer)) h h₁ := WK.of_ext hPls x₁
  refine Calls.spliced_nil ⟨⟨x₁ _ _ (fun z => by rw [z, hoP] at ho; cases ho; rw [hdP] at hd; cases hd) ho, hd⟩, ?_⟩
  have base₁ : Base KF h₁ := K.base.keeps g₁
  have hcell : ∀ i x, lkF nmL i = some x → ∃ cc v, clos.lookup x = some cc ∧ h₁.IsCell cc (some v) ∧ ∃ a, lkV ρL i = .at a ∧ RelA v a := fun i x e => by
    obtain ⟨j, e1, e2, e3, e4, a', e5⟩ := hv i x e
    rcases V j x e1 with ⟨hl, _⟩ | ⟨hl, cc, v₀, hcl, ⟨oc, hoc, hdc⟩, q⟩
    · rw [e2] at hl; cases hl
    · rcases q with z | ⟨u, hu, ru⟩
      · rw [e5] at z; cases z
      · rw [e5] at ru
        subst hu
        refine ⟨cc, u, by rw [e3]; exact hcl, ⟨oc, x₁ _ _ (fun z => ?_) hoc, hdc⟩, a', by rw [e4, e5], ru⟩
        rw [z, hoP] at hoc; cases hoc; rw [hdP] at hdc; cases hdc
  have T := thunk_ok K.gl hc hlam hF hrec base₁ hcell
  rw [hcls] at T
  have hls : ∀ b ∈ wobOf (f.env :: f.outer), ∀ o, h₁.get? b = some o → ∀ vs, o.data ≠ .fields vs := fun b hb o e => by
    obtain ⟨en, hen, hf⟩ := mem_wobOf hb
    obtain ⟨_, L, oL, hf', hoL, hdL⟩ := frs₁ en hen
    rw [hf] at hf'
    cases hf'
    rw [e] at hoL
    cases hoL
    exact hdL
  have baseB : Base KF (hideAll h₁ (wobOf (f.env :: f.outer))) := K.base.keeps fun b o e => hideAll_get _ (g₁ b o e) (hlsg b o e)
  have rec₁ : ∀ h', WK P (wobOf (f.env :: f.outer)) h₁ h' → h'.get? P = h₁.get? P → TabOk P lpos (f.env.qual ++ "<lambda>") h' := fun h' w e => by
    rcases tab₁ with t | ⟨c₂, t, r⟩
    · exact Or.inl (e.trans t)
    · obtain ⟨c₃, oc, vs, tt, e2, hoc, hdc, r⟩ := r
      refine Or.inr ⟨c₂, e.trans t, c₃, oc, vs, tt, e2, w.keep _ _ (fun z => ?_) (fun z => hls _ z _ hoc _ hdc) hoc, hdc, r⟩
      rw [z, t] at hoc
      cases hoc
      cases hdc
      simp [rawInt] at r
  have newS₁ : ∀ a, h₁.get? a = none → f.S' a := fun a n => K.fresh st (by
    cases q : h.get? a with
    | none => rfl
    | some o =>
      by_cases z : a = P
      · subst z
        rcases tab₁ with t | ⟨_, t, _⟩ <;> (rw [n] at t; cases t)
      · rw [x₁ _ _ z q] at n; cases n)
  have rr : Room (f.A.deeper f.env) (d + 1 + 1) := K.room.deeper _
  refine told_call (B := hideAll h₁ (wobOf (f.env :: f.outer))) (S := f.S') etold hname hex hbase rr (below_hide (Around.frames_deeper K.fr) frs₁) base₁ baseB (Nat.le_of_eq (hideAll_size _ _)) newS₁ ⟨_, _, hF, rfl⟩ T ?_
  show ToldPost (hideAll h₁ (wobOf (f.env :: f.outer))) h₁ f.S' f.gens f.dr f.os Q (evalE Φ₀ p ρL)
  clear T
  cases q : evalE Φ₀ p ρL with
  | ok v =>
    rw [q] at hr
    cases v with
    | «at» a' =>
      cases hr
      intro u h' tk' kk r
      have w₂ : WK P (wobOf (f.env :: f.outer)) h₁ h' := WK.of_keeps kk
      exact hQ u h' tk' (w₁.trans w₂) (tab₁.keeps kk) r
    | _ => cases hr
  | raise =>
    rw [q] at hr
    cases hr
    intro h' tk' t hst up
    have w₂ : WK P (wobOf (f.env :: f.outer)) h₁ h' := WK.of_raise hls hst up
    refine hQ _ h' tk' (w₁.trans w₂) ?_ ⟨t, rfl, by decide⟩
    refine rec₁ h' w₂ ?_
    rcases tab₁ with t | ⟨_, t, _⟩
    · rw [t]; exact hst _ _ (hideAll_get _ t hPls)
    · rw [t]; exact hst _ _ (hideAll_get _ t hPls)
  | fail => rw [q] at hr; cases hr
end
end Mine
end

section
set_option maxRecDepth 100000
set_option linter.unusedVariables false
set_option genSizeOf false
set_option genInjectivity false
open PySem PySem.W PySem.NumText PyProof.Rows PySem.Builtin
namespace Mine

theorem WK.there {P : Addr} {ls : List Addr} {h h' : Heap} (w : WK P ls h h') {b : Addr} (n : h'.get? b = none) (hb : b ≠ P) : h.get? b = none := by
  cases q : h.get? b with
  | none => rfl
  | some o =>
    by_cases z : b ∈ ls
    · obtain ⟨sl, e⟩ := w.slot b o z q
      rw [n] at e; cases e
    · have := w.keep b o hb z q
      rw [n] at this; cases this
theorem TabOk.fields {P : Addr} {pos : Pos} {qual : Str} {h : Heap} (t : TabOk P pos qual h) : ∃ vs o, h.get? P = some o ∧ o.data = .fields vs := by
  rcases t with t | ⟨c', t, _⟩
  · exact ⟨_, _, t, rfl⟩
  · exact ⟨_, _, t, rfl⟩
theorem TabOk.there {P : Addr} {pos : Pos} {qual : Str} {h : Heap} (t : TabOk P pos qual h) : h.get? P ≠ none := by
  obtain ⟨_, _, e, _⟩ := t.fields
  rw [e]; intro z; cases z

section
variable {f : Sg} {KF : Frag} {g : Heap} {d : Nat} {h : Heap} {ρ ρL : List V} {P c C : Addr} {mg : Str → Option Value} {bmB : List Value} {newId : String} {Φ₀ : Nat → List V → Res V}

theorem told_stmt (K : f.Ok KF g (d + 2)) (G : Gd KF g mg) (hcls : f.cls = .ref C) (hcd : f.cd = .ref c) (Cd : CodeHd g c P) (hPg : g.get? P = none) (gout : ∀ e ∈ f.outer, ∀ L, e.frame = some L → g.get? L = none)
    (hc : CallOk f.prog f.w KF f.addr f.cls Φ₀ d)
    (etold : fnHead KF (f.addr 32) f_told (fun sc b => toldChk (f_told.names.map mkS) sc b) = true) (hname : nsIn KF mainGlobals ("SqlError" : Str) = some (some (.ref C))) (hex : excIn KF C bmB newId = true) (hbase : bmB.contains (.type "BaseException") = true)
    {tn sn : Str} {np cp lpos np2 cp2 p2 pos : Pos} {params : Arguments} {body e2 : Expr} {bd : List Stmt} {lscope : Scope} {clos : List (Str × Addr)} {nmL : List Str} {p q : PE} {a b : A}
    (htn : nth fnames 32 tn = true) (htg : glo f.scope tn = true) (hclos : closureFor lscope f.env = pure clos) (hdef : defaultsOf params f.env = ([], [])) (hlam : lamChk nmL p params body lscope = true)
    (hsn : nth fnames 33 sn = true) (hsg : glo f.scope sn = true) (hs2 : notStar e2 = true) (he2 : chk f.scope f.nm noTold q e2 = true)
    (st : f.cx.St h ρ) (tab : TabOk P lpos (f.env.qual ++ "<lambda>") h) (hat : atoms ρ = true)
    (hv : ∀ i x, lkF nmL i = some x → ∃ j, lkF f.nm j = some x ∧ f.env.kindOf x = some .cell ∧ clos.lookup x = f.cells.lookup x ∧ lkV ρL i = lkV ρ j ∧ ∃ a, lkV ρ j = .at a)
    (hr : toldRes (evalE Φ₀ p ρL) = some a) (hq : evalE f.Φ q ρ = .ok (.at b)) (hsame : f.Φ 33 [.at a, .at b] = .ok (.at (.bool true))) {tk : Nat} {Q : Flow → Shared → Prop}
    (hQ : ∀ h₁ h' tk', WK P (wobOf (f.env :: f.outer)) h h' → TabOk P lpos (f.env.qual ++ "<lambda>") h₁ → (f.at h₁).Ok KF g (d + 2) → (f.at h₁).cx.St h' ρ → WK P (wobOf (f.env :: f.outer)) h h₁ → Keeps h₁ h' → Q .next (f.cx.mk' h' tk')) :
    wpAny f.cx.M f.cx.A (exec (.If (.UnaryOp .Not (.Call (.Name sn np2) [.Call (.Name tn np) [.Lambda params body lscope lpos] [] cp, e2] [] cp2) p2) bd [] pos) f.env) Q (fun _ _ => False) (f.cx.mk' h tk) := by
  obtain ⟨⟨o, fd, ho, hd⟩, kf⟩ := K.cx.fn st (nth_eq hsn) hsg
  refine wpAny_If (isTrue_not (isTrue_plain ?_ (isTrue_eq rfl)))
  refine wpAny_Call_NameR (kf _ _ _ _ ?_)
  refine Calls.callWith_function (o := o) (fd := fd) (Calls.evalArgs_plain (Calls.spliced_cons ?_))
  show wpAny _ _ (eval (.Call (.Name tn np) [.Lambda params body lscope lpos] [] cp) f.env) _ _ _
  refine told_seg K G hcls hcd Cd hPg gout hc etold hname hex hbase htn htg hclos hdef hlam st tab hv hr fun u h₁ tk₁ w₁ tab₁ ru => ?_
  obtain ⟨K₁, st₁⟩ := K.next st w₁ tab.fields tab₁.there hPg gout hat
  have hT : ∀ p e, noTold p e = true → ES (f.at h₁).cx (.told p) e ∧ TS (f.at h₁).cx (.told p) e := fun p e z => nomatch z
  rw [starEach_of hs2]
  refine Calls.spliced_cons ((es_all K₁.cx hT q e2 he2).1 ρ h₁ tk₁ _ _ st₁ ?_)
  show Post (f.at h₁).cx (evalE f.Φ q ρ) _ _ h₁
  rw [hq]
  intro v h₂ tk₂ g₂ r₂
  have g₂ : Keeps h₁ h₂ := g₂
  have st₂ := K₁.cx.st g₂ st₁
  have hPo : ∀ b, b = P → h.get? b = some o → False := fun b z e => by
    subst z
    obtain ⟨vs, o', e', hd'⟩ := tab.fields
    rw [e] at e'; cases e'
    rw [hd] at hd'; cases hd'
  have ho₁ : h₁.get? (f.addr 33) = some o := by
    refine w₁.keep _ _ (fun z => hPo _ z ho) (fun z => ?_) ho
    obtain ⟨X, _⟩ := K.base
    obtain ⟨_, of, ff, hof, _⟩ := K.gl.fn 33 sn (nth_eq hsn)
    have hog := X _ _ hof
    obtain ⟨en, hen, hf⟩ := mem_wobOf z
    rcases List.mem_cons.mp hen with rfl | hen
    · exact (K.sub _ _ hog).2 (Or.inl (Option.some.inj hf).symm)
    · rw [gout en hen _ hf] at hog; cases hog
  refine Calls.spliced_nil ⟨⟨g₂ _ _ ho₁, hd⟩, ?_⟩
  refine K₁.cx.call (f := 33) (xs := [.at a, .at b]) st₂ ⟨ru, r₂, trivial⟩ ?_
  show Post (f.at h₁).cx (f.Φ 33 [.at a, .at b]) _ _ h₂
  rw [hsame]
  intro v h₃ tk₃ g₃ r₃
  have g₃ : Keeps h₂ h₃ := g₃
  cases r₃
  refine wpAny_truthy_bool ?_
  simp only [Bool.not_true, Bool.false_eq_true, if_false]
  have kk : Keeps h₁ h₃ := Keeps.trans g₂ g₃
  exact wpAny_execs_nil (hQ h₁ h₃ tk₃ (w₁.trans (WK.of_keeps kk)) tab₁ K₁ (K₁.cx.st g₃ st₂) w₁ kk)
end
end Mine
end

section
set_option maxRecDepth 100000
set_option linter.unusedVariables false
set_option genSizeOf false
set_option genInjectivity false
open PySem PySem.W PySem.NumText PyProof.Rows PySem.Builtin
namespace Mine

/-! cells -/
noncomputable def cellNames (l : List (Str × NameKind)) : List Str := (l.filter fun x => x.2 == .cell).map (·.1)
noncomputable def cellsOf : Nat → List Str → List (Str × Addr) → List (Str × Addr)
  | _, [], acc => acc
  | n, x :: r, acc => cellsOf (n + 1) r ((x, n) :: acc)
theorem cellsFrom_eq : ∀ (l : List (Str × NameKind)) (n : Nat) (acc : List (Str × Addr)), cellsFrom n l acc = cellsOf n (cellNames l) acc
  | [], n, acc => rfl
  | (x, k) :: r, n, acc => by
    cases k with
    | cell => exact cellsFrom_eq r (n + 1) _
    | _ => exact cellsFrom_eq r n acc

theorem closure_ok {scope : Scope} {env : Env} (h : (scope.names.all fun x => x.2 != .free || (env.cells.lookup x.1).isSome) = true) :
    ∃ clos, closureFor scope env = pure clos ∧ ∀ x, scope.names.lookup x = some .free → clos.lookup x = env.cells.lookup x := by
  have key : ∀ (l : List (Str × NameKind)) (cs : List (Str × Addr)), (l.all fun x => x.2 != .free || (env.cells.lookup x.1).isSome) = true → (∀ p ∈ cs, env.cells.lookup p.1 = some p.2) →
      ∃ cs', (forIn l cs fun x cs => do if x.2 == .free then pure (ForInStep.yield ((x.1, ← cellOf env x.1) :: cs)) else pure (ForInStep.yield cs) : Sem (List (Str × Addr))) = pure cs' ∧ (∀ p ∈ cs', env.cells.lookup p.1 = some p.2) ∧
        (∀ p ∈ cs, p ∈ cs') ∧ ∀ x ∈ l, x.2 = .free → ∃ c, (x.1, c) ∈ cs' := by
    intro l
    induction l with
    | nil => intro cs _ hc; exact ⟨cs, rfl, hc, fun p hp => hp, fun x hx => nomatch hx⟩
    | cons y r ih =>
      intro cs hl hc
      simp only [List.all_cons, Bool.and_eq_true] at hl
      obtain ⟨h1, h2⟩ := hl
      by_cases hy : y.2 = .free
      · have : (env.cells.lookup y.1).isSome = true := by simpa [hy] using h1
        obtain ⟨c, hcc⟩ := Option.isSome_iff_exists.mp this
        obtain ⟨cs', e, a1, a2, a3⟩ := ih ((y.1, c) :: cs) h2 fun p hp => by
          rcases List.mem_cons.mp hp with rfl | hp
          · exact hcc
          · exact hc p hp
        refine ⟨cs', ?_, a1, fun p hp => a2 p (.tail _ hp), fun x hx hf => ?_⟩
        · rw [List.forIn_cons]
          have e2 : cellOf env y.1 = pure c := by unfold cellOf; rw [hcc]
          rw [hy, e2]
          exact e
        · rcases List.mem_cons.mp hx with rfl | hx
          · exact ⟨c, a2 _ (.head _)⟩
          · exact a3 x hx hf
      · obtain ⟨cs', e, a1, a2, a3⟩ := ih cs h2 hc
        refine ⟨cs', ?_, a1, a2, fun x hx hf => ?_⟩
        · rw [List.forIn_cons]
          have : (y.2 == NameKind.free) = false := beq_false_of_ne hy
          rw [this]
          exact e
        · rcases List.mem_cons.mp hx with rfl | hx
          · exact absurd hf hy
          · exact a3 x hx hf
  obtain ⟨cs', e, a1, a2, a3⟩ := key scope.names [] h fun p hp => nomatch hp
  refine ⟨cs', ?_, fun x hx => ?_⟩
  · unfold closureFor
    exact (bind_pure _).trans e
  · obtain ⟨c, hc⟩ := a3 (x, .free) (mem_of_lookup hx) rfl
    have : ∃ c', cs'.lookup x = some c' := by
      clear a1 a2 a3 e
      induction cs' with
      | nil => cases hc
      | cons p r ih =>
        obtain ⟨px, pc⟩ := p
        by_cases hx : x = px
        · subst hx; exact ⟨pc, by rw [List.lookup_cons]; simp⟩
        · rw [List.lookup_cons, beq_false_of_ne hx]
          rcases List.mem_cons.mp hc with q | q
          · cases q; exact absurd rfl hx
          · exact ih q
    obtain ⟨c', hc'⟩ := this
    rw [hc', a1 _ (mem_of_lookup hc')]
end Mine
end

section
set_option maxRecDepth 100000
set_option linter.unusedVariables false
set_option genSizeOf false
set_option genInjectivity false
open PySem PySem.W PySem.NumText PyProof.Rows PySem.Builtin
namespace Mine

theorem call_cellsN {prog : Program} {w : World} {A : Around} {s : Shared} {R : Result → Shared → Prop} {name : Str} {params : Arguments} {body : List Stmt} {scope : Scope} {pm cd doc : Value} {a : Addr} {o : Obj} {args : List Value} {binds : List (Str × Value)} {cells : List (Str × Addr)}
    (hroom : A.depth < recursionLimit) (ho : s.heap.get? a = some o) (hdata : o.data = .func (Calls.docDef name params body scope pm cd doc)) (hlim : s.heap.NoLimit) (hcd : s.heap.CodeRec cd name)
    (hbind : bindArgs (Calls.docDef name params body scope pm cd doc) ⟨args, []⟩ = pure binds) (hcells : cellsOf (s.heap.objs.size + 1) (cellNames scope.names) [] = cells)
    (hkind : ∀ x ∈ binds, scope.names.lookup x.1 = some .local ∨ (scope.names.lookup x.1 = some .cell ∧ (cells.lookup x.1).isSome = true))
    (h : ∀ h₁ tk₁, h₁.Ns s.heap.objs.size (bindL (envX name scope s.heap.objs.size a cd cells).kindOf binds fun _ => none) → Keeps s.heap h₁ →
      (∀ n c, cells.lookup n = some c → h₁.IsCell c (bindC (envX name scope s.heap.objs.size a cd cells).kindOf binds (fun _ => none) n)) → cells.Pairwise (fun x y => x.2 ≠ y.2) → (∀ n c, (n, c) ∈ cells → s.heap.objs.size < c) →
      wpN (model prog w) (A.deeper (envX name scope s.heap.objs.size a cd cells)) (execs body (envX name scope s.heap.objs.size a cd cells))
        (fun f s' => R (.ok (.ret (match f with | .ret v => v | _ => .none))) s') { s with heap := h₁, toks := tk₁ })
    (hco : scope.isCoroutine = false) (hgen : scope.isGenerator = false) (hk : scope.kind = .function) : codeN (model prog w) A (.call (.ref a) ⟨args, []⟩) R s := by
  refine call_functionN hroom ho hdata hco hgen rfl hcd ?_
  rw [hbind]
  have hc : cellsFrom (s.heap.objs.size + 1) scope.names [] = cells := (cellsFrom_eq _ _ _).trans hcells
  refine wpAny_pure (wpAny_newFunctionEnv_cells hk (by show ∀ x ∈ binds, _; rw [show (cellsFrom (s.heap.objs.size + 1) (Calls.docDef name params body scope pm cd doc).scope.names []) = cells from hc]; exact hkind) fun env he s' x => ?_)
  have he : env = envX name scope s.heap.objs.size a cd cells := by
    rw [he]
    show newEnv scope s.heap.objs.size mainGlobals (cellsFrom (s.heap.objs.size + 1) scope.names []) _ _ _ _ _ = _
    rw [hc]
    rfl
  subst he
  obtain ⟨⟨⟨h₁, tk₁, rfl⟩, hns, hkeep, _⟩, hcell, hap, hab⟩ := x
  exact ⟨hlim.keeps hkeep, funcN (h h₁ tk₁ hns hkeep hcell hap hab)⟩

/-- what the law's own defs lean on -/
structure Lw (prog : Program) (w : World) (KF : Frag) (g : Heap) (mg : Str → Option Value) (C : Addr) (bmB : List Value) (newId : String) : Prop where
  G : Gd KF g mg
  base : Base KF g
  gl : Gl KF addrOf
  call : ∀ d, CallOk prog w KF addrOf (.ref C) (run Mine.prog d) d
  told : fnHead KF (addrOf 32) f_told (fun sc b => toldChk (f_told.names.map mkS) sc b) = true
  name : nsIn KF mainGlobals ("SqlError" : Str) = some (some (.ref C))
  exc : excIn KF C bmB newId = true
  bas : bmB.contains (.type "BaseException") = true
  blob : ∀ x r, blobOfV (run Mine.prog 10) x = .ok r → CallN prog w KF (addrOf 11) 12 [.at x, .at (.str [98, 108, 111, 98])] r
noncomputable def OutOk (g : Heap) (outer : List Env) : Prop := ∀ e ∈ outer, ∀ L, e.frame = some L → g.get? L = none

noncomputable def seqNth : PS → Nat → PS
  | .seq p _, 0 => p
  | .seq _ q, n + 1 => seqNth q n
  | _, _ => .fail
noncomputable def toldIn : PS → PE
  | .ite (.not (.call2 _ (.told p) _)) _ _ => p
  | _ => .fail
noncomputable def toldTo : PS → PE
  | .ite (.not (.call2 _ (.told _) q)) _ _ => q
  | _ => .fail
noncomputable def noSp : PS → Stmt → Bool := fun _ _ => false
noncomputable def pA (n : Nat) : PS := seqNth f_law_alone_right.body n
noncomputable def nmA : List Str := f_law_alone_right.names.map mkS
noncomputable def posA : Pos := ⟨315, 31, 0, 0⟩
noncomputable def nameA : Str := "_law_alone_right"
noncomputable def qualA : Str := nameA ++ ".<locals>." ++ "<lambda>"
/-- what the evaluator tells of the law of one value -/
structure AloneFact (a : A) (n r b o c : A) : Prop where
  f0 : execP (run prog 12) (pA 0) [.at a, .undef, .undef] = .ok (.next [.at a, .at n, .undef])
  f1 : execP (run prog 12) (pA 1) [.at a, .at n, .undef] = .ok (.next [.at a, .at n, .undef])
  f2 : toldRes (evalE (run prog 10) (toldIn (pA 2)) [.at a]) = some r
  f2' : evalE (run prog 12) (toldTo (pA 2)) [.at a, .at n, .undef] = .ok (.at b)
  f2s : run prog 12 33 [.at r, .at b] = .ok (.at (.bool true))
  f3 : execP (run prog 12) (pA 3) [.at a, .at n, .undef] = .ok (.next [.at a, .at n, .undef])
  f4 : execP (run prog 12) (pA 4) [.at a, .at n, .undef] = .ok (.next [.at a, .at n, .undef])
  f5 : execP (run prog 12) (pA 5) [.at a, .at n, .undef] = .ok (.next [.at a, .at n, .undef])
  f6 : execP (run prog 12) (pA 6) [.at a, .at n, .undef] = .ok (.next [.at a, .at n, .at o])
  f7 : blobOfV (run prog 10) a = .ok (.at c)
  f7s : run prog 12 33 [.at c, .at o] = .ok (.at (.bool true))
end Mine
end

section
set_option maxRecDepth 100000
set_option linter.unusedVariables false
set_option genSizeOf false
set_option genInjectivity false
open PySem PySem.W PySem.NumText PyProof.Rows PySem.Builtin
namespace Mine

section
variable {f : Sg} {KF : Frag} {g : Heap} {d : Nat} {h h' : Heap} {ρ ρ' : List V} {P : Addr}
theorem Sg.own_data (st : f.cx.St h ρ) {b : Addr} (hb : f.own b) : ∃ o, h.get? b = some o ∧ ∀ vs, o.data ≠ .fields vs := by
  obtain ⟨m, ⟨oL, es, ep, hoL, hdL, _⟩, hk, hc, V⟩ := st
  rcases hb with rfl | hb
  · exact ⟨oL, hoL, fun vs e => by rw [hdL] at e; cases e⟩
  · obtain ⟨p, hp, rfl⟩ := List.mem_map.mp hb
    obtain ⟨v, o, ho, hd⟩ := hc p hp
    exact ⟨o, ho, fun vs e => by rw [hd] at e; cases e⟩
theorem tab_step {pos : Pos} {q : Str} (tab : TabOk P pos q f.hS) (k : Keeps f.hS h) (st : f.cx.St h ρ) (st' : f.cx.St h' ρ') : TabOk P pos q h' := by
  have key : ∀ b o vs, f.hS.get? b = some o → o.data = .fields vs → h'.get? b = some o := fun b o vs e hd => by
    obtain ⟨m, hn, hk, hc, V⟩ := st'
    refine hk b o (fun z => ?_) e
    obtain ⟨o', ho', hd'⟩ := Sg.own_data st z
    rw [k _ _ e] at ho'
    cases ho'
    exact hd' _ hd
  rcases tab with t | ⟨c', t, c, o, vs, tt, e, ho, hd, r⟩
  · exact Or.inl (key _ _ _ t rfl)
  · exact Or.inr ⟨c', key _ _ _ t rfl, c, o, vs, tt, e, key _ _ _ ho hd, hd, r⟩
end
theorem sized {h : Heap} {l : List Env} (F : FrsAt h l) {e : Env} (he : e ∈ l) {L : Addr} (hf : e.frame = some L) : L < h.objs.size := by
  obtain ⟨_, L', o, hf', ho, _⟩ := F e he
  rw [hf] at hf'
  cases hf'
  exact Heap.lt_size ho

theorem TabOk.pos {P : Addr} {p p' : Pos} {q : Str} {h : Heap} (e1 : p.line = p'.line) (e2 : p.col = p'.col) (t : TabOk P p q h) : TabOk P p' q h := by
  unfold TabOk at t ⊢
  rw [← e1, ← e2]
  exact t

section
variable {KF : Frag} {g : Heap} {mg : Str → Option Value} {C : Addr} {bmB : List Value} {newId : String}

noncomputable def freeIn (nmL : List Str) (ls : Scope) : Bool := ls.names.all fun x => x.2 != .free || nmL.contains x.1
theorem free_cells {nmL : List Str} {ls : Scope} {env : Env} (h : freeIn nmL ls = true) (hc : ∀ x ∈ nmL, (env.cells.lookup x).isSome = true) : (ls.names.all fun x => x.2 != .free || (env.cells.lookup x.1).isSome) = true :=
  List.all_eq_true.mpr fun x hx => by
    rcases Bool.or_eq_true_iff.mp (List.all_eq_true.mp h x hx) with q | q
    · rw [q]; rfl
    · rw [hc _ (List.contains_iff_mem.mp q), Bool.or_true]
noncomputable def pLam (nmL : List Str) (p : PE) (line : Nat) : Pat Expr := eLambda.comp (pIs fun d : Arguments × Expr × Scope × Pos => (lamChk nmL p d.1 d.2.1 d.2.2.1 && freeIn nmL d.2.2.1) && (line == d.2.2.2.line && 31 == d.2.2.2.col))
noncomputable def pToldSt (sc : Scope) (nm nmL : List Str) (line : Nat) (pin pto : PE) : Pat Stmt := sIf.comp (pp (pUn .Not (pCallN (pFn sc 33) (pTwo (pCallN (pFn sc 32) (pOne (pLam nmL pin line))) (pN (chk sc nm noTold pto))))) (pp (pAny (List Stmt)) (pP pNil)))
noncomputable def pC (sc : Scope) (nm : List Str) (p : PS) : Pat Stmt := pIs (chk1 sc nm noTold noSp true p)
noncomputable def pX (sc : Scope) (nm : List Str) (p : PE) : Pat Expr := pN (chk sc nm noTold p)
noncomputable def aloneEnd (sc : Scope) (nm : List Str) : Pat (List Stmt) := pOne (pRet (pCallN (pFn sc 33) (pTwo (pCallN (pFn sc 11) (pTwo (pX sc nm (.loc 0)) (pX sc nm (.const (.str [98, 108, 111, 98]))))) (pX sc nm (.loc 2)))))
noncomputable def alonePat (sc : Scope) (nm : List Str) : Pat (List Stmt) := pCons (pC sc nm (pA 0)) (pCons (pC sc nm (pA 1)) (pCons (pToldSt sc nm [mkS [97]] 315 (toldIn (pA 2)) (toldTo (pA 2))) (pCons (pC sc nm (pA 3)) (pCons (pC sc nm (pA 4)) (pCons (pC sc nm (pA 5)) (pCons (pC sc nm (pA 6)) (aloneEnd sc nm)))))))
noncomputable def aloneBody (scope : Scope) (body : List Stmt) : Bool := (alonePat scope nmA).m body

theorem lam_def {nm : List Str} {p : PE} {lp : Arguments} {lb : Expr} {ls : Scope} {env : Env} (b : lamChk nm p lp lb ls = true) : defaultsOf lp env = ([], []) := by
  unfold lamChk at b
  simp only [Bool.and_eq_true] at b
  obtain ⟨d, rfl⟩ := Pat.of (P := argsPat pNil) b.1.1.1.1.1.1
  rfl
theorem lam_free {nm : List Str} {p : PE} {lp : Arguments} {lb : Expr} {ls : Scope} (b : lamChk nm p lp lb ls = true) {x : Str} (hx : x ∈ nm) : ls.names.lookup x = some .free := by
  unfold lamChk at b
  simp only [Bool.and_eq_true] at b
  have := List.all_eq_true.mp b.1.2 x hx
  simp only [Bool.and_eq_true, beq_iff_eq] at this
  exact this.1

theorem alone_end {f : Sg} (lw : Lw f.prog f.w KF g mg C bmB newId) (K : f.Ok KF g 12) (hΦ' : f.cx.Φ = run Mine.prog 12) (hcls : f.cls = .ref C) (haddr : f.addr = addrOf) {rn cn : Str} {c1 c2 o1 : Expr} {q7 q8 q9 q10 q11 : Pos} (b17 : nth fnames 33 rn = true) (b18 : glo f.scope rn = true) (b19 : nth fnames 11 cn = true) (b20 : glo f.scope cn = true)
    (b21 : notStar c1 = true) (b22 : chk f.scope f.nm noTold (.loc 0) c1 = true) (b23 : notStar c2 = true) (b24 : chk f.scope f.nm noTold (.const (.str [98, 108, 111, 98])) c2 = true) (b25 : notStar o1 = true) (b26 : chk f.scope f.nm noTold (.loc 2) o1 = true)
    {a n r b o c m : A} {h₉ : Heap} {tk₉ : Nat} {Q : Flow → Shared → Prop} (st₉ : f.cx.St h₉ [.at a, .at m, .at o]) (F : AloneFact a n r b o c) (hQ : ∀ h' tk', f.cx.St h' [.at a, .at m, .at o] → Q (.ret (.bool true)) (f.cx.mk' h' tk')) :
    wpN f.cx.M f.cx.A (execs [.Return (some (.Call (.Name rn q7) [.Call (.Name cn q8) [c1, c2] [] q9, o1] [] q10)) q11] f.env) Q (f.cx.mk' h₉ tk₉) := by
  have hT : ∀ p e, noTold p e = true → ES f.cx (.told p) e ∧ TS f.cx (.told p) e := fun p e z => nomatch z
  have EA := es_all K.cx hT
  obtain ⟨⟨o33, fd33, ho33, hd33⟩, kf33⟩ := K.cx.fn st₉ (nth_eq b17) b18
  obtain ⟨⟨o11, fd11, ho11, hd11⟩, kf11⟩ := K.cx.fn st₉ (nth_eq b19) b20
  have ns1 : notStar (.Call (.Name cn q8) [c1, c2] [] q9) = true := rfl
  refine execsN_cons (ReturnN (CallNameN (kf33 _ _ _ _ (callWithN_function (o := o33) (fd := fd33) (by rw [starEach_of ns1, starEach_of b25]; rfl) ?_))))
  rw [starEach_of ns1, starEach_of b25]
  refine splicedN_cons ?_
  refine CallNameN (kf11 _ _ _ _ (callWithN_function (o := o11) (fd := fd11) (by rw [starEach_of b21, starEach_of b23]; rfl) ?_))
  rw [starEach_of b21, starEach_of b23]
  refine splicedN_cons (wpN_of ((EA _ _ b22).1 _ h₉ _ _ (fun _ _ => False) st₉ ?_))
  show Post f.cx (.ok (.at a)) _ _ h₉
  intro v₁ h₁₀ tk₁₀ g₁₀ r₁₀
  have g₁₀ : Keeps h₉ h₁₀ := g₁₀
  have st₁₀ := K.cx.st g₁₀ st₉
  refine splicedN_cons (wpN_of ((EA _ _ b24).1 _ h₁₀ _ _ (fun _ _ => False) st₁₀ ?_))
  show Post f.cx (.ok (.at (.str [98, 108, 111, 98]))) _ _ h₁₀
  intro v₂ h₁₁ tk₁₁ g₁₁ r₁₁
  have g₁₁ : Keeps h₁₀ h₁₁ := g₁₁
  have st₁₁ := K.cx.st g₁₁ st₁₀
  refine splicedN_nil ⟨⟨g₁₁ _ _ (g₁₀ _ _ ho11), hd11⟩, ?_⟩
  have hblob := lw.blob a _ F.f7
  rw [← haddr] at hblob
  refine hblob _ _ _ f.S' _ _ _ _ _ _ _ (K.room.deeper _) (K.below st₁₁) (K.base' st₁₁) (fun a n => K.fresh st₁₁ n) ⟨r₁₀, r₁₁, trivial⟩ fun v₃ h₁₂ tk₁₂ g₁₂ r₁₂ => ?_
  have st₁₂ := K.cx.st g₁₂ st₁₁
  refine splicedN_cons (wpN_of ((EA _ _ b26).1 _ h₁₂ _ _ (fun _ _ => False) st₁₂ ?_))
  show Post f.cx (.ok (.at o)) _ _ h₁₂
  intro v₄ h₁₃ tk₁₃ g₁₃ r₁₃
  have g₁₃ : Keeps h₁₂ h₁₃ := g₁₃
  have st₁₃ := K.cx.st g₁₃ st₁₂
  refine splicedN_nil ⟨⟨g₁₃ _ _ (g₁₂ _ _ (g₁₁ _ _ (g₁₀ _ _ ho33))), hd33⟩, ?_⟩
  refine wpN_of (K.cx.call (f := 33) (xs := [.at c, .at o]) (E := fun _ _ => False) st₁₃ ⟨r₁₂, r₁₃, trivial⟩ ?_)
  rw [hΦ', F.f7s]
  intro v₅ h₁₄ tk₁₄ g₁₄ r₁₄
  cases r₁₄
  have st₁₄ := K.cx.st g₁₄ st₁₃
  exact hQ h₁₄ tk₁₄ st₁₄

theorem alone_body {f : Sg} (lw : Lw f.prog f.w KF g mg C bmB newId) (K : f.Ok KF g 12) (hnm : f.nm = nmA) (hname : f.name = nameA) (hΦ : f.Φ = run Mine.prog 12) (hcls : f.cls = .ref C) (hcd : f.cd = .ref 314) (haddr : f.addr = addrOf)
    (hka : f.env.kindOf (mkS [97]) = some .cell) (hca : (f.cells.lookup (mkS [97])).isSome = true) {body : List Stmt} (hp : (alonePat f.scope nmA).m body = true) (Cd : CodeHd g 314 310) (hPg : g.get? 310 = none) (gout : OutOk g f.outer) {h : Heap} {tk : Nat}
    {a n r b o c : A} {Q : Flow → Shared → Prop} (st : f.cx.St h [.at a, .undef, .undef]) (tab : ∀ h₃ ρ, f.cx.St h₃ ρ → TabOk 310 posA qualA h₃) (F : AloneFact a n r b o c)
    (hQ : ∀ h₃ h₄ h' tk' ρ₃ ρ', f.cx.St h₃ ρ₃ → WK 310 (wobOf (f.env :: f.outer)) h₃ h₄ → (f.at h₄).cx.St h' ρ' → TabOk 310 posA qualA h' → Q (.ret (.bool true)) (f.cx.mk' h' tk')) :
    wpN f.cx.M f.cx.A (execs body f.env) Q (f.cx.mk' h tk) := by
  rw [← hnm] at hp
  obtain ⟨d, rfl⟩ := Pat.of hp
  have hq : qualA = f.env.qual ++ "<lambda>" := by
    show _ = (f.name ++ ".<locals>." : Str) ++ "<lambda>"
    rw [hname]
    rfl
  have hΦ' : ∀ x, (f.at x).cx.Φ = run Mine.prog 12 := fun _ => hΦ
  have hT : ∀ (f : Sg), f.cx.Ok → ∀ p e, noTold p e = true → ES f.cx (.told p) e ∧ TS f.cx (.told p) e := fun f _ p e z => nomatch z
  have XA := fun p => (xs_all K.sok (tl := noTold) (sp := noSp) (dl := true) (fun _ => rfl) (fun _ => rfl) (hT f K.cx) (fun p st h => nomatch h) p).1
  refine execsN_last (XA _ _ d.1.2) st (by rw [show f.cx.Φ = _ from hΦ]; exact F.f0) fun h₂ tk₂ st₂ _ => ?_
  refine execsN_last (XA _ _ d.2.1.2) st₂ (by rw [show f.cx.Φ = _ from hΦ]; exact F.f1) fun h₃ tk₃ st₃ _ => ?_
  obtain ⟨clos, hclos, hcl⟩ := closure_ok (scope := d.2.2.1.1.2.1.2.1.1.2.1.1.2.2.1) (env := f.env) (free_cells (andR (andL d.2.2.1.1.2.1.2.1.1.2.1.2)) fun x hx => by
    obtain rfl : x = mkS [97] := by simpa using hx
    exact hca)
  have tab₃ := (tab h₃ _ st₃).pos (p' := d.2.2.1.1.2.1.2.1.1.2.1.1.2.2.2) (eq_of_beq (andL (andR d.2.2.1.1.2.1.2.1.1.2.1.2))) (eq_of_beq (andR (andR d.2.2.1.1.2.1.2.1.1.2.1.2)))
  rw [hq] at tab₃
  have htold := lw.told
  rw [← haddr] at htold
  have hcall : CallOk f.prog f.w KF f.addr f.cls (run Mine.prog 10) 10 := by rw [haddr, hcls]; exact lw.call 10
  refine execsN_cons (wpN_of (told_stmt (Φ₀ := run Mine.prog 10) (ρL := [.at a]) (a := r) (b := b) K lw.G hcls hcd Cd hPg gout hcall htold lw.name lw.exc lw.bas (andL d.2.2.1.1.2.1.2.1.1.1.1.2) (andR d.2.2.1.1.2.1.2.1.1.1.1.2) hclos (lam_def (andL (andL d.2.2.1.1.2.1.2.1.1.2.1.2))) (andL (andL d.2.2.1.1.2.1.2.1.1.2.1.2)) (andL d.2.2.1.1.2.1.1.1.2) (andR d.2.2.1.1.2.1.1.1.2) (andL d.2.2.1.1.2.1.2.1.2.2) (andR d.2.2.1.1.2.1.2.1.2.2) st₃ tab₃ rfl (fun i x ex => ?_) F.f2 (by rw [hΦ]; exact F.f2') (by rw [hΦ]; exact F.f2s) fun h₄ h₅ tk₅ w₅ tab₄ K₅ st₅ w₄ k₅ => ?_))
  · match i, ex with
    | 0, ex => cases ex; exact ⟨0, by rw [hnm]; rfl, hka, hcl _ (lam_free (andL (andL d.2.2.1.1.2.1.2.1.1.2.1.2)) (by simp)), rfl, a, rfl⟩
    | n + 1, ex => cases ex
  have XB := fun p => (xs_all K₅.sok (tl := noTold) (sp := noSp) (dl := true) (fun _ => rfl) (fun _ => rfl) (hT _ K₅.cx) (fun p st h => nomatch h) p).1
  refine execsN_last (C := (f.at h₄).cx) (XB _ _ d.2.2.2.1.2) st₅ (by rw [hΦ']; exact F.f3) fun h₆ tk₆ st₆ _ => ?_
  refine execsN_last (C := (f.at h₄).cx) (XB _ _ d.2.2.2.2.1.2) st₆ (by rw [hΦ']; exact F.f4) fun h₇ tk₇ st₇ _ => ?_
  refine execsN_last (C := (f.at h₄).cx) (XB _ _ d.2.2.2.2.2.1.2) st₇ (by rw [hΦ']; exact F.f5) fun h₈ tk₈ st₈ _ => ?_
  refine execsN_last (C := (f.at h₄).cx) (XB _ _ d.2.2.2.2.2.2.1.2) st₈ (by rw [hΦ']; exact F.f6) fun h₉ tk₉ st₉ _ => ?_
  refine alone_end (f := f.at h₄) lw K₅ (hΦ' h₄) hcls haddr (andL d.2.2.2.2.2.2.2.1.1.1.2) (andR d.2.2.2.2.2.2.2.1.1.1.2) (andL d.2.2.2.2.2.2.2.1.2.1.1.1.1.2) (andR d.2.2.2.2.2.2.2.1.2.1.1.1.1.2) (andL d.2.2.2.2.2.2.2.1.2.1.1.2.1.1.2) (andR d.2.2.2.2.2.2.2.1.2.1.1.2.1.1.2) (andL d.2.2.2.2.2.2.2.1.2.1.1.2.1.2.2) (andR d.2.2.2.2.2.2.2.1.2.1.1.2.1.2.2) (andL d.2.2.2.2.2.2.2.1.2.1.2.2) (andR d.2.2.2.2.2.2.2.1.2.1.2.2) st₉ F fun h₁₄ tk₁₄ st₁₄ => ?_
  have tab₁₄ := tab_step (f := f.at h₄) tab₄ k₅ st₅ st₁₄
  rw [← hq] at tab₁₄
  exact hQ h₃ h₄ h₁₄ tk₁₄ _ _ st₃ w₄ st₁₄ (tab₁₄.pos (Eq.symm (eq_of_beq (andL (andR d.2.2.1.1.2.1.2.1.1.2.1.2)))) (Eq.symm (eq_of_beq (andR (andR d.2.2.1.1.2.1.2.1.1.2.1.2)))))
end
end Mine
end

section
set_option maxRecDepth 100000
set_option linter.unusedVariables false
set_option genSizeOf false
set_option genInjectivity false
open PySem PySem.W PySem.NumText PyProof.Rows PySem.Builtin
namespace Mine

noncomputable def aloneChk (name : Str) (cd : Value) (params : Arguments) (scope : Scope) (body : List Stmt) : Bool :=
  name == nameA && cd == .ref 314 && parsIs params [mkS [97]] && cellNames scope.names == [mkS [97]] && scope.names.lookup (mkS [97]) == some .cell && scope.names.lookup (mkS [110, 117, 109, 98, 101, 114]) == some .local &&
  scope.names.lookup (mkS [111, 99, 116, 101, 116, 115]) == some .local && aloneBody scope body
theorem pars_of {params : Arguments} {l : List Str} (e : parsIs params l = true) : parsOf params = some l := eq_of_beq e
theorem Keeps.of_own {f : Sg} {h h' : Heap} {ρ : List V} (st : f.cx.St h' ρ) (k : Keeps h f.hS) (ho : ∀ b : Nat, f.own b → h.objs.size ≤ b) : Keeps h h' := fun b o e => by
  obtain ⟨m, hn, hk, hc, V⟩ := st
  exact hk b o (fun z => absurd (Heap.lt_size e) (Nat.not_lt.mpr (ho b z))) (k _ _ e)
/-- what a call of one of the law's own defs that makes a lambda keeps, seen from the caller -/
theorem WK.out {f : Sg} {P : Addr} {h h₃ h₄ h' : Heap} {ρ₃ ρ' : List V} (ho : ∀ b : Nat, f.own b → h.objs.size ≤ b) (k : Keeps h f.hS) (st₃ : f.cx.St h₃ ρ₃) (w : WK P (wobOf (f.env :: f.outer)) h₃ h₄) (st' : (f.at h₄).cx.St h' ρ') : WK P (wobOf f.outer) h h' := by
  have k₃ := Keeps.of_own st₃ k ho
  have keep : ∀ b o, ¬ f.own b → h₄.get? b = some o → h'.get? b = some o := fun b o z e => by
    obtain ⟨m, hn, hk, hc, V⟩ := st'
    exact hk b o z e
  have no : ∀ {b : Nat} {o : Obj}, h.get? b = some o → ¬ f.own b := fun {b o} e z => absurd (Heap.lt_size e) (Nat.not_lt.mpr (ho b z))
  refine ⟨fun b o hb hn e => keep b o (no e) (w.keep b o hb (fun z => ?_) (k₃ _ _ e)), fun b o hb e => ?_⟩
  · obtain ⟨en, hen, hf⟩ := mem_wobOf z
    rcases List.mem_cons.mp hen with rfl | hen
    · exact no e (Or.inl (Option.some.inj hf).symm)
    · exact hn (mem_wob hen hf)
  · obtain ⟨en, hen, hf⟩ := mem_wobOf hb
    obtain ⟨sl, e'⟩ := w.slot b o (mem_wob (.tail _ hen) hf) (k₃ _ _ e)
    exact ⟨sl, keep b _ (no e) e'⟩

section
variable {prog : Program} {w : World} {KF : Frag} {g : Heap} {mg : Str → Option Value} {C : Addr} {bmB : List Value} {newId : String}

theorem alone_call (lw : Lw prog w KF g mg C bmB newId) (e : dHead KF (addrOf 36) aloneChk = true) (Cd : CodeHd g 314 310) (hPg : g.get? 310 = none) {A : Around} {outer : List Env} {h : Heap} {tk : Nat} {gens : Array GenState} {dr : Drawn} {os : OsState} {v : Value}
    {a n r b o c : Mine.A} {Q : Value → Shared → Prop} (room : Room A 13) (fr : A.frames = some outer) (frs : FrsAt h outer) (gout : OutOk g outer) (kg : Keeps g h) (gs : g.objs.size ≤ h.objs.size) (tab : TabOk 310 posA qualA h) (rel : RelA v a) (F : AloneFact a n r b o c)
    (hQ : ∀ h' tk', WK 310 (wobOf outer) h h' → TabOk 310 posA qualA h' → Q (.bool true) ⟨h', gens, dr, tk', os⟩) :
    wpN (model prog w) A (call (.ref (addrOf 36)) [v]) Q ⟨h, gens, dr, tk, os⟩ := by
  obtain ⟨name, params, body, scope, pm, cd, doc, di, hp⟩ := d_of_chk e
  obtain ⟨ob, ho, hd⟩ := di.obj
  have base : Base KF h := lw.base.keeps kg
  obtain ⟨X, p, l, mg', mb, T⟩ := id base
  unfold aloneChk at hp
  simp only [Bool.and_eq_true] at hp
  obtain ⟨⟨⟨⟨⟨⟨⟨e1, e2⟩, e3⟩, e4⟩, e5⟩, e6⟩, e7⟩, hp⟩ := hp
  have e1 := eq_of_beq e1
  have e2 := eq_of_beq e2
  have e4 := eq_of_beq e4
  have e5 := eq_of_beq e5
  have e6 := eq_of_beq e6
  have e7 := eq_of_beq e7
  subst e1
  subst e2
  have hbind := binds_of (name := nameA) (body := body) (scope := scope) (pm := pm) (cd := .ref 314) (doc := doc) (pars_of e3) (by rfl) (vs := [v]) rfl (by decide) (by decide)
  refine wpN_call (call_cellsN (cells := [(mkS [97], h.objs.size + 1)]) (by have := room.depth; omega) (X _ _ ho) hd T.nolimit (codeRec_of X di.code) hbind (by rw [e4]; rfl) (fun x hx => ?_) (fun h₁ tk₁ hns hk₁ hcell hap hab => ?_) di.co di.gen di.kind)
  · obtain rfl : x = (mkS [97], v) := by simpa using hx
    exact Or.inr ⟨e5, by simp⟩
  obtain ⟨f, hf⟩ : ∃ f : Sg, f = ⟨prog, w, A, nameA, scope, h.objs.size, addrOf 36, .ref 314, [(mkS [97], h.objs.size + 1)], nmA, fun _ => True, h₁, outer, run Mine.prog 12, addrOf, .ref C, gens, dr, os⟩ := ⟨_, rfl⟩
  have own_ge : ∀ b : Nat, f.own b → h.objs.size ≤ b := fun b hb => by
    subst hf
    rcases hb with hb | hb
    · exact Nat.le_of_eq hb.symm
    · have : b = h.objs.size + 1 := by simpa using hb
      rw [this]
      exact Nat.le_succ _
  have K : f.Ok KF g 12 := by
    subst hf
    refine ⟨room, fr, frs.keeps hk₁, fun env he L hf z => ?_, lw.base, fun b o e => ⟨hk₁ _ _ (kg _ _ e), fun z => ?_⟩, gs, lw.gl, lw.call 12, di.kind, by rfl, fun _ _ => trivial, fun p hp z => ?_, List.pairwise_singleton _ _⟩
    · exact absurd (sized frs he hf) (Nat.not_lt.mpr (own_ge L z))
    · exact absurd (Heap.lt_size (kg _ _ e)) (Nat.not_lt.mpr (own_ge b z))
    · obtain rfl : p = (mkS [97], h.objs.size + 1) := by simpa using hp
      exact absurd z (Nat.succ_ne_self _)
  have st : f.cx.St h₁ [.at a, .undef, .undef] := by
    subst hf
    have hc0 : h₁.IsCell (h.objs.size + 1) (some v) := by
      have ec : bindC (envX nameA scope h.objs.size (addrOf 36) (.ref 314) [(mkS [97], h.objs.size + 1)]).kindOf ([mkS [97]].zip [v]) (fun _ => none) (mkS [97]) = some v := by
        show (if (envX nameA scope h.objs.size (addrOf 36) (.ref 314) [(mkS [97], h.objs.size + 1)]).kindOf (mkS [97]) = some NameKind.local then (fun _ => none) else fun y => if y = mkS [97] then some v else none) (mkS [97]) = some v
        rw [show (envX nameA scope h.objs.size (addrOf 36) (.ref 314) [(mkS [97], h.objs.size + 1)]).kindOf (mkS [97]) = some .cell from e5, if_neg (by decide)]
        exact if_pos rfl
      exact ec ▸ hcell (mkS [97]) (h.objs.size + 1) (by simp)
    refine ⟨_, hns, fun b o _ e => e, fun p hp => ?_, fun i x ex => ?_⟩
    · obtain rfl : p = (mkS [97], h.objs.size + 1) := by simpa using hp
      exact ⟨_, hc0⟩
    · match i, ex with
      | 0, ex => cases ex; exact Or.inr ⟨e5, _, _, by show List.lookup (mkS [97]) [(mkS [97], h.objs.size + 1)] = _; simp, hc0, Or.inr ⟨v, rfl, rel⟩⟩
      | 1, ex => cases ex; exact Or.inl ⟨e6, Or.inl rfl⟩
      | 2, ex => cases ex; exact Or.inl ⟨e7, Or.inl rfl⟩
      | n + 3, ex => cases ex
  have hkh : Keeps h f.hS := by subst hf; exact hk₁
  have := alone_body (f := f) (body := body) (tk := tk₁) (Q := fun fl s' => Q (match fl with | .ret v => v | _ => .none) s') (by subst hf; exact lw) K (by subst hf; rfl) (by subst hf; rfl) (by subst hf; rfl) (by subst hf; rfl) (by subst hf; rfl) (by subst hf; rfl) (by subst hf; exact e5)
    (by subst hf; show (List.lookup (mkS [97]) [(mkS [97], h.objs.size + 1)]).isSome = true; simp) (by subst hf; exact hp) Cd hPg (by subst hf; exact gout) st (fun h₃ ρ st₃ => tab.keeps (Keeps.of_own st₃ hkh own_ge)) F (fun h₃ h₄ h' tk' ρ₃ ρ' st₃ w₄ st' tab' => ?_)
  · subst hf; exact this
  · have W := WK.out own_ge hkh st₃ w₄ st'
    subst hf
    exact hQ h' tk' W tab'
end
end Mine
end

section
set_option maxRecDepth 100000
set_option linter.unusedVariables false
set_option genSizeOf false
set_option genInjectivity false
open PySem PySem.W PySem.NumText PyProof.Rows PySem.Builtin
namespace Mine

theorem ES.congr {C : Cx} {p q : PE} {e : Expr} (hC : ∀ ρ, evalE C.Φ p ρ = evalE C.Φ q ρ) (ih : ES C p e) : ES C q e := fun ρ h tk Q E st H => ih ρ h tk Q E st (by rw [hC]; exact H)
theorem TS.congr {C : Cx} {p q : PE} {e : Expr} (hC : ∀ ρ, evalE C.Φ p ρ = evalE C.Φ q ρ) (ih : TS C p e) : TS C q e := fun ρ h tk Q E st H => ih ρ h tk Q E st (by rw [hC]; exact H)

/-- a plain setting: the frame's map is known, no def of the text is called -/
structure Bx where
  prog : Program
  w : World
  A : Around
  name : Str
  scope : Scope
  L : Addr
  a : Addr
  cd : Value
  cells : List (Str × Addr)
  g : Heap
  m : Str → Option Value
  Y : Heap → Prop
  gens : Array GenState
  dr : Drawn
  os : OsState
noncomputable abbrev Bx.env (b : Bx) : Env := envX b.name b.scope b.L b.a b.cd b.cells
noncomputable abbrev Bx.X (b : Bx) (h : Heap) : Prop := Fr b.g b.L h b.m ∧ b.Y h
noncomputable abbrev Bx.cx (b : Bx) : Cx where
  prog := b.prog
  w := b.w
  A := b.A
  env := b.env
  nm := []
  S := fun _ => True
  Go := Keeps
  St := fun h _ => b.X h
  Rs := fun _ _ => True
  Φ := fun _ _ => .fail
  addr := addrOf
  gens := b.gens
  d := b.dr
  os := b.os
structure Bx.Ok (b : Bx) (KF : Frag) : Prop where
  handled : b.A.handled = none
  units : b.A.units + 16 < cLine
  depth : b.A.depth + 16 < recursionLimit
  base : Base KF b.g
  gl : Gl KF addrOf
  kind : b.scope.kind = .function
  keeps : ∀ {h h'}, Keeps h h' → b.Y h → b.Y h'
theorem Fr.keeps' {g : Heap} {L : Addr} {h h' : Heap} {m : Str → Option Value} (F : Fr g L h m) (k : Keeps h h') : Fr g L h' m := ⟨F.ns.keeps k, fun b o e => k b o (F.keep b o e), F.above⟩

section
variable {b : Bx} {KF : Frag}
theorem Bx.Ok.cx (K : b.Ok KF) : b.cx.Ok where
  handled := K.handled
  units := K.units
  depth := K.depth
  keeps := fun k => k
  trans := Keeps.trans
  st := fun {h h' ρ} k x => ⟨Fr.keeps' x.1 k, K.keeps k x.2⟩
  own := fun g _ e => g _ _ e
  fill := fun {h h₁ h₂ a} g n s b o e => (s.2 b fun z => by subst z; rw [e] at n; cases n).trans (g b o e)
  newS := fun _ _ => trivial
  loc := fun {h ρ i x y} _ _ _ ex _ => by cases i <;> cases ex
  glob := fun {h ρ j x} st ex gg => by
    obtain ⟨v, hv, r⟩ := K.gl.glob j x ex
    obtain ⟨X, p, l, mg, mb, T⟩ := K.base
    obtain ⟨g1, g2, _⟩ := glo_parts gg
    exact ⟨v, r, fun pos Q E tk hq => nameX_K st.1 X T hv hq K.kind g1 g2⟩
  fn := fun {h ρ j x} st ex gg => by
    obtain ⟨hv, o, fd, ho, hd⟩ := K.gl.fn j x ex
    obtain ⟨X, p, l, mg, mb, T⟩ := K.base
    obtain ⟨g1, g2, _⟩ := glo_parts gg
    exact ⟨⟨o, fd, st.1.keep _ _ (X _ _ ho), hd⟩, fun pos Q E tk hq => nameX_K st.1 X T hv hq K.kind g1 g2⟩
  bi := fun {h ρ x v} st hb gg hm pos Q E tk hq => by
    obtain ⟨X, p, l, mg, mb, T⟩ := K.base
    obtain ⟨g1, g2, g3⟩ := glo_parts gg
    exact nameX_B st.1 X T (K.gl.bi x hm) hb (by intro z; rw [z] at g3; cases g3) hq K.kind g1 g2
  call := fun {h ρ f vs xs Q E tk} st r H => H.elim

noncomputable abbrev EvI (b : Bx) (e : Expr) (i : Int) : Prop := ES b.cx (.const (.int i)) e
noncomputable abbrev EvB (b : Bx) (e : Expr) (t : Bool) : Prop := ES b.cx (.const (.bool t)) e
noncomputable abbrev TvB (b : Bx) (e : Expr) (t : Bool) : Prop := TS b.cx (.const (.bool t)) e
variable {x y : Expr} {i j k : Int} {pos : Pos} {h : Heap} {tk : Nat} {E : Value → Shared → Prop}
theorem EvI.use {Q : Value → Shared → Prop} (K : b.Ok KF) (e : EvI b x i) (X : b.X h) (hQ : ∀ t h' tk', Keeps h h' → b.X h' → Q (.int i t) (b.cx.mk' h' tk')) : wpAny b.cx.M b.cx.A (eval x b.env) Q E (b.cx.mk' h tk) :=
  e [] h tk Q E X fun v h' tk' g r => by
    obtain ⟨t, rfl⟩ := r
    exact hQ t h' tk' g (K.cx.st (ρ := []) g X)
theorem TvB.use {Q : Bool → Shared → Prop} {t : Bool} (K : b.Ok KF) (e : TvB b x t) (X : b.X h) (hQ : ∀ h' tk', Keeps h h' → b.X h' → Q t (b.cx.mk' h' tk')) : wpAny b.cx.M b.cx.A (isTrue x b.env (eval x b.env)) Q E (b.cx.mk' h tk) :=
  e [] h tk Q E X fun h' tk' g => hQ h' tk' g (K.cx.st (ρ := []) g X)
theorem EvI.const (K : b.Ok KF) {c : Const} {n : Nat} (e : constIs (.int i) c = true) : EvI b (.Constant c n pos) i := es_const K.cx e
theorem EvI.bin (K : b.Ok KF) {op : BOp} (hx : EvI b x i) (hy : EvI b y j) (e : binI op i j = okI k) : EvI b (.BinOp x (opOf op) y pos) k := ES.congr (p := .bin op (.const (.int i)) (.const (.int j))) (fun ρ => e) (es_bin K.cx hx hy)
theorem EvI.neg (K : b.Ok KF) (hx : EvI b x i) : EvI b (.UnaryOp .USub x pos) (-i) := ES.congr (fun ρ => rfl) (es_neg K.cx hx)
theorem EvB.cmp (K : b.Ok KF) {op : COp} (hx : EvI b x i) (hy : EvI b y j) : EvB b (.Compare x [cmpOf op] [y] pos) (cmpI op i j) := ES.congr (fun ρ => rfl) (es_cmp K.cx hx hy)
theorem TvB.cmp (K : b.Ok KF) {op : COp} (hx : EvI b x i) (hy : EvI b y j) : TvB b (.Compare x [cmpOf op] [y] pos) (cmpI op i j) := TS.congr (fun ρ => rfl) (ts_cmp K.cx hx hy)
theorem EvI.max (K : b.Ok KF) {fx : Str} {np : Pos} (n : notStar x = true) (hx : EvI b x i) (n' : notStar y = true) (hy : EvI b y j) (g : glo b.scope fx = true) (e : fx = ("max" : Str)) : EvI b (.Call (.Name fx np) [x, y] [] pos) (if i < j then j else i) := ES.congr (fun ρ => rfl) (es_max K.cx n hx n' hy g e)
theorem EvI.min (K : b.Ok KF) {fx : Str} {np : Pos} (n : notStar x = true) (hx : EvI b x i) (n' : notStar y = true) (hy : EvI b y j) (g : glo b.scope fx = true) (e : fx = ("min" : Str)) : EvI b (.Call (.Name fx np) [x, y] [] pos) (if j < i then j else i) := ES.congr (fun ρ => rfl) (es_min K.cx n hx n' hy g e)
theorem EvI.ofB (K : b.Ok KF) {t : Bool} {fx : Str} {np : Pos} (n : notStar x = true) (hx : EvB b x t) (g : glo b.scope fx = true) (e : fx = ("int" : Str)) : EvI b (.Call (.Name fx np) [x] [] pos) (if t then 1 else 0) := ES.congr (fun ρ => rfl) (es_toInt K.cx n hx g e)
theorem EvI.int (K : b.Ok KF) {fx : Str} {np : Pos} (n : notStar x = true) (hx : EvI b x i) (g : glo b.scope fx = true) (e : fx = ("int" : Str)) : EvI b (.Call (.Name fx np) [x] [] pos) i := by
  subst e
  refine es_ty K.cx (ps := [.const (.int i)]) (R := un fun v => match v with | .at (.int i) => okI i | _ => .fail) ⟨n, hx, trivial⟩ g PyProof.Rows.Boot.«int» (by simp [biNames]) (fun ρ => rfl) fun ρ vs xs h tk Q E st r H => call_un (fun v x r H => ?_) r H
  split at H
  · obtain ⟨t, rfl⟩ := r
    exact call_int_int (H _ h tk (Keeps.refl h) ⟨t, rfl⟩)
  · exact H.elim
theorem EvI.loc (K : b.Ok KF) {z : Str} {t : Tok} (hl : b.scope.names.lookup z = some .local) (hd : (!(z == ("__debug__" : Str))) = true) (hm : b.m z = some (.int i t)) : EvI b (.Name z pos) i := fun ρ h tk Q E st H =>
  wpAny_Name (wpAny_loadName_local K.kind hl st.1.ns hm (H _ h tk (Keeps.refl h) ⟨t, rfl⟩)) (by simpa using hd)
theorem EvI.item (K : b.Ok KF) {z : Str} {p cp : Pos} {n : Nat} {σ : Addr} {q : Nat} (hl : b.scope.names.lookup z = some .local) (hd : (!(z == ("__debug__" : Str))) = true) (hm : b.m z = some (.ref σ)) (hq : q < 1000)
    (hY : ∀ h, b.Y h → ∃ vs t, h.IsList σ vs ∧ vs[q]? = some (.int i t)) : EvI b (.Subscript (.Name z p) (.Constant (.int (q : Int)) n cp) pos) i := fun ρ h tk Q E st H => by
  refine Subscript_ (wpAny_Name (wpAny_loadName_local K.kind hl st.1.ns hm ?_) (by simpa using hd))
  refine EvI.use K (EvI.const (i := (q : Int)) (c := .int (q : Int)) K (by show ((if h : ((q : Int) == (q : Int)) = true then some () else none) : Option Unit).isSome = true; rw [dif_pos (beq_self_eq_true _)]; rfl)) st fun u h₁ tk₁ k₁ X₁ => ?_
  obtain ⟨vs, t, hL, hv⟩ := hY h₁ X₁.2
  refine PyProof.Rows.item_list hL (by omega) (by omega) (x := .int i t) (by simpa using hv) (H _ h₁ tk₁ k₁ ⟨t, rfl⟩) (sub_plain rfl _ _) (fun _ => isName_go rfl _ _)

/-! a term of ints -/
inductive IE where
  | lit (i : Int) | var (n : Nat) | item (k : Nat) | int (e : IE) | neg (e : IE) | bin (op : BOp) (a b : IE) | max (a b : IE) | ofB (op : COp) (a b : IE)
noncomputable def okLoc (sc : Scope) (x : Str) : Bool := sc.names.lookup x == some .local && okName x
noncomputable def pItem (sc : Scope) (src : Str) (k : Nat) : Pat Expr := pSub (pNm (pUp (pEq src) (okLoc sc))) (pK (kInt.comp (pUp (pEq (α := Int) (k : Int)) fun _ => Nat.blt k 1000 : Pat Int)))
noncomputable def IE.chk (sc : Scope) (nm : List Str) (src : Str) : IE → Expr → Bool
  | .lit i => (pK (pIs (constIs (.int i)))).m
  | .var n => (pNm (pIs fun x => nth nm n x && okLoc sc x)).m
  | .item k => (pItem sc src k).m
  | .int e => (p1 sc "int" (IE.chk sc nm src e)).m
  | .neg a => (pUn .USub (pIs (IE.chk sc nm src a))).m
  | .bin op a b => (pBin (pIs (IE.chk sc nm src a)) (opOf op) (pIs (IE.chk sc nm src b))).m
  | .max a b => (p2 sc "max" (IE.chk sc nm src a) (IE.chk sc nm src b)).m
  | .ofB op a b => (pCallN (pBi sc "int") (pOne (pCmp (pIs (IE.chk sc nm src a)) (cmpOf op) (pIs (IE.chk sc nm src b))))).m
noncomputable def IE.ev (vars items : List (Option Int)) : IE → Res Int
  | .lit i => .ok i
  | .var n => match lkF vars n with | some (some i) => .ok i | _ => .fail
  | .item n => match lkF items n with | some (some i) => .ok i | _ => .fail
  | .int e => e.ev vars items
  | .neg e => (e.ev vars items).bind fun i => .ok (-i)
  | .bin op a b => (a.ev vars items).bind fun i => (b.ev vars items).bind fun j => match binI op i j with | .ok (.at (.int k)) => .ok k | _ => .fail
  | .max a b => (a.ev vars items).bind fun i => (b.ev vars items).bind fun j => .ok (if i < j then j else i)
  | .ofB op a b => (a.ev vars items).bind fun i => (b.ev vars items).bind fun j => .ok (if cmpI op i j then 1 else 0)
theorem Res.bind_ok {α β : Type} {x : Res α} {f : α → Res β} {c : β} (e : x.bind f = .ok c) : ∃ a, x = .ok a ∧ f a = .ok c := by
  cases x with
  | ok a => exact ⟨a, rfl, e⟩
  | _ => cases e
theorem IE.ok (K : b.Ok KF) {nm : List Str} {src : Str} {vars items : List (Option Int)} (hv : ∀ n z i, lkF nm n = some z → lkF vars n = some (some i) → ∃ t, b.m z = some (.int i t))
    (hi : ∀ n i, lkF items n = some (some i) → ∃ σ, b.m src = some (.ref σ) ∧ ∀ h, b.Y h → ∃ vs t, h.IsList σ vs ∧ vs[n]? = some (.int i t)) :
    ∀ (e : IE) (x : Expr) (i : Int), e.chk b.scope nm src x = true → e.ev vars items = .ok i → EvI b x i := by
  intro e
  induction e with
  | lit c =>
    intro x i h ev
    obtain ⟨d, rfl⟩ := Pat.of (P := pK (pIs (constIs (.int c)))) h
    cases ev; exact EvI.const K d.1.2
  | var n =>
    intro x i h ev
    obtain ⟨d, rfl⟩ := Pat.of (P := pNm (pIs fun x => nth nm n x && okLoc b.scope x)) h
    unfold IE.ev at ev
    split at ev
    · rename_i q
      cases ev
      obtain ⟨t, ht⟩ := hv _ _ _ (nth_eq (andL d.1.2)) q
      exact EvI.loc K (eq_of_beq (andL (andR d.1.2))) (andR (andR d.1.2)) ht
    · cases ev
  | item n =>
    intro x i h ev
    obtain ⟨d, rfl⟩ := Pat.of (P := pItem b.scope src n) h
    unfold IE.ev at ev
    split at ev
    · rename_i q
      cases ev
      obtain ⟨σ, hm, hY⟩ := hi _ _ q
      exact EvI.item K (eq_of_beq (andL d.1.1.2)) (andR d.1.1.2) hm (Nat.le_of_ble_eq_true d.2.1.1.2) hY
    · cases ev
  | int a ih =>
    intro x i h ev
    obtain ⟨d, rfl⟩ := Pat.of (P := p1 b.scope "int" (IE.chk b.scope nm src a)) h
    exact EvI.int K (andL d.2.1.2) (ih _ i (andR d.2.1.2) ev) d.1.1.2 rfl
  | neg a ih =>
    intro x i h ev
    obtain ⟨d, rfl⟩ := Pat.of (P := pUn .USub (pIs (IE.chk b.scope nm src a))) h
    obtain ⟨j, e1, e2⟩ := Res.bind_ok ev
    cases e2
    exact EvI.neg K (ih _ _ d.2.1.2 e1)
  | bin op a c iha ihc =>
    intro x i h ev
    obtain ⟨d, rfl⟩ := Pat.of (P := pBin (pIs (IE.chk b.scope nm src a)) (opOf op) (pIs (IE.chk b.scope nm src c))) h
    obtain ⟨j, e1, ev⟩ := Res.bind_ok ev
    obtain ⟨k, e2, ev⟩ := Res.bind_ok ev
    split at ev
    · rename_i q
      cases ev
      exact EvI.bin K (iha _ _ d.1.2 e1) (ihc _ _ d.2.2.1.2 e2) q
    · cases ev
  | max a c iha ihc =>
    intro x i h ev
    obtain ⟨d, rfl⟩ := Pat.of (P := p2 b.scope "max" (IE.chk b.scope nm src a) (IE.chk b.scope nm src c)) h
    obtain ⟨j, e1, ev⟩ := Res.bind_ok ev
    obtain ⟨k, e2, ev⟩ := Res.bind_ok ev
    cases ev
    exact EvI.max K (andL d.2.1.1.2) (iha _ _ (andR d.2.1.1.2) e1) (andL d.2.1.2.2) (ihc _ _ (andR d.2.1.2.2) e2) d.1.1.2 rfl
  | ofB op a c iha ihc =>
    intro x i h ev
    obtain ⟨d, rfl⟩ := Pat.of (P := pCallN (pBi b.scope "int") (pOne (pCmp (pIs (IE.chk b.scope nm src a)) (cmpOf op) (pIs (IE.chk b.scope nm src c))))) h
    obtain ⟨j, e1, ev⟩ := Res.bind_ok ev
    obtain ⟨k, e2, ev⟩ := Res.bind_ok ev
    cases ev
    exact EvI.ofB K rfl (EvB.cmp (pos := d.2.1.2.2.2) K (iha _ _ d.2.1.1.2 e1) (ihc _ _ d.2.1.2.2.1.2 e2)) d.1.1.2 rfl
end
end Mine
end

section
set_option maxRecDepth 100000
set_option linter.unusedVariables false
set_option genSizeOf false
set_option genInjectivity false
open PySem PySem.W PySem.NumText PyProof.Rows PySem.Builtin
namespace Mine

theorem Room.mono {A : Around} {d d' : Nat} (r : Room A d) (h : d' ≤ d) : Room A d' := ⟨r.handled, by have := r.units; omega, by have := r.depth; omega⟩
/-- the list that the draws are taken from -/
noncomputable def Src (h : Heap) (σ : Addr) : Prop := ∃ s0 s1 t0 t1, h.IsList σ #[.int s0 t0, .int s1 t1] ∧ 0 ≤ s1 ∧ s1 < 2147483647
noncomputable def KB (σ : Addr) (h h' : Heap) : Prop := ∀ b o, b ≠ σ → h.get? b = some o → h'.get? b = some o
theorem KB.trans {σ : Addr} {h₁ h₂ h₃ : Heap} (x : KB σ h₁ h₂) (y : KB σ h₂ h₃) : KB σ h₁ h₃ := fun b o n e => y b o n (x b o n e)
theorem KB.of {σ : Addr} {h h' : Heap} (k : Keeps h h') : KB σ h h' := fun b o _ e => k b o e
theorem KB.same {σ : Addr} {h h' : Heap} (s : Heap.SameBut σ h h') : KB σ h h' := fun b o n e => (s.2 b n).trans e
theorem IsList.keeps {h h' : Heap} {D : Addr} {vs : Array Value} (x : h.IsList D vs) (k : Keeps h h') : h'.IsList D vs := let ⟨o, ho, r⟩ := x; ⟨o, k _ _ ho, r⟩
theorem IsList.same {h h' : Heap} {D L : Addr} {vs : Array Value} (x : h.IsList D vs) (s : Heap.SameBut L h h') (n : D ≠ L) : h'.IsList D vs := let ⟨o, ho, r⟩ := x; ⟨o, (s.2 D n).trans ho, r⟩
theorem Src.keeps {h h' : Heap} {σ : Addr} (k : Keeps h h') (S : Src h σ) : Src h' σ := by
  obtain ⟨s0, s1, t0, t1, hL, r⟩ := S
  exact ⟨s0, s1, t0, t1, IsList.keeps hL k, r⟩
theorem Src.same {h h' : Heap} {σ L : Addr} (s : Heap.SameBut L h h') (n : σ ≠ L) (S : Src h σ) : Src h' σ := by
  obtain ⟨s0, s1, t0, t1, hL, r⟩ := S
  exact ⟨s0, s1, t0, t1, IsList.same hL s n, r⟩
theorem Src.lt {h : Heap} {σ : Addr} (S : Src h σ) : σ < h.objs.size := by
  obtain ⟨s0, s1, t0, t1, ⟨o, ho, _⟩, r⟩ := S
  exact Heap.lt_size ho

section
variable {prog : Program} {w : World} {KF : Frag} {g : Heap}
/-- the call of a def without cells -/
theorem call_D (base : Base KF g) {a : Addr} {name : Str} {params : Arguments} {body : List Stmt} {scope : Scope} {pm cd doc : Value} (di : DIs KF a name params body scope pm cd doc) (hcell : (scope.names.all fun x => x.2 != .cell) = true)
    {ps : List Str} (hp : parsIs params ps = true) (hdis : distinct ps = true) {vs : List Value} (hl : vs.length = ps.length) (h3 : ps.length ≤ 3) (h1 : 1 ≤ ps.length) (hloc : (ps.all fun x => scope.names.lookup x == some .local) = true)
    {A : Around} {h : Heap} {tk : Nat} {gens : Array GenState} {dr : Drawn} {os : OsState} {Q : Value → Shared → Prop} (hroom : A.depth < recursionLimit) (kg : Keeps g h) (gs : g.objs.size ≤ h.objs.size)
    (hb : ∀ h₁ tk₁, Fr g h.objs.size h₁ (fun x => (ps.zip vs).reverse.lookup x) → Keeps h h₁ → wpAny (model prog w) (A.deeper (envX name scope h.objs.size a cd [])) (execs body (envX name scope h.objs.size a cd []))
      (fun f s' => Q (match f with | .ret v => v | _ => .none) s') (fun _ _ => False) ⟨h₁, gens, dr, tk₁, os⟩) :
    wpAny (model prog w) A (call (.ref a) vs) Q (fun _ _ => False) ⟨h, gens, dr, tk, os⟩ := by
  obtain ⟨X, p, l, mg, mb, T⟩ := base.keeps kg
  obtain ⟨o, ho, hd⟩ := di.obj
  refine wpAny_call (call_plain hroom (X _ _ ho) hd T.nolimit (codeRec_of X di.code) (binds_of (pars_of hp) hdis hl h3 h1) (fun x hx => ?_) (fun h₁ F₁ => ?_) di.co di.gen di.kind (fun x hx z => ?_))
  · exact eq_of_beq (List.all_eq_true.mp hloc _ (List.of_mem_zip hx).1)
  · exact wpAny_mono (hb h₁ _ ⟨F₁.ns, fun b o e => F₁.keep b o (kg b o e), gs⟩ F₁.keep) (fun _ _ q => q) fun _ _ q => q.elim
  · have := List.all_eq_true.mp hcell x hx
    rw [z] at this
    cases this

theorem Bx.store {b : Bx} (K : b.Ok KF) {z : Str} {v : Value} {h : Heap} {tk : Nat} {Q : Unit → Shared → Prop} {E : Value → Shared → Prop} (hl : b.scope.names.lookup z = some .local) (X : b.X h)
    (hQ : ∀ h' tk', Fr b.g b.L h' (fun y => if y = z then some v else b.m y) → Heap.SameBut b.L h h' → Q () (b.cx.mk' h' tk')) : wpAny b.cx.M b.cx.A (storeName b.env z v) Q E (b.cx.mk' h tk) := by
  have hp : (b.env.scope.kind == .class || (b.env.scope.kind == .module && b.env.locals != b.env.globals)) = false := by
    show (b.scope.kind == .class || (b.scope.kind == .module && b.L != mainGlobals)) = false
    rw [K.kind]; rfl
  exact wpAny_storeName_local hl X.1.ns (fun h' hn hs => hQ h' _ (X.1.set hn hs) hs) hp

theorem binI_mod {a b : Int} (h1 : 1 ≤ b) (h2 : b ≤ 2147483647) : binI .mod a b = okI (a.fmod b) := by
  cases b with
  | negSucc n => exact absurd h1 (by simp; omega)
  | ofNat n =>
    have hn : 1 ≤ n := by have : (1 : Int) ≤ (n : Int) := h1; omega
    have hn2 : n ≤ 2147483647 := by have : (n : Int) ≤ 2147483647 := h2; omega
    have e1 : isZero (Int.ofNat n) = false := by
      show Nat.beq n 0 = false
      cases n with
      | zero => omega
      | succ n => rfl
    have e2 : wBig (Int.ofNat n) = true := Nat.ble_eq_true_of_le (by show n + 1 ≤ _; omega)
    show (match !isZero (Int.ofNat n) && wBig (Int.ofNat n) with | true => okI _ | false => .fail) = _
    rw [e1, e2]
    rfl
theorem binI_fdiv {a b : Int} (h1 : 1 ≤ b) (h2 : b ≤ 2147483647) : binI .fdiv a b = okI (a.fdiv b) := by
  cases b with
  | negSucc n => exact absurd h1 (by simp; omega)
  | ofNat n =>
    have hn : 1 ≤ n := by have : (1 : Int) ≤ (n : Int) := h1; omega
    have hn2 : n ≤ 2147483647 := by have : (n : Int) ≤ 2147483647 := h2; omega
    have e1 : isZero (Int.ofNat n) = false := by
      show Nat.beq n 0 = false
      cases n with
      | zero => omega
      | succ n => rfl
    have e2 : wBig (Int.ofNat n) = true := Nat.ble_eq_true_of_le (by show n + 1 ≤ _; omega)
    show (match !isZero (Int.ofNat n) && wBig (Int.ofNat n) with | true => okI _ | false => .fail) = _
    rw [e1, e2]
    rfl
theorem w64_of {a : Int} (h0 : 0 ≤ a) (h : a < 2147483647) : w64 a = true := Nat.ble_eq_true_of_le (by show a.natAbs + 1 ≤ _; omega)
theorem binI_mul {a b : Int} (h : (w64 a || w64 b) = true) : binI .mul a b = okI (a * b) := by
  show (match w64 a || w64 b with | true => okI _ | false => .fail) = _
  rw [h]

/-! _law_take -/
noncomputable def nmT : List Str := f_law_take.names.map mkS
noncomputable def srcS : Str := mkS [115, 111, 117, 114, 99, 101]
noncomputable def tk1 : IE := .bin .mod (.int (.item 0)) (.var 1)
noncomputable def tk2 : IE := .bin .fdiv (.item 0) (.var 1)
noncomputable def tk4 : IE := .bin .mod (.int (.bin .add (.bin .mul (.item 1) (.lit 39373)) (.lit 7))) (.lit 2147483647)
noncomputable def tk5 : IE := .bin .mod (.int (.bin .fdiv (.bin .mod (.int (.bin .mul (.item 1) (.item 1))) (.lit 2147483629)) (.lit 32))) (.var 1)
noncomputable def pIE (scope : Scope) (vars : List Str) (i : IE) : Pat Expr := pIs (IE.chk scope vars srcS i)
noncomputable def pNC (scope : Scope) (vars : List Str) (i : IE) : Pat Expr := pIs fun e => notComp e && IE.chk scope vars srcS i e
noncomputable def pAt (n : Int) : Pat Expr := pSub (pV srcS) (pK (kInt.comp (pEq (α := Int) n : Pat Int)))
noncomputable def drawnS : Str := mkS [100, 114, 97, 119, 110]
noncomputable def takePat (sc : Scope) : Pat (List Stmt) := pThree
  (pIf (pCmp (pIE sc nmT (.item 0)) .Gt (pIE sc nmT (.lit 0))) (pThree (pSet drawnS (pNC sc nmT tk1)) (pTo (pAt 0) (pNC sc nmT tk2)) (pRet (pIE sc nmT (.var 2)))))
  (pTo (pAt 1) (pNC sc nmT tk4)) (pRet (pIE sc nmT tk5))
noncomputable def takeChk (name : Str) (cd : Value) (params : Arguments) (scope : Scope) (body : List Stmt) : Bool :=
  (parsIs params [srcS, mkS [116, 111, 112]] && (scope.names.all fun x => x.2 != .cell)) && ((nmT.all fun x => scope.names.lookup x == some .local) && (takePat scope).m body)
end
end Mine
end

section
set_option maxRecDepth 100000
set_option linter.unusedVariables false
set_option genSizeOf false
set_option genInjectivity false
open PySem PySem.W PySem.NumText PyProof.Rows PySem.Builtin
namespace Mine

theorem setS_ne {x y : Str} {v w : Value} {m : Str → Option Value} (h : y ≠ x) (e : m y = some w) : (fun z => if z = x then some v else m z) y = some w := (if_neg h).trans e
theorem mkS_ne' {a b : List Nat} (h : (a == b) = false) : mkS a ≠ mkS b := fun e => by
  have := mkS_eq a b
  rw [e, h] at this
  simp at this

section
variable {prog : Program} {w : World} {KF : Frag} {g : Heap}
theorem take_call (base : Base KF g) (gl : Gl KF addrOf) (e : dHead KF (addrOf 22) takeChk = true) {A : Around} {h : Heap} {tk : Nat} {gens : Array GenState} {dr : Drawn} {os : OsState} {σ : Addr} {top : Int} {tt : Tok} {Q : Value → Shared → Prop}
    (room : Room A 1) (kg : Keeps g h) (gs : g.objs.size ≤ h.objs.size) (S : Src h σ) (hg : g.get? σ = none) (h1 : 1 ≤ top) (h2 : top ≤ 1000)
    (hQ : ∀ n t h' tk', 0 ≤ n → n < top → KB σ h h' → Src h' σ → Q (.int n t) ⟨h', gens, dr, tk', os⟩) :
    wpAny (model prog w) A (call (.ref (addrOf 22)) [.ref σ, .int top tt]) Q (fun _ _ => False) ⟨h, gens, dr, tk, os⟩ := by
  obtain ⟨name, params, body, scope, pm, cd, doc, di, hp⟩ := d_of_chk e
  have p1 := andL (andL hp)
  have p2 := andR (andL hp)
  have p3 := andL (andR hp)
  obtain ⟨d, rfl⟩ := Pat.of (andR (andR hp))
  have hloc : ∀ x ∈ nmT, scope.names.lookup x = some .local := fun x hx => eq_of_beq (List.all_eq_true.mp p3 x hx)
  have l0 := hloc srcS (by decide)
  have l1 := hloc (mkS [116, 111, 112]) (by decide)
  have l2 := hloc (mkS [100, 114, 97, 119, 110]) (by decide)
  refine call_D base di p2 p1 (by rfl) rfl (by decide) (by decide) (by simp [l0, l1]) (by have := room.depth; omega) kg gs fun h₁ tk₁ F₁ k₁ => ?_
  obtain ⟨m, hm⟩ : ∃ m : Str → Option Value, m = fun x => ([srcS, mkS [116, 111, 112]].zip [Value.ref σ, .int top tt]).reverse.lookup x := ⟨_, rfl⟩
  rw [← hm] at F₁
  have m0 : m srcS = some (.ref σ) := by subst hm; rfl
  have m1 : m (mkS [116, 111, 112]) = some (.int top tt) := by subst hm; rfl
  clear hm
  have hσL : σ ≠ h.objs.size := Nat.ne_of_lt (Src.lt S)
  obtain ⟨s0, s1, t0', t1', hL, hs0, hs1⟩ := S
  have r2 := room.deeper (envX name scope h.objs.size (addrOf 22) cd [])
  have mkOk : ∀ (m : Str → Option Value) (Y : Heap → Prop), (∀ {h h'}, Keeps h h' → Y h → Y h') → (⟨prog, w, A.deeper (envX name scope h.objs.size (addrOf 22) cd []), name, scope, h.objs.size, addrOf 22, cd, [], g, m, Y, gens, dr, os⟩ : Bx).Ok KF := fun m Y hk =>
    ⟨r2.handled, by have := r2.units; omega, by have := r2.depth; omega, base, gl, di.kind, hk⟩
  have vars : ∀ {m : Str → Option Value} {vd : Option Int}, m (mkS [116, 111, 112]) = some (.int top tt) → (∀ i, vd = some i → ∃ t, m (mkS [100, 114, 97, 119, 110]) = some (.int i t)) →
      ∀ n z i, lkF nmT n = some z → lkF [none, some top, vd] n = some (some i) → ∃ t, m z = some (.int i t) := fun a b n z i ez ei => by
    match n, ez, ei with
    | 0, ez, ei => cases ei
    | 1, ez, ei => cases ez; cases ei; exact ⟨_, a⟩
    | 2, ez, ei => cases ez; exact b i (Option.some.inj ei)
    | n + 3, ez, ei => cases ez
  have items : ∀ {m : Str → Option Value} {Y : Heap → Prop} {s0 s1 : Int} {t0 t1 : Tok}, m srcS = some (.ref σ) → (∀ h, Y h → h.IsList σ #[.int s0 t0, .int s1 t1]) →
      ∀ n i, lkF [some s0, some s1] n = some (some i) → ∃ σ, m srcS = some (.ref σ) ∧ ∀ h, Y h → ∃ vs t, h.IsList σ vs ∧ vs[n]? = some (.int i t) := fun {m Y s0 s1 t0 t1} a b n i ei => by
    refine ⟨σ, a, fun h y => ⟨#[.int s0 t0, .int s1 t1], ?_⟩⟩
    match n, ei with
    | 0, ei => cases ei; exact ⟨t0, b h y, rfl⟩
    | 1, ei => cases ei; exact ⟨t1, b h y, rfl⟩
    | n + 2, ei => cases ei
  have ev : ∀ (op : BOp) (a b : IE) (i j k : Int) (vs is : List (Option Int)), a.ev vs is = .ok i → b.ev vs is = .ok j → binI op i j = okI k → (IE.bin op a b).ev vs is = .ok k := fun op a b i j k vs is ha hb hk => by
    show (a.ev vs is).bind _ = _
    rw [ha]
    show (b.ev vs is).bind _ = _
    rw [hb]
    show (match binI op i j with | .ok (.at (.int k)) => Res.ok k | _ => .fail) = _
    rw [hk]
    rfl
  have hL₁ := IsList.keeps hL k₁
  have K₁ := mkOk m (fun h => h.IsList σ #[.int s0 t0', .int s1 t1']) fun k x => IsList.keeps x k
  have V₁ := vars (vd := none) m1 (fun i z => nomatch z)
  have I₁ := items (Y := fun h => h.IsList σ #[.int s0 t0', .int s1 t1']) m0 fun h y => y
  refine wpAny_execs_cons (wpAny_If (TvB.use K₁ (TvB.cmp (op := .gt) K₁ (IE.ok K₁ V₁ I₁ (.item 0) _ s0 d.1.1.1.2 rfl) (IE.ok K₁ V₁ I₁ (.lit 0) _ 0 d.1.1.2.2.1.2 rfl)) ⟨F₁, hL₁⟩ fun h₂ tk₂ k₂ X₂ => ?_))
  cases hc : cmpI .gt s0 0 with
  | true =>
    simp only [if_true]
    refine wpAny_execs_cons (wpAny_Assign_Name (EvI.use K₁ (IE.ok K₁ V₁ I₁ tk1 _ (s0.fmod top) (andR d.1.2.1.1.2.1.2) ?_) X₂ fun u h₃ tk₃ k₃ X₃ => ?_) (swaps_no (andL d.1.2.1.1.2.1.2) _ _ _))
    · show (Res.ok s0).bind (fun i => (Res.ok top).bind fun j => match binI .mod i j with | .ok (.at (.int k)) => .ok k | _ => .fail) = _
      simp only [Res.bind]
      rw [binI_mod h1 (by omega)]
      rfl
    refine Bx.store K₁ l2 X₃ fun h₄ tk₄ F₄ s₄ => ?_
    have hL₄ := IsList.same X₃.2 s₄ hσL
    obtain ⟨m₄, hm₄⟩ : ∃ m₄ : Str → Option Value, m₄ = fun y => if y = mkS [100, 114, 97, 119, 110] then some (.int (s0.fmod top) u) else m y := ⟨_, rfl⟩
    have F₄ : Fr g h.objs.size h₄ m₄ := by rw [hm₄]; exact F₄
    have m40 : m₄ srcS = some (.ref σ) := by rw [hm₄]; exact setS_ne (mkS_ne' (by decide)) m0
    have m41 : m₄ (mkS [116, 111, 112]) = some (.int top tt) := by rw [hm₄]; exact setS_ne (mkS_ne' (by decide)) m1
    have m42 : m₄ (mkS [100, 114, 97, 119, 110]) = some (.int (s0.fmod top) u) := by rw [hm₄]; exact if_pos rfl
    clear hm₄
    have K₄ := mkOk m₄ (fun h => h.IsList σ #[.int s0 t0', .int s1 t1']) fun k x => IsList.keeps x k
    have V₄ := vars (vd := none) m41 (fun i z => nomatch z)
    have I₄ := items (Y := fun h => h.IsList σ #[.int s0 t0', .int s1 t1']) m40 fun h y => y
    refine wpAny_execs_cons (wpAny_Assign_Subscript (EvI.use K₄ (IE.ok K₄ V₄ I₄ tk2 _ (s0.fdiv top) (andR d.1.2.1.2.1.2.1.2) ?_) ⟨F₄, hL₄⟩ fun u₂ h₅ tk₅ k₅ X₅ => ?_) (swaps_no (andL d.1.2.1.2.1.2.1.2) _ _ _))
    · show (Res.ok s0).bind (fun i => (Res.ok top).bind fun j => match binI .fdiv i j with | .ok (.at (.int k)) => .ok k | _ => .fail) = _
      simp only [Res.bind]
      rw [binI_fdiv h1 (by omega)]
      rfl
    refine wpAny_Name (wpAny_loadName_local di.kind l0 X₅.1.ns m40 ?_) (show (srcS == ("__debug__" : Str)) = false by decide)
    refine EvI.use K₄ (EvI.const (i := 0) K₄ rfl) X₅ fun u₃ h₆ tk₆ k₆ X₆ => ?_
    refine wpAny_setItem_list X₆.2 (by decide) (by decide) (by simp) fun h₇ hL₇ s₇ => ?_
    have hL₇ : h₇.IsList σ #[.int (s0.fdiv top) u₂, .int s1 t1'] := hL₇
    have F₇ : Fr g h.objs.size h₇ m₄ := ⟨X₆.1.ns.sameBut s₇ (Ne.symm hσL), fun b o eb => (s₇.2 b fun z => by subst z; rw [hg] at eb; cases eb).trans (X₆.1.keep b o eb), X₆.1.above⟩
    have K₇ := mkOk m₄ (fun h => h.IsList σ #[.int (s0.fdiv top) u₂, .int s1 t1']) fun k x => IsList.keeps x k
    have V₇ := vars (vd := some (s0.fmod top)) m41 (fun i z => by cases z; exact ⟨u, m42⟩)
    have I₇ := items (Y := fun h => h.IsList σ #[.int (s0.fdiv top) u₂, .int s1 t1']) m40 fun h y => y
    refine wpAny_execs_cons (wpAny_Return_some (EvI.use K₇ (IE.ok K₇ V₇ I₇ (.var 2) _ (s0.fmod top) d.1.2.1.2.2.1.2 rfl) ⟨F₇, hL₇⟩ fun u₄ h₈ tk₈ k₈ X₈ => ?_))
    refine hQ _ _ _ _ (Int.fmod_nonneg_of_pos _ (by omega)) (Int.fmod_lt_of_pos _ (by omega)) (fun b o nb eb => ?_) ⟨_, _, _, _, X₈.2, hs0, hs1⟩
    exact k₈ _ _ ((s₇.2 b nb).trans (k₆ _ _ (k₅ _ _ ((s₄.2 b (Nat.ne_of_lt (Heap.lt_size eb))).trans (k₃ _ _ (k₂ _ _ (k₁ _ _ eb)))))))
  | false =>
    simp only [Bool.false_eq_true, if_false]
    refine wpAny_execs_nil ?_
    have w1 : w64 s1 = true := w64_of hs0 hs1
    refine wpAny_execs_cons (wpAny_Assign_Subscript (EvI.use K₁ (IE.ok K₁ V₁ I₁ tk4 _ ((s1 * 39373 + 7).fmod 2147483647) (andR d.2.1.2.1.2) ?_) X₂ fun u₂ h₅ tk₅ k₅ X₅ => ?_) (swaps_no (andL d.2.1.2.1.2) _ _ _))
    · have x1 : binI .mul s1 39373 = okI (s1 * 39373) := binI_mul (by rw [w1]; rfl)
      exact ev _ _ _ _ _ _ _ _ (ev _ _ _ _ _ _ _ _ (ev _ _ _ _ _ _ _ _ rfl rfl x1) rfl (show binI .add (s1 * 39373) 7 = okI (s1 * 39373 + 7) from rfl)) rfl (binI_mod (by decide) (by decide))
    refine wpAny_Name (wpAny_loadName_local di.kind l0 X₅.1.ns m0 ?_) (show (srcS == ("__debug__" : Str)) = false by decide)
    refine EvI.use K₁ (EvI.const (i := 1) K₁ rfl) X₅ fun u₃ h₆ tk₆ k₆ X₆ => ?_
    refine wpAny_setItem_list X₆.2 (by decide) (by decide) (by simp) fun h₇ hL₇ s₇ => ?_
    obtain ⟨s1', hs1'⟩ : ∃ s1', s1' = (s1 * 39373 + 7).fmod 2147483647 := ⟨_, rfl⟩
    have hL₇ : h₇.IsList σ #[.int s0 t0', .int s1' u₂] := by rw [hs1']; exact hL₇
    have hs0' : 0 ≤ s1' := by rw [hs1']; exact Int.fmod_nonneg_of_pos _ (by decide)
    have hs1'' : s1' < 2147483647 := by rw [hs1']; exact Int.fmod_lt_of_pos _ (by decide)
    clear hs1'
    have w1' : w64 s1' = true := w64_of hs0' hs1''
    have F₇ : Fr g h.objs.size h₇ m := ⟨X₆.1.ns.sameBut s₇ (Ne.symm hσL), fun b o eb => (s₇.2 b fun z => by subst z; rw [hg] at eb; cases eb).trans (X₆.1.keep b o eb), X₆.1.above⟩
    have K₇ := mkOk m (fun h => h.IsList σ #[.int s0 t0', .int s1' u₂]) fun k x => IsList.keeps x k
    have I₇ := items (Y := fun h => h.IsList σ #[.int s0 t0', .int s1' u₂]) m0 fun h y => y
    refine wpAny_execs_cons (wpAny_Return_some (EvI.use K₇ (IE.ok K₇ V₁ I₇ tk5 _ ((((s1' * s1').fmod 2147483629).fdiv 32).fmod top) d.2.2.1.2 ?_) ⟨F₇, hL₇⟩ fun u₄ h₈ tk₈ k₈ X₈ => ?_))
    · have x1 : binI .mul s1' s1' = okI (s1' * s1') := binI_mul (by rw [w1']; rfl)
      have x2 : ∀ a, binI .mod a 2147483629 = okI (a.fmod 2147483629) := fun a => binI_mod (by decide) (by decide)
      have x3 : ∀ a, binI .fdiv a 32 = okI (a.fdiv 32) := fun a => binI_fdiv (by decide) (by decide)
      have x4 : ∀ a, binI .mod a top = okI (a.fmod top) := fun a => binI_mod h1 (by omega)
      exact ev _ _ _ _ _ _ _ _ (ev _ _ _ _ _ _ _ _ (ev _ _ _ _ _ _ _ _ (ev _ _ _ _ _ _ _ _ rfl rfl x1) rfl (x2 _)) rfl (x3 _)) rfl (x4 _)
    refine hQ _ _ _ _ (Int.fmod_nonneg_of_pos _ (by omega)) (Int.fmod_lt_of_pos _ (by omega)) (fun b o nb eb => ?_) ⟨_, _, _, _, X₈.2, hs0', hs1''⟩
    exact k₈ _ _ ((s₇.2 b nb).trans (k₆ _ _ (k₅ _ _ (k₂ _ _ (k₁ _ _ eb)))))
end
end Mine
end

section
set_option maxRecDepth 100000
set_option linter.unusedVariables false
set_option genSizeOf false
set_option genInjectivity false
open PySem PySem.W PySem.NumText PyProof.Rows PySem.Builtin
namespace Mine

noncomputable def thS : Str := mkS [116, 104, 105, 110, 103, 115]
noncomputable def locOk (scope : Scope) (x : Str) : Bool := scope.names.lookup x == some .local && !(x == ("__debug__" : Str))
theorem locOk_parts {scope : Scope} {x : Str} (h : locOk scope x = true) : scope.names.lookup x = some .local ∧ (x == ("__debug__" : Str)) = false := by
  unfold locOk at h
  simp only [Bool.and_eq_true, beq_iff_eq, Bool.not_eq_true'] at h
  exact h
noncomputable def onePat (sc : Scope) : Pat (List Stmt) := pOne (pRet (pSub (pV thS) (pCallN (pFn sc 22) (pTwo (pV srcS) (pCallN (pBi sc "len") (pOne (pV thS)))))))
noncomputable def oneChk (name : Str) (cd : Value) (params : Arguments) (scope : Scope) (body : List Stmt) : Bool :=
  (parsIs params [srcS, thS] && (scope.names.all fun x => x.2 != .cell)) && ((locOk scope srcS && locOk scope thS) && (onePat scope).m body)

section
variable {prog : Program} {w : World} {KF : Frag} {g : Heap}
theorem one_call (base : Base KF g) (gl : Gl KF addrOf) (e : dHead KF (addrOf 23) oneChk = true) (et : dHead KF (addrOf 22) takeChk = true) {A : Around} {h : Heap} {tk : Nat} {gens : Array GenState} {dr : Drawn} {os : OsState} {σ D : Addr} {vs : List Value} {Q : Value → Shared → Prop}
    (room : Room A 2) (kg : Keeps g h) (gs : g.objs.size ≤ h.objs.size) (S : Src h σ) (hg : g.get? σ = none) (hL : h.IsList D vs.toArray) (hne : D ≠ σ) (h1 : 1 ≤ vs.length) (h2 : vs.length ≤ 1000)
    (hQ : ∀ (i : Nat) v h' tk', vs[i]? = some v → KB σ h h' → Src h' σ → Q v ⟨h', gens, dr, tk', os⟩) :
    wpAny (model prog w) A (call (.ref (addrOf 23)) [.ref σ, .ref D]) Q (fun _ _ => False) ⟨h, gens, dr, tk, os⟩ := by
  obtain ⟨name, params, body, scope, pm, cd, doc, di, hp⟩ := d_of_chk e
  have p1 := andL (andL hp)
  have p2 := andR (andL hp)
  obtain ⟨l0, d0⟩ := locOk_parts (andL (andL (andR hp)))
  obtain ⟨l1, d1⟩ := locOk_parts (andR (andL (andR hp)))
  obtain ⟨d, rfl⟩ := Pat.of (andR (andR hp))
  refine call_D base di p2 p1 (by rfl) rfl (by decide) (by decide) (by simp [l0, l1]) (by have := room.depth; omega) kg gs fun h₁ tk₁ F₁ k₁ => ?_
  obtain ⟨m, hm⟩ : ∃ m : Str → Option Value, m = fun x => ([srcS, thS].zip [Value.ref σ, .ref D]).reverse.lookup x := ⟨_, rfl⟩
  rw [← hm] at F₁
  have m0 : m srcS = some (.ref σ) := by subst hm; rfl
  have m1 : m thS = some (.ref D) := by subst hm; rfl
  clear hm
  have r2 := room.deeper (envX name scope h.objs.size (addrOf 23) cd [])
  obtain ⟨b, hb⟩ : ∃ b : Bx, b = ⟨prog, w, A.deeper (envX name scope h.objs.size (addrOf 23) cd []), name, scope, h.objs.size, addrOf 23, cd, [], g, m, fun _ => True, gens, dr, os⟩ := ⟨_, rfl⟩
  have K : b.Ok KF := by
    subst hb
    exact ⟨r2.handled, by have := r2.units; show (A.deeper _).units + 16 < cLine; omega, by have := r2.depth; show (A.deeper _).depth + 16 < recursionLimit; omega, base, gl, di.kind, fun _ _ => trivial⟩
  have X₁ : b.X h₁ := by subst hb; exact ⟨F₁, trivial⟩
  obtain ⟨⟨o, fd, ho, hd⟩, kf⟩ := K.cx.fn (ρ := []) X₁ (nth_eq (andL d.1.2.1.1.1.2)) (by subst hb; exact (andR d.1.2.1.1.1.2))
  have S₁ := S.keeps k₁
  have hL₁ := IsList.keeps hL k₁
  subst hb
  refine wpAny_execs_cons (wpAny_Return_some (Subscript_ (wpAny_Name (wpAny_loadName_local di.kind l1 F₁.ns m1 ?_) d1)))
  refine wpAny_Call_NameR (kf _ _ _ _ ?_)
  refine Calls.callWith_function (o := o) (fd := fd) (Calls.evalArgs_plain (Calls.spliced_cons ?_))
  refine wpAny_Name (wpAny_loadName_local di.kind l0 F₁.ns m0 ?_) d0
  refine Calls.spliced_cons ?_
  refine wpAny_Call_ofName (K.cx.bi (ρ := []) X₁ PyProof.Rows.Boot.«len» d.1.2.1.2.1.2.1.1.2 (by simp [biNames]) _ _ _ _ ?_)
  refine Calls.callWith_builtin rfl (Calls.evalArgs_plain (Calls.spliced_cons ?_))
  refine wpAny_Name (wpAny_loadName_local di.kind l1 F₁.ns m1 ?_) d1
  refine Calls.spliced_nil ?_
  refine PyProof.Rows.len_list hL₁ (by rw [List.size_toArray]; omega) ?_
  refine Calls.spliced_nil ⟨⟨ho, hd⟩, ?_⟩
  refine take_call base gl et (r2.mono (by decide)) (fun b o e => k₁ _ _ (kg _ _ e)) (Nat.le_trans gs ?_) S₁ hg (by rw [List.size_toArray]; omega) (by rw [List.size_toArray]; omega) fun n t h₂ tk₂ n0 n1 kb S₂ => ?_
  · exact Nat.le_of_lt F₁.ns.lt
  rw [List.size_toArray] at n1
  have hL₂ : h₂.IsList D vs.toArray := let ⟨o, ho, r⟩ := hL₁; ⟨o, kb _ _ hne ho, r⟩
  obtain ⟨j, rfl⟩ := Int.eq_ofNat_of_zero_le n0
  have hj : j < vs.length := by omega
  refine PyProof.Rows.item_list hL₂ (by omega) (by omega) (x := vs[j]) (by simp [hj]) ?_ (sub_plain rfl _ _) (fun _ => isName_go rfl _ _)
  exact hQ j _ h₂ _ (List.getElem?_eq_getElem hj) ((KB.of k₁).trans kb) S₂
end
end Mine
end

section
set_option maxRecDepth 100000
set_option linter.unusedVariables false
set_option genSizeOf false
set_option genInjectivity false
open PySem PySem.W PySem.NumText PyProof.Rows PySem.Builtin
namespace Mine

theorem evalEs_consts (C : Cx) (ρ : List V) : ∀ as : List A, evalEs C ρ (as.map PE.const) = .ok (as.map V.at)
  | [] => rfl
  | a :: r => by
    show (Res.ok (V.at a)).bind (fun v => (evalEs C ρ (r.map PE.const)).bind fun vs => .ok (v :: vs)) = _
    rw [evalEs_consts C ρ r]
    rfl
theorem relL_as {S : Addr → Prop} {h : Heap} : ∀ {vs : List Value} {as : List A}, RelL S h vs (as.map V.at) → RelAs vs as
  | [], [], _ => trivial
  | _ :: _, _ :: _, ⟨r, rs⟩ => ⟨r, relL_as rs⟩
  | [], _ :: _, r => r.elim
  | _ :: _, [], r => r.elim
theorem intsAre_of : ∀ {vs : List Value} {ns : List Nat}, RelAs vs (ns.map fun (n : Nat) => A.int (n : Int)) → IntsAre vs (ns.map fun (n : Nat) => (n : Int))
  | [], [], _ => .nil
  | v :: vs, n :: ns, r => by
    obtain ⟨⟨t, rfl⟩, rs⟩ := (show RelA v (.int (n : Int)) ∧ RelAs vs _ from r)
    exact .cons _ _ (intsAre_of rs)
  | [], _ :: _, r => r.elim
  | _ :: _, [], r => r.elim

noncomputable def pNat (n : Nat) : Pat Expr := pK (pIs (constIs (.int (n : Int))))
noncomputable def natsChk (l : List Nat) : List Expr → Bool := (pAll pNat l).m

section
variable {b : Bx} {KF : Frag}
theorem natsArgsD (K : b.Ok KF) : ∀ (ns : List Nat) (d : (pAll pNat ns).D), ArgsS b.cx ((ns.map fun (n : Nat) => A.int (n : Int)).map PE.const) ((pAll pNat ns).im d)
  | [], _ => trivial
  | n :: r, d => ⟨rfl, es_const K.cx d.1.1.2, natsArgsD K r d.2⟩
theorem natsArgs (K : b.Ok KF) {ns : List Nat} {es : List Expr} (h : natsChk ns es = true) : ArgsS b.cx ((ns.map fun (n : Nat) => A.int (n : Int)).map PE.const) es := by
  obtain ⟨d, rfl⟩ := Pat.of h
  exact natsArgsD K ns d

theorem disp (K : b.Ok KF) {es : List Expr} {as : List A} {p : Pos} (hA : ArgsS b.cx (as.map PE.const) es) (hn : as.length ≤ 1000) {h : Heap} {tk : Nat} (X : b.X h) {Q E : Value → Shared → Prop}
    (hQ : ∀ D vs h' tk', Keeps h h' → h.get? D = none → h'.IsList D vs.toArray → RelAs vs as → Q (.ref D) (b.cx.mk' h' tk')) : wpAny b.cx.M b.cx.A (eval (.List es p) b.env) Q E (b.cx.mk' h tk) := by
  refine List_ (spliced_S K.cx hA (ρ := []) X ?_)
  rw [evalEs_consts]
  intro vs h₁ tk₁ g₁ r₁
  have g₁ : Keeps h h₁ := g₁
  have r₁ := relL_as r₁
  refine wpAny_newList ?_ (by rw [relAs_len r₁]; exact le_line hn)
  refine hQ _ vs _ _ (Keeps.trans g₁ (Keeps.push _ _)) (not_some g₁ (get_size _)) ⟨_, Heap.get?_push_size _ rfl, rfl, _, rfl⟩ r₁

/-! an element of a menu -/
inductive DE where
  | ie (e : IE) (i : Int) | cst (a : A) | mk (l : List Nat) | cut
noncomputable def DE.val : DE → A
  | .ie _ i => .int i
  | .cst a => a
  | .mk l => .bytes l
  | .cut => .bytes [97]
noncomputable def IE.is (e : IE) (i : Int) : Bool := match e.ev [] [] with
  | .ok j => j == i
  | _ => false
noncomputable def pMk (sc : Scope) (l : List Nat) : Pat Expr := pCallN (pBi sc "bytes") (pOne (pLst (pIs (natsChk l))))
noncomputable def mkChk (sc : Scope) (l : List Nat) (x : Expr) : Bool := (l.all (fun c => Nat.blt c 256) && Nat.ble l.length 1000) && (pMk sc l).m x
noncomputable def cstChk (a : A) : Expr → Bool := (pK (pIs (constIs a))).m
noncomputable def pCut (sc : Scope) : Pat Expr := pSub (pIs (mkChk sc [97, 255])) (pSlice pNone (pSome (pK (pIs (constIs (.int 1))))))
noncomputable def cutChk (sc : Scope) : Expr → Bool := (pCut sc).m
noncomputable def DE.chk (sc : Scope) : DE → Expr → Bool
  | .ie e i => fun x => IE.chk sc [] srcS e x && notStar x && e.is i
  | .cst a => cstChk a
  | .mk l => mkChk sc l
  | .cut => cutChk sc
noncomputable def chkDs (sc : Scope) (ds : List DE) : List Expr → Bool := (pAll (fun d : DE => pIs (d.chk sc)) ds).m

theorem es_mk (K : b.Ok KF) {l : List Nat} {x : Expr} (h : mkChk b.scope l x = true) : ES b.cx (.const (.bytes l)) x ∧ notStar x = true ∧ (∀ o r, (∀ a, o ≠ .ref a) → letTemporaryGo x o r = pure ()) := by
  obtain ⟨d, rfl⟩ := Pat.of (andR h)
  have h4 := andL (andL h)
  have h5 := Nat.le_of_ble_eq_true (andR (andL h))
  refine ⟨?_, rfl, fun o r ho => ?_⟩
  · intro ρ h tk Q E st H
    refine wpAny_Call_ofName (K.cx.bi (ρ := ρ) st boot_bytes d.1.1.2 (by simp) _ _ _ _ ?_)
    refine PySem.callWith_type rfl (Calls.evalArgs_plain (Calls.spliced_cons ?_))
    refine disp K (natsArgs K d.2.1.1.2) (by rw [List.length_map]; exact h5) st fun D vs h' tk' k n hL r => ?_
    refine Calls.spliced_nil ?_
    have hlen : vs.length = l.length := (relAs_len r).trans (List.length_map _)
    refine call_bytes_ints hL (intsAre_of r) (fun n hn => ?_) (by rw [hlen]; exact le_line h5) K.handled fun h₂ t k₂ hk => ?_
    · obtain ⟨c, hc, rfl⟩ := List.mem_map.mp hn
      have := Nat.le_of_ble_eq_true (List.all_eq_true.mp h4 c hc)
      exact ⟨by omega, by omega⟩
    · refine H _ h₂ k₂ (Keeps.trans k hk) ⟨t, ?_, h5, h4⟩
      have : (l.map fun (n : Nat) => (n : Int)).map (fun n => n.toNat.toUInt8) = l.map UInt8.ofNat := by
        rw [List.map_map]
        rfl
      unfold byteArr
      rw [this]
  · cases o with
    | ref a => exact absurd rfl (ho a)
    | _ => rfl
theorem cut_eq : KBy.picked (([97, 255].map UInt8.ofNat).toArray) none (some 1) = ([97].map UInt8.ofNat).toArray := by decide +kernel

theorem DE.ok (K : b.Ok KF) : ∀ {d : DE} {x : Expr}, d.chk b.scope x = true → ES b.cx (.const d.val) x ∧ notStar x = true := by
  intro d x h
  cases d with
  | ie e i =>
    replace h : (IE.chk b.scope [] srcS e x && notStar x && e.is i) = true := h
    simp only [Bool.and_eq_true] at h
    obtain ⟨⟨h1, h2⟩, h3⟩ := h
    unfold IE.is at h3
    split at h3
    · rename_i j hj
      obtain rfl := eq_of_beq h3
      exact ⟨IE.ok K (vars := []) (items := []) (fun n z i _ ei => by cases n <;> cases ei) (fun n i ei => by cases n <;> cases ei) e x j h1 hj, h2⟩
    · cases h3
  | cst a =>
    replace h : cstChk a x = true := h
    obtain ⟨d, rfl⟩ := Pat.of (P := pK (pIs (constIs a))) h
    exact ⟨es_const K.cx d.1.2, rfl⟩
  | mk l => exact ⟨(es_mk K h).1, (es_mk K h).2.1⟩
  | cut =>
    replace h : cutChk b.scope x = true := h
    obtain ⟨d, rfl⟩ := Pat.of (P := pCut b.scope) h
    obtain ⟨m1, m2, m3⟩ := es_mk K d.1.2
    refine ⟨?_, rfl⟩
    intro ρ h tk Q E st H
    refine Subscript_ (m1 ρ h tk _ E st fun v₁ h₁ tk₁ k₁ r₁ => ?_)
    have k₁ : Keeps h h₁ := k₁
    obtain ⟨t, rfl, _⟩ := r₁
    have st₁ := K.cx.st (ρ := ρ) k₁ st
    refine wpAny_Slice (evalPart_none_step (evalPart_some_step ((es_const K.cx d.2.1.2.1.1.2) ρ h₁ tk₁ _ E st₁ fun v₂ h₂ tk₂ k₂ r₂ => ?_)))
    have k₂ : Keeps h₁ h₂ := k₂
    obtain ⟨u, rfl⟩ := r₂
    refine evalPart_none_step ?_
    refine tail_of_ItemOn ⟨"bytes", _, FB.slot_bytes_getitem.lookup, typeIs_bytes _ _ _, getItem_meets (typeIs_bytes _ _ _) (by decide) FB.slot_bytes_getitem FB.entry_bytes_getitem (FB.args_bytes_getitem_2 _ _)
      (KBc.meets_slice2 _ t _ .none (.int 1 u)) ⟨Heap.IsSliceOf.new _ _ _ _, ?_, fun t' k => ?_⟩⟩ (ops := [.ref h₂.objs.size, .bytes (([97, 255].map UInt8.ofNat).toArray) t]) rfl (fun r => m3 _ _ fun a z => nomatch z)
    · rw [cut_eq]; decide
    · rw [cut_eq]
      exact H _ _ k (Keeps.trans k₁ (Keeps.trans k₂ (Keeps.push _ _))) ⟨t', rfl, by decide, by decide⟩
theorem dsArgsD (K : b.Ok KF) : ∀ (ds : List DE) (d : (pAll (fun d : DE => pIs (d.chk b.scope)) ds).D), ArgsS b.cx ((ds.map DE.val).map PE.const) ((pAll (fun d : DE => pIs (d.chk b.scope)) ds).im d)
  | [], _ => trivial
  | c :: r, d => ⟨(DE.ok K d.1.2).2, (DE.ok K d.1.2).1, dsArgsD K r d.2⟩
theorem dsArgs (K : b.Ok KF) {ds : List DE} {es : List Expr} (h : chkDs b.scope ds es = true) : ArgsS b.cx ((ds.map DE.val).map PE.const) es := by
  obtain ⟨d, rfl⟩ := Pat.of h
  exact dsArgsD K ds d
end
end Mine
end

section
set_option maxRecDepth 100000
set_option linter.unusedVariables false
set_option genSizeOf false
set_option genInjectivity false
open PySem PySem.W PySem.NumText PyProof.Rows PySem.Builtin
namespace Mine

noncomputable def Bx.put (b : Bx) (z : Str) (v : Value) : Bx := { b with m := fun y => if y = z then some v else b.m y }
section
variable {b : Bx} {KF : Frag} {σ : Addr}
theorem Bx.Ok.put (K : b.Ok KF) (z : Str) (v : Value) : (b.put z v).Ok KF := ⟨K.handled, K.units, K.depth, K.base, K.gl, K.kind, K.keeps⟩
theorem Fr.kb {g h h' : Heap} {L : Addr} {m : Str → Option Value} (F : Fr g L h m) (k : KB σ h h') (hg : g.get? σ = none) (n : σ ≠ L) : Fr g L h' m := by
  obtain ⟨o, es, ep, ho, r⟩ := F.ns
  exact ⟨⟨o, es, ep, k _ _ (Ne.symm n) ho, r⟩, fun b o e => k b o (fun z => by rw [z, hg] at e; cases e) (F.keep b o e), F.above⟩

/-- the setting of a def that draws -/
structure Dw (b : Bx) (KF : Frag) (σ : Addr) : Prop where
  K : b.Ok KF
  y : b.Y = fun h => Src h σ
  m0 : b.m srcS = some (.ref σ)
  l0 : locOk b.scope srcS = true
  hg : b.g.get? σ = none
  ne : σ ≠ b.L
  take : dHead KF (addrOf 22) takeChk = true
  one : dHead KF (addrOf 23) oneChk = true
  room : Room b.A 2
theorem Dw.src (W : Dw b KF σ) {h : Heap} (X : b.X h) : Src h σ := by
  have := X.2
  rw [W.y] at this
  exact this
theorem Dw.kb (W : Dw b KF σ) {h h' : Heap} (X : b.X h) (k : KB σ h h') (S : Src h' σ) : b.X h' := ⟨Fr.kb X.1 k W.hg W.ne, by rw [W.y]; exact S⟩
theorem Dw.put (W : Dw b KF σ) {z : Str} {v : Value} (hz : z ≠ srcS) : Dw (b.put z v) KF σ := ⟨W.K.put z v, W.y, (if_neg (Ne.symm hz)).trans W.m0, W.l0, W.hg, W.ne, W.take, W.one, W.room⟩
theorem Dw.store (W : Dw b KF σ) {z : Str} {v : Value} {h : Heap} {tk : Nat} {Q : Unit → Shared → Prop} {E : Value → Shared → Prop} (hl : b.scope.names.lookup z = some .local) (X : b.X h)
    (hQ : ∀ h' tk', (b.put z v).X h' → Heap.SameBut b.L h h' → Q () (b.cx.mk' h' tk')) : wpAny b.cx.M b.cx.A (storeName b.env z v) Q E (b.cx.mk' h tk) :=
  Bx.store W.K hl X fun h' tk' F s => hQ h' tk' ⟨F, by show b.Y h'; rw [W.y]; exact Src.same s W.ne (W.src X)⟩ s

theorem relAs_any : ∀ {vs : List Value} {as : List A} {i : Nat} {v : Value}, RelAs vs as → vs[i]? = some v → ∃ a, a ∈ as ∧ RelA v a
  | [], _, _, _, _, e => by simp at e
  | u :: us, c :: cs, 0, v, r, e => by simp at e; subst e; exact ⟨c, .head _, r.1⟩
  | u :: us, c :: cs, i + 1, v, r, e => by
    obtain ⟨a, ha, ra⟩ := relAs_any r.2 (by simpa using e)
    exact ⟨a, .tail _ ha, ra⟩
  | _ :: _, [], _, _, r, _ => r.elim

theorem take_ev (W : Dw b KF σ) {tn : Str} {arg : Expr} {p1 p2 p3 : Pos} {top : Int} (ht : nth fnames 22 tn = true) (hgl : glo b.scope tn = true) (hs : notStar arg = true) (ha : EvI b arg top) (h1 : 1 ≤ top) (h2 : top ≤ 1000) {h : Heap} {tk : Nat} {Q : Value → Shared → Prop} (X : b.X h)
    (hQ : ∀ n t h' tk', 0 ≤ n → n < top → b.X h' → KB σ h h' → Q (.int n t) (b.cx.mk' h' tk')) :
    wpAny b.cx.M b.cx.A (eval (.Call (.Name tn p1) [.Name srcS p2, arg] [] p3) b.env) Q (fun _ _ => False) (b.cx.mk' h tk) := by
  obtain ⟨⟨o, fd, ho, hd⟩, kf⟩ := W.K.cx.fn (ρ := []) X (nth_eq ht) hgl
  obtain ⟨l0, d0⟩ := locOk_parts W.l0
  refine wpAny_Call_NameR (kf _ _ _ _ ?_)
  refine Calls.callWith_function (o := o) (fd := fd) (Calls.evalArgs_plain (Calls.spliced_cons ?_))
  refine wpAny_Name (wpAny_loadName_local W.K.kind l0 X.1.ns W.m0 ?_) d0
  rw [starEach_of hs]
  refine Calls.spliced_cons (EvI.use W.K ha X fun t h₁ tk₁ k₁ X₁ => ?_)
  refine Calls.spliced_nil ⟨⟨k₁ _ _ ho, hd⟩, ?_⟩
  exact take_call W.K.base W.K.gl W.take (W.room.mono (by decide)) X₁.1.keep (Nat.le_of_lt (Nat.lt_of_le_of_lt X₁.1.above X₁.1.ns.lt)) (W.src X₁) W.hg h1 h2 fun n t h' tk' n0 n1 kb S' => hQ n t h' tk' n0 n1 (W.kb X₁ kb S') ((KB.of k₁).trans kb)

/-- an expression that gives a list of these, here -/
noncomputable def EvL (b : Bx) (σ : Addr) (x : Expr) (as : List A) (h : Heap) (tk : Nat) : Prop := ∀ (Q : Value → Shared → Prop),
  (∀ D vs h' tk', Keeps h h' → b.X h' → D ≠ σ → h'.IsList D vs.toArray → RelAs vs as → Q (.ref D) (b.cx.mk' h' tk')) → wpAny b.cx.M b.cx.A (eval x b.env) Q (fun _ _ => False) (b.cx.mk' h tk)
theorem EvL.disp (W : Dw b KF σ) {es : List Expr} {p : Pos} {as : List A} (hA : ArgsS b.cx (as.map PE.const) es) (hn : as.length ≤ 1000) {h : Heap} {tk : Nat} (X : b.X h) : EvL b σ (.List es p) as h tk := fun Q hQ =>
  Mine.disp W.K hA hn X fun D vs h' tk' k n hL r => hQ D vs h' tk' k (W.K.cx.st (ρ := []) k X) (fun z => by
    have := (W.src X).lt
    subst z
    obtain ⟨s0, s1, t0, t1, ⟨o, ho, _⟩, _⟩ := W.src X
    rw [n] at ho; cases ho) hL r
theorem EvL.name (W : Dw b KF σ) {z : Str} {p : Pos} {D : Addr} {vs : List Value} {as : List A} (hz : locOk b.scope z = true) (hm : b.m z = some (.ref D)) (hne : D ≠ σ) {h : Heap} {tk : Nat} (X : b.X h) (hL : h.IsList D vs.toArray) (r : RelAs vs as) : EvL b σ (.Name z p) as h tk := fun Q hQ => by
  obtain ⟨l0, d0⟩ := locOk_parts hz
  exact wpAny_Name (wpAny_loadName_local W.K.kind l0 X.1.ns hm (hQ D vs h tk (Keeps.refl h) X hne hL r)) d0

theorem one_ev (W : Dw b KF σ) {on : Str} {le : Expr} {p1 p2 p3 : Pos} {as : List A} (ht : nth fnames 23 on = true) (hgl : glo b.scope on = true) (hs : notStar le = true) {h : Heap} {tk : Nat} (hl : EvL b σ le as h tk) (h1 : 1 ≤ as.length) (h2 : as.length ≤ 1000) {Q : Value → Shared → Prop} (X : b.X h)
    (hQ : ∀ v a h' tk', a ∈ as → RelA v a → b.X h' → KB σ h h' → Q v (b.cx.mk' h' tk')) :
    wpAny b.cx.M b.cx.A (eval (.Call (.Name on p1) [.Name srcS p2, le] [] p3) b.env) Q (fun _ _ => False) (b.cx.mk' h tk) := by
  obtain ⟨⟨o, fd, ho, hd⟩, kf⟩ := W.K.cx.fn (ρ := []) X (nth_eq ht) hgl
  obtain ⟨l0, d0⟩ := locOk_parts W.l0
  refine wpAny_Call_NameR (kf _ _ _ _ ?_)
  refine Calls.callWith_function (o := o) (fd := fd) (Calls.evalArgs_plain (Calls.spliced_cons ?_))
  refine wpAny_Name (wpAny_loadName_local W.K.kind l0 X.1.ns W.m0 ?_) d0
  rw [starEach_of hs]
  refine Calls.spliced_cons (hl _ fun D vs h₁ tk₁ k₁ X₁ hne hL r => ?_)
  have hlen := relAs_len r
  refine Calls.spliced_nil ⟨⟨k₁ _ _ ho, hd⟩, ?_⟩
  refine one_call W.K.base W.K.gl W.one W.take W.room X₁.1.keep (Nat.le_of_lt (Nat.lt_of_le_of_lt X₁.1.above X₁.1.ns.lt)) (W.src X₁) W.hg hL hne (by omega) (by omega) fun i v h' tk' hv kb S' => ?_
  obtain ⟨a, ha, ra⟩ := relAs_any r hv
  exact hQ v a h' tk' ha ra (W.kb X₁ kb S') ((KB.of k₁).trans kb)
end
end Mine
end

section
set_option maxRecDepth 100000
set_option linter.unusedVariables false
set_option genSizeOf false
set_option genInjectivity false
open PySem PySem.W PySem.NumText PyProof.Rows PySem.Builtin
namespace Mine

noncomputable def ints10 : List Int := [0, 1, -1, 2, 7, 10, -10, 4611686018427387904, 9223372036854775807, -9223372036854775808]
noncomputable def iesA : List IE := [.lit 0, .lit 1, .neg (.lit 1), .lit 2, .lit 7, .lit 10, .neg (.lit 10), .bin .pow (.lit 2) (.lit 62), .bin .sub (.bin .pow (.lit 2) (.lit 63)) (.lit 1), .neg (.bin .pow (.lit 2) (.lit 63))]
noncomputable def menuD1 : List DE := List.zipWith DE.ie iesA ints10
noncomputable def menuD2 : List DE := [.ie (.lit 1) 1, .ie (.lit 1) 1, .ie (.lit 1) 1, .ie (.lit 3) 3]
noncomputable def textsL : List (List Nat) := [[], [97], [65], [98], [97, 32], [32, 55], [55, 32], [43, 55], [45, 49, 48], [49, 48], [48, 49, 48], [55, 120], [45, 32, 49], [57, 50, 50, 51, 51, 55, 50, 48, 51, 54, 56, 53, 52, 55, 55, 53, 56, 48, 56], [45], [48]]
noncomputable def menuD3 : List DE := textsL.map fun l => .cst (.str l)
noncomputable def menuD4 : List DE := [.cst (.bytes []), .cst (.bytes [97]), .cst (.bytes [55]), .mk [0], .cut, .cst (.bytes [49, 50, 122])]
/-- what _law_value may give -/
noncomputable def menuL : List A := .none :: ((ints10.flatMap fun i => [.int (i.fdiv 1), .int (i.fdiv 3)]) ++ textsL.map A.str ++ [.bytes [], .bytes [97], .bytes [55], .bytes [0], .bytes [97], .bytes [49, 50, 122]])
noncomputable def wayS : Str := mkS [119, 97, 121]
noncomputable def txS : Str := mkS [116, 101, 120, 116, 115]
noncomputable def pInt (scope : Scope) (i : IE) : Pat Expr := pN (IE.chk scope [] srcS i)
noncomputable def pD (scope : Scope) (ds : List DE) : Pat (List Expr) := pIs (chkDs scope ds)
noncomputable def pDraw (scope : Scope) (ds : List DE) : Pat Expr := pCallN (pFn scope 23) (pTwo (pV srcS) (pLst (pD scope ds)))
noncomputable def valuePat (scope : Scope) : Pat (List Stmt) :=
  pCons (pSet wayS (pCallN (pFn scope 22) (pTwo (pV srcS) (pInt scope (.lit 9)))))
  (pCons (pIf (pCmp (pIE scope [wayS] (.var 0)) .Eq (pIE scope [] (.lit 0))) (pOne (pRet (pK kNone))))
  (pCons (pIf (pCmp (pIE scope [wayS] (.var 0)) .Lt (pIE scope [] (.lit 4))) (pOne (pRet (pBin (pDraw scope menuD1) .FloorDiv (pDraw scope menuD2)))))
  (pCons (pSet txS (pLst (pD scope menuD3)))
  (pCons (pIf (pCmp (pIE scope [wayS] (.var 0)) .Lt (pIE scope [] (.lit 8))) (pOne (pRet (pCallN (pFn scope 23) (pTwo (pV srcS) (pV txS))))))
  (pOne (pRet (pDraw scope menuD4)))))))
noncomputable def valueChk (name : Str) (cd : Value) (params : Arguments) (scope : Scope) (body : List Stmt) : Bool :=
  ((parsIs params [srcS] && (scope.names.all fun x => x.2 != .cell)) && (locOk scope srcS && locOk scope wayS)) && (locOk scope txS && (valuePat scope).m body)

section
variable {prog : Program} {w : World} {KF : Frag} {g : Heap}
theorem EvI.lit {b : Bx} (K : b.Ok KF) {i : Int} {x : Expr} (h : IE.chk b.scope [] srcS (.lit i) x = true) : EvI b x i :=
  IE.ok K (vars := []) (items := []) (fun n z i _ ei => by cases n <;> cases ei) (fun n i ei => by cases n <;> cases ei) _ x i h rfl
theorem EvI.var1 {b : Bx} (K : b.Ok KF) {i : Int} {z : Str} {t : Tok} {x : Expr} (hm : b.m z = some (.int i t)) (h : IE.chk b.scope [z] srcS (.var 0) x = true) : EvI b x i :=
  IE.ok K (vars := [some i]) (items := []) (fun n y j ey ei => by
    match n, ey, ei with
    | 0, ey, ei => cases ey; cases ei; exact ⟨t, hm⟩
    | n + 1, ey, ei => cases ey) (fun n i ei => by cases n <;> cases ei) _ x i h rfl

noncomputable def VPost (b : Bx) (σ : Addr) (h : Heap) (v : Value) (s' : Shared) : Prop := ∃ a h' tk', s' = b.cx.mk' h' tk' ∧ a ∈ menuL ∧ RelA v a ∧ Src h' σ ∧ KB σ h h'
noncomputable def flV : Flow → Value
  | .ret v => v
  | _ => .none
theorem value_rest2 {b : Bx} {σ D : Addr} {vs : List Value} {n : Int} {t : Tok} (W : Dw b KF σ) (mw : b.m wayS = some (.int n t)) (mt : b.m txS = some (.ref D)) (l2 : locOk b.scope txS = true) (hne : D ≠ σ) (r : RelAs vs (menuD3.map DE.val)) {h₀ h : Heap} {tk : Nat} (X : b.X h) (hL : h.IsList D vs.toArray) (kx : KB σ h₀ h)
    {w4 c8 : Expr} {o3 o4 : Str} {es4 : List Expr} {q1 q2 q3 q4 q5 q6 q7 q8 q9 q10 q11 q12 : Pos} (b21 : IE.chk b.scope [wayS] srcS (.var 0) w4 = true) (b22 : IE.chk b.scope [] srcS (.lit 8) c8 = true) (b23 : nth fnames 23 o3 = true) (b24 : glo b.scope o3 = true)
    (b27 : nth fnames 23 o4 = true) (b28 : glo b.scope o4 = true) (b30 : chkDs b.scope menuD4 es4 = true) :
    wpAny b.cx.M b.cx.A (execs [.If (.Compare w4 [.Lt] [c8] q1) [.Return (some (.Call (.Name o3 q2) [.Name srcS q3, .Name txS q4] [] q5)) q6] [] q7, .Return (some (.Call (.Name o4 q8) [.Name srcS q9, .List es4 q10] [] q11)) q12] b.env)
      (fun f s' => VPost b σ h₀ (flV f) s') (fun _ _ => False) (b.cx.mk' h tk) := by
  refine wpAny_execs_cons (wpAny_If (TvB.use W.K (TvB.cmp (op := .lt) W.K (EvI.var1 W.K mw b21) (EvI.lit W.K b22)) X fun h₁ tk₁ k₁ X₁ => ?_))
  have hL₁ := IsList.keeps hL k₁
  have kx₁ : KB σ h₀ h₁ := kx.trans (KB.of k₁)
  cases hc : cmpI .lt n 8 with
  | true =>
    simp only [if_true]
    refine wpAny_execs_cons (wpAny_Return_some ?_)
    refine one_ev W b23 b24 rfl (as := menuD3.map DE.val) (EvL.name W l2 mt hne X₁ hL₁ r) (by decide) (by decide) X₁ fun v a h₂ tk₂ m r₂ X₂ k₂ => ?_
    · refine ⟨a, h₂, tk₂, rfl, ?_, r₂, W.src X₂, kx₁.trans k₂⟩
      have e : menuD3.map DE.val = textsL.map A.str := rfl
      rw [e] at m
      exact .tail _ (List.mem_append_left _ (List.mem_append_right _ m))
  | false =>
    simp only [Bool.false_eq_true, if_false]
    refine wpAny_execs_nil ?_
    refine wpAny_execs_cons (wpAny_Return_some ?_)
    refine one_ev W b27 b28 rfl (EvL.disp W (dsArgs W.K b30) (by decide) X₁) (by decide) (by decide) X₁ fun v a h₂ tk₂ m r₂ X₂ k₂ => ?_
    refine ⟨a, h₂, tk₂, rfl, ?_, r₂, W.src X₂, kx₁.trans k₂⟩
    have e : menuD4.map DE.val = [.bytes [], .bytes [97], .bytes [55], .bytes [0], .bytes [97], .bytes [49, 50, 122]] := rfl
    rw [e] at m
    exact .tail _ (List.mem_append_right _ m)

theorem value_rest1 {b : Bx} {σ : Addr} {n : Int} {t : Tok} (W : Dw b KF σ) (mw : b.m wayS = some (.int n t)) (l2 : locOk b.scope txS = true) {h₀ h : Heap} {tk : Nat} (X : b.X h) (hb : h₀.objs.size ≤ b.L) (kx : KB σ h₀ h)
    {w2 c0 w3 c4 w4 c8 : Expr} {o1 o2 o3 o4 : Str} {es1 es2 es3 es4 : List Expr} {q1 q2 q3 q4 q5 q6 q7 q8 q9 q10 q11 q12 r1 r2 r3 r4 r5 r6 r7 r8 r9 r10 r11 r12 r13 r14 r15 r16 r17 r18 r19 : Pos} {nn : Nat}
    (b7 : IE.chk b.scope [wayS] srcS (.var 0) w2 = true) (b8 : IE.chk b.scope [] srcS (.lit 0) c0 = true) (b9 : IE.chk b.scope [wayS] srcS (.var 0) w3 = true) (b10 : IE.chk b.scope [] srcS (.lit 4) c4 = true)
    (b11 : nth fnames 23 o1 = true) (b12 : glo b.scope o1 = true) (b14 : chkDs b.scope menuD1 es1 = true) (b15 : nth fnames 23 o2 = true) (b16 : glo b.scope o2 = true) (b18 : chkDs b.scope menuD2 es2 = true) (b20 : chkDs b.scope menuD3 es3 = true)
    (b21 : IE.chk b.scope [wayS] srcS (.var 0) w4 = true) (b22 : IE.chk b.scope [] srcS (.lit 8) c8 = true) (b23 : nth fnames 23 o3 = true) (b24 : glo b.scope o3 = true)
    (b27 : nth fnames 23 o4 = true) (b28 : glo b.scope o4 = true) (b30 : chkDs b.scope menuD4 es4 = true) :
    wpAny b.cx.M b.cx.A (execs [.If (.Compare w2 [.Eq] [c0] r1) [.Return (some (.Constant .none nn r2)) r3] [] r4,
        .If (.Compare w3 [.Lt] [c4] r5) [.Return (some (.BinOp (.Call (.Name o1 r6) [.Name srcS r7, .List es1 r8] [] r9) .FloorDiv (.Call (.Name o2 r10) [.Name srcS r11, .List es2 r12] [] r13) r14)) r15] [] r16,
        .Assign [.Name txS r17] (.List es3 r18) r19,
        .If (.Compare w4 [.Lt] [c8] q1) [.Return (some (.Call (.Name o3 q2) [.Name srcS q3, .Name txS q4] [] q5)) q6] [] q7, .Return (some (.Call (.Name o4 q8) [.Name srcS q9, .List es4 q10] [] q11)) q12] b.env)
      (fun f s' => VPost b σ h₀ (flV f) s') (fun _ _ => False) (b.cx.mk' h tk) := by
  obtain ⟨ll2, dd2⟩ := locOk_parts l2
  refine wpAny_execs_cons (wpAny_If (TvB.use W.K (TvB.cmp (op := .eq) W.K (EvI.var1 W.K mw b7) (EvI.lit W.K b8)) X fun h₄ tk₄ k₄ X₄ => ?_))
  have kx₄ : KB σ h₀ h₄ := kx.trans (KB.of k₄)
  cases hc : cmpI .eq n 0 with
  | true =>
    simp only [if_true]
    refine wpAny_execs_cons (wpAny_Return_some ((es_const W.K.cx (a := .none) rfl) [] h₄ _ _ _ X₄ fun v h₅ tk₅ k₅ r₅ => ?_))
    cases r₅
    exact ⟨.none, h₅, _, rfl, .head _, rfl, (W.src X₄).keeps k₅, kx₄.trans (KB.of k₅)⟩
  | false =>
    simp only [Bool.false_eq_true, if_false]
    refine wpAny_execs_nil ?_
    refine wpAny_execs_cons (wpAny_If (TvB.use W.K (TvB.cmp (op := .lt) W.K (EvI.var1 W.K mw b9) (EvI.lit W.K b10)) X₄ fun h₅ tk₅ k₅ X₅ => ?_))
    have kx₅ : KB σ h₀ h₅ := kx₄.trans (KB.of k₅)
    cases hc2 : cmpI .lt n 4 with
    | true =>
      simp only [if_true]
      refine wpAny_execs_cons (wpAny_Return_some (wpAny_BinOp ?_))
      refine one_ev W b11 b12 rfl (EvL.disp W (dsArgs W.K b14) (by decide) X₅) (by decide) (by decide) X₅ fun v₁ a₁ h₆ tk₆ m₁ r₁ X₆ k₆ => ?_
      refine one_ev W b15 b16 rfl (EvL.disp W (dsArgs W.K b18) (by decide) X₆) (by decide) (by decide) X₆ fun v₂ a₂ h₇ tk₇ m₂ r₂ X₇ k₇ => ?_
      obtain ⟨i, hi, rfl⟩ : ∃ i, i ∈ ints10 ∧ a₁ = .int i := by
        have : menuD1.map DE.val = ints10.map A.int := rfl
        rw [this] at m₁
        obtain ⟨i, hi, e⟩ := List.mem_map.mp m₁
        exact ⟨i, hi, e.symm⟩
      obtain ⟨j, hj, rfl⟩ : ∃ j : Int, (j = 1 ∨ j = 3) ∧ a₂ = .int j := by
        have : menuD2.map DE.val = [A.int 1, .int 1, .int 1, .int 3] := rfl
        rw [this] at m₂
        simp only [List.mem_cons, List.not_mem_nil, or_false] at m₂
        rcases m₂ with rfl | rfl | rfl | rfl
        · exact ⟨1, Or.inl rfl, rfl⟩
        · exact ⟨1, Or.inl rfl, rfl⟩
        · exact ⟨1, Or.inl rfl, rfl⟩
        · exact ⟨3, Or.inr rfl, rfl⟩
      obtain ⟨t₁, rfl⟩ := r₁
      obtain ⟨t₂, rfl⟩ := r₂
      refine wp_binI W.K.cx (op := .fdiv) ?_
      rw [binI_fdiv (by rcases hj with rfl | rfl <;> decide) (by rcases hj with rfl | rfl <;> decide)]
      intro v h₈ tk₈ k₈ r₈
      have k₈ : Keeps h₇ h₈ := k₈
      refine ⟨.int (i.fdiv j), h₈, _, rfl, ?_, r₈, (W.src X₇).keeps k₈, ((kx₅.trans k₆).trans k₇).trans (KB.of k₈)⟩
      refine .tail _ (List.mem_append_left _ (List.mem_append_left _ (List.mem_flatMap.mpr ⟨i, hi, ?_⟩)))
      rcases hj with rfl | rfl <;> simp
    | false =>
      simp only [Bool.false_eq_true, if_false]
      refine wpAny_execs_nil ?_
      refine wpAny_execs_cons (wpAny_Assign_Name ((EvL.disp W (dsArgs W.K b20) (by decide) X₅) _ fun D vs h₆ tk₆ k₆ X₆ hne hL r => ?_) rfl)
      have hDL : D ≠ b.L := fun z => by
        obtain ⟨o', es, ep, ho', hd', _⟩ := X₆.1.ns
        obtain ⟨o2, ho2, _, n2, hd2⟩ := hL
        rw [z, ho'] at ho2
        cases ho2
        rw [hd'] at hd2
        cases hd2
      refine W.store ll2 X₆ fun h₇ tk₇ X₇ s₇ => ?_
      have kx₇ : KB σ h₀ h₇ := fun c o nc ec => (s₇.2 c (Nat.ne_of_lt (Nat.lt_of_lt_of_le (Heap.lt_size ec) hb))).trans (k₆ _ _ (kx₅ _ _ nc ec))
      have mw' : (b.put txS (.ref D)).m wayS = some (.int n t) := by
        show (if wayS = txS then some (Value.ref D) else b.m wayS) = _
        rw [if_neg (show wayS ≠ txS from mkS_ne' (by decide))]
        exact mw
      have mt' : (b.put txS (.ref D)).m txS = some (.ref D) := by
        show (if txS = txS then some (Value.ref D) else b.m txS) = _
        rw [if_pos rfl]
      exact value_rest2 (b := b.put txS (.ref D)) (W.put (mkS_ne' (by decide))) mw' mt' l2 hne r X₇ (IsList.same hL s₇ hDL) kx₇ b21 b22 b23 b24 b27 b28 b30

theorem value_call (base : Base KF g) (gl : Gl KF addrOf) (e : dHead KF (addrOf 26) valueChk = true) (eo : dHead KF (addrOf 23) oneChk = true) (et : dHead KF (addrOf 22) takeChk = true) {A : Around} {h : Heap} {tk : Nat} {gens : Array GenState} {dr : Drawn} {os : OsState} {σ : Addr} {Q : Value → Shared → Prop}
    (room : Room A 3) (kg : Keeps g h) (gs : g.objs.size ≤ h.objs.size) (S : Src h σ) (hg : g.get? σ = none)
    (hQ : ∀ v a h' tk', a ∈ menuL → RelA v a → KB σ h h' → Src h' σ → Q v ⟨h', gens, dr, tk', os⟩) :
    wpAny (model prog w) A (call (.ref (addrOf 26)) [.ref σ]) Q (fun _ _ => False) ⟨h, gens, dr, tk, os⟩ := by
  obtain ⟨name, params, body, scope, pm, cd, doc, di, hp⟩ := d_of_chk e
  have p1 := andL (andL (andL hp))
  have p2 := andR (andL (andL hp))
  have p3 := andL (andR (andL hp))
  have p4 := andR (andR (andL hp))
  have p5 := andL (andR hp)
  replace hp := andR (andR hp)
  obtain ⟨l0, d0⟩ := locOk_parts p3
  obtain ⟨l1, d1⟩ := locOk_parts p4
  refine call_D base di p2 p1 (by rfl) rfl (by decide) (by decide) (by simp [l0]) (by have := room.depth; omega) kg gs fun h₁ tk₁ F₁ k₁ => ?_
  have r2 := room.deeper (envX name scope h.objs.size (addrOf 26) cd [])
  obtain ⟨b, hb⟩ : ∃ b : Bx, b = ⟨prog, w, A.deeper (envX name scope h.objs.size (addrOf 26) cd []), name, scope, h.objs.size, addrOf 26, cd, [], g, fun x => ([srcS].zip [Value.ref σ]).reverse.lookup x, fun h => Src h σ, gens, dr, os⟩ := ⟨_, rfl⟩
  have W : Dw b KF σ := by
    subst hb
    refine ⟨⟨r2.handled, ?_, ?_, base, gl, di.kind, fun k x => Src.keeps k x⟩, rfl, rfl, p3, hg, Nat.ne_of_lt S.lt, et, eo, r2⟩
    · have := r2.units; show (A.deeper _).units + 16 < cLine; omega
    · have := r2.depth; show (A.deeper _).depth + 16 < recursionLimit; omega
  have X₁ : b.X h₁ := by subst hb; exact ⟨F₁, S.keeps k₁⟩
  have hbL : b.L = h.objs.size := by subst hb; rfl
  have bs : b.scope = scope := by subst hb; rfl
  suffices H : wpAny b.cx.M b.cx.A (execs body b.env) (fun f s' => VPost b σ h (flV f) s') (fun _ _ => False) (b.cx.mk' h₁ tk₁) by
    subst hb
    refine wpAny_mono H (fun f s' q => ?_) fun _ _ q => q
    obtain ⟨a, h', tk', rfl, ha, r, S', kb⟩ := q
    exact hQ _ a h' tk' ha r kb S'
  clear hb
  subst bs
  obtain ⟨d, rfl⟩ := Pat.of hp
  have kx : KB σ h h₁ := KB.of k₁
  refine wpAny_execs_cons (wpAny_Assign_Name (take_ev W (andL d.1.2.1.1.1.2) (andR d.1.2.1.1.1.2) (andL d.1.2.1.2.1.2.2) (EvI.lit (i := 9) W.K (andR d.1.2.1.2.1.2.2)) (by decide) (by decide) X₁ fun n t h₂ tk₂ n0 n1 X₂ k₂ => ?_) rfl)
  refine W.store l1 X₂ fun h₃ tk₃ X₃ s₃ => ?_
  have kx₃ : KB σ h h₃ := fun c o nc ec => (s₃.2 c (by rw [hbL]; exact Nat.ne_of_lt (Heap.lt_size ec))).trans (k₂ _ _ nc (kx _ _ nc ec))
  have mw : (b.put wayS (.int n t)).m wayS = some (.int n t) := by
    show (if wayS = wayS then some (Value.int n t) else b.m wayS) = _
    rw [if_pos rfl]
  exact value_rest1 (b := b.put wayS (.int n t)) (W.put (mkS_ne' (by decide))) mw p5 X₃ (Nat.le_of_eq hbL.symm) kx₃ d.2.1.1.1.2 d.2.1.1.2.2.1.2 d.2.2.1.1.1.2 d.2.2.1.1.2.2.1.2 (andL d.2.2.1.2.1.1.1.1.1.2) (andR d.2.2.1.2.1.1.1.1.1.2) d.2.2.1.2.1.1.1.2.1.2.1.2 (andL d.2.2.1.2.1.1.2.2.1.1.1.2) (andR d.2.2.1.2.1.1.2.2.1.1.1.2) d.2.2.1.2.1.1.2.2.1.2.1.2.1.2 d.2.2.2.1.2.1.1.2 d.2.2.2.2.1.1.1.2 d.2.2.2.2.1.1.2.2.1.2 (andL d.2.2.2.2.1.2.1.1.1.1.2) (andR d.2.2.2.2.1.2.1.1.1.1.2) (andL d.2.2.2.2.2.1.1.1.2) (andR d.2.2.2.2.2.1.1.1.2) d.2.2.2.2.2.1.2.1.2.1.2
end
end Mine
end

section
set_option maxRecDepth 100000
set_option linter.unusedVariables false
set_option genSizeOf false
set_option genInjectivity false
open PySem PySem.W PySem.NumText PyProof.Rows PySem.Builtin
namespace Mine

noncomputable def scS : Str := mkS [115, 99, 114, 105, 112, 116]
noncomputable def kS : Str := mkS [107]
noncomputable def ceS : Str := mkS [99, 101, 108, 108]
noncomputable def biS : Str := mkS [98, 105, 103]
noncomputable def miS : Str := mkS [109, 105, 120, 101, 100]
noncomputable def nmP : List Str := [scS, kS, ceS, biS, miS]
noncomputable def pl1 : IE := .max (.int (.var 2)) (.int (.bin .sub (.neg (.lit 1)) (.var 2)))
noncomputable def pl2 : IE := .bin .mod (.int (.bin .mul (.bin .add (.bin .add (.bin .add (.bin .mod (.int (.var 3)) (.lit 2147483629)) (.bin .mul (.bin .mul (.lit 7919) (.var 1)) (.var 1))) (.bin .mul (.lit 31) (.var 1))) (.lit 17)) (.lit 48271))) (.lit 2147483647)
noncomputable def pl3 : IE := .bin .mul (.var 3) (.ofB .ge (.var 3) (.bin .pow (.lit 10) (.lit 18)))
noncomputable def poolPat (sc : Scope) : Pat (List Stmt) :=
  pCons (pSet ceS (eIfExp.comp (pp (pCmp (pIE sc nmP (.var 1)) .Lt (pCallN (pBi sc "len") (pOne (pV scS)))) (pp (pSub (pV scS) (pV kS)) (pP (pIE sc nmP (.lit 0)))))))
  (pCons (pSet biS (pNC sc nmP pl1)) (pCons (pSet miS (pNC sc nmP pl2)) (pOne (pRet (pLst (pTwo (pN (IE.chk sc nmP srcS pl3)) (pN (IE.chk sc nmP srcS (.var 4)))))))))
noncomputable def poolChk (name : Str) (cd : Value) (params : Arguments) (scope : Scope) (body : List Stmt) : Bool :=
  ((parsIs params [scS, kS] && (scope.names.all fun x => x.2 != .cell)) && (locOk scope scS && locOk scope kS)) && ((locOk scope ceS && locOk scope biS) && (locOk scope miS && (poolPat scope).m body))

theorem intsAre_get : ∀ {vs : List Value} {ns : List Int} {i : Nat}, IntsAre vs ns → i < ns.length → ∃ n t, vs[i]? = some (.int n t)
  | _, _, 0, .cons n t _, _ => ⟨n, t, rfl⟩
  | _, _, i + 1, .cons n t r, h => by
    obtain ⟨m, u, e⟩ := intsAre_get (i := i) r (Nat.lt_of_succ_lt_succ h)
    exact ⟨m, u, by simpa using e⟩
  | _, _, _, .nil, h => absurd h (Nat.not_lt_zero _)

section
variable {b : Bx} {KF : Frag} {sc : Addr} {vs : List Value} {k : Int}
structure Pw (b : Bx) (KF : Frag) (sc : Addr) (vs : List Value) (k : Int) : Prop where
  K : b.Ok KF
  y : b.Y = fun h => h.IsList sc vs.toArray
  ms : b.m scS = some (.ref sc)
  mkk : ∃ t, b.m kS = some (.int k t)
  ne : sc ≠ b.L
theorem Pw.put (W : Pw b KF sc vs k) {z : Str} {v : Value} (h1 : scS ≠ z) (h2 : kS ≠ z) : Pw (b.put z v) KF sc vs k := ⟨W.K.put z v, W.y, (if_neg h1).trans W.ms, W.mkk.imp fun t e => (if_neg h2).trans e, W.ne⟩
theorem Pw.list (W : Pw b KF sc vs k) {h : Heap} (y : b.Y h) : h.IsList sc vs.toArray := by
  rw [W.y] at y
  exact y
theorem Pw.store (W : Pw b KF sc vs k) {z : Str} {v : Value} {h : Heap} {tk : Nat} {Q : Unit → Shared → Prop} {E : Value → Shared → Prop} (hl : b.scope.names.lookup z = some .local) (X : b.X h)
    (hQ : ∀ h' tk', (b.put z v).X h' → Heap.SameBut b.L h h' → Q () (b.cx.mk' h' tk')) : wpAny b.cx.M b.cx.A (storeName b.env z v) Q E (b.cx.mk' h tk) :=
  Bx.store W.K hl X fun h' tk' F s => hQ h' tk' ⟨F, by show b.Y h'; rw [W.y]; exact IsList.same (W.list X.2) s W.ne⟩ s
theorem Pw.ie (W : Pw b KF sc vs k) {c d m : Option Int} (hc : ∀ i, c = some i → ∃ t, b.m ceS = some (.int i t)) (hd : ∀ i, d = some i → ∃ t, b.m biS = some (.int i t)) (hm : ∀ i, m = some i → ∃ t, b.m miS = some (.int i t)) {e : IE} {x : Expr} {i : Int} (h : e.chk b.scope nmP srcS x = true)
    (ev : e.ev [none, some k, c, d, m] [] = .ok i) : EvI b x i :=
  IE.ok W.K (vars := [none, some k, c, d, m]) (items := []) (fun n z i ez ei => by
    match n, ez, ei with
    | 0, ez, ei => cases ei
    | 1, ez, ei => cases ez; cases ei; exact W.mkk
    | 2, ez, ei => cases ez; exact hc i (Option.some.inj ei)
    | 3, ez, ei => cases ez; exact hd i (Option.some.inj ei)
    | 4, ez, ei => cases ez; exact hm i (Option.some.inj ei)
    | n + 5, ez, ei => cases ez) (fun n i ei => by cases n <;> cases ei) e x i h ev
theorem IE.ev_bin {op : BOp} {a c : IE} {i j r : Int} {vars items : List (Option Int)} (ha : a.ev vars items = .ok i) (hb : c.ev vars items = .ok j) (hk : binI op i j = okI r) : (IE.bin op a c).ev vars items = .ok r := by
  show (a.ev vars items).bind _ = _
  rw [ha]
  show (c.ev vars items).bind _ = _
  rw [hb]
  show (match binI op i j with | .ok (.at (.int k)) => Res.ok k | _ => .fail) = _
  rw [hk]
  rfl

/-- the cell -/
theorem cell_ev (W : Pw b KF sc vs k) {ns : List Int} (hi : IntsAre vs ns) (hn : ns.length ≤ 63) (h0 : 0 ≤ k) {k1 z0 : Expr} {ln : Str} {p1 p2 p3 p4 p5 p6 p7 p8 : Pos} (ls : locOk b.scope scS = true) (lk : locOk b.scope kS = true) (h1 : IE.chk b.scope nmP srcS (.var 1) k1 = true) (h2 : ln = ("len" : Str)) (h3 : glo b.scope ln = true) (h4 : IE.chk b.scope nmP srcS (.lit 0) z0 = true) :
    ∃ c, EvI b (.IfExp (.Compare k1 [.Lt] [.Call (.Name ln p1) [.Name scS p2] [] p3] p4) (.Subscript (.Name scS p5) (.Name kS p6) p7) z0 p8) c := by
  obtain ⟨l0, d0⟩ := locOk_parts ls
  obtain ⟨l1, d1⟩ := locOk_parts lk
  subst h2
  have hlen : vs.length = ns.length := hi.length
  have E1 : EvI b k1 k := W.ie (c := none) (d := none) (m := none) (fun i z => nomatch z) (fun i z => nomatch z) (fun i z => nomatch z) h1 rfl
  have E2 : EvI b z0 0 := W.ie (c := none) (d := none) (m := none) (fun i z => nomatch z) (fun i z => nomatch z) (fun i z => nomatch z) h4 rfl
  have E3 : EvI b (.Call (.Name ("len" : Str) p1) [.Name scS p2] [] p3) (vs.length : Int) := fun ρ h tk Q E st H => by
    refine wpAny_Call_ofName (W.K.cx.bi (ρ := ρ) st PyProof.Rows.Boot.«len» h3 (by simp) _ _ _ _ ?_)
    refine Calls.callWith_builtin rfl (Calls.evalArgs_plain (Calls.spliced_cons ?_))
    refine wpAny_Name (wpAny_loadName_local W.K.kind l0 st.1.ns W.ms ?_) d0
    refine Calls.spliced_nil ?_
    refine PyProof.Rows.len_list (W.list st.2) (by rw [List.size_toArray]; omega) ?_
    refine H _ h _ (Keeps.refl h) ⟨tk + 1, ?_⟩
    show Value.int ((vs.toArray.size : Nat) : Int) _ = _
    rw [List.size_toArray]
  have T := TvB.cmp (op := .lt) (pos := p4) W.K E1 E3
  by_cases hk : k < (vs.length : Int)
  · obtain ⟨j, rfl⟩ := Int.eq_ofNat_of_zero_le h0
    obtain ⟨n, t, hv⟩ := intsAre_get (i := j) hi (by omega)
    obtain ⟨u, hm⟩ := W.mkk
    have E4 : EvI b (.Subscript (.Name scS p5) (.Name kS p6) p7) n := fun ρ h tk Q E st H => by
      refine Subscript_ (wpAny_Name (wpAny_loadName_local W.K.kind l0 st.1.ns W.ms ?_) d0)
      refine wpAny_Name (wpAny_loadName_local W.K.kind l1 st.1.ns hm ?_) d1
      refine PyProof.Rows.item_list (W.list st.2) (by omega) (by omega) (x := .int n t) (by simpa using hv) ?_ (sub_plain rfl _ _) (fun _ => isName_go rfl _ _)
      exact H _ h _ (Keeps.refl h) ⟨t, rfl⟩
    refine ⟨n, ES.congr (p := .ite (.const (.bool (cmpI .lt (j : Int) (vs.length : Int)))) (.const (.int n)) .fail) (fun ρ => ?_) (es_ite W.K.cx T E4 fun ρ h tk Q E st H => H.elim)⟩
    rw [show cmpI .lt (j : Int) (vs.length : Int) = true from decide_eq_true hk]
    rfl
  · refine ⟨0, ES.congr (p := .ite (.const (.bool (cmpI .lt k (vs.length : Int)))) .fail (.const (.int 0))) (fun ρ => ?_) (es_ite W.K.cx T (fun ρ h tk Q E st H => H.elim) E2)⟩
    rw [show cmpI .lt k (vs.length : Int) = false from decide_eq_false hk]
    rfl
end
end Mine
end

section
set_option maxRecDepth 100000
set_option linter.unusedVariables false
set_option genSizeOf false
set_option genInjectivity false
open PySem PySem.W PySem.NumText PyProof.Rows PySem.Builtin
namespace Mine

theorem pl2_ev {B k : Int} {c m : Option Int} (h0 : 0 ≤ k) (h3 : k < 3) : ∃ M, pl2.ev [none, some k, c, some B, m] [] = .ok M ∧ 0 ≤ M ∧ M < 2147483647 := by
  have wk : w64 k = true := w64_of h0 (by omega)
  refine ⟨_, IE.ev_bin (IE.ev_bin (IE.ev_bin (IE.ev_bin (IE.ev_bin (IE.ev_bin (a := .int (.var 3)) (i := B) rfl rfl (binI_mod (by decide) (by decide))) (IE.ev_bin (IE.ev_bin rfl (c := .var 1) (j := k) rfl (binI_mul (b := k) (by rfl))) (c := .var 1) (j := k) rfl (binI_mul (by rw [wk, Bool.or_true]))) (show binI .add _ _ = okI (_ + _) from rfl))
    (IE.ev_bin rfl (c := .var 1) (j := k) rfl (binI_mul (b := k) (by rfl))) (show binI .add _ _ = okI (_ + _) from rfl)) rfl (show binI .add _ _ = okI (_ + _) from rfl)) rfl (binI_mul (b := 48271) (by rw [show w64 48271 = true from rfl, Bool.or_true]))) rfl (binI_mod (by decide) (by decide)), Int.fmod_nonneg_of_pos _ (by decide), Int.fmod_lt_of_pos _ (by decide)⟩
theorem pl3_ev {B k : Int} {c m : Option Int} : ∃ M, pl3.ev [none, some k, c, some B, m] [] = .ok M := by
  have e : (IE.ofB .ge (.var 3) (.bin .pow (.lit 10) (.lit 18))).ev [none, some k, c, some B, m] [] = .ok (if cmpI .ge B 1000000000000000000 then 1 else 0) := rfl
  refine ⟨_, IE.ev_bin (a := .var 3) (i := B) rfl e (binI_mul ?_)⟩
  cases cmpI .ge B 1000000000000000000 <;> simp [w64]
theorem pl1_ev {c k : Int} {d m : Option Int} : ∃ M, pl1.ev [none, some k, some c, d, m] [] = .ok M := ⟨_, rfl⟩

section
variable {b : Bx} {KF : Frag} {sc : Addr} {vs : List Value} {k : Int}
noncomputable def PPost (b : Bx) (h₀ : Heap) (v : Value) (s' : Shared) : Prop := ∃ σ h' tk', s' = b.cx.mk' h' tk' ∧ v = .ref σ ∧ Src h' σ ∧ h₀.get? σ = none ∧ Keeps h₀ h'
theorem put_get (b : Bx) (z : Str) (v : Value) : (b.put z v).m z = some v := by
  show (if z = z then some v else b.m z) = _
  rw [if_pos rfl]
theorem put_ne (b : Bx) {z y : Str} {v u : Value} (h : y ≠ z) (e : b.m y = some u) : (b.put z v).m y = some u := by
  show (if y = z then some v else b.m y) = _
  rw [if_neg h]
  exact e

theorem pool4 (W : Pw b KF sc vs k) {B M : Int} {t u : Tok} (hB : b.m biS = some (.int B t)) (hM : b.m miS = some (.int M u)) (m0 : 0 ≤ M) (m1 : M < 2147483647) {h₀ h : Heap} {tk : Nat} (X : b.X h) (kx : Keeps h₀ h) {e3 e4 : Expr} {p1 p2 : Pos}
    (n3 : notStar e3 = true) (c3 : IE.chk b.scope nmP srcS pl3 e3 = true) (n4 : notStar e4 = true) (c4 : IE.chk b.scope nmP srcS (.var 4) e4 = true) :
    wpAny b.cx.M b.cx.A (execs [.Return (some (.List [e3, e4] p1)) p2] b.env) (fun f s' => PPost b h₀ (flV f) s') (fun _ _ => False) (b.cx.mk' h tk) := by
  obtain ⟨N, hN⟩ := pl3_ev (B := B) (k := k) (c := none) (m := some M)
  have E3 := W.ie (c := none) (d := some B) (m := some M) (fun i z => nomatch z) (fun i z => by cases z; exact ⟨t, hB⟩) (fun i z => by cases z; exact ⟨u, hM⟩) c3 hN
  have E4 := W.ie (i := M) (c := none) (d := some B) (m := some M) (fun i z => nomatch z) (fun i z => by cases z; exact ⟨t, hB⟩) (fun i z => by cases z; exact ⟨u, hM⟩) c4 rfl
  have hA : ArgsS b.cx ([A.int N, A.int M].map PE.const) [e3, e4] := ⟨n3, E3, n4, E4, trivial⟩
  refine wpAny_execs_cons (wpAny_Return_some (disp W.K hA (by simp) X fun D ws h' tk' k' n hL r => ?_))
  obtain ⟨t1, t2, rfl⟩ := relAs_two r
  exact ⟨D, h', tk', rfl, rfl, ⟨N, M, t1, t2, hL, m0, m1⟩, not_some kx n, Keeps.trans kx k'⟩
theorem pool3 (W : Pw b KF sc vs k) {B : Int} {t : Tok} (hB : b.m biS = some (.int B t)) (k0 : 0 ≤ k) (k3 : k < 3) (lm : locOk b.scope miS = true) {h₀ h : Heap} {tk : Nat} (X : b.X h) (hb : h₀.objs.size ≤ b.L) (kx : Keeps h₀ h) {e2 e3 e4 : Expr} {p1 p2 p3 p4 : Pos}
    (n2 : notComp e2 = true) (c2 : IE.chk b.scope nmP srcS pl2 e2 = true) (n3 : notStar e3 = true) (c3 : IE.chk b.scope nmP srcS pl3 e3 = true) (n4 : notStar e4 = true) (c4 : IE.chk b.scope nmP srcS (.var 4) e4 = true) :
    wpAny b.cx.M b.cx.A (execs [.Assign [.Name miS p3] e2 p4, .Return (some (.List [e3, e4] p1)) p2] b.env) (fun f s' => PPost b h₀ (flV f) s') (fun _ _ => False) (b.cx.mk' h tk) := by
  obtain ⟨M, hM, m0, m1⟩ := pl2_ev (B := B) (k := k) (c := none) (m := none) k0 k3
  have E2 := W.ie (c := none) (d := some B) (m := none) (fun i z => nomatch z) (fun i z => by cases z; exact ⟨t, hB⟩) (fun i z => nomatch z) c2 hM
  refine wpAny_execs_cons (wpAny_Assign_Name (EvI.use W.K E2 X fun u h₁ tk₁ k₁ X₁ => ?_) (swaps_no n2 _ _ _))
  refine W.store (locOk_parts lm).1 X₁ fun h₂ tk₂ X₂ s₂ => ?_
  refine pool4 (b := b.put miS (.int M u)) (W.put (mkS_ne' (by decide)) (mkS_ne' (by decide))) (put_ne b (show biS ≠ miS from mkS_ne' (by decide)) hB) (put_get b _ _) m0 m1 X₂ (fun c o ec => ?_) n3 c3 n4 c4
  exact (s₂.2 c (Nat.ne_of_lt (Nat.lt_of_lt_of_le (Heap.lt_size ec) hb))).trans (k₁ _ _ (kx _ _ ec))
theorem pool2 (W : Pw b KF sc vs k) {c : Int} {t : Tok} (hC : b.m ceS = some (.int c t)) (k0 : 0 ≤ k) (k3 : k < 3) (lb : locOk b.scope biS = true) (lm : locOk b.scope miS = true) {h₀ h : Heap} {tk : Nat} (X : b.X h) (hb : h₀.objs.size ≤ b.L) (kx : Keeps h₀ h) {e1 e2 e3 e4 : Expr} {p1 p2 p3 p4 p5 p6 : Pos}
    (n1 : notComp e1 = true) (c1 : IE.chk b.scope nmP srcS pl1 e1 = true) (n2 : notComp e2 = true) (c2 : IE.chk b.scope nmP srcS pl2 e2 = true) (n3 : notStar e3 = true) (c3 : IE.chk b.scope nmP srcS pl3 e3 = true) (n4 : notStar e4 = true) (c4 : IE.chk b.scope nmP srcS (.var 4) e4 = true) :
    wpAny b.cx.M b.cx.A (execs [.Assign [.Name biS p5] e1 p6, .Assign [.Name miS p3] e2 p4, .Return (some (.List [e3, e4] p1)) p2] b.env) (fun f s' => PPost b h₀ (flV f) s') (fun _ _ => False) (b.cx.mk' h tk) := by
  obtain ⟨M, hM⟩ := pl1_ev (c := c) (k := k) (d := none) (m := none)
  have E1 := W.ie (c := some c) (d := none) (m := none) (fun i z => by cases z; exact ⟨t, hC⟩) (fun i z => nomatch z) (fun i z => nomatch z) c1 hM
  refine wpAny_execs_cons (wpAny_Assign_Name (EvI.use W.K E1 X fun u h₁ tk₁ k₁ X₁ => ?_) (swaps_no n1 _ _ _))
  refine W.store (locOk_parts lb).1 X₁ fun h₂ tk₂ X₂ s₂ => ?_
  refine pool3 (b := b.put biS (.int M u)) (W.put (mkS_ne' (by decide)) (mkS_ne' (by decide))) (put_get b _ _) k0 k3 lm X₂ hb (fun c o ec => ?_) n2 c2 n3 c3 n4 c4
  exact (s₂.2 c (Nat.ne_of_lt (Nat.lt_of_lt_of_le (Heap.lt_size ec) hb))).trans (k₁ _ _ (kx _ _ ec))
end

section
variable {prog : Program} {w : World} {KF : Frag} {g : Heap}
theorem pool_call (base : Base KF g) (gl : Gl KF addrOf) (e : dHead KF (addrOf 21) poolChk = true) {A : Around} {h : Heap} {tk : Nat} {gens : Array GenState} {dr : Drawn} {os : OsState} {sc : Addr} {vs : List Value} {ns : List Int} {k : Int} {kt : Tok} {Q : Value → Shared → Prop}
    (room : Room A 1) (kg : Keeps g h) (gs : g.objs.size ≤ h.objs.size) (hL : h.IsList sc vs.toArray) (hi : IntsAre vs ns) (hn : ns.length ≤ 63) (k0 : 0 ≤ k) (k3 : k < 3)
    (hQ : ∀ σ h' tk', Src h' σ → h.get? σ = none → Keeps h h' → Q (.ref σ) ⟨h', gens, dr, tk', os⟩) :
    wpAny (model prog w) A (call (.ref (addrOf 21)) [.ref sc, .int k kt]) Q (fun _ _ => False) ⟨h, gens, dr, tk, os⟩ := by
  obtain ⟨name, params, body, scope, pm, cd, doc, di, hp⟩ := d_of_chk e
  have p1 := andL (andL (andL hp))
  have p2 := andR (andL (andL hp))
  have p3 := andL (andR (andL hp))
  have p4 := andR (andR (andL hp))
  have p5 := andL (andL (andR hp))
  have p6 := andR (andL (andR hp))
  have p7 := andL (andR (andR hp))
  replace hp := andR (andR (andR hp))
  obtain ⟨l0, d0⟩ := locOk_parts p3
  obtain ⟨l1, d1⟩ := locOk_parts p4
  refine call_D base di p2 p1 (by rfl) rfl (by decide) (by decide) (by simp [l0, l1]) (by have := room.depth; omega) kg gs fun h₁ tk₁ F₁ k₁ => ?_
  have r2 := room.deeper (envX name scope h.objs.size (addrOf 21) cd [])
  obtain ⟨b, hb⟩ : ∃ b : Bx, b = ⟨prog, w, A.deeper (envX name scope h.objs.size (addrOf 21) cd []), name, scope, h.objs.size, addrOf 21, cd, [], g, fun x => ([scS, kS].zip [Value.ref sc, .int k kt]).reverse.lookup x, fun h => h.IsList sc vs.toArray, gens, dr, os⟩ := ⟨_, rfl⟩
  have W : Pw b KF sc vs k := by
    subst hb
    refine ⟨⟨r2.handled, ?_, ?_, base, gl, di.kind, fun k x => IsList.keeps x k⟩, rfl, rfl, ⟨kt, rfl⟩, ?_⟩
    · have := r2.units; show (A.deeper _).units + 16 < cLine; omega
    · have := r2.depth; show (A.deeper _).depth + 16 < recursionLimit; omega
    · obtain ⟨o, ho, _⟩ := hL
      exact Nat.ne_of_lt (Heap.lt_size ho)
  have X₁ : b.X h₁ := by subst hb; exact ⟨F₁, IsList.keeps hL k₁⟩
  have hbL : b.L = h.objs.size := by subst hb; rfl
  have bs : b.scope = scope := by subst hb; rfl
  suffices H : wpAny b.cx.M b.cx.A (execs body b.env) (fun f s' => PPost b h (flV f) s') (fun _ _ => False) (b.cx.mk' h₁ tk₁) by
    subst hb
    refine wpAny_mono H (fun f s' q => ?_) fun _ _ q => q
    obtain ⟨σ, h', tk', rfl, hv, S, n, kk⟩ := q
    show Q (flV f) _
    rw [hv]
    exact hQ σ h' tk' S n kk
  clear hb
  subst bs
  obtain ⟨d, rfl⟩ := Pat.of hp
  obtain ⟨c, Ec⟩ := cell_ev W hi hn k0 p3 p4 d.1.2.1.1.1.2 rfl d.1.2.1.1.2.2.1.1.1.2 d.1.2.1.2.2.1.2
  refine wpAny_execs_cons (wpAny_Assign_Name (EvI.use W.K Ec X₁ fun u h₂ tk₂ k₂ X₂ => ?_) rfl)
  refine W.store (locOk_parts p5).1 X₂ fun h₃ tk₃ X₃ s₃ => ?_
  refine pool2 (b := b.put ceS (.int c u)) (W.put (mkS_ne' (by decide)) (mkS_ne' (by decide))) (put_get b _ _) k0 k3 p6 p7 X₃ (Nat.le_of_eq hbL.symm) (fun c o ec => ?_) (andL d.2.1.2.1.2) (andR d.2.1.2.1.2) (andL d.2.2.1.2.1.2) (andR d.2.2.1.2.1.2) (andL d.2.2.2.1.1.1.2) (andR d.2.2.2.1.1.1.2) (andL d.2.2.2.1.1.2.2) (andR d.2.2.2.1.1.2.2)
  exact (s₃.2 c (by rw [hbL]; exact Nat.ne_of_lt (Heap.lt_size ec))).trans (k₂ _ _ (k₁ _ _ ec))
end
end Mine
end

section
set_option maxRecDepth 100000
set_option linter.unusedVariables false
set_option genSizeOf false
set_option genInjectivity false
open PySem PySem.W PySem.NumText PyProof.Rows PySem.Builtin
namespace Mine

noncomputable def aS : Str := mkS [97]
noncomputable def bS : Str := mkS [98]
noncomputable def opS : Str := mkS [111, 112]
noncomputable def woS : Str := mkS [119, 111, 114, 100]
noncomputable def ints9 : List Int := [0, 1, -1, 3, 63, 64, -1, -64, 65]
noncomputable def menuD5 : List DE := List.zipWith DE.ie [.lit 0, .lit 1, .neg (.lit 1), .lit 3, .lit 63, .lit 64, .neg (.lit 1), .neg (.lit 64), .lit 65] ints9
noncomputable def opsL : List (List Nat) := [[43], [45], [42], [47], [37], [38], [124], [60, 60], [62, 62], [124, 124]]
noncomputable def menuD6 : List DE := opsL.map fun l => .cst (.str l)
noncomputable def menuB : List A := menuL ++ ints9.map A.int

theorem IsCell.kb {h h' : Heap} {σ c : Addr} {v : Option Value} (x : h.IsCell c v) (k : KB σ h h') (n : c ≠ σ) : h'.IsCell c v := let ⟨o, ho, hd⟩ := x; ⟨o, k _ _ n ho, hd⟩
/-- the setting of _law_pair_right, ahead of its told statement -/
structure Pr (b : Bx) (KF : Frag) (σ : Addr) : Prop where
  W : Dw b KF σ
  room : Room b.A 3
  val : dHead KF (addrOf 26) valueChk = true
  cells : b.cells = [(opS, b.L + 3), (bS, b.L + 2), (aS, b.L + 1)]
  ka : b.scope.names.lookup aS = some .cell
  kb : b.scope.names.lookup bS = some .cell
  ko : b.scope.names.lookup opS = some .cell
  lt : σ < b.L
noncomputable def CellsAt (b : Bx) (h : Heap) (va vb vo : Option Value) : Prop := h.IsCell (b.L + 1) va ∧ h.IsCell (b.L + 2) vb ∧ h.IsCell (b.L + 3) vo

section
variable {b : Bx} {KF : Frag} {σ : Addr}
theorem Pr.ne (P : Pr b KF σ) (i : Nat) : b.L + i ≠ σ := fun z => by
  have := P.lt
  rw [← z] at this
  exact absurd this (Nat.not_lt.mpr (Nat.le_add_right _ _))
theorem CellsAt.kb (P : Pr b KF σ) {h h' : Heap} {va vb vo : Option Value} (x : CellsAt b h va vb vo) (k : KB σ h h') : CellsAt b h' va vb vo := ⟨IsCell.kb x.1 k (P.ne 1), IsCell.kb x.2.1 k (P.ne 2), IsCell.kb x.2.2 k (P.ne 3)⟩
theorem addr_ne {L : Nat} {i j : Nat} (h : i ≠ j) : L + i ≠ L + j := by omega
theorem Pr.cell {P : Pr b KF σ} {h h' : Heap} {c : Addr} (X : b.X h) (i : Nat) (hi : i ≠ 0) (hc : c = b.L + i) (s : Heap.SameBut c h h') : b.X h' := by
  subst hc
  refine ⟨⟨X.1.ns.sameBut s (addr_ne (L := b.L) (i := 0) (Ne.symm hi)), fun c o e => (s.2 c (fun z => ?_)).trans (X.1.keep c o e), X.1.above⟩, ?_⟩
  · subst z
    have h1 : (b.L + i : Nat) < b.g.objs.size := Heap.lt_size e
    have h2 : (b.g.objs.size : Nat) ≤ b.L := X.1.above
    exact absurd h1 (Nat.not_lt.mpr (Nat.le_trans h2 (Nat.le_add_right _ _)))
  · have := P.W.src X
    rw [P.W.y]
    exact Src.same s (Ne.symm (P.ne i)) this
theorem Pr.storeA (P : Pr b KF σ) {v : Value} {h : Heap} {tk : Nat} {va vb vo : Option Value} {Q : Unit → Shared → Prop} {E : Value → Shared → Prop} (X : b.X h) (C : CellsAt b h va vb vo)
    (hQ : ∀ h', b.X h' → CellsAt b h' (some v) vb vo → Heap.SameBut (b.L + 1) h h' → Q () (b.cx.mk' h' tk)) : wpAny b.cx.M b.cx.A (storeName b.env aS v) Q E (b.cx.mk' h tk) :=
  wpAny_storeName_cell P.W.K.kind P.ka (c := b.L + 1) (by show List.lookup aS b.cells = _; rw [P.cells]; rfl) C.1 fun h' hc s =>
    hQ h' (Pr.cell (P := P) X 1 (by decide) rfl s) ⟨hc, C.2.1.sameBut s (addr_ne (by decide)), C.2.2.sameBut s (addr_ne (by decide))⟩ s
theorem Pr.storeB (P : Pr b KF σ) {v : Value} {h : Heap} {tk : Nat} {va vb vo : Option Value} {Q : Unit → Shared → Prop} {E : Value → Shared → Prop} (X : b.X h) (C : CellsAt b h va vb vo)
    (hQ : ∀ h', b.X h' → CellsAt b h' va (some v) vo → Heap.SameBut (b.L + 2) h h' → Q () (b.cx.mk' h' tk)) : wpAny b.cx.M b.cx.A (storeName b.env bS v) Q E (b.cx.mk' h tk) :=
  wpAny_storeName_cell P.W.K.kind P.kb (c := b.L + 2) (by show List.lookup bS b.cells = _; rw [P.cells]; rfl) C.2.1 fun h' hc s =>
    hQ h' (Pr.cell (P := P) X 2 (by decide) rfl s) ⟨C.1.sameBut s (addr_ne (by decide)), hc, C.2.2.sameBut s (addr_ne (by decide))⟩ s
theorem Pr.storeO (P : Pr b KF σ) {v : Value} {h : Heap} {tk : Nat} {va vb vo : Option Value} {Q : Unit → Shared → Prop} {E : Value → Shared → Prop} (X : b.X h) (C : CellsAt b h va vb vo)
    (hQ : ∀ h', b.X h' → CellsAt b h' va vb (some v) → Heap.SameBut (b.L + 3) h h' → Q () (b.cx.mk' h' tk)) : wpAny b.cx.M b.cx.A (storeName b.env opS v) Q E (b.cx.mk' h tk) :=
  wpAny_storeName_cell P.W.K.kind P.ko (c := b.L + 3) (by show List.lookup opS b.cells = _; rw [P.cells]; rfl) C.2.2 fun h' hc s =>
    hQ h' (Pr.cell (P := P) X 3 (by decide) rfl s) ⟨C.1.sameBut s (addr_ne (by decide)), C.2.1.sameBut s (addr_ne (by decide)), hc⟩ s

theorem value_ev (P : Pr b KF σ) {vn : Str} {p1 p2 p3 : Pos} (ht : nth fnames 26 vn = true) (hgl : glo b.scope vn = true) {h : Heap} {tk : Nat} {Q : Value → Shared → Prop} (X : b.X h)
    (hQ : ∀ v a h' tk', a ∈ menuL → RelA v a → b.X h' → KB σ h h' → Q v (b.cx.mk' h' tk')) :
    wpAny b.cx.M b.cx.A (eval (.Call (.Name vn p1) [.Name srcS p2] [] p3) b.env) Q (fun _ _ => False) (b.cx.mk' h tk) := by
  have W := P.W
  obtain ⟨⟨o, fd, ho, hd⟩, kf⟩ := W.K.cx.fn (ρ := []) X (nth_eq ht) hgl
  obtain ⟨l0, d0⟩ := locOk_parts W.l0
  refine wpAny_Call_NameR (kf _ _ _ _ ?_)
  refine Calls.callWith_function (o := o) (fd := fd) (Calls.evalArgs_plain (Calls.spliced_cons ?_))
  refine wpAny_Name (wpAny_loadName_local W.K.kind l0 X.1.ns W.m0 ?_) d0
  refine Calls.spliced_nil ⟨⟨ho, hd⟩, ?_⟩
  exact value_call W.K.base W.K.gl P.val W.one W.take P.room X.1.keep (Nat.le_of_lt (Nat.lt_of_le_of_lt X.1.above X.1.ns.lt)) (W.src X) W.hg fun v a h' tk' ha r kb S' => hQ v a h' tk' ha r (W.kb X kb S') kb

/-- a, b = (.., ..) -/
theorem pair1 (P : Pr b KF σ) {v1 v2 : Str} {p1 p2 p3 p4 p5 p6 p7 p8 p9 p10 p11 : Pos} {n n' : Nat} (h1 : nth fnames 26 v1 = true) (g1 : glo b.scope v1 = true) (h2 : nth fnames 26 v2 = true) (g2 : glo b.scope v2 = true) {h₀ h : Heap} {tk : Nat} {va vb vo : Option Value} {Q : Flow → Shared → Prop}
    (X : b.X h) (C : CellsAt b h va vb vo) (hb : h₀.objs.size ≤ b.L) (kx : KB σ h₀ h)
    (hQ : ∀ u v x y h' tk', x ∈ menuL → y ∈ menuL → RelA u x → RelA v y → b.X h' → CellsAt b h' (some u) (some v) vo → KB σ h₀ h' → Q .next (b.cx.mk' h' tk')) :
    wpAny b.cx.M b.cx.A (exec (.Assign [.Tuple [.Name aS p1, .Name bS p2] n p3] (.Tuple [.Call (.Name v1 p4) [.Name srcS p5] [] p6, .Call (.Name v2 p7) [.Name srcS p8] [] p9] n' p10) p11) b.env) Q (fun _ _ => False) (b.cx.mk' h tk) := by
  have hw : swappedStores [.Tuple [.Name aS p1, .Name bS p2] n p3] (.Tuple [.Call (.Name v1 p4) [.Name srcS p5] [] p6, .Call (.Name v2 p7) [.Name srcS p8] [] p9] n' p10) b.env = pure none := by
    have hka : b.env.kindOf aS = some .cell := P.ka
    have hkb : b.env.kindOf bS = some .cell := P.kb
    have hbk : b.env.blockKind = .function := by
      unfold Env.blockKind
      rw [show b.env.scope.kind = .function from P.W.K.kind]
      rfl
    unfold swappedStores
    simp [hbk, hka, hkb]
  refine Assign_Tuple (Tuple_ ?_) rfl hw
  rw [starEach_of (e := .Call (.Name v1 p4) [.Name srcS p5] [] p6) rfl, starEach_of (e := .Call (.Name v2 p7) [.Name srcS p8] [] p9) rfl]
  refine Calls.spliced_cons (value_ev P h1 g1 X fun u x h₁ tk₁ hx rx X₁ k₁ => ?_)
  refine Calls.spliced_cons (value_ev P h2 g2 X₁ fun v y h₂ tk₂ hy ry X₂ k₂ => ?_)
  refine Calls.spliced_nil (wpAny_newTuple ?_ (by simp; decide))
  obtain ⟨h₃, hh₃⟩ : ∃ h₃, h₃ = h₂.push { cls := .type "tuple", data := .seq [u, v].toArray } := ⟨_, rfl⟩
  have hT : IsTup h₃ h₂.objs.size #[u, v] := by subst hh₃; exact ⟨_, Heap.get?_push_size _ rfl, rfl, _, rfl⟩
  have k₃ : Keeps h₂ h₃ := by subst hh₃; exact Keeps.push _ _
  show wpAny _ _ _ _ _ (b.cx.mk' (h₂.push { cls := .type "tuple", data := .seq [u, v].toArray }) tk₂)
  rw [← hh₃]
  have X₃ := P.W.K.cx.st (ρ := []) k₃ X₂
  refine assign_Tuple_tuple (s := b.cx.mk' h₃ tk₂) P.W.K.handled hT rfl rfl fun h₄ he => ?_
  have k₄ : Keeps h₃ h₄ := keeps_ext he
  have X₄ := P.W.K.cx.st (ρ := []) k₄ X₃
  have kb₄ : KB σ h h₄ := ((k₁.trans k₂).trans (KB.of k₃)).trans (KB.of k₄)
  have kx₄ : KB σ h₀ h₄ := kx.trans kb₄
  refine assignInOrder_cons (assign_Name (P.storeA X₄ (C.kb P kb₄) fun h₅ X₅ C₅ s₅ => ?_))
  refine assignInOrder_cons (assign_Name (P.storeB X₅ C₅ fun h₆ X₆ C₆ s₆ => ?_))
  refine assignInOrder_nil ?_
  refine hQ u v x y h₆ _ hx hy rx ry X₆ C₆ fun c o nc ec => ?_
  have hlt : (c : Nat) < h₀.objs.size := Heap.lt_size ec
  have hb' : (h₀.objs.size : Nat) ≤ b.L := hb
  exact (s₆.2 c (Nat.ne_of_lt (Nat.lt_of_lt_of_le hlt (Nat.le_trans hb' (Nat.le_add_right _ _))))).trans ((s₅.2 c (Nat.ne_of_lt (Nat.lt_of_lt_of_le hlt (Nat.le_trans hb' (Nat.le_add_right _ _))))).trans (kx₄ _ _ nc ec))
end
end Mine
end

section
set_option maxRecDepth 100000
set_option linter.unusedVariables false
set_option genSizeOf false
set_option genInjectivity false
open PySem PySem.W PySem.NumText PyProof.Rows PySem.Builtin
namespace Mine

section
variable {b : Bx} {KF : Frag} {σ : Addr}
theorem kb_cell {h₀ h h' : Heap} {i : Nat} (hb : h₀.objs.size ≤ b.L) (kx : KB σ h₀ h) (s : Heap.SameBut (b.L + i) h h') : KB σ h₀ h' := fun c o nc ec =>
  (s.2 c (Nat.ne_of_lt (Nat.lt_of_lt_of_le (Heap.lt_size ec) (Nat.le_trans hb (Nat.le_add_right _ _))))).trans (kx _ _ nc ec)

/-- if _law_take(source, 3) == 0: b = .. -/
theorem pair2 (P : Pr b KF σ) {tn on : Str} {n3 c0 : Expr} {es : List Expr} {p1 p2 p3 p4 p5 p6 p7 p8 p9 p10 p11 : Pos} (ht : nth fnames 22 tn = true) (gt : glo b.scope tn = true) (hs : notStar n3 = true) (c3 : IE.chk b.scope [] srcS (.lit 3) n3 = true)
    (cz : IE.chk b.scope [] srcS (.lit 0) c0 = true) (ho : nth fnames 23 on = true) (go : glo b.scope on = true) (hes : chkDs b.scope menuD5 es = true) {h₀ h : Heap} {tk : Nat} {va vo : Option Value} {v : Value} {y : A} {Q : Flow → Shared → Prop}
    (X : b.X h) (C : CellsAt b h va (some v) vo) (hy : y ∈ menuL) (ry : RelA v y) (hb : h₀.objs.size ≤ b.L) (kx : KB σ h₀ h)
    (hQ : ∀ v y h' tk', y ∈ menuB → RelA v y → b.X h' → CellsAt b h' va (some v) vo → KB σ h₀ h' → Q .next (b.cx.mk' h' tk')) :
    wpAny b.cx.M b.cx.A (exec (.If (.Compare (.Call (.Name tn p1) [.Name srcS p2, n3] [] p3) [.Eq] [c0] p4) [.Assign [.Name bS p5] (.Call (.Name on p6) [.Name srcS p7, .List es p8] [] p9) p10] [] p11) b.env) Q (fun _ _ => False) (b.cx.mk' h tk) := by
  refine wpAny_If (wpAny_isTrue_Compare1 (take_ev P.W ht gt hs (EvI.lit P.W.K c3) (by decide) (by decide) X fun n t h₁ tk₁ n0 n1 X₁ k₁ => ?_) (behind_op _ (by decide) (by decide)))
  refine EvI.use P.W.K (EvI.lit P.W.K cz) X₁ fun t₂ h₂ tk₂ k₂ X₂ => ?_
  have kb₂ : KB σ h h₂ := k₁.trans (KB.of k₂)
  have kx₂ := kx.trans kb₂
  have C₂ := C.kb P kb₂
  refine PyProof.Rows.eq_int (wpAny_truthy_bool ?_)
  cases hc : (n == (0 : Int)) with
  | false =>
    simp only [Bool.false_eq_true, if_false]
    exact wpAny_execs_nil (hQ v y h₂ tk₂ (List.mem_append_left _ hy) ry X₂ C₂ kx₂)
  | true =>
    simp only [if_true]
    refine wpAny_execs_cons (wpAny_Assign_Name (one_ev P.W ho go rfl (EvL.disp P.W (dsArgs P.W.K hes) (by decide) X₂) (by decide) (by decide) X₂ fun v₂ a h₃ tk₃ m r X₃ k₃ => ?_) rfl)
    refine P.storeB X₃ (C₂.kb P k₃) fun h₄ X₄ C₄ s₄ => ?_
    have e : menuD5.map DE.val = ints9.map A.int := rfl
    rw [e] at m
    exact wpAny_execs_nil (hQ v₂ a h₄ _ (List.mem_append_right _ m) r X₄ C₄ (kb_cell hb (kx₂.trans k₃) s₄))

/-- op = .. -/
theorem pair3 (P : Pr b KF σ) {on : Str} {es : List Expr} {p5 p6 p7 p8 p9 p10 : Pos} (ho : nth fnames 23 on = true) (go : glo b.scope on = true) (hes : chkDs b.scope menuD6 es = true) {h₀ h : Heap} {tk : Nat} {va vb vo : Option Value} {Q : Flow → Shared → Prop}
    (X : b.X h) (C : CellsAt b h va vb vo) (hb : h₀.objs.size ≤ b.L) (kx : KB σ h₀ h)
    (hQ : ∀ v l h' tk', l ∈ opsL → RelA v (.str l) → b.X h' → CellsAt b h' va vb (some v) → KB σ h₀ h' → Q .next (b.cx.mk' h' tk')) :
    wpAny b.cx.M b.cx.A (exec (.Assign [.Name opS p5] (.Call (.Name on p6) [.Name srcS p7, .List es p8] [] p9) p10) b.env) Q (fun _ _ => False) (b.cx.mk' h tk) := by
  refine wpAny_Assign_Name (one_ev P.W ho go rfl (EvL.disp P.W (dsArgs P.W.K hes) (by decide) X) (by decide) (by decide) X fun v a h₁ tk₁ m r X₁ k₁ => ?_) rfl
  refine P.storeO X₁ (C.kb P k₁) fun h₂ X₂ C₂ s₂ => ?_
  have e : menuD6.map DE.val = opsL.map A.str := rfl
  rw [e] at m
  obtain ⟨l, hl, rfl⟩ := List.mem_map.mp m
  exact hQ v l h₂ _ hl r X₂ C₂ (kb_cell hb (kx.trans k₁) s₂)
end
end Mine
end

section
set_option maxRecDepth 100000
set_option linter.unusedVariables false
set_option genSizeOf false
set_option genInjectivity false
open PySem PySem.W PySem.NumText PyProof.Rows PySem.Builtin
namespace Mine

noncomputable def pB (n : Nat) : PS := seqNth f_law_pair_right.body n
noncomputable def nmB : List Str := f_law_pair_right.names.map mkS
noncomputable def plB : PE := .call3 18 (.loc 0) (.loc 1) (.loc 2)
noncomputable def posB : Pos := ⟨330, 31, 0, 0⟩
noncomputable def nameB : Str := "_law_pair_right"
noncomputable def qualB : Str := nameB ++ ".<locals>." ++ "<lambda>"
noncomputable def orL : List Nat := [111, 114]
structure PairFact (x y : A) (l : List Nat) (r q : A) : Prop where
  f0 : toldRes (evalE (run prog 10) plB [.at (.str l), .at x, .at y]) = some r
  f0' : evalE (run prog 12) (toldTo (pB 0)) [.undef, .at x, .at y, .at (.str l), .undef] = .ok (.at q)
  f0s : run prog 12 33 [.at r, .at q] = .ok (.at (.bool true))
  f1 : execP (run prog 12) (pB 1) [.undef, .at x, .at y, .at (.str l), .undef] = .ok (.next [.undef, .at x, .at y, .at (.str l), .at (.str orL)])
  f2 : execP (run prog 12) (pB 2) [.undef, .at x, .at y, .at (.str l), .at (.str orL)] = .ok (.next [.undef, .at x, .at y, .at (.str l), .at (.str orL)])

theorem TabOk.wk {P P₂ : Addr} {pos pos₂ : Pos} {q q₂ : Str} {ls : List Addr} {h h' : Heap} (t : TabOk P pos q h) (t₂ : TabOk P₂ pos₂ q₂ h) (hne : P ≠ P₂) (hls : ∀ b ∈ ls, ∀ o, h.get? b = some o → ∀ vs, o.data ≠ .fields vs) (w : WK P₂ ls h h') : TabOk P pos q h' := by
  have key : ∀ b o vs, b ≠ P₂ → h.get? b = some o → o.data = .fields vs → h'.get? b = some o := fun b o vs n e hd => w.keep b o n (fun z => hls b z o e vs hd) e
  rcases t with t | ⟨c', t, c, o, vs, tt, e, ho, hd, r⟩
  · exact Or.inl (key _ _ _ hne t rfl)
  · refine Or.inr ⟨c', key _ _ _ hne t rfl, c, o, vs, tt, e, key _ _ _ (fun z => ?_) ho hd, hd, r⟩
    rcases t₂ with t₂ | ⟨c₂, t₂, _⟩
    · rw [z, t₂] at ho
      cases ho
      cases hd
      simp at r
    · rw [z, t₂] at ho
      cases ho
      cases hd
      simp [rawInt] at r

noncomputable def pairEnd (sc : Scope) (nm : List Str) : Pat (List Stmt) := pOne (pRet (pCallN (pFn sc 36) (pOne (pX sc nm (.loc 1)))))
noncomputable def restPat (sc : Scope) (nm : List Str) : Pat (List Stmt) := pCons (pToldSt sc nm [opS, aS, bS] 330 plB (toldTo (pB 0))) (pCons (pC sc nm (pB 1)) (pCons (pC sc nm (pB 2)) (pairEnd sc nm)))
noncomputable def pairRest (scope : Scope) (body : List Stmt) : Bool := (restPat scope nmB).m body

section
variable {KF : Frag} {g : Heap} {mg : Str → Option Value} {C : Addr} {bmB : List Value} {newId : String}
theorem frames_data {f : Sg} {g : Heap} {d : Nat} {h : Heap} {ρ : List V} (K : f.Ok KF g d) (st : f.cx.St h ρ) : ∀ b ∈ wobOf (f.env :: f.outer), ∀ o, h.get? b = some o → ∀ vs, o.data ≠ .fields vs := fun b hb o e => by
  obtain ⟨en, hen, hf⟩ := mem_wobOf hb
  obtain ⟨_, L, oL, hf', hoL, hdL⟩ := K.frsAt st en hen
  rw [hf] at hf'
  cases hf'
  rw [e] at hoL
  cases hoL
  exact hdL

theorem pair_end {f : Sg} (K : f.Ok KF g 12) {rn : Str} {a1 : Expr} {q7 q8 q9 : Pos} (b15 : nth fnames 36 rn = true) (b16 : glo f.scope rn = true) (b17 : notStar a1 = true) (b18 : chk f.scope f.nm noTold (.loc 1) a1 = true)
    {y z w₁ w₂ : V} {xa : A} {h₇ : Heap} {tk₇ : Nat} {Q : Flow → Shared → Prop} (st₇ : f.cx.St h₇ [w₁, .at xa, w₂, y, z])
    (hQ : ∀ v₁ h₈ tk₈, Keeps h₇ h₈ → f.cx.St h₈ [w₁, .at xa, w₂, y, z] → RelA v₁ xa → wpN f.cx.M f.cx.A (call (.ref (f.addr 36)) [v₁]) (fun v s => Q (.ret v) s) (f.cx.mk' h₈ tk₈)) :
    wpN f.cx.M f.cx.A (execs [.Return (some (.Call (.Name rn q7) [a1] [] q8)) q9] f.env) Q (f.cx.mk' h₇ tk₇) := by
  have hT : ∀ p e, noTold p e = true → ES f.cx (.told p) e ∧ TS f.cx (.told p) e := fun p e z => nomatch z
  have EA := es_all K.cx hT
  obtain ⟨⟨o36, fd36, ho36, hd36⟩, kf36⟩ := K.cx.fn st₇ (nth_eq b15) b16
  refine execsN_cons (ReturnN (CallNameN (kf36 _ _ _ _ (callWithN_function (o := o36) (fd := fd36) (by rw [starEach_of b17]; rfl) ?_))))
  rw [starEach_of b17]
  refine splicedN_cons (wpN_of ((EA _ _ b18).1 _ h₇ _ _ (fun _ _ => False) st₇ ?_))
  show Post f.cx (.ok (.at xa)) _ _ h₇
  intro v₁ h₈ tk₈ g₈ r₈
  have g₈ : Keeps h₇ h₈ := g₈
  have st₈ := K.cx.st g₈ st₇
  refine splicedN_nil ⟨⟨g₈ _ _ ho36, hd36⟩, ?_⟩
  exact hQ v₁ h₈ tk₈ g₈ st₈ r₈

theorem pair_body {f : Sg} (lw : Lw f.prog f.w KF g mg C bmB newId) (K : f.Ok KF g 12) (room : Room f.A 14) (hnm : f.nm = nmB) (hname : f.name = nameB) (hΦ : f.Φ = run Mine.prog 12) (hcls : f.cls = .ref C) (hcd : f.cd = .ref 321) (haddr : f.addr = addrOf)
    (hka : f.env.kindOf aS = some .cell) (hkb : f.env.kindOf bS = some .cell) (hko : f.env.kindOf opS = some .cell) (hca : (f.cells.lookup aS).isSome = true) (hcb : (f.cells.lookup bS).isSome = true) (hco : (f.cells.lookup opS).isSome = true)
    {body : List Stmt} (hp : (restPat f.scope nmB).m body = true) (e36 : dHead KF (addrOf 36) aloneChk = true) (Cd : CodeHd g 321 317) (hPg : g.get? 317 = none) (CdA : CodeHd g 314 310) (hPgA : g.get? 310 = none) (gout : OutOk g f.outer) {h : Heap} {tk : Nat}
    {x y : A} {l : List Nat} {r q an ar ab ao ac : A} {Q : Flow → Shared → Prop} (st : f.cx.St h [.undef, .at x, .at y, .at (.str l), .undef]) (tabB : TabOk 317 posB qualB h) (tabA : TabOk 310 posA qualA h) (F : PairFact x y l r q) (FA : AloneFact x an ar ab ao ac)
    (hQ : ∀ h₄ h₇ h' tk' ρ', WK 317 (wobOf (f.env :: f.outer)) h h₄ → (f.at h₄).cx.St h₇ ρ' → WK 310 (wobOf (f.env :: f.outer)) h₇ h' → TabOk 317 posB qualB h' → TabOk 310 posA qualA h' → Q (.ret (.bool true)) (f.cx.mk' h' tk')) :
    wpN f.cx.M f.cx.A (execs body f.env) Q (f.cx.mk' h tk) := by
  rw [← hnm] at hp
  obtain ⟨d, rfl⟩ := Pat.of hp
  have hq : qualB = f.env.qual ++ "<lambda>" := by
    show _ = (f.name ++ ".<locals>." : Str) ++ "<lambda>"
    rw [hname]
    rfl
  have hΦ' : ∀ x, (f.at x).cx.Φ = run Mine.prog 12 := fun _ => hΦ
  have hT : ∀ (f : Sg), f.cx.Ok → ∀ p e, noTold p e = true → ES f.cx (.told p) e ∧ TS f.cx (.told p) e := fun f _ p e z => nomatch z
  obtain ⟨clos, hclos, hcl⟩ := closure_ok (scope := d.1.1.2.1.2.1.1.2.1.1.2.2.1) (env := f.env) (free_cells (andR (andL d.1.1.2.1.2.1.1.2.1.2)) fun x hx => by
    simp only [List.mem_cons, List.not_mem_nil, or_false] at hx
    rcases hx with rfl | rfl | rfl
    · exact hco
    · exact hca
    · exact hcb)
  have tab₃ := tabB.pos (p' := d.1.1.2.1.2.1.1.2.1.1.2.2.2) (eq_of_beq (andL (andR d.1.1.2.1.2.1.1.2.1.2))) (eq_of_beq (andR (andR d.1.1.2.1.2.1.1.2.1.2)))
  rw [hq] at tab₃
  have htold := lw.told
  rw [← haddr] at htold
  have hcall : CallOk f.prog f.w KF f.addr f.cls (run Mine.prog 10) 10 := by rw [haddr, hcls]; exact lw.call 10
  refine execsN_cons (wpN_of (told_stmt (Φ₀ := run Mine.prog 10) (ρL := [.at (.str l), .at x, .at y]) (a := r) (b := q) K lw.G hcls hcd Cd hPg gout hcall htold lw.name lw.exc lw.bas (andL d.1.1.2.1.2.1.1.1.1.2) (andR d.1.1.2.1.2.1.1.1.1.2) hclos (lam_def (andL (andL d.1.1.2.1.2.1.1.2.1.2))) (andL (andL d.1.1.2.1.2.1.1.2.1.2)) (andL d.1.1.2.1.1.1.2) (andR d.1.1.2.1.1.1.2) (andL d.1.1.2.1.2.1.2.2) (andR d.1.1.2.1.2.1.2.2) st tab₃ rfl (fun i z ex => ?_) F.f0 (by rw [hΦ]; exact F.f0') (by rw [hΦ]; exact F.f0s) fun h₄ h₅ tk₅ w₅ tab₄ K₅ st₅ w₄ k₅ => ?_))
  · match i, ex with
    | 0, ex => cases ex; exact ⟨3, by rw [hnm]; rfl, hko, hcl _ (lam_free (andL (andL d.1.1.2.1.2.1.1.2.1.2)) (by simp)), rfl, .str l, rfl⟩
    | 1, ex => cases ex; exact ⟨1, by rw [hnm]; rfl, hka, hcl _ (lam_free (andL (andL d.1.1.2.1.2.1.1.2.1.2)) (by simp)), rfl, x, rfl⟩
    | 2, ex => cases ex; exact ⟨2, by rw [hnm]; rfl, hkb, hcl _ (lam_free (andL (andL d.1.1.2.1.2.1.1.2.1.2)) (by simp)), rfl, y, rfl⟩
    | n + 3, ex => cases ex
  have tabA₄ : TabOk 310 posA qualA h₄ := tabA.wk tab₃ (by decide) (frames_data K st) w₄
  have XB := fun p => (xs_all K₅.sok (tl := noTold) (sp := noSp) (dl := true) (fun _ => rfl) (fun _ => rfl) (hT _ K₅.cx) (fun p st h => nomatch h) p).1
  refine execsN_last (C := (f.at h₄).cx) (XB _ _ d.2.1.2) st₅ (by rw [hΦ']; exact F.f1) fun h₆ tk₆ st₆ _ => ?_
  refine execsN_last (C := (f.at h₄).cx) (XB _ _ d.2.2.1.2) st₆ (by rw [hΦ']; exact F.f2) fun h₇ tk₇ st₇ _ => ?_
  refine pair_end (f := f.at h₄) K₅ (andL d.2.2.2.1.1.1.2) (andR d.2.2.2.1.1.1.2) (andL d.2.2.2.1.2.1.2) (andR d.2.2.2.1.2.1.2) st₇ fun v₁ h₈ tk₈ g₈ st₈ r₈ => ?_
  have tabA₈ := tab_step (f := f.at h₄) tabA₄ k₅ st₅ st₈
  have tabB₈ := tab_step (f := f.at h₄) tab₄ k₅ st₅ st₈
  have hL : f.L < h₈.objs.size := by
    obtain ⟨m, hn, _⟩ := st₈
    exact hn.lt
  have kg₈ : Keeps g h₈ := fun b o e => by
    obtain ⟨m, hn, hk, hc, V⟩ := st₈
    exact hk b o (K₅.sub b o e).2 (K₅.sub b o e).1
  show wpN f.cx.M f.cx.A (call (.ref (f.addr 36)) [v₁]) _ _
  rw [haddr]
  refine alone_call lw e36 CdA hPgA (room.deeper _) (Around.frames_deeper K.fr) (K₅.frsAt st₈) (fun e he L hf => ?_) kg₈ (Nat.le_of_lt (Nat.lt_of_le_of_lt K.above hL)) tabA₈ r₈ FA fun h' tk' w' tA' => ?_
  · rcases List.mem_cons.mp he with rfl | he
    · have : L = f.L := (Option.some.inj hf).symm
      rw [this]
      exact ge_none K.above
    · exact gout e he L hf
  · have tB' := tabB₈.wk tabA₈ (by decide) (frames_data K₅ st₈) w'
    have tB' := tB'.pos (p' := posB) (Eq.symm (eq_of_beq (andL (andR d.1.1.2.1.2.1.1.2.1.2)))) (Eq.symm (eq_of_beq (andR (andR d.1.1.2.1.2.1.1.2.1.2))))
    refine hQ h₄ h₈ h' tk' _ w₄ st₈ w' ?_ tA'
    rw [hq]
    exact tB'
end
end Mine
end

section
set_option maxRecDepth 100000
set_option linter.unusedVariables false
set_option genSizeOf false
set_option genInjectivity false
open PySem PySem.W PySem.NumText PyProof.Rows PySem.Builtin
namespace Mine

noncomputable def pVal (sc : Scope) : Pat Expr := pCallN (pFn sc 26) (pOne (pV srcS))
noncomputable def h1Pat (sc : Scope) : Pat Stmt := pTo (pTup (pTwo (pV aS) (pV bS))) (pTup (pTwo (pVal sc) (pVal sc)))
noncomputable def h2Pat (sc : Scope) : Pat Stmt := pIf (pCmp (pCallN (pFn sc 22) (pTwo (pV srcS) (pInt sc (.lit 3)))) .Eq (pIE sc [] (.lit 0))) (pOne (pSet bS (pDraw sc menuD5)))
noncomputable def h3Pat (sc : Scope) : Pat Stmt := pSet opS (pDraw sc menuD6)
noncomputable def pairPat (sc : Scope) : Pat (List Stmt) := pCons (h1Pat sc) (pCons (h2Pat sc) (pCons (h3Pat sc) (pIs (pairRest sc))))
noncomputable def cellOk (sc : Scope) (x : Str) : Bool := sc.names.lookup x == some .cell
noncomputable def pairChk (name : Str) (cd : Value) (params : Arguments) (scope : Scope) (body : List Stmt) : Bool :=
  (((name == nameB && cd == .ref 321) && (parsIs params [srcS] && cellNames scope.names == [aS, bS, opS])) && ((cellOk scope aS && cellOk scope bS) && cellOk scope opS)) && ((locOk scope srcS && locOk scope woS) && (pairPat scope).m body)

/-- what a call of _law_pair_right keeps -/
noncomputable def WD (σ : Addr) (ls : List Addr) (h h' : Heap) : Prop := (∀ b o, b ≠ 310 → b ≠ 317 → b ≠ σ → b ∉ ls → h.get? b = some o → h'.get? b = some o) ∧ ∀ b o, b ∈ ls → h.get? b = some o → ∃ sl, h'.get? b = some { o with slots := sl }
theorem Src.data {h : Heap} {σ : Addr} (S : Src h σ) : ∃ o, h.get? σ = some o ∧ ∀ vs, o.data ≠ .fields vs := by
  obtain ⟨s0, s1, t0, t1, ⟨o, ho, _, n, hd⟩, _⟩ := S
  exact ⟨o, ho, fun vs e => by rw [hd] at e; cases e⟩
theorem TabOk.kb {P σ : Addr} {pos : Pos} {q : Str} {h h' : Heap} (t : TabOk P pos q h) (S : Src h σ) (k : KB σ h h') : TabOk P pos q h' := by
  obtain ⟨os, hos, hds⟩ := S.data
  have key : ∀ b o vs, h.get? b = some o → o.data = .fields vs → h'.get? b = some o := fun b o vs e hd => k b o (fun z => by
    rw [z, hos] at e; cases e; exact hds _ hd) e
  rcases t with t | ⟨c', t, c, o, vs, tt, e, ho, hd, r⟩
  · exact Or.inl (key _ _ _ t rfl)
  · exact Or.inr ⟨c', key _ _ _ t rfl, c, o, vs, tt, e, key _ _ _ ho hd, hd, r⟩
theorem TabOk.src {P σ : Addr} {pos : Pos} {q : Str} {h : Heap} (t : TabOk P pos q h) (S : Src h σ) : σ ≠ P := fun z => by
  obtain ⟨os, hos, hds⟩ := S.data
  obtain ⟨vs, o, ho, hd⟩ := t.fields
  rw [z, ho] at hos
  cases hos
  exact hds _ hd

section
variable {prog : Program} {w : World} {KF : Frag} {g : Heap} {mg : Str → Option Value} {C : Addr} {bmB : List Value} {newId : String}
/-- the draws, one behind the other -/
theorem pair_draws {b : Bx} {σ : Addr} (P : Pr b KF σ) (d1 : (h1Pat b.scope).D) (d2 : (h2Pat b.scope).D) (d3 : (h3Pat b.scope).D) {h₀ h : Heap} {tk : Nat} {Q : Flow → Shared → Prop} (X : b.X h) (C₀ : CellsAt b h none none none) (hb : h₀.objs.size ≤ b.L) (kx : KB σ h₀ h)
    (hQ : ∀ u v o x y l h' tk', x ∈ menuL → y ∈ menuB → l ∈ opsL → RelA u x → RelA v y → RelA o (.str l) → b.X h' → CellsAt b h' (some u) (some v) (some o) → KB σ h₀ h' → Q .next (b.cx.mk' h' tk')) :
    wpAny b.cx.M b.cx.A (execs [(h1Pat b.scope).im d1, (h2Pat b.scope).im d2, (h3Pat b.scope).im d3] b.env) Q (fun _ _ => False) (b.cx.mk' h tk) := by
  refine wpAny_execs_cons (pair1 P (andL d1.2.1.1.1.1.1.2) (andR d1.2.1.1.1.1.1.2) (andL d1.2.1.1.2.1.1.2) (andR d1.2.1.1.2.1.1.2) X C₀ hb kx fun u v x y h₁ tk₁ hx hy rx ry X₁ C₁ k₁ => ?_)
  refine wpAny_execs_cons (pair2 P (andL d2.1.1.1.1.2) (andR d2.1.1.1.1.2) (andL d2.1.1.2.1.2.2) (andR d2.1.1.2.1.2.2) d2.1.2.2.1.2 (andL d2.2.1.2.1.1.1.2) (andR d2.2.1.2.1.1.1.2) d2.2.1.2.1.2.1.2.1.2 X₁ C₁ hy ry hb k₁ fun v' y' h₂ tk₂ hy' ry' X₂ C₂ k₂ => ?_)
  refine wpAny_execs_cons (pair3 P (andL d3.2.1.1.1.2) (andR d3.2.1.1.1.2) d3.2.1.2.1.2.1.2 X₂ C₂ hb k₂ fun o l h₃ tk₃ hl rl X₃ C₃ k₃ => ?_)
  exact wpAny_execs_nil (hQ u v' o x y' l h₃ tk₃ hx hy' hl rx ry' rl X₃ C₃ k₃)

theorem pair_call (lw : Lw prog w KF g mg C bmB newId) (e37 : dHead KF (addrOf 37) pairChk = true) (e36 : dHead KF (addrOf 36) aloneChk = true) (e26 : dHead KF (addrOf 26) valueChk = true) (e23 : dHead KF (addrOf 23) oneChk = true) (e22 : dHead KF (addrOf 22) takeChk = true)
    (Cd : CodeHd g 321 317) (hPg : g.get? 317 = none) (CdA : CodeHd g 314 310) (hPgA : g.get? 310 = none) (FP : ∀ x ∈ menuL, ∀ y ∈ menuB, ∀ l ∈ opsL, ∃ r q, PairFact x y l r q) (FA : ∀ x ∈ menuL, ∃ n r b o c, AloneFact x n r b o c)
    {A : Around} {outer : List Env} {h : Heap} {tk : Nat} {gens : Array GenState} {dr : Drawn} {os : OsState} {σ : Addr} {Q : Value → Shared → Prop} (room : Room A 14) (fr : A.frames = some outer) (frs : FrsAt h outer) (gout : OutOk g outer) (kg : Keeps g h) (gs : g.objs.size ≤ h.objs.size)
    (tabA : TabOk 310 posA qualA h) (tabB : TabOk 317 posB qualB h) (S : Src h σ) (hg : g.get? σ = none) (hσ : σ ∉ wobOf outer)
    (hQ : ∀ h' tk', WD σ (wobOf outer) h h' → Src h' σ → TabOk 310 posA qualA h' → TabOk 317 posB qualB h' → Q (.bool true) ⟨h', gens, dr, tk', os⟩) :
    wpN (model prog w) A (call (.ref (addrOf 37)) [.ref σ]) Q ⟨h, gens, dr, tk, os⟩ := by
  obtain ⟨name, params, body, scope, pm, cd, doc, di, hp⟩ := d_of_chk e37
  obtain ⟨ob, ho, hd⟩ := di.obj
  have base : Base KF h := lw.base.keeps kg
  obtain ⟨X, p, l, mg', mb, T⟩ := id base
  have e1 := eq_of_beq (andL (andL (andL (andL hp))))
  have e2 := eq_of_beq (andR (andL (andL (andL hp))))
  have e3 := andL (andR (andL (andL hp)))
  have e4 := eq_of_beq (andR (andR (andL (andL hp))))
  have e5 := eq_of_beq (andL (andL (andR (andL hp))))
  have e6 := eq_of_beq (andR (andL (andR (andL hp))))
  have e7 := eq_of_beq (andR (andR (andL hp)))
  have e8 := andL (andL (andR hp))
  have e9 := andR (andL (andR hp))
  replace hp := andR (andR hp)
  subst e1
  subst e2
  have hbind := binds_of (name := nameB) (body := body) (scope := scope) (pm := pm) (cd := .ref 321) (doc := doc) (pars_of e3) (by rfl) (vs := [.ref σ]) rfl (by decide) (by decide)
  have l0 := (locOk_parts e8).1
  obtain ⟨d, rfl⟩ := Pat.of hp
  refine wpN_call (call_cellsN (cells := [(opS, h.objs.size + 3), (bS, h.objs.size + 2), (aS, h.objs.size + 1)]) (by have := room.depth; omega) (X _ _ ho) hd T.nolimit (codeRec_of X di.code) hbind (by rw [e4]; rfl) (fun x hx => ?_) (fun h₁ tk₁ hns hk₁ hcell hap hab => ?_) di.co di.gen di.kind)
  · obtain rfl : x = (srcS, .ref σ) := by simpa using hx
    exact Or.inl l0
  have r2 := room.deeper (envX nameB scope h.objs.size (addrOf 37) (.ref 321) [(opS, h.objs.size + 3), (bS, h.objs.size + 2), (aS, h.objs.size + 1)])
  obtain ⟨m, hm⟩ : ∃ m, m = bindL (envX nameB scope h.objs.size (addrOf 37) (.ref 321) [(opS, h.objs.size + 3), (bS, h.objs.size + 2), (aS, h.objs.size + 1)]).kindOf ([srcS].zip [Value.ref σ]) (fun _ => none) := ⟨_, rfl⟩
  rw [← hm] at hns
  have m0 : m srcS = some (.ref σ) := by
    rw [hm]
    show (if (envX nameB scope h.objs.size (addrOf 37) (.ref 321) [(opS, h.objs.size + 3), (bS, h.objs.size + 2), (aS, h.objs.size + 1)]).kindOf srcS = some NameKind.local then (fun y => if y = srcS then some (Value.ref σ) else none) else fun _ => none) srcS = _
    rw [if_pos (show (envX nameB scope h.objs.size (addrOf 37) (.ref 321) [(opS, h.objs.size + 3), (bS, h.objs.size + 2), (aS, h.objs.size + 1)]).kindOf srcS = some NameKind.local from l0)]
    exact if_pos rfl
  have hnone : ∀ n, bindC (envX nameB scope h.objs.size (addrOf 37) (.ref 321) [(opS, h.objs.size + 3), (bS, h.objs.size + 2), (aS, h.objs.size + 1)]).kindOf ([srcS].zip [Value.ref σ]) (fun _ => none) n = none := fun n => by
    show (if (envX nameB scope h.objs.size (addrOf 37) (.ref 321) [(opS, h.objs.size + 3), (bS, h.objs.size + 2), (aS, h.objs.size + 1)]).kindOf srcS = some NameKind.local then (fun _ => none) else fun y => if y = srcS then some (Value.ref σ) else none) n = _
    rw [if_pos (show (envX nameB scope h.objs.size (addrOf 37) (.ref 321) [(opS, h.objs.size + 3), (bS, h.objs.size + 2), (aS, h.objs.size + 1)]).kindOf srcS = some NameKind.local from l0)]
  have hc1 : h₁.IsCell (h.objs.size + 1) none := hnone aS ▸ hcell aS (h.objs.size + 1) rfl
  have hc2 : h₁.IsCell (h.objs.size + 2) none := hnone bS ▸ hcell bS (h.objs.size + 2) rfl
  have hc3 : h₁.IsCell (h.objs.size + 3) none := hnone opS ▸ hcell opS (h.objs.size + 3) rfl
  obtain ⟨b, hb⟩ : ∃ b : Bx, b = ⟨prog, w, A.deeper (envX nameB scope h.objs.size (addrOf 37) (.ref 321) [(opS, h.objs.size + 3), (bS, h.objs.size + 2), (aS, h.objs.size + 1)]), nameB, scope, h.objs.size, addrOf 37, .ref 321, [(opS, h.objs.size + 3), (bS, h.objs.size + 2), (aS, h.objs.size + 1)], g, m, fun h => Src h σ, gens, dr, os⟩ := ⟨_, rfl⟩
  have P : Pr b KF σ := by
    subst hb
    refine ⟨⟨⟨r2.handled, ?_, ?_, lw.base, lw.gl, di.kind, fun k x => Src.keeps k x⟩, rfl, m0, e8, hg, Nat.ne_of_lt S.lt, e22, e23, r2.mono (by decide)⟩, r2.mono (by decide), e26, rfl, e5, e6, e7, S.lt⟩
    · have := r2.units; show (A.deeper _).units + 16 < cLine; omega
    · have := r2.depth; show (A.deeper _).depth + 16 < recursionLimit; omega
  have X₁ : b.X h₁ := by subst hb; exact ⟨⟨hns, fun c o e => hk₁ _ _ (kg _ _ e), gs⟩, S.keeps hk₁⟩
  have C₁ : CellsAt b h₁ none none none := by subst hb; exact ⟨hc1, hc2, hc3⟩
  have hbL : b.L = h.objs.size := by subst hb; rfl
  have D := pair_draws (Q := fun f s' => match f with
    | .next => wpN (model prog w) (A.deeper (envX nameB scope h.objs.size (addrOf 37) (.ref 321) [(opS, h.objs.size + 3), (bS, h.objs.size + 2), (aS, h.objs.size + 1)])) (execs d.2.2.2.1 (envX nameB scope h.objs.size (addrOf 37) (.ref 321) [(opS, h.objs.size + 3), (bS, h.objs.size + 2), (aS, h.objs.size + 1)])) (fun f s' => Q (match f with | .ret v => v | _ => .none) s') s'
    | f => Q (match f with | .ret v => v | _ => .none) s') (tk := tk₁) P (by subst hb; exact d.1) (by subst hb; exact d.2.1) (by subst hb; exact d.2.2.1) X₁ C₁ (Nat.le_of_eq hbL.symm) (KB.of hk₁) fun u v o x y ll h₄ tk₄ hx hy hl rx ry ro X₄ C₄ k₄ => ?_
  · have := execsN_append (xs := [(h1Pat scope).im d.1, (h2Pat scope).im d.2.1, (h3Pat scope).im d.2.2.1]) (ys := d.2.2.2.1) (by subst hb; exact D)
    exact this
  -- the told statement and on
  have S₄ : Src h₄ σ := P.W.src X₄
  have F₄ := X₄.1
  have hcells : b.cells = [(opS, h.objs.size + 3), (bS, h.objs.size + 2), (aS, h.objs.size + 1)] := by subst hb; rfl
  have hbg : b.g = g := by subst hb; rfl
  have hbm : b.m = m := by subst hb; rfl
  rw [hbg, hbL, hbm] at F₄
  unfold CellsAt at C₄
  rw [hbL] at C₄
  obtain ⟨f, hf⟩ : ∃ f : Sg, f = ⟨prog, w, A, nameB, scope, h.objs.size, addrOf 37, .ref 321, [(opS, h.objs.size + 3), (bS, h.objs.size + 2), (aS, h.objs.size + 1)], nmB, fun _ => True, h₄, outer, run Mine.prog 12, addrOf, .ref C, gens, dr, os⟩ := ⟨_, rfl⟩
  have hcm : ∀ q ∈ f.cells, q = (opS, h.objs.size + 3) ∨ q = (bS, h.objs.size + 2) ∨ q = (aS, h.objs.size + 1) := fun q hq => by subst hf; simpa using hq
  have own_ge : ∀ c : Nat, f.own c → h.objs.size ≤ c := fun c hc => by
    rcases hc with hc | hc
    · subst hf; exact Nat.le_of_eq hc.symm
    · obtain ⟨q, hq, rfl⟩ := List.mem_map.mp hc
      rcases hcm q hq with rfl | rfl | rfl <;> exact Nat.le_add_right _ _
  have frs₄ : FrsAt h₄ outer := fun e he => by
    obtain ⟨hkd, L, o', hf', ho', hd'⟩ := frs e he
    exact ⟨hkd, L, o', hf', k₄ _ _ (fun z => hσ (z ▸ mem_wob he hf')) ho', hd'⟩
  have K : f.Ok KF g 12 := by
    have hcm' := hcm
    subst hf
    refine ⟨room.mono (by decide), fr, frs₄, fun env he L hf z => ?_, lw.base, fun b o e => ⟨F₄.keep _ _ e, fun z => ?_⟩, gs, lw.gl, lw.call 12, di.kind, by rfl, fun _ _ => trivial, fun q hq z => ?_, ?_⟩
    · exact absurd (sized frs he hf) (Nat.not_lt.mpr (own_ge L z))
    · exact absurd (Heap.lt_size (kg _ _ e)) (Nat.not_lt.mpr (own_ge b z))
    · rcases hcm' q hq with rfl | rfl | rfl
      · exact addr_ne (L := h.objs.size) (i := 3) (j := 0) (by decide) z
      · exact addr_ne (L := h.objs.size) (i := 2) (j := 0) (by decide) z
      · exact addr_ne (L := h.objs.size) (i := 1) (j := 0) (by decide) z
    · refine List.Pairwise.cons (fun q hq => ?_) (List.Pairwise.cons (fun q hq => ?_) (List.Pairwise.cons (fun q hq => nomatch hq) .nil))
      · simp only [List.mem_cons, List.not_mem_nil, or_false] at hq
        rcases hq with rfl | rfl <;> exact addr_ne (by decide)
      · simp only [List.mem_cons, List.not_mem_nil, or_false] at hq
        subst hq
        exact addr_ne (by decide)
  have st : f.cx.St h₄ [.undef, .at x, .at y, .at (.str ll), .undef] := by
    have hcm' := hcm
    subst hf
    refine ⟨_, F₄.ns, fun b o _ e => e, fun q hq => ?_, fun i z ex => ?_⟩
    · rcases hcm' q hq with rfl | rfl | rfl
      · exact ⟨_, C₄.2.2⟩
      · exact ⟨_, C₄.2.1⟩
      · exact ⟨_, C₄.1⟩
    · match i, ex with
      | 0, ex => cases ex; exact Or.inl ⟨l0, Or.inl rfl⟩
      | 1, ex => cases ex; exact Or.inr ⟨e5, _, _, rfl, C₄.1, Or.inr ⟨u, rfl, rx⟩⟩
      | 2, ex => cases ex; exact Or.inr ⟨e6, _, _, rfl, C₄.2.1, Or.inr ⟨v, rfl, ry⟩⟩
      | 3, ex => cases ex; exact Or.inr ⟨e7, _, _, rfl, C₄.2.2, Or.inr ⟨o, rfl, ro⟩⟩
      | 4, ex => cases ex; exact Or.inl ⟨(locOk_parts e9).1, Or.inl rfl⟩
      | n + 5, ex => cases ex
  obtain ⟨r, q, F⟩ := FP x hx y hy ll hl
  obtain ⟨an, ar, ab, ao, ac, F'⟩ := FA x hx
  have tabA₄ := tabA.kb S k₄
  have tabB₄ := tabB.kb S k₄
  have nA := tabA₄.src S₄
  have nB := tabB₄.src S₄
  have hfo : f.outer = outer := by subst hf; rfl
  have hfS : f.hS = h₄ := by subst hf; rfl
  have body := pair_body (f := f) (body := d.2.2.2.1) (tk := tk₄) (Q := fun fl s' => Q (match fl with | .ret v => v | _ => .none) s') (by subst hf; exact lw) K (by subst hf; exact room) (by subst hf; rfl) (by subst hf; rfl) (by subst hf; rfl) (by subst hf; rfl) (by subst hf; rfl) (by subst hf; rfl)
    (by subst hf; exact e5) (by subst hf; exact e6) (by subst hf; exact e7) (by subst hf; rfl) (by subst hf; rfl) (by subst hf; rfl) (by subst hf; exact d.2.2.2.2) e36 Cd hPg CdA hPgA (by subst hf; exact gout) st tabB₄ tabA₄ F F'
    (fun h₅ h₇ h₈ tk₈ ρ' w₄ st₇ w₈ tB tA => ?_)
  · subst hb
    subst hf
    exact body
  · have keep : ∀ b o, ¬ f.own b → h₅.get? b = some o → h₇.get? b = some o := fun b o z e => by
      obtain ⟨m, hn, hk, hc, V⟩ := st₇
      exact hk b o z e
    have no : ∀ {b : Nat} {o : Obj}, h.get? b = some o → ¬ f.own b := fun {b o} e z => absurd (Heap.lt_size e) (Nat.not_lt.mpr (own_ge b z))
    have nw : ∀ {b : Addr} {o : Obj}, h.get? b = some o → b ∉ wobOf outer → b ∉ wobOf (f.env :: f.outer) := fun {b o} e hn z => by
      rw [hfo] at z
      obtain ⟨en, hen, hfr⟩ := mem_wobOf z
      rcases List.mem_cons.mp hen with rfl | hen
      · exact no e (Or.inl (Option.some.inj hfr).symm)
      · exact hn (mem_wob hen hfr)
    have W : WD σ (wobOf outer) h h₈ := by
      refine ⟨fun b o n1 n2 n3 hn e => ?_, fun b o hb' e => ?_⟩
      · exact w₈.keep b o n1 (nw e hn) (keep b o (no e) (w₄.keep b o n2 (nw e hn) (k₄ b o n3 e)))
      · obtain ⟨en, hen, hfr⟩ := mem_wobOf hb'
        have hm' : b ∈ wobOf (f.env :: f.outer) := by rw [hfo]; exact mem_wob (.tail _ hen) hfr
        obtain ⟨sl, e'⟩ := w₄.slot b o hm' (k₄ b o (fun z => hσ (z ▸ hb')) e)
        obtain ⟨sl', e''⟩ := w₈.slot b _ hm' (keep b _ (no e) e')
        exact ⟨sl', e''⟩
    have S₈ : Src h₈ σ := by
      obtain ⟨os₀, hos₀, _⟩ := S.data
      obtain ⟨s0, s1, t0, t1, ⟨oS, hoS, rS⟩, rr⟩ := S₄
      refine ⟨s0, s1, t0, t1, ⟨oS, ?_, rS⟩, rr⟩
      exact w₈.keep σ oS nA (nw hos₀ hσ) (keep σ oS (no hos₀) (w₄.keep σ oS nB (nw hos₀ hσ) hoS))
    subst hf
    exact hQ h₈ tk₈ W S₈ tA tB
end
end Mine
end

section
set_option maxRecDepth 100000
set_option linter.unusedVariables false
set_option genSizeOf false
set_option genInjectivity false
open PySem PySem.W PySem.NumText PyProof.Rows PySem.Builtin
namespace Mine

noncomputable def tuS : Str := mkS [116, 117, 114, 110]
theorem isTrueN_not {prog : Program} {w : World} {A : Around} {s : Shared} {env : Env} {x : Expr} {pos : Pos} {whole : Sem Value} {Q : Bool → Shared → Prop} (h : wpN (model prog w) A (isTrue x env (eval x env)) (fun c s' => Q (!c) s') s) :
    wpN (model prog w) A (isTrue (.UnaryOp .Not x pos) env whole) Q s := by
  show wpN (model prog w) A (do return !(← isTrue x env (eval x env))) Q s
  exact wpN_bind (wpN_mono h fun c s' h' => wpN_pure h')
theorem isTrueN_plain {prog : Program} {w : World} {A : Around} {s : Shared} {env : Env} {x : Expr} {Q : Bool → Shared → Prop} (hp : plainTest x = true) (h : wpN (model prog w) A (eval x env) (fun v s' => wpAny (model prog w) A (PySem.truthy v) Q (fun _ _ => False) s') s) :
    wpN (model prog w) A (isTrue x env (eval x env)) Q s := by
  rw [isTrue_eq hp]
  exact wpN_bind (wpN_mono h fun v s' h' => wpN_then (wpAny_standAt (wpN_holding (wpN_of h'))))

theorem TabOk.gen {P : Addr} {pos : Pos} {q : Str} {h h' : Heap} (t : TabOk P pos q h) (k1 : ∀ o, h.get? P = some o → h'.get? P = some o) (k2 : ∀ b o vs u, h.get? b = some o → o.data = .fields vs → vs[1]? = some (.str q u) → h'.get? b = some o) : TabOk P pos q h' := by
  rcases t with t | ⟨c', t, c, o, vs, tt, e, ho, hd, r⟩
  · exact Or.inl (k1 _ t)
  · exact Or.inr ⟨c', k1 _ t, c, o, vs, tt, e, k2 _ _ _ _ ho hd r, hd, r⟩

/-- the state of law's own frame -/
structure Lv (h₀ : Heap) (L sc : Addr) (h : Heap) (m : Str → Option Value) : Prop where
  ns : h.Ns L m
  sc : m scS = some (.ref sc)
  keep : ∀ b o, b ≠ 310 → b ≠ 317 → h₀.get? b = some o → h.get? b = some o
  tA : TabOk 310 posA qualA h
  tB : TabOk 317 posB qualB h
section
variable {h₀ h h' : Heap} {L sc : Addr} {m m' : Str → Option Value}
theorem Lv.keeps (x : Lv h₀ L sc h m) (k : Keeps h h') : Lv h₀ L sc h' m := ⟨x.ns.keeps k, x.sc, fun b o n1 n2 e => k b o (x.keep b o n1 n2 e), x.tA.keeps k, x.tB.keeps k⟩
theorem Lv.same (x : Lv h₀ L sc h m) (hL : h₀.get? L = none) (hn : h'.Ns L m') (s : Heap.SameBut L h h') (hs : m' scS = some (.ref sc)) : Lv h₀ L sc h' m' := by
  obtain ⟨oL, es, ep, hoL, hdL, _⟩ := x.ns
  have nf : ∀ b o vs, h.get? b = some o → o.data = .fields vs → b ≠ L := fun b o vs e hd z => by rw [z, hoL] at e; cases e; rw [hdL] at hd; cases hd
  have tab : ∀ {P : Addr} {pos : Pos} {q : Str}, TabOk P pos q h → TabOk P pos q h' := fun {P pos q} t => t.gen (fun o e => by
    obtain ⟨vs, o', e', hd'⟩ := t.fields
    rw [e] at e'; cases e'
    exact (s.2 P (nf _ _ _ e hd')).trans e) fun b o vs u e hd _ => (s.2 b (nf _ _ _ e hd)).trans e
  exact ⟨hn, hs, fun b o n1 n2 e => (s.2 b fun z => by rw [z, hL] at e; cases e).trans (x.keep b o n1 n2 e), tab x.tA, tab x.tB⟩
theorem Lv.iter {I : Addr} {z : Int} {n : Int} (x : Lv h₀ L sc h m) (hI : h₀.get? I = none) (hL : L ≠ I) (hit : IsRangeIter h I z n 1) (h1 : I ≠ 310) (h2 : I ≠ 317) (s : Heap.ExtBut I h h') : Lv h₀ L sc h' m := by
  have tab : ∀ {P : Addr} {pos : Pos} {q : Str}, P ≠ I → TabOk P pos q h → TabOk P pos q h' := fun {P pos q} hne t => t.gen (fun o e => s P o hne e) fun b o vs u e hd hv => s b o (fun zz => by
    subst zz
    have hit : h.get? b = some _ := hit
    rw [hit] at e
    cases e
    cases hd
    simp [rawInt] at hv) e
  exact ⟨x.ns.extBut s hL, x.sc, fun b o n1 n2 e => s b o (fun zz => by rw [zz, hI] at e; cases e) (x.keep b o n1 n2 e), tab (Ne.symm h1) x.tA, tab (Ne.symm h2) x.tB⟩
theorem Lv.wd {σ : Addr} {env : Env} (x : Lv h₀ L sc h m) (hσ : h₀.get? σ = none) (hL : h₀.get? L = none) (he : env.frame = some L) (W : WD σ (wobOf [env]) h h') (tA : TabOk 310 posA qualA h') (tB : TabOk 317 posB qualB h') : Lv h₀ L sc h' m := by
  have hw : ∀ b, b ∈ wobOf [env] ↔ b = L := fun b => by simp [wobOf, he]
  refine ⟨?_, x.sc, fun b o n1 n2 e => W.1 b o n1 n2 (fun z => by rw [z, hσ] at e; cases e) (fun z => ?_) (x.keep b o n1 n2 e), tA, tB⟩
  · obtain ⟨o, es, ep, ho, hd, r⟩ := x.ns
    obtain ⟨sl, e⟩ := W.2 L o ((hw L).mpr rfl) ho
    exact ⟨_, es, ep, e, hd, r⟩
  · rw [(hw b).mp z, hL] at e; cases e
end

noncomputable def innerPat (sc : Scope) : Pat Stmt := pFor (pV tuS) (pCallN (pBi sc "range") (pOne (pInt sc (.lit 4)))) (pOne (sIf.comp (pp (pUn .Not (pCallN (pFn sc 37) (pOne (pV srcS)))) (pp (pAny (List Stmt)) (pP pNil)))))

section
variable {prog : Program} {w : World} {KF : Frag} {g : Heap} {mg : Str → Option Value} {C : Addr} {bmB : List Value} {newId : String}
/-- all that the walk of law leans on -/
structure LawCtx (prog : Program) (w : World) (KF : Frag) (g : Heap) (mg : Str → Option Value) (C : Addr) (bmB : List Value) (newId : String) : Prop where
  lw : Lw prog w KF g mg C bmB newId
  e37 : dHead KF (addrOf 37) pairChk = true
  e36 : dHead KF (addrOf 36) aloneChk = true
  e26 : dHead KF (addrOf 26) valueChk = true
  e23 : dHead KF (addrOf 23) oneChk = true
  e22 : dHead KF (addrOf 22) takeChk = true
  e21 : dHead KF (addrOf 21) poolChk = true
  Cd : CodeHd g 321 317
  hPg : g.get? 317 = none
  CdA : CodeHd g 314 310
  hPgA : g.get? 310 = none
  FP : ∀ x ∈ menuL, ∀ y ∈ menuB, ∀ l ∈ opsL, ∃ r q, PairFact x y l r q
  FA : ∀ x ∈ menuL, ∃ n r b o c, AloneFact x n r b o c

theorem range_len {n : Int} (h0 : 0 ≤ n) : Builtin.Range.rangeSize 0 n 1 = n := by
  rw [rangeSize_one]
  split <;> omega

/-- the inner loop -/
theorem law_inner_core (X : LawCtx prog w KF g mg C bmB newId) {A : Around} {name : Str} {scope : Scope} {L : Addr} {cd : Value} (room : Room A 15) (fr : A.frames = some []) (kind : scope.kind = .function) {h₀ : Heap} {sc σ I₁ : Addr} (hg₀ : ∀ b o, g.get? b = some o → h₀.get? b = some o ∧ b ≠ 310 ∧ b ≠ 317) (gs : g.objs.size ≤ L) (hL0 : h₀.get? L = none)
    (hσ0 : h₀.get? σ = none) (hσL : σ ≠ L) (ls : locOk scope srcS = true) (lt : locOk scope tuS = true) (h310 : h₀.get? 310 ≠ none) (h317 : h₀.get? 317 ≠ none) {four : Expr} {pr : Str} {bd : List Stmt} {p1 p2 p3 p4 p5 p6 p7 p8 p9 : Pos} (c3 : glo scope ("range" : Str) = true) (c4 : notStar four = true) (c5 : IE.chk scope [] srcS (.lit 4) four = true) (c6 : nth fnames 37 pr = true) (c7 : glo scope pr = true) {h : Heap} {m : Str → Option Value} {o₁ : Obj} {tk : Nat} {gens : Array GenState} {dr : Drawn} {os : OsState} {Q : Flow → Shared → Prop}
    (V : Lv h₀ L sc h m) (ms : m srcS = some (.ref σ)) (S : Src h σ) (hI₁ : h.get? I₁ = some o₁) (n0 : h₀.get? I₁ = none) (n1 : I₁ ≠ L) (n2 : I₁ ≠ σ)
    (hQ : ∀ h' tk' m', Lv h₀ L sc h' m' → h'.get? I₁ = some o₁ → Q .next ⟨h', gens, dr, tk', os⟩) :
    wpN (model prog w) (A.deeper (envX name scope L (addrOf 38) cd [])) (exec (.For (.Name tuS p1) (.Call (.Name ("range" : Str) p2) [four] [] p3) [.If (.UnaryOp .Not (.Call (.Name pr p4) [.Name srcS p5] [] p6) p7) bd [] p8] [] p9) (envX name scope L (addrOf 38) cd [])) Q ⟨h, gens, dr, tk, os⟩ := by
  obtain ⟨env, henv⟩ : ∃ env, env = envX name scope L (addrOf 38) cd [] := ⟨_, rfl⟩
  have hfrm : env.frame = some L := by subst henv; rfl
  have r2 := room.deeper env
  obtain ⟨l0, d0⟩ := locOk_parts ls
  have mkB : ∀ m, ∃ b : Bx, b = ⟨prog, w, A.deeper env, name, scope, L, addrOf 38, cd, [], g, m, fun _ => True, gens, dr, os⟩ ∧ b.Ok KF := fun m =>
    ⟨_, rfl, ⟨r2.handled, by have := r2.units; show (A.deeper env).units + 16 < cLine; omega, by have := r2.depth; show (A.deeper env).depth + 16 < recursionLimit; omega, X.lw.base, X.lw.gl, kind, fun _ _ => trivial⟩⟩
  have FrOf : ∀ {h m}, Lv h₀ L sc h m → Fr g L h m := fun V => ⟨V.ns, fun b o e => V.keep b o (hg₀ b o e).2.1 (hg₀ b o e).2.2 (hg₀ b o e).1, gs⟩
  have hgσ : g.get? σ = none := by
    cases q : g.get? σ with
    | none => rfl
    | some o => have := (hg₀ _ _ q).1; rw [hσ0] at this; cases this
  rw [← henv]
  obtain ⟨b, hb, K⟩ := mkB m
  have X₀ : b.X h := by subst hb; exact ⟨FrOf V, trivial⟩
  have E4 : EvI b four 4 := EvI.lit K (by subst hb; exact c5)
  have kr := K.cx.bi (ρ := []) X₀ PyProof.Rows.Boot.«range» (by subst hb; exact c3) (by simp)
  subst hb
  subst henv
  refine ForN (wpAny_Call_ofName (kr _ _ _ _ ?_)) (fun _ => rfl) r2.handled
  rw [starEach_of c4, backTo_plain]
  refine PySem.callWith_type rfl (Calls.evalArgs_plain (Calls.spliced_cons (EvI.use K E4 X₀ fun t h₁ tk₁ k₁ X₁ => ?_)))
  refine Calls.spliced_nil (call_range_1 ?_)
  refine wpAny_pyIter_range (IsRange.new _ _ _ _ _ _ _) (range_small (by omega) (by omega) (by omega) (by omega)) ?_
  obtain ⟨h₂, hh₂⟩ : ∃ h₂, h₂ = h₁.push { cls := .type "range", data := .fields #[.int 0 tk₁, .int 4 t, .int 1 (tk₁ + 1)] } := ⟨_, rfl⟩
  have k₂ : Keeps h₁ h₂ := by subst hh₂; exact Keeps.push _ _
  obtain ⟨I₂, hI₂⟩ : ∃ I₂, I₂ = h₂.objs.size := ⟨_, rfl⟩
  obtain ⟨h₃, hh₃⟩ : ∃ h₃, h₃ = h₂.push { cls := .type "range_iterator", data := .fields #[rawInt 0, rawInt (Builtin.Range.rangeSize 0 4 1), rawInt 1] } := ⟨_, rfl⟩
  have k₃ : Keeps h₂ h₃ := by subst hh₃; exact Keeps.push _ _
  have hit₃ : IsRangeIter h₃ I₂ 0 4 1 := by
    subst hh₃
    subst hI₂
    have : Builtin.Range.rangeSize 0 4 1 = 4 := range_len (by decide)
    rw [this]
    exact Heap.get?_push_size _ rfl
  have fresh₂ : h₂.get? I₂ = none := by subst hI₂; exact get_size _
  have k₀₂ : Keeps h h₂ := Keeps.trans k₁ k₂
  have fI : ∀ {a : Addr} {o : Obj}, h.get? a = some o → a ≠ I₂ := fun {a o} e z => by
    have := k₀₂ _ _ e
    rw [z, fresh₂] at this; cases this
  have nL : L ≠ I₂ := by
    obtain ⟨oL, es, ep, hoL, _⟩ := V.ns
    exact fI hoL
  have nσ : σ ≠ I₂ := by
    obtain ⟨oS, hoS, _⟩ := S.data
    exact fI hoS
  have nI : I₁ ≠ I₂ := fI hI₁
  have nA : I₂ ≠ 310 := fun z => by
    obtain ⟨vs, o, e, _⟩ := V.tA.fields
    exact fI e z.symm
  have nB : I₂ ≠ 317 := fun z => by
    obtain ⟨vs, o, e, _⟩ := V.tB.fields
    exact fI e z.symm
  have h0I : h₀.get? I₂ = none := by
    cases q : h₀.get? I₂ with
    | none => rfl
    | some o => exact absurd rfl (fI (V.keep _ _ nA nB q))
  show codeN _ _ (.forLoop (.Name tuS p1) (.ref (Heap.push h₁ _).objs.size) _ _ _) _ ⟨Heap.push (Heap.push h₁ _) _, gens, dr, _, os⟩
  rw [← hh₂, ← hh₃, ← hI₂]
  have hQ' := hQ
  clear hQ
  refine forLoopN (fun n s => ∃ h tk m x, s = ⟨h, gens, dr, tk, os⟩ ∧ Lv h₀ L sc h m ∧ m srcS = some (.ref σ) ∧ Src h σ ∧ h.get? I₁ = some o₁ ∧ IsRangeIter h I₂ x n 1) ?_ 4
    ⟨h₃, _, m, 0, rfl, V.keeps (Keeps.trans k₀₂ k₃), ms, S.keeps (Keeps.trans k₀₂ k₃), k₃ _ _ (k₀₂ _ _ hI₁), hit₃⟩ (fun _ => rfl)
  rintro n s ⟨h', tk', m', x, rfl, V', ms', S', hI', hit'⟩
  cases n with
  | zero =>
    refine wpAny_pyNext_range_end r2.handled hit' (by decide) fun h₄ hx => ?_
    exact hQ' h₄ _ m' (V'.iter h0I nL hit' nA nB hx) (hx _ _ nI hI')
  | succ n =>
    refine wpAny_pyNext_range_item hit' (by omega) fun h₄ hit₄ hs₄ => ?_
    have V₄ := V'.iter h0I nL hit' nA nB hs₄.extBut
    have S₄ : Src h₄ σ := Src.same hs₄ nσ S'
    have hI₄ : h₄.get? I₁ = some o₁ := (hs₄.2 _ nI).trans hI'
    obtain ⟨b', hb', K'⟩ := mkB m'
    have X₄ : b'.X h₄ := by subst hb'; exact ⟨FrOf V₄, trivial⟩
    subst hb'
    refine assign_Name (Bx.store K' (locOk_parts lt).1 X₄ fun h₅ tk₅ F₅ s₅ => ?_)
    obtain ⟨m₅, hm₅⟩ : ∃ m₅ : Str → Option Value, m₅ = fun y => if y = tuS then some (Value.int x tk') else m' y := ⟨_, rfl⟩
    have ns₅ : h₅.Ns L m₅ := by rw [hm₅]; exact F₅.ns
    have ms₅ : m₅ srcS = some (.ref σ) := by rw [hm₅]; exact setS_ne (mkS_ne' (by decide)) ms'
    have mc₅ : m₅ scS = some (.ref sc) := by rw [hm₅]; exact setS_ne (mkS_ne' (by decide)) V₄.sc
    have V₅ := V₄.same hL0 ns₅ s₅ mc₅
    have S₅ : Src h₅ σ := Src.same s₅ hσL S₄
    have hI₅ : h₅.get? I₁ = some o₁ := (s₅.2 _ n1).trans hI₄
    have hit₅ : IsRangeIter h₅ I₂ (x + 1) ((n + 1 : Nat) - 1 : Int) 1 := (s₅.2 _ (Ne.symm nL)).trans hit₄
    clear hm₅ F₅
    obtain ⟨b₅, hb₅, K₅⟩ := mkB m₅
    have X₅ : b₅.X h₅ := by subst hb₅; exact ⟨FrOf V₅, trivial⟩
    obtain ⟨⟨o37, fd37, ho37, hd37⟩, kf⟩ := K₅.cx.fn (ρ := []) X₅ (nth_eq c6) (by subst hb₅; exact c7)
    subst hb₅
    refine execsN_cons (IfN (isTrueN_not (isTrueN_plain rfl (CallNameN (kf _ _ _ _ (callWithN_function (o := o37) (fd := fd37) rfl (splicedN_cons (wpN_of (wpAny_Name (wpAny_loadName_local kind l0 V₅.ns ms₅ ?_) d0)))))))))
    refine splicedN_nil ⟨⟨ho37, hd37⟩, ?_⟩
    have FV := FrOf V₅
    refine pair_call X.lw X.e37 X.e36 X.e26 X.e23 X.e22 X.Cd X.hPg X.CdA X.hPgA X.FP X.FA (outer := [envX name scope L (addrOf 38) cd []]) (r2.mono (by decide)) (Around.frames_deeper fr) (fun e he => ?_) (fun e he L' hf => ?_) FV.keep (Nat.le_of_lt (Nat.lt_of_le_of_lt gs V₅.ns.lt)) V₅.tA V₅.tB S₅ hgσ (fun z => ?_) fun h₆ tk₆ W₆ S₆ tA₆ tB₆ => ?_
    · obtain rfl : e = envX name scope L (addrOf 38) cd [] := by simpa using he
      obtain ⟨oL, es, ep, hoL, hdL, _⟩ := V₅.ns
      exact ⟨(by show scope.kind ≠ .module; rw [kind]; exact ScopeKind.noConfusion), L, oL, rfl, hoL, fun vs q => by rw [hdL] at q; cases q⟩
    · obtain rfl : e = envX name scope L (addrOf 38) cd [] := by simpa using he
      have : L' = L := (Option.some.inj hf).symm
      rw [this]
      exact ge_none gs
    · have : σ = L := by simpa [wobOf] using z
      exact hσL this
    · have V₆ := V₅.wd hσ0 hL0 hfrm W₆ tA₆ tB₆
      have other : ∀ {a : Addr} {o : Obj}, h₅.get? a = some o → a ≠ 310 → a ≠ 317 → a ≠ σ → a ≠ L → h₆.get? a = some o := fun {a o} e q1 q2 q3 q4 => W₆.1 a o q1 q2 q3 (fun z => q4 (by simpa [wobOf] using z)) e
      refine wpAny_truthy_bool ?_
      simp only [Bool.not_true, Bool.false_eq_true, if_false]
      refine execsN_nil (execsN_nil ?_)
      refine ⟨n, Nat.lt_succ_self n, h₆, tk₆, m₅, x + 1, rfl, V₆, ms₅, S₆, other hI₅ (fun z => ?_) (fun z => ?_) n2 n1, ?_⟩
      · rw [z] at n0; exact h310 n0
      · rw [z] at n0; exact h317 n0
      · have e : ((n + 1 : Nat) - 1 : Int) = (n : Int) := by omega
        rw [e] at hit₅
        exact other hit₅ nA nB (Ne.symm nσ) (Ne.symm nL)
/-- the inner loop -/
theorem law_inner (X : LawCtx prog w KF g mg C bmB newId) {A : Around} {name : Str} {scope : Scope} {L : Addr} {cd : Value} (room : Room A 15) (fr : A.frames = some []) (kind : scope.kind = .function) {h₀ : Heap} {sc σ I₁ : Addr} (hg₀ : ∀ b o, g.get? b = some o → h₀.get? b = some o ∧ b ≠ 310 ∧ b ≠ 317) (gs : g.objs.size ≤ L) (hL0 : h₀.get? L = none)
    (hσ0 : h₀.get? σ = none) (hσL : σ ≠ L) (ls : locOk scope srcS = true) (lt : locOk scope tuS = true) (h310 : h₀.get? 310 ≠ none) (h317 : h₀.get? 317 ≠ none) (d : (innerPat scope).D) {h : Heap} {m : Str → Option Value} {o₁ : Obj} {tk : Nat} {gens : Array GenState} {dr : Drawn} {os : OsState} {Q : Flow → Shared → Prop}
    (V : Lv h₀ L sc h m) (ms : m srcS = some (.ref σ)) (S : Src h σ) (hI₁ : h.get? I₁ = some o₁) (n0 : h₀.get? I₁ = none) (n1 : I₁ ≠ L) (n2 : I₁ ≠ σ)
    (hQ : ∀ h' tk' m', Lv h₀ L sc h' m' → h'.get? I₁ = some o₁ → Q .next ⟨h', gens, dr, tk', os⟩) :
    wpN (model prog w) (A.deeper (envX name scope L (addrOf 38) cd [])) (exec ((innerPat scope).im d) (envX name scope L (addrOf 38) cd [])) Q ⟨h, gens, dr, tk, os⟩ := 
  law_inner_core X room fr kind hg₀ gs hL0 hσ0 hσL ls lt h310 h317 d.2.1.1.1.2 (andL d.2.1.2.1.2) (andR d.2.1.2.1.2) (andL d.2.2.1.1.2.1.1.1.2) (andR d.2.2.1.1.2.1.1.1.2) V ms S hI₁ n0 n1 n2 hQ
end
end Mine
end

section
set_option maxRecDepth 100000
set_option linter.unusedVariables false
set_option genSizeOf false
set_option genInjectivity false
open PySem PySem.W PySem.NumText PyProof.Rows PySem.Builtin
namespace Mine

theorem EvI.lenL {b : Bx} {KF : Frag} (K : b.Ok KF) {D : Addr} {vs : List Value} {z : Str} {ln : Str} {p1 p2 p3 : Pos} (hz : locOk b.scope z = true) (hm : b.m z = some (.ref D)) (hY : ∀ h, b.Y h → h.IsList D vs.toArray) (hn : vs.length ≤ 1000) (h2 : ln = ("len" : Str)) (h3 : glo b.scope ln = true) :
    EvI b (.Call (.Name ln p1) [.Name z p2] [] p3) (vs.length : Int) := fun ρ h tk Q E st H => by
  obtain ⟨l0, d0⟩ := locOk_parts hz
  subst h2
  refine wpAny_Call_ofName (K.cx.bi (ρ := ρ) st PyProof.Rows.Boot.«len» h3 (by simp) _ _ _ _ ?_)
  refine Calls.callWith_builtin rfl (Calls.evalArgs_plain (Calls.spliced_cons ?_))
  refine wpAny_Name (wpAny_loadName_local K.kind l0 st.1.ns hm ?_) d0
  refine Calls.spliced_nil ?_
  refine PyProof.Rows.len_list (hY h st.2) (by rw [List.size_toArray]; omega) ?_
  refine H _ h _ (Keeps.refl h) ⟨tk + 1, ?_⟩
  show Value.int ((vs.toArray.size : Nat) : Int) _ = _
  rw [List.size_toArray]

noncomputable def pLen (sc : Scope) (z : Str) : Pat Expr := pCallN (pBi sc "len") (pOne (pV z))
noncomputable def lawPat (sc : Scope) : Pat (List Stmt) := pTwo
  (pFor (pV kS) (pCallN (pBi sc "range") (pOne (pCallN (pBi sc "max") (pTwo (pInt sc (.lit 1)) (pCallN (pBi sc "min") (pTwo (pLen sc scS) (pInt sc (.lit 3))))))))
    (pTwo (pSet srcS (pCallN (pFn sc 21) (pTwo (pV scS) (pV kS)))) (innerPat sc)))
  (pRet (pK (kBool.comp (pEq (α := Bool) true : Pat Bool))))
noncomputable def lawChk (name : Str) (cd : Value) (params : Arguments) (scope : Scope) (body : List Stmt) : Bool :=
  ((parsIs params [scS] && (scope.names.all fun x => x.2 != .cell)) && (locOk scope scS && locOk scope kS)) && ((locOk scope srcS && locOk scope tuS) && (lawPat scope).m body)

section
variable {prog : Program} {w : World} {KF : Frag} {g : Heap} {mg : Str → Option Value} {C : Addr} {bmB : List Value} {newId : String}

theorem law_body_core (X : LawCtx prog w KF g mg C bmB newId) {A : Around} {name : Str} {scope : Scope} {L : Addr} {cd : Value} (room : Room A 15) (fr : A.frames = some []) (kind : scope.kind = .function) {h₀ : Heap} {sc : Addr} {vs : List Value} {ns : List Int} (hg₀ : ∀ b o, g.get? b = some o → h₀.get? b = some o ∧ b ≠ 310 ∧ b ≠ 317) (gs : g.objs.size ≤ L) (hL0 : h₀.get? L = none)
    (lc : locOk scope scS = true) (lk : locOk scope kS = true) (ls : locOk scope srcS = true) (lt : locOk scope tuS = true) (h310 : h₀.get? 310 ≠ none) (h317 : h₀.get? 317 ≠ none) (hL : h₀.IsList sc vs.toArray) (hi : IntsAre vs ns) (hn : ns.length ≤ 63) (s310 : sc ≠ 310) (s317 : sc ≠ 317)
    {one three : Expr} {pl : Str} {nn : Nat} {p1 p2 p3 p4 p5 p6 p7 p8 p9 p10 p11 p12 p13 p14 p15 p16 p17 p18 p19 : Pos} (b3 : glo scope ("range" : Str) = true) (b5 : glo scope ("max" : Str) = true) (b6 : notStar one = true) (b7 : IE.chk scope [] srcS (.lit 1) one = true) (b9 : glo scope ("min" : Str) = true)
    (b11 : glo scope ("len" : Str) = true) (b13 : notStar three = true) (b14 : IE.chk scope [] srcS (.lit 3) three = true) (b16 : nth fnames 21 pl = true) (b17 : glo scope pl = true) (dI : (innerPat scope).D) {h : Heap} {m : Str → Option Value} {tk : Nat} {gens : Array GenState} {dr : Drawn} {os : OsState} {Q : Flow → Shared → Prop} (V : Lv h₀ L sc h m)
    (hQ : ∀ h' tk' m', Lv h₀ L sc h' m' → Q (.ret (.bool true)) ⟨h', gens, dr, tk', os⟩) :
    wpN (model prog w) (A.deeper (envX name scope L (addrOf 38) cd [])) (execs [.For (.Name kS p1) (.Call (.Name ("range" : Str) p2) [.Call (.Name ("max" : Str) p3) [one, .Call (.Name ("min" : Str) p4) [.Call (.Name ("len" : Str) p5) [.Name scS p6] [] p7, three] [] p8] [] p9] [] p10) [.Assign [.Name srcS p11] (.Call (.Name pl p12) [.Name scS p13, .Name kS p14] [] p15) p16, (innerPat scope).im dI] [] p17, .Return (some (.Constant (.bool true) nn p18)) p19] (envX name scope L (addrOf 38) cd [])) Q ⟨h, gens, dr, tk, os⟩ := by
  have hlen : vs.length = ns.length := hi.length
  have r2 := room.deeper (envX name scope L (addrOf 38) cd [])
  obtain ⟨lc0, dc0⟩ := locOk_parts lc
  obtain ⟨lk0, dk0⟩ := locOk_parts lk
  have mkB : ∀ m, ∃ b : Bx, b = ⟨prog, w, A.deeper (envX name scope L (addrOf 38) cd []), name, scope, L, addrOf 38, cd, [], g, m, fun h => h.IsList sc vs.toArray, gens, dr, os⟩ ∧ b.Ok KF := fun m =>
    ⟨_, rfl, ⟨r2.handled, by have := r2.units; show (A.deeper _).units + 16 < cLine; omega, by have := r2.depth; show (A.deeper _).depth + 16 < recursionLimit; omega, X.lw.base, X.lw.gl, kind, fun k x => IsList.keeps x k⟩⟩
  have FrOf : ∀ {h m}, Lv h₀ L sc h m → Fr g L h m := fun V => ⟨V.ns, fun b o e => V.keep b o (hg₀ b o e).2.1 (hg₀ b o e).2.2 (hg₀ b o e).1, gs⟩
  have LiOf : ∀ {h m}, Lv h₀ L sc h m → h.IsList sc vs.toArray := fun V => let ⟨o, ho, r⟩ := hL; ⟨o, V.keep _ _ s310 s317 ho, r⟩
  obtain ⟨N, hN⟩ : ∃ N : Int, N = if 1 < (if 3 < (vs.length : Int) then 3 else (vs.length : Int)) then (if 3 < (vs.length : Int) then 3 else (vs.length : Int)) else 1 := ⟨_, rfl⟩
  have N1 : 1 ≤ N ∧ N ≤ 3 := by rw [hN]; split <;> split <;> omega
  obtain ⟨b, hb, K⟩ := mkB m
  have X₀ : b.X h := by subst hb; exact ⟨FrOf V, LiOf V⟩
  have El : EvI b (.Call (.Name ("len" : Str) p5) [.Name scS p6] [] p7) (vs.length : Int) := EvI.lenL K (by subst hb; exact lc) (by subst hb; exact V.sc) (by subst hb; exact fun h y => y) (by omega) rfl (by subst hb; exact b11)
  have Em := EvI.min  (np := p4) (pos := p8) K rfl El b13 (EvI.lit K (by subst hb; exact b14)) (by subst hb; exact b9) rfl
  have Ex := EvI.max  (np := p3) (pos := p9) K b6 (EvI.lit K (by subst hb; exact b7)) rfl Em (by subst hb; exact b5) rfl
  rw [← hN] at Ex
  have kr := K.cx.bi (ρ := []) X₀ PyProof.Rows.Boot.«range» (by subst hb; exact b3) (by simp)
  subst hb
  refine execsN_cons (ForN (wpAny_Call_ofName (kr _ _ _ _ ?_)) (fun _ => rfl) r2.handled)
  refine PySem.callWith_type rfl (Calls.evalArgs_plain (Calls.spliced_cons (EvI.use K Ex X₀ fun t h₁ tk₁ k₁ X₁ => ?_)))
  refine Calls.spliced_nil (call_range_1 ?_)
  refine wpAny_pyIter_range (IsRange.new _ _ _ _ _ _ _) (range_small (by omega) (by omega) (by omega) (by omega)) ?_
  obtain ⟨h₂, hh₂⟩ : ∃ h₂, h₂ = h₁.push { cls := .type "range", data := .fields #[.int 0 tk₁, .int N t, .int 1 (tk₁ + 1)] } := ⟨_, rfl⟩
  have k₂ : Keeps h₁ h₂ := by subst hh₂; exact Keeps.push _ _
  obtain ⟨I₁, hI₁⟩ : ∃ I₁, I₁ = h₂.objs.size := ⟨_, rfl⟩
  obtain ⟨h₃, hh₃⟩ : ∃ h₃, h₃ = h₂.push { cls := .type "range_iterator", data := .fields #[rawInt 0, rawInt (Builtin.Range.rangeSize 0 N 1), rawInt 1] } := ⟨_, rfl⟩
  have k₃ : Keeps h₂ h₃ := by subst hh₃; exact Keeps.push _ _
  obtain ⟨n₀, rfl⟩ := Int.eq_ofNat_of_zero_le (show 0 ≤ N by omega)
  have hit₃ : IsRangeIter h₃ I₁ 0 (n₀ : Int) 1 := by
    subst hh₃
    subst hI₁
    have : Builtin.Range.rangeSize 0 (n₀ : Int) 1 = (n₀ : Int) := range_len (by omega)
    rw [this]
    exact Heap.get?_push_size _ rfl
  have fresh₁ : h₂.get? I₁ = none := by subst hI₁; exact get_size _
  have k₀₂ : Keeps h h₂ := Keeps.trans k₁ k₂
  have fI : ∀ {a : Addr} {o : Obj}, h.get? a = some o → a ≠ I₁ := fun {a o} e z => by
    have := k₀₂ _ _ e
    rw [z, fresh₁] at this; cases this
  have nL : L ≠ I₁ := by
    obtain ⟨oL, es, ep, hoL, _⟩ := V.ns
    exact fI hoL
  have nA : I₁ ≠ 310 := fun z => by
    obtain ⟨vs, o, e, _⟩ := V.tA.fields
    exact fI e z.symm
  have nB : I₁ ≠ 317 := fun z => by
    obtain ⟨vs, o, e, _⟩ := V.tB.fields
    exact fI e z.symm
  have h0I : h₀.get? I₁ = none := by
    cases q : h₀.get? I₁ with
    | none => rfl
    | some o => exact absurd rfl (fI (V.keep _ _ nA nB q))
  show codeN _ _ (.forLoop (.Name kS p1) (.ref (Heap.push h₁ _).objs.size) _ _ _) _ ⟨Heap.push (Heap.push h₁ _) _, gens, dr, _, os⟩
  rw [← hh₂, ← hh₃, ← hI₁]
  clear hh₂ hh₃
  refine forLoopN (fun n s => ∃ h tk m x, s = ⟨h, gens, dr, tk, os⟩ ∧ Lv h₀ L sc h m ∧ IsRangeIter h I₁ x n 1 ∧ 0 ≤ x ∧ x + (n : Int) = (n₀ : Int)) ?_ n₀
    ⟨h₃, _, m, 0, rfl, V.keeps (Keeps.trans k₀₂ k₃), hit₃, by omega, by omega⟩ (fun _ => rfl)
  rintro n s ⟨h', tk', m', x, rfl, V', hit', x0, xn⟩
  cases n with
  | zero =>
    refine wpAny_pyNext_range_end r2.handled hit' (by decide) fun h₄ hx => ?_
    have V₄ := V'.iter h0I nL hit' nA nB hx
    obtain ⟨b', hb', K'⟩ := mkB m'
    have X₄ : b'.X h₄ := by subst hb'; exact ⟨FrOf V₄, LiOf V₄⟩
    have Ec : ES b'.cx (.const (.bool true)) (.Constant (.bool true) nn p18) := es_const K'.cx rfl
    subst hb'
    refine execsN_cons (ReturnN (wpN_of (Ec [] h₄ _ _ _ X₄ fun v h₅ tk₅ k₅ r₅ => ?_)))
    cases r₅
    exact hQ h₅ tk₅ m' (V₄.keeps k₅)
  | succ n =>
    refine wpAny_pyNext_range_item hit' (by omega) fun h₄ hit₄ hs₄ => ?_
    have V₄ := V'.iter h0I nL hit' nA nB hs₄.extBut
    obtain ⟨b', hb', K'⟩ := mkB m'
    have X₄ : b'.X h₄ := by subst hb'; exact ⟨FrOf V₄, LiOf V₄⟩
    subst hb'
    refine assign_Name (Bx.store K' lk0 X₄ fun h₅ tk₅ F₅ s₅ => ?_)
    obtain ⟨m₅, hm₅⟩ : ∃ m₅ : Str → Option Value, m₅ = fun y => if y = kS then some (Value.int x tk') else m' y := ⟨_, rfl⟩
    have ns₅ : h₅.Ns L m₅ := by rw [hm₅]; exact F₅.ns
    have mk₅ : m₅ kS = some (.int x tk') := by rw [hm₅]; exact if_pos rfl
    have mc₅ : m₅ scS = some (.ref sc) := by rw [hm₅]; exact setS_ne (mkS_ne' (by decide)) V₄.sc
    have V₅ := V₄.same hL0 ns₅ s₅ mc₅
    have hit₅ : IsRangeIter h₅ I₁ (x + 1) ((n + 1 : Nat) - 1 : Int) 1 := (s₅.2 _ (Ne.symm nL)).trans hit₄
    have e1 : ((n + 1 : Nat) - 1 : Int) = (n : Int) := by omega
    rw [e1] at hit₅
    clear hm₅ F₅
    obtain ⟨b₅, hb₅, K₅⟩ := mkB m₅
    have X₅ : b₅.X h₅ := by subst hb₅; exact ⟨FrOf V₅, LiOf V₅⟩
    obtain ⟨⟨o21, fd21, ho21, hd21⟩, kf⟩ := K₅.cx.fn (ρ := []) X₅ (nth_eq b16) (by subst hb₅; exact b17)
    have FV := FrOf V₅
    have KB₅ := K₅
    subst hb₅
    refine execsN_cons (wpN_of (wpAny_Assign_Name (wpAny_Call_NameR (kf _ _ _ _ (Calls.callWith_function (o := o21) (fd := fd21) (Calls.evalArgs_plain (Calls.spliced_cons (wpAny_Name (wpAny_loadName_local kind lc0 V₅.ns mc₅ ?_) dc0)))))) rfl))
    refine Calls.spliced_cons (wpAny_Name (wpAny_loadName_local kind lk0 V₅.ns mk₅ ?_) dk0)
    refine Calls.spliced_nil ⟨⟨ho21, hd21⟩, ?_⟩
    refine pool_call X.lw.base X.lw.gl X.e21 (r2.mono (by decide)) FV.keep (Nat.le_of_lt (Nat.lt_of_le_of_lt gs V₅.ns.lt)) (LiOf V₅) hi hn x0 (by omega) fun σ h₆ tk₆ S₆ n₆ k₆ => ?_
    have V₆ := V₅.keeps k₆
    have X₆ : Bx.X ⟨prog, w, A.deeper (envX name scope L (addrOf 38) cd []), name, scope, L, addrOf 38, cd, [], g, m₅, fun h => h.IsList sc vs.toArray, gens, dr, os⟩ h₆ := ⟨FrOf V₆, LiOf V₆⟩
    refine Bx.store KB₅ (locOk_parts ls).1 X₆ fun h₇ tk₇ F₇ s₇ => ?_
    obtain ⟨m₇, hm₇⟩ : ∃ m₇ : Str → Option Value, m₇ = fun y => if y = srcS then some (Value.ref σ) else m₅ y := ⟨_, rfl⟩
    have ns₇ : h₇.Ns L m₇ := by rw [hm₇]; exact F₇.ns
    have ms₇ : m₇ srcS = some (.ref σ) := by rw [hm₇]; exact if_pos rfl
    have mc₇ : m₇ scS = some (.ref sc) := by rw [hm₇]; exact setS_ne (mkS_ne' (by decide)) mc₅
    have V₇ := V₆.same hL0 ns₇ s₇ mc₇
    have there₅ : ∀ {a : Addr} {o : Obj}, h₅.get? a = some o → a ≠ σ := fun {a o} e z => by rw [z, n₆] at e; cases e
    have σL : σ ≠ L := by
      obtain ⟨oL, es, ep, hoL, _⟩ := V₅.ns
      exact Ne.symm (there₅ hoL)
    have hσ0 : h₀.get? σ = none := by
      cases q : h₀.get? σ with
      | none => rfl
      | some o =>
        have a310 : σ ≠ 310 := by
          obtain ⟨vs, o, e, _⟩ := V₅.tA.fields
          exact Ne.symm (there₅ e)
        have a317 : σ ≠ 317 := by
          obtain ⟨vs, o, e, _⟩ := V₅.tB.fields
          exact Ne.symm (there₅ e)
        exact absurd rfl (there₅ (V₅.keep _ _ a310 a317 q))
    have hI₅ : h₅.get? I₁ = some _ := hit₅
    have hI₇ := (s₇.2 _ (Ne.symm nL)).trans (k₆ _ _ hI₅)
    have S₇ : Src h₇ σ := Src.same s₇ σL S₆
    show wpN _ _ (execs [(innerPat scope).im dI] _) _ _
    refine execsN_cons (law_inner X room fr kind hg₀ gs hL0 hσ0 σL ls lt h310 h317 dI V₇ ms₇ S₇ hI₇ h0I (Ne.symm nL) (there₅ hI₅) fun h₈ tk₈ m₈ V₈ hI₈ => ?_)
    refine execsN_nil ?_
    exact ⟨n, Nat.lt_succ_self n, h₈, tk₈, m₈, x + 1, rfl, V₈, hI₈, by omega, by omega⟩
theorem law_body (X : LawCtx prog w KF g mg C bmB newId) {A : Around} {name : Str} {scope : Scope} {L : Addr} {cd : Value} (room : Room A 15) (fr : A.frames = some []) (kind : scope.kind = .function) {h₀ : Heap} {sc : Addr} {vs : List Value} {ns : List Int} (hg₀ : ∀ b o, g.get? b = some o → h₀.get? b = some o ∧ b ≠ 310 ∧ b ≠ 317) (gs : g.objs.size ≤ L) (hL0 : h₀.get? L = none)
    (lc : locOk scope scS = true) (lk : locOk scope kS = true) (ls : locOk scope srcS = true) (lt : locOk scope tuS = true) (h310 : h₀.get? 310 ≠ none) (h317 : h₀.get? 317 ≠ none) (hL : h₀.IsList sc vs.toArray) (hi : IntsAre vs ns) (hn : ns.length ≤ 63) (s310 : sc ≠ 310) (s317 : sc ≠ 317)
    (d : (lawPat scope).D) {h : Heap} {m : Str → Option Value} {tk : Nat} {gens : Array GenState} {dr : Drawn} {os : OsState} {Q : Flow → Shared → Prop} (V : Lv h₀ L sc h m)
    (hQ : ∀ h' tk' m', Lv h₀ L sc h' m' → Q (.ret (.bool true)) ⟨h', gens, dr, tk', os⟩) :
    wpN (model prog w) (A.deeper (envX name scope L (addrOf 38) cd [])) (execs ((lawPat scope).im d) (envX name scope L (addrOf 38) cd [])) Q ⟨h, gens, dr, tk, os⟩ := 
  law_body_core X room fr kind hg₀ gs hL0 lc lk ls lt h310 h317 hL hi hn s310 s317 d.1.2.1.1.1.2 d.1.2.1.2.1.1.1.2 (andL d.1.2.1.2.1.2.1.1.2) (andR d.1.2.1.2.1.2.1.1.2) d.1.2.1.2.1.2.1.2.1.1.2 d.1.2.1.2.1.2.1.2.2.1.1.1.1.2 (andL d.1.2.1.2.1.2.1.2.2.1.2.2) (andR d.1.2.1.2.1.2.1.2.2.1.2.2) (andL d.1.2.2.1.1.2.1.1.1.2) (andR d.1.2.2.1.1.2.1.1.1.2) d.1.2.2.1.2 V hQ

theorem law_call (X : LawCtx prog w KF g mg C bmB newId) (e38 : dHead KF (addrOf 38) lawChk = true) {A : Around} (room : Room A 15) (fr : A.frames = some []) {h₀ : Heap} {sc : Addr} {vs : List Value} {ns : List Int} (hg₀ : ∀ b o, g.get? b = some o → h₀.get? b = some o ∧ b ≠ 310 ∧ b ≠ 317) (gs : g.objs.size ≤ h₀.objs.size)
    (hL : h₀.IsList sc vs.toArray) (hi : IntsAre vs ns) (hn : ns.length ≤ 63) (tA : TabOk 310 posA qualA h₀) (tB : TabOk 317 posB qualB h₀) {tk : Nat} {gens : Array GenState} {dr : Drawn} {os : OsState} {Q : Value → Shared → Prop}
    (hQ : ∀ h' tk', (∀ b o, b ≠ 310 → b ≠ 317 → h₀.get? b = some o → h'.get? b = some o) → TabOk 310 posA qualA h' → TabOk 317 posB qualB h' → Q (.bool true) ⟨h', gens, dr, tk', os⟩) :
    wpN (model prog w) A (call (.ref (addrOf 38)) [.ref sc]) Q ⟨h₀, gens, dr, tk, os⟩ := by
  obtain ⟨name, params, body, scope, pm, cd, doc, di, hp⟩ := d_of_chk e38
  obtain ⟨ob, ho, hd⟩ := di.obj
  have kg : Keeps g h₀ := fun b o e => (hg₀ b o e).1
  obtain ⟨Xk, p, l, mg', mb, T⟩ := X.lw.base.keeps kg
  have p1 := andL (andL (andL hp))
  have p2 := andR (andL (andL hp))
  have p3 := andL (andR (andL hp))
  have p4 := andR (andR (andL hp))
  have p5 := andL (andL (andR hp))
  have p6 := andR (andL (andR hp))
  replace hp := andR (andR hp)
  have hbind := binds_of (name := name) (body := body) (scope := scope) (pm := pm) (cd := cd) (doc := doc) (pars_of p1) (by rfl) (vs := [.ref sc]) rfl (by decide) (by decide)
  have hsn : ∀ {P : Addr} {pos : Pos} {q : Str}, TabOk P pos q h₀ → sc ≠ P := fun {P pos q} t z => by
    obtain ⟨vs', o, e, hd'⟩ := t.fields
    obtain ⟨o', ho', _, n, hd''⟩ := hL
    rw [z, e] at ho'
    cases ho'
    rw [hd'] at hd''
    cases hd''
  refine wpN_call (call_plainN (by have := room.depth; omega) (Xk _ _ ho) hd T.nolimit (codeRec_of Xk di.code) hbind (fun x hx => ?_) (fun h₁ F₁ => ?_) di.co di.gen di.kind (fun x hx z => ?_))
  · obtain rfl : x = (scS, .ref sc) := by simpa using hx
    exact (locOk_parts p3).1
  · have k₁ : Keeps h₀ h₁ := F₁.keep
    obtain ⟨d, rfl⟩ := Pat.of hp
    refine law_body X room fr di.kind (L := h₀.objs.size) hg₀ gs (get_size _) p3 p4 p5 p6 tA.there tB.there hL hi hn (hsn tA) (hsn tB) d
      (⟨F₁.ns, rfl, fun b o _ _ e => k₁ b o e, tA.keeps k₁, tB.keeps k₁⟩ : Lv h₀ h₀.objs.size sc h₁ _) fun h' tk' m' V' => ?_
    exact hQ h' tk' V'.keep V'.tA V'.tB
  · have := List.all_eq_true.mp p2 x hx
    rw [z] at this
    cases this
end
end Mine
end

section
set_option maxRecDepth 100000
set_option linter.unusedVariables false
set_option genSizeOf false
set_option genInjectivity false
open PySem PySem.W PySem.NumText PyProof.Rows PySem.Builtin
namespace Mine

/-- what the kernel looks up in the written heap -/
structure KFacts (KF : Frag) : Prop where
  gl : glChk KF addrOf = true
  fns : fnsChk KF Mine.prog = true
  exc : excChk KF 44 31 28 = true
  exi : excIn KF 44 [.ref 31, .type "Exception", .type "BaseException", .type "object"] "Exception.__new__" = true
  k0 : fnHead KF 65 f_utf8 (fun sc b => utf8Chk (f_utf8.names.map mkS) sc b) = true
  k10 : fnHead KF (addrOf 10) f_as_blob (fun sc b => asBlobChk (f_as_blob.names.map mkS) sc b) = true
  k11 : fnHead KF (addrOf 11) f_cast_value (fun sc b => castChk (f_cast_value.names.map mkS) sc b) = true
  k32 : fnHead KF (addrOf 32) f_told (fun sc b => toldChk (f_told.names.map mkS) sc b) = true
  name : nsIn KF mainGlobals ("SqlError" : Str) = some (some (.ref 44))
  law : nsIn KF mainGlobals ("law" : Str) = some (some (.ref (addrOf 38)))
  k21 : dHead KF (addrOf 21) poolChk = true
  k22 : dHead KF (addrOf 22) takeChk = true
  k23 : dHead KF (addrOf 23) oneChk = true
  k26 : dHead KF (addrOf 26) valueChk = true
  k36 : dHead KF (addrOf 36) aloneChk = true
  k37 : dHead KF (addrOf 37) pairChk = true
  k38 : dHead KF (addrOf 38) lawChk = true
  cA : codeHdIn KF 314 310 = true
  cB : codeHdIn KF 321 317 = true
  noT : noTabs KF = true

section
variable {prog : Program} {w : World} {KF : Frag} {h₁ : Heap} {mg mb : Str → Option Value} {p : Program} {loose : List Str} {mean : ExcName → Option Value}
noncomputable abbrev tabsL : List (Addr × Addr) := [(314, 310), (321, 317)]
theorem tabs_at (k : KFacts KF) (X : KF.In h₁) (hT : ∀ P ∈ ([310, 317] : List Addr), h₁.get? P = some (tabObj #[])) : TabsAt tabsL h₁ :=
  List.forall_mem_cons.mpr ⟨⟨codeHd_of_K X k.cA, hT 310 (by simp)⟩, List.forall_mem_cons.mpr ⟨⟨codeHd_of_K X k.cB, hT 317 (by simp)⟩, fun _ h => nomatch h⟩⟩
theorem runs_of (k : KFacts KF) (d : Nat) : CallOk prog w KF addrOf (.ref 44) (run Mine.prog d) d :=
  run_ok (gl_of_chk k.gl) (fns_of_chk k.fns (raise_ok (exc_of_chk k.exc).1 (exc_of_chk k.exc).2)) d
theorem blob_of (k : KFacts KF) (x : A) (r : V) (e : blobOfV (run Mine.prog 10) x = .ok r) : CallN prog w KF (addrOf 11) 12 [.at x, .at (.str [98, 108, 111, 98])] r :=
  cast_call (gl_of_chk k.gl) (runs_of k 11) k.k11 (fun z => by subst z; cases e; rfl) fun _ =>
    asBlob_call (gl_of_chk k.gl) (runs_of k 10) k.k10 e fun l hA hn => utf8_call (gl_of_chk k.gl) (runs_of k 9) k.k0 hA hn
theorem law_ctx (k : KFacts KF) (X : KF.In h₁) (hT : ∀ P ∈ ([310, 317] : List Addr), h₁.get? P = some (tabObj #[])) (T : Top p loose mean mg mb h₁)
    (FP : ∀ x ∈ menuL, ∀ y ∈ menuB, ∀ l ∈ opsL, ∃ r q, PairFact x y l r q) (FA : ∀ x ∈ menuL, ∃ n r b o c, AloneFact x n r b o c) :
    LawCtx prog w KF (ghostOf h₁ tabsL) mg 44 [.ref 31, .type "Exception", .type "BaseException", .type "object"] "Exception.__new__" := by
  have hT9 := tabs_at k X hT
  have X' := ghost_K hT9 X k.noT
  have T' := ghost_top hT9 T
  refine ⟨⟨⟨X', T'.g, ?_⟩, ⟨X', _, _, _, _, topRead_of T'⟩, gl_of_chk k.gl, runs_of k, k.k32, k.name, k.exi, by decide, blob_of k⟩, k.k37, k.k36, k.k26, k.k23, k.k22, k.k21, codeHd_of_K X' k.cB, ?_, codeHd_of_K X' k.cA, ?_, FP, FA⟩
  · exact T'.bmain
  · exact hideAll_none _ (by simp)
  · exact hideAll_none _ (by simp)

theorem law_top (k : KFacts KF) {A : Around} (room : Room A 15) (fr : A.frames = some []) (X : KF.In h₁) (hT : ∀ P ∈ ([310, 317] : List Addr), h₁.get? P = some (tabObj #[])) (T : Top p loose mean mg mb h₁)
    (FP : ∀ x ∈ menuL, ∀ y ∈ menuB, ∀ l ∈ opsL, ∃ r q, PairFact x y l r q) (FA : ∀ x ∈ menuL, ∃ n r b o c, AloneFact x n r b o c) {fa sc : Addr} (hm : mg ("law" : Str) = some (.ref fa)) {vs : List Value} {ns : List Int} (hL : h₁.IsList sc vs.toArray) (hi : IntsAre vs ns) (hn : ns.length ≤ 63)
    {tk : Nat} {gens : Array GenState} {dr : Drawn} {os : OsState} {Q : Value → Shared → Prop}
    (hQ : ∀ h' tk', (∀ b o, b ≠ 310 → b ≠ 317 → h₁.get? b = some o → h'.get? b = some o) → (∃ ps, h'.get? 310 = some (tabObj ps)) → (∃ ps, h'.get? 317 = some (tabObj ps)) → Q (.bool true) ⟨h', gens, dr, tk', os⟩) :
    wpN (model prog w) A (call (.ref fa) [.ref sc]) Q ⟨h₁, gens, dr, tk, os⟩ := by
  have C := law_ctx (prog := prog) (w := w) k X hT T FP FA
  have e := mg_of X T.g k.law
  rw [hm] at e
  cases e
  have tabs : ∀ {P : Addr} {pos : Pos} {q : Str} {h : Heap}, TabOk P pos q h → ∃ ps, h.get? P = some (tabObj ps) := fun t => by
    rcases t with t | ⟨c', t, _⟩
    · exact ⟨_, t⟩
    · exact ⟨_, t⟩
  refine law_call C k.k38 room fr (fun b o e => ⟨of_hideAll _ e, fun z => ?_, fun z => ?_⟩) (Nat.le_of_eq (hideAll_size _ _)) hL hi hn (Or.inl (hT 310 (by simp))) (Or.inl (hT 317 (by simp))) fun h' tk' kp tA tB => hQ h' tk' kp (tabs tA) (tabs tB)
  · rw [z] at e
    rw [show (ghostOf h₁ tabsL).get? 310 = none from hideAll_none _ (by simp)] at e
    cases e
  · rw [z] at e
    rw [show (ghostOf h₁ tabsL).get? 317 = none from hideAll_none _ (by simp)] at e
    cases e

/-- the law's end -/
theorem good_end {s₁ s' : Shared} {cw : ClaimW} {cl : Str → Option Addr} {args : List WData} (k : KFacts KF) (X : KF.In s₁.heap) (hT : ∀ P ∈ ([310, 317] : List Addr), s₁.heap.get? P = some (tabObj #[])) (hr : ∀ a x, cw.raises a x = false) (hp : cw.post args (.bool true) args = true)
    (hk : ∀ b o, b ≠ 310 → b ≠ 317 → s₁.heap.get? b = some o → s'.heap.get? b = some o) (h1 : ∃ ps, s'.heap.get? 310 = some (tabObj ps)) (h2 : ∃ ps, s'.heap.get? 317 = some (tabObj ps)) (hos : s'.os = s₁.os) (hg : s'.gens = #[]) :
    GoodWG cw cl mean args s₁ (.ok (.ret (.bool true))) s' := by
  have hT9 := tabs_at k X hT
  have grown : ∀ b o, (b = 310 ∨ b = 317) → s₁.heap.get? b = some o → isCodeTable s₁.heap b ∧ o = tabObj #[] ∧ ∃ ps, s'.heap.get? b = some (tabObj ps) := fun b o hb e => by
    rcases hb with rfl | rfl
    · have e2 := hT 310 (by simp)
      rw [e] at e2
      exact ⟨((hT9 (314, 310) (by simp)).1.tab (hT 310 (by simp))).isCodeTable, Option.some.inj e2, h1⟩
    · have e2 := hT 317 (by simp)
      rw [e] at e2
      exact ⟨((hT9 (321, 317) (by simp)).1.tab (hT 317 (by simp))).isCodeTable, Option.some.inj e2, h2⟩
  refine ⟨.inl ⟨.bool true, .bool true, [], rfl, fun x => hr args x, .bool true, hp, fun _ => ⟨.nil, fun _ ha => nomatch ha⟩⟩, ⟨fun b o e => ?_, fun b o e => ?_⟩, hos, .of_eq hg⟩
  · by_cases hb : b = 310 ∨ b = 317
    · obtain ⟨ht, rfl, ps, hP⟩ := grown b o hb e
      exact .inr (.inl ⟨ht, rfl, #[], ps, rfl, by rw [Array.empty_append]; exact hP⟩)
    · exact .inl (hk b o (fun z => hb (Or.inl z)) (fun z => hb (Or.inr z)) e)
  · by_cases hb : b = 310 ∨ b = 317
    · obtain ⟨_, _, ps, hP⟩ := grown b o hb e
      exact ⟨_, hP⟩
    · exact ⟨o, hk b o (fun z => hb (Or.inl z)) (fun z => hb (Or.inr z)) e⟩
end
end Mine
end

section
set_option maxRecDepth 100000
set_option linter.unusedVariables false
set_option genSizeOf false
set_option genInjectivity false
open PySem PySem.W PyProof.Rows
namespace Mine

noncomputable def eqA : A → A → Bool
  | .none, .none => true
  | .bool a, .bool b => a == b
  | .int a, .int b => a == b
  | .str a, .str b => a == b
  | .bytes a, .bytes b => a == b
  | _, _ => false
theorem eqA_eq {a b : A} (h : eqA a b = true) : a = b := by
  unfold eqA at h
  split at h <;> first | rfl | (cases h; done) | (rw [eq_of_beq h])
noncomputable def isAtA (v : V) (a : A) : Bool := match v with
  | .at b => eqA b a
  | _ => false
theorem isAtA_eq {v : V} {a : A} (h : isAtA v a = true) : v = .at a := by
  unfold isAtA at h
  split at h
  · rw [eqA_eq h]
  · cases h
noncomputable def isUndef : V → Bool
  | .undef => true
  | _ => false
theorem isUndef_eq {v : V} (h : isUndef v = true) : v = .undef := by cases v <;> first | rfl | cases h
noncomputable def isTrueR : Res V → Bool
  | .ok (.at (.bool true)) => true
  | _ => false
theorem isTrueR_eq {r : Res V} (h : isTrueR r = true) : r = .ok (.at (.bool true)) := by
  unfold isTrueR at h
  split at h
  · rfl
  · cases h
noncomputable def okA : Res V → Option A
  | .ok (.at a) => some a
  | _ => none
theorem okA_eq {r : Res V} {a : A} (h : okA r = some a) : r = .ok (.at a) := by
  unfold okA at h
  split at h
  · cases h; rfl
  · cases h
/-- the state behind a statement of the law of one value -/
noncomputable def st3 : Res Fl → A → Option (V × V)
  | .ok (.next [.at a, v, w]), x => if eqA a x then some (v, w) else none
  | _, _ => none
noncomputable def nextIs (r : Res Fl) (x : A) (v w : V → Bool) : Bool := match r with
  | .ok (.next [.at a, y, z]) => eqA a x && v y && w z
  | _ => false
theorem nextIs_eq {r : Res Fl} {x : A} {v w : V → Bool} (h : nextIs r x v w = true) : ∃ y z, r = .ok (.next [.at x, y, z]) ∧ v y = true ∧ w z = true := by
  unfold nextIs at h
  split at h
  · simp only [Bool.and_eq_true] at h
    obtain ⟨⟨h1, h2⟩, h3⟩ := h
    rw [eqA_eq h1]
    exact ⟨_, _, rfl, h2, h3⟩
  · cases h
noncomputable def alone1 (a n : A) : Bool :=
  nextIs (execP (run prog 12) (pA 1) [.at a, .at n, .undef]) a (isAtA · n) isUndef && nextIs (execP (run prog 12) (pA 3) [.at a, .at n, .undef]) a (isAtA · n) isUndef &&
  nextIs (execP (run prog 12) (pA 4) [.at a, .at n, .undef]) a (isAtA · n) isUndef && nextIs (execP (run prog 12) (pA 5) [.at a, .at n, .undef]) a (isAtA · n) isUndef &&
  (match toldRes (evalE (run prog 10) (toldIn (pA 2)) [.at a]), okA (evalE (run prog 12) (toldTo (pA 2)) [.at a, .at n, .undef]) with
    | some r, some b => isTrueR (run prog 12 33 [.at r, .at b])
    | _, _ => false) &&
  (match execP (run prog 12) (pA 6) [.at a, .at n, .undef], okA (blobOfV (run prog 10) a) with
    | .ok (.next [.at a', .at n', .at o]), some c => eqA a' a && eqA n' n && isTrueR (run prog 12 33 [.at c, .at o])
    | _, _ => false)
noncomputable def aloneB (a : A) : Bool := match execP (run prog 12) (pA 0) [.at a, .undef, .undef] with
  | .ok (.next [.at a', .at n, .undef]) => eqA a' a && alone1 a n
  | _ => false
theorem ga : menuL.all aloneB = true := by kernel_rfl
end Mine
end

section
set_option maxRecDepth 100000
set_option linter.unusedVariables false
set_option genSizeOf false
set_option genInjectivity false
open PySem PySem.W PyProof.Rows
namespace Mine
theorem keep_eq {r : Res Fl} {a n : A} (h : nextIs r a (isAtA · n) isUndef = true) : r = .ok (.next [.at a, .at n, .undef]) := by
  obtain ⟨y, z, e, h1, h2⟩ := nextIs_eq h
  rw [e, isAtA_eq h1, isUndef_eq h2]
theorem alone_fact {a : A} (h : aloneB a = true) : ∃ n r b o c, AloneFact a n r b o c := by
  unfold aloneB at h
  split at h
  · rename_i a' n e0
    obtain ⟨h0, h⟩ := Bool.and_eq_true_iff.mp h
    have e := eqA_eq h0
    subst e
    unfold alone1 at h
    simp only [Bool.and_eq_true] at h
    obtain ⟨⟨⟨⟨⟨h1, h3⟩, h4⟩, h5⟩, h2⟩, h6⟩ := h
    split at h2
    · rename_i r b er eb
      split at h6
      · rename_i a2 n2 o c e6 ec
        simp only [Bool.and_eq_true] at h6
        obtain ⟨⟨h6a, h6b⟩, h6c⟩ := h6
        have ea := eqA_eq h6a
        have en := eqA_eq h6b
        subst ea
        subst en
        exact ⟨_, r, b, o, c, ⟨e0, keep_eq h1, er, okA_eq eb, isTrueR_eq h2, keep_eq h3, keep_eq h4, keep_eq h5, e6, okA_eq ec, isTrueR_eq h6c⟩⟩
      · cases h6
    · cases h2
  · cases h
theorem FA : ∀ x ∈ menuL, ∃ n r b o c, AloneFact x n r b o c := fun x hx => alone_fact (List.all_eq_true.mp ga x hx)
end Mine
end

section
set_option maxRecDepth 100000
set_option linter.unusedVariables false
set_option genSizeOf false
set_option genInjectivity false
open PySem PySem.W PyProof.Rows
namespace Mine
noncomputable def seqDrop : PS → Nat → PS
  | p, 0 => p
  | .seq _ q, n + 1 => seqDrop q n
  | p, _ + 1 => p
noncomputable def restA : PS := seqDrop f_arith.body 4
noncomputable def restR : PS := seqDrop f_law_reckoned.body 3
noncomputable def I20 : List Int := [0, 1, -1, 2, 7, 10, -10, 4611686018427387904, 9223372036854775807, -9223372036854775808, 3, -4, 1537228672809129301, 3074457345618258602, -3074457345618258603, 12, 63, 64, -64, 65]
noncomputable def pairI (x y : V) (l : List Nat) (i j : Int) : Bool :=
  match toldRes (retOf (execP (run prog 9) restA [.at (.str l), x, y, .at (.int i), .at (.int j), .undef])), okA (retOf (execP (run prog 11) restR [.at (.str l), x, y, .at (.int i), .at (.int j), .undef, .undef, .undef, .undef, .undef])) with
  | some r, some q => isTrueR (run prog 12 33 [.at r, .at q])
  | _, _ => false
theorem gi1 (x y : V) : (I20.all fun i => I20.all fun j => pairI x y [43] i j) = true := by kernel_rfl
theorem gi2 (x y : V) : (I20.all fun i => I20.all fun j => pairI x y [45] i j) = true := by kernel_rfl
theorem gi3 (x y : V) : (I20.all fun i => I20.all fun j => pairI x y [42] i j) = true := by kernel_rfl
theorem gi4 (x y : V) : (I20.all fun i => I20.all fun j => pairI x y [47] i j) = true := by kernel_rfl
theorem gi5 (x y : V) : (I20.all fun i => I20.all fun j => pairI x y [37] i j) = true := by kernel_rfl
theorem gi6 (x y : V) : (I20.all fun i => I20.all fun j => pairI x y [60, 60] i j) = true := by kernel_rfl
theorem gi7 (x y : V) : (I20.all fun i => I20.all fun j => pairI x y [62, 62] i j) = true := by kernel_rfl
end Mine
end

section
set_option maxRecDepth 100000
set_option linter.unusedVariables false
set_option genSizeOf false
set_option genInjectivity false
open PySem PySem.W PyProof.Rows
namespace Mine

/-! the loop over bits -/
theorem posI {b : Int} (h1 : 1 ≤ b) : ∃ n : Nat, b = Int.ofNat n ∧ 1 ≤ n := by
  cases b with
  | ofNat n => exact ⟨n, rfl, by have : (1 : Int) ≤ (n : Int) := h1; omega⟩
  | negSucc n => exact absurd h1 (by simp; omega)
theorem isZero_pos {b : Int} (h1 : 1 ≤ b) : isZero b = false := by
  obtain ⟨n, rfl, hn⟩ := posI h1
  show Nat.beq n 0 = false
  cases n with
  | zero => omega
  | succ n => rfl
theorem wBig_of {b : Int} (h1 : 1 ≤ b) (h2 : b ≤ 18446744073709551616) : wBig b = true := by
  obtain ⟨n, rfl, hn⟩ := posI h1
  have : n ≤ 18446744073709551616 := by have : (n : Int) ≤ 18446744073709551616 := h2; omega
  exact Nat.ble_eq_true_of_le (by show n + 1 ≤ _; omega)
theorem binI_fdivW {a b : Int} (h1 : 1 ≤ b) (h2 : b ≤ 18446744073709551616) : binI .fdiv a b = okI (a.fdiv b) := by
  show (match !isZero b && wBig b with | true => okI _ | false => .fail) = _
  rw [isZero_pos h1, wBig_of h1 h2]
  rfl
theorem w64W {b : Int} (h1 : 1 ≤ b) (h2 : b < 18446744073709551616) : w64 b = true := by
  obtain ⟨n, rfl, hn⟩ := posI h1
  have : n < 18446744073709551616 := by have : (n : Int) < 18446744073709551616 := h2; omega
  exact Nat.ble_eq_true_of_le (by show n + 1 ≤ _; omega)

noncomputable def bitOf (am : Bool) (p q : Int) : Int := match am with
  | true => if q < p then q else p
  | false => if p < q then q else p
noncomputable def opB : Bool → List Nat
  | true => [38]
  | false => [124]
noncomputable def stepF (am : Bool) (i j f b : Int) : Int := f + b * bitOf am ((i.fdiv b).fmod 2) ((j.fdiv b).fmod 2)
noncomputable def foldF (am : Bool) (i j : Int) : Nat → Int → Int → Int
  | 0, f, _ => f
  | n + 1, f, b => foldF am i j n (stepF am i j f b) (b * 2)
noncomputable def tB : PS := .seq (.assign 8 (.lst2 (.bin .mod (.bin .fdiv (.loc 3) (.loc 6)) (.const (A.int 2))) (.bin .mod (.bin .fdiv (.loc 4) (.loc 6)) (.const (A.int 2)))))
  (.seq (.assign 5 (.bin .add (.loc 5) (.bin .mul (.loc 6) (.ite (.cmp .eq (.loc 0) (.const (A.str [38]))) (.minl (.loc 8)) (.maxl (.loc 8)))))) (.seq (.assign 6 (.bin .mul (.loc 6) (.const (A.int 2)))) .skip))

section
variable {Φ : Nat → List V → Res V}
theorem seq_assign {i : Nat} {a : PE} {q : PS} {ρ : List V} {v : V} (h : evalE Φ a ρ = .ok v) : execP Φ (.seq (.assign i a) q) ρ = execP Φ q (setV ρ i v) := by
  show (((evalE Φ a ρ).bind fun v => Res.ok (Fl.next (setV ρ i v))).bind fun f => match f with | .next ρ' => execP Φ q ρ' | .ret v => .ok (.ret v)) = _
  rw [h]
  rfl
theorem seq_ite_f {t : PE} {p q : PS} {ρ : List V} (h : (evalE Φ t ρ).bind truthy = .ok false) : execP Φ (.seq (.ite t p .skip) q) ρ = execP Φ q ρ := by
  show (((evalE Φ t ρ).bind fun v => (truthy v).bind fun c => match c with | true => execP Φ p ρ | false => execP Φ .skip ρ).bind fun f => match f with | .next ρ' => execP Φ q ρ' | .ret v => .ok (.ret v)) = _
  rw [← Res.assoc, h]
  rfl
theorem seq_ite_t {t : PE} {p q : PS} {ρ : List V} {v : V} (h : (evalE Φ t ρ).bind truthy = .ok true) (hp : execP Φ p ρ = .ok (.ret v)) : execP Φ (.seq (.ite t p .skip) q) ρ = .ok (.ret v) := by
  show (((evalE Φ t ρ).bind fun v => (truthy v).bind fun c => match c with | true => execP Φ p ρ | false => execP Φ .skip ρ).bind fun f => match f with | .next ρ' => execP Φ q ρ' | .ret v => .ok (.ret v)) = _
  rw [← Res.assoc, h]
  show ((execP Φ p ρ).bind _) = _
  rw [hp]
  rfl
theorem ev_bin {op : BOp} {a c : PE} {ρ : List V} {v w : V} (ha : evalE Φ a ρ = .ok v) (hc : evalE Φ c ρ = .ok w) : evalE Φ (.bin op a c) ρ = binV op v w := by
  show ((evalE Φ a ρ).bind fun v => (evalE Φ c ρ).bind fun w => binV op v w) = _
  rw [ha]
  show ((evalE Φ c ρ).bind fun w => binV op v w) = _
  rw [hc]
  rfl

theorem ev_lst2 {a c : PE} {ρ : List V} {p q : A} (ha : evalE Φ a ρ = .ok (.at p)) (hc : evalE Φ c ρ = .ok (.at q)) : evalE Φ (.lst2 a c) ρ = .ok (.lst [p, q]) := by
  show ((evalE Φ a ρ).bind fun v => (evalE Φ c ρ).bind fun w => (atom v).bind fun x => (atom w).bind fun y => Res.ok (V.lst [x, y])) = _
  rw [ha]
  show ((evalE Φ c ρ).bind fun w => (atom (V.at p)).bind fun x => (atom w).bind fun y => Res.ok (V.lst [x, y])) = _
  rw [hc]
  rfl

theorem bit_turn {am : Bool} {x y z z' r : V} {i j f b : Int} (h1 : 1 ≤ b) (h2 : b < 18446744073709551616) :
    ∃ z'', execP Φ tB [.at (.str (opB am)), x, y, .at (.int i), .at (.int j), .at (.int f), .at (.int b), z, z', r] =
      .ok (.next [.at (.str (opB am)), x, y, .at (.int i), .at (.int j), .at (.int (stepF am i j f b)), .at (.int (b * 2)), z, z'', r]) := by
  refine ⟨.lst [.int ((i.fdiv b).fmod 2), .int ((j.fdiv b).fmod 2)], ?_⟩
  have e2 : ∀ a : Int, binI .mod a 2 = okI (a.fmod 2) := fun a => binI_mod (by decide) (by decide)
  have q1 : ∀ k : Int, ∀ ρ : List V, ∀ n, n_loc n ρ = .ok (.at (.int k)) → n_loc 6 ρ = .ok (.at (.int b)) → evalE Φ (.bin .mod (.bin .fdiv (.loc n) (.loc 6)) (.const (A.int 2))) ρ = .ok (.at (.int ((k.fdiv b).fmod 2))) := fun k ρ n hk hb => by
    have := ev_bin (Φ := Φ) (op := .fdiv) (a := .loc n) (c := .loc 6) (ρ := ρ) hk hb
    rw [show binV .fdiv (.at (.int k)) (.at (.int b)) = binI .fdiv k b from rfl, binI_fdivW h1 (Int.le_of_lt h2)] at this
    rw [ev_bin (Φ := Φ) (op := .mod) (c := .const (A.int 2)) this rfl]
    exact e2 _
  have l2 : evalE Φ (.lst2 (.bin .mod (.bin .fdiv (.loc 3) (.loc 6)) (.const (A.int 2))) (.bin .mod (.bin .fdiv (.loc 4) (.loc 6)) (.const (A.int 2)))) [.at (.str (opB am)), x, y, .at (.int i), .at (.int j), .at (.int f), .at (.int b), z, z', r] = .ok (.lst [.int ((i.fdiv b).fmod 2), .int ((j.fdiv b).fmod 2)]) := ev_lst2 (q1 i _ 3 rfl rfl) (q1 j _ 4 rfl rfl)
  unfold tB
  rw [seq_assign l2]
  have m : evalE Φ (.ite (.cmp .eq (.loc 0) (.const (A.str [38]))) (.minl (.loc 8)) (.maxl (.loc 8))) (setV [.at (.str (opB am)), x, y, .at (.int i), .at (.int j), .at (.int f), .at (.int b), z, z', r] 8 (.lst [.int ((i.fdiv b).fmod 2), .int ((j.fdiv b).fmod 2)])) =
      .ok (.at (.int (bitOf am ((i.fdiv b).fmod 2) ((j.fdiv b).fmod 2)))) := by cases am <;> rfl
  have mu := ev_bin (Φ := Φ) (op := .mul) (a := .loc 6) (ρ := setV [.at (.str (opB am)), x, y, .at (.int i), .at (.int j), .at (.int f), .at (.int b), z, z', r] 8 (.lst [.int ((i.fdiv b).fmod 2), .int ((j.fdiv b).fmod 2)])) (v := .at (.int b)) rfl m
  rw [show binV .mul (.at (.int b)) (.at (.int (bitOf am ((i.fdiv b).fmod 2) ((j.fdiv b).fmod 2)))) = binI .mul b (bitOf am ((i.fdiv b).fmod 2) ((j.fdiv b).fmod 2)) from rfl, binI_mul (by rw [w64W h1 h2]; rfl)] at mu
  have ad := ev_bin (Φ := Φ) (op := .add) (a := .loc 5) (v := .at (.int f)) rfl mu
  rw [seq_assign ad]
  have m2 := ev_bin (Φ := Φ) (op := .mul) (a := .loc 6) (c := .const (A.int 2)) (ρ := setV (setV [.at (.str (opB am)), x, y, .at (.int i), .at (.int j), .at (.int f), .at (.int b), z, z', r] 8 (.lst [.int ((i.fdiv b).fmod 2), .int ((j.fdiv b).fmod 2)])) 5 (.at (.int (f + b * bitOf am ((i.fdiv b).fmod 2) ((j.fdiv b).fmod 2))))) (v := .at (.int b)) (w := .at (.int 2)) rfl rfl
  rw [show binV .mul (.at (.int b)) (.at (.int 2)) = binI .mul b 2 from rfl, binI_mul (by rw [show w64 2 = true from rfl, Bool.or_true])] at m2
  refine (seq_assign m2).trans ?_
  rfl

theorem bit_loop {am : Bool} {x y r : V} {i j : Int} : ∀ (n : Nat) (k : Int) (z z' : V) (f b : Int), 1 ≤ b → b * 2 ^ n ≤ 18446744073709551616 →
    ∃ z₁ z₂ b', forF 7 (execP Φ tB) (rangeV k n) [.at (.str (opB am)), x, y, .at (.int i), .at (.int j), .at (.int f), .at (.int b), z, z', r] =
      .ok (.next [.at (.str (opB am)), x, y, .at (.int i), .at (.int j), .at (.int (foldF am i j n f b)), b', z₁, z₂, r])
  | 0, k, z, z', f, b, h1, h2 => ⟨z, z', _, rfl⟩
  | n + 1, k, z, z', f, b, h1, h2 => by
    have hp : (1 : Int) ≤ 2 ^ n := by
      have : 0 < (2 : Int) ^ n := Int.pow_pos (by decide)
      omega
    have e : (2 : Int) ^ (n + 1) = 2 ^ n * 2 := Int.pow_succ 2 n
    have h3 : b * 2 ^ (n + 1) = (b * 2) * 2 ^ n := by rw [e, Int.mul_comm (2 ^ n) 2, ← Int.mul_assoc]
    have hb : b < 18446744073709551616 := by
      have h4 : (b * 2) * 1 ≤ (b * 2) * 2 ^ n := Int.mul_le_mul_of_nonneg_left hp (by omega)
      rw [h3] at h2
      omega
    obtain ⟨z'', ht⟩ := bit_turn (Φ := Φ) (am := am) (x := x) (y := y) (z := .at (.int k)) (z' := z') (r := r) (i := i) (j := j) (f := f) (b := b) h1 hb
    obtain ⟨z₁, z₂, b', hl⟩ := bit_loop n (k + 1) (.at (.int k)) z'' (stepF am i j f b) (b * 2) (by omega) (by rw [← h3]; exact h2)
    refine ⟨z₁, z₂, b', ?_⟩
    show ((quiet (execP Φ tB [.at (.str (opB am)), x, y, .at (.int i), .at (.int j), .at (.int f), .at (.int b), .at (.int k), z', r])).bind fun fl => match fl with
      | .next ρ' => forF 7 (execP Φ tB) (rangeV (k + 1) n) ρ'
      | .ret v => .ok (.ret v)) = _
    rw [ht]
    exact hl

/-- the bit operators, as the law reckons them -/
theorem reck_bit {am : Bool} {x y : V} {i j : Int} {v : V} (hv : Φ 29 [.at (.int (foldF am i j 64 0 1))] = .ok v) :
    execP Φ restR [.at (.str (opB am)), x, y, .at (.int i), .at (.int j), .undef, .undef, .undef, .undef, .undef] = .ok (.ret v) := by
  obtain ⟨z₁, z₂, b', hl⟩ := bit_loop (Φ := Φ) (am := am) (x := x) (y := y) (r := .undef) (i := i) (j := j) 64 0 .undef .undef 0 1 (by decide) (by decide)
  refine (seq_ite_f (by cases am <;> rfl)).trans ((seq_ite_f (by cases am <;> rfl)).trans (seq_ite_t (by cases am <;> rfl) ?_))
  show (((forF 7 (execP Φ tB) (rangeV 0 64) [.at (.str (opB am)), x, y, .at (.int i), .at (.int j), .at (.int 0), .at (.int 1), .undef, .undef, .undef])).bind fun f => match f with
    | .next ρ' => execP Φ (.seq (.ret (.call1 29 (.loc 5))) .skip) ρ'
    | .ret v => .ok (.ret v)) = _
  rw [hl]
  show (((Φ 29 [.at (.int (foldF am i j 64 0 1))]).bind fun v => Res.ok (Fl.ret v)).bind _) = _
  rw [hv]
  rfl
end
end Mine
end

section
set_option maxRecDepth 100000
set_option linter.unusedVariables false
set_option genSizeOf false
set_option genInjectivity false
open PySem PySem.W PyProof.Rows
namespace Mine
noncomputable def pairBit (x y : V) (am : Bool) (i j : Int) : Bool :=
  match toldRes (retOf (execP (run prog 9) restA [.at (.str (opB am)), x, y, .at (.int i), .at (.int j), .undef])), okA (run prog 11 29 [.at (.int (foldF am i j 64 0 1))]) with
  | some r, some q => isTrueR (run prog 12 33 [.at r, .at q])
  | _, _ => false
theorem gb1 (x y : V) : (I20.all fun i => I20.all fun j => pairBit x y true i j) = true := by kernel_rfl
theorem gb2 (x y : V) : (I20.all fun i => I20.all fun j => pairBit x y false i j) = true := by kernel_rfl
/-- what a value is as a number and as a text -/
noncomputable def clsB (v : A) : Bool := match v with
  | .none => true
  | _ => (match okA (run prog 9 8 [.at v]), okA (run prog 11 25 [.at v]) with
    | some (.int i), some (.int j) => i == j && I20.any (· == i)
    | _, _ => false) && (match okA (run prog 9 9 [.at v]), okA (run prog 11 27 [.at v]) with
    | some (.str s), some (.str t) => s == t && Nat.ble s.length 400
    | _, _ => false)
theorem gc : menuB.all clsB = true := by kernel_rfl
noncomputable def isT : A → Bool
  | .none | .bool _ => true
  | _ => false
noncomputable def notT : A → A
  | .bool true => .int 0
  | .bool false => .int 1
  | _ => .none
noncomputable def notL : List Nat := [110, 111, 116]
noncomputable def truB (v : A) : Bool := match okA (run prog 11 12 [.at v]), okA (run prog 11 34 [.at v]), okA (run prog 12 19 [.at (.str notL), .at v]) with
  | some t, some t', some n => isT t && eqA t' t && eqA n (notT t)
  | _, _, _ => false
theorem gt : menuB.all truB = true := by kernel_rfl
end Mine
end

section
set_option maxRecDepth 100000
set_option linter.unusedVariables false
set_option genSizeOf false
set_option genInjectivity false
open PySem PySem.W PyProof.Rows
namespace Mine

section
variable {Φ : Nat → List V → Res V}
theorem seq_assign2 {i j : Nat} {a b : PE} {q : PS} {ρ : List V} {p r : A} (ha : evalE Φ a ρ = .ok (.at p)) (hb : evalE Φ b ρ = .ok (.at r)) : execP Φ (.seq (.assign2 i j a b) q) ρ = execP Φ q (setV (setV ρ j (.at r)) i (.at p)) := by
  show (((((evalE Φ a ρ).bind fun v => (evalE Φ b ρ).bind fun w => (atom v).bind fun x => (atom w).bind fun y => Res.ok (V.tup [x, y]))).bind fun v => match v with
    | .tup [x, y] => Res.ok (Fl.next (setV (setV ρ j (.at y)) i (.at x)))
    | _ => .fail).bind fun f => match f with | .next ρ' => execP Φ q ρ' | .ret v => .ok (.ret v)) = _
  rw [ha]
  show (((((evalE Φ b ρ).bind fun w => (atom (V.at p)).bind fun x => (atom w).bind fun y => Res.ok (V.tup [x, y]))).bind _).bind _) = _
  rw [hb]
  rfl
theorem ev_call1 {f : Nat} {a : PE} {ρ : List V} {v : V} (ha : evalE Φ a ρ = .ok v) : evalE Φ (.call1 f a) ρ = Φ f [v] := by
  show ((evalE Φ a ρ).bind fun v => Φ f [v]) = _
  rw [ha]
  rfl
theorem ev_call2 {f : Nat} {a b : PE} {ρ : List V} {v w : V} (ha : evalE Φ a ρ = .ok v) (hb : evalE Φ b ρ = .ok w) : evalE Φ (.call2 f a b) ρ = Φ f [v, w] := by
  show ((evalE Φ a ρ).bind fun v => (evalE Φ b ρ).bind fun w => Φ f [v, w]) = _
  rw [ha]
  show ((evalE Φ b ρ).bind fun w => Φ f [v, w]) = _
  rw [hb]
  rfl
theorem ev_call3 {f : Nat} {a b c : PE} {ρ : List V} {v w x : V} (ha : evalE Φ a ρ = .ok v) (hb : evalE Φ b ρ = .ok w) (hc : evalE Φ c ρ = .ok x) : evalE Φ (.call3 f a b c) ρ = Φ f [v, w, x] := by
  show ((evalE Φ a ρ).bind fun v => (evalE Φ b ρ).bind fun w => (evalE Φ c ρ).bind fun x => Φ f [v, w, x]) = _
  rw [ha]
  show ((evalE Φ b ρ).bind fun w => (evalE Φ c ρ).bind fun x => Φ f [v, w, x]) = _
  rw [hb]
  show ((evalE Φ c ρ).bind fun x => Φ f [v, w, x]) = _
  rw [hc]
  rfl
theorem ev_notT {a : PE} {ρ : List V} (ha : evalE Φ a ρ = .ok (.at (.bool true))) : evalE Φ (.not a) ρ = .ok (.at (.bool false)) := by
  show ((evalE Φ a ρ).bind fun v => (truthy v).bind fun b => okB (!b)) = _
  rw [ha]
  rfl
theorem ev_orF {a b : PE} {ρ : List V} {v : V} (ha : evalE Φ a ρ = .ok (.at (.bool false))) (hb : evalE Φ b ρ = .ok v) : evalE Φ (.or a b) ρ = .ok v := by
  show ((evalE Φ a ρ).bind fun v => (truthy v).bind fun t => match t with | true => .ok v | false => evalE Φ b ρ) = _
  rw [ha]
  exact hb
end

/-! arith and _law_reckoned -/
theorem arith_form : f_arith.body = .seq (.ite (.or (.isNone (.loc 1)) (.isNone (.loc 2))) (.seq (.ret (.const A.none)) .skip) .skip) (.seq (.ite (.cmp .eq (.loc 0) (.const (A.str [124, 124]))) (.seq (.ret (.bin .add (.call1 9 (.loc 1)) (.call1 9 (.loc 2)))) .skip) .skip)
    (.seq (.assign 3 (.call1 8 (.loc 1))) (.seq (.assign 4 (.call1 8 (.loc 2))) restA))) := rfl
theorem reck_form : f_law_reckoned.body = .seq (.ite (.or (.isNone (.loc 1)) (.isNone (.loc 2))) (.seq (.ret (.const A.none)) .skip) .skip) (.seq (.ite (.cmp .eq (.loc 0) (.const (A.str [124, 124]))) (.seq (.ret (.bin .add (.call1 27 (.loc 1)) (.call1 27 (.loc 2)))) .skip) .skip)
    (.seq (.assign2 3 4 (.call1 25 (.loc 1)) (.call1 25 (.loc 2))) restR)) := rfl
theorem run_arith {l x y : V} : run prog 10 18 [l, x, y] = retOf (execP (run prog 9) f_arith.body [l, x, y, .undef, .undef, .undef]) := rfl
theorem run_reck {l x y : V} : run prog 12 31 [l, x, y] = retOf (execP (run prog 11) f_law_reckoned.body [l, x, y, .undef, .undef, .undef, .undef, .undef, .undef, .undef]) := rfl
noncomputable def ArFact (l : List Nat) (x y : A) : Prop := ∃ r q, toldRes (run prog 10 18 [.at (.str l), .at x, .at y]) = some r ∧ run prog 12 31 [.at (.str l), .at x, .at y] = .ok (.at q) ∧ run prog 12 33 [.at r, .at q] = .ok (.at (.bool true))

theorem test_none {Φ : Nat → List V → Res V} {x y : A} {l : V} {r : List V} (h : noneV (.at x) = true ∨ noneV (.at y) = true) : (evalE Φ (.or (.isNone (.loc 1)) (.isNone (.loc 2))) (l :: .at x :: .at y :: r)).bind truthy = .ok true := by
  rcases h with h | h
  · cases x <;> first | rfl | cases h
  · cases y <;> first | (cases x <;> rfl) | cases h
theorem test_some {Φ : Nat → List V → Res V} {x y : A} {l : V} {r : List V} (h1 : noneV (.at x) = false) (h2 : noneV (.at y) = false) : (evalE Φ (.or (.isNone (.loc 1)) (.isNone (.loc 2))) (l :: .at x :: .at y :: r)).bind truthy = .ok false := by
  cases x <;> first | (cases h1; done) | (cases y <;> first | rfl | cases h2)
theorem ar_none {l : List Nat} {x y : A} (h : noneV (.at x) = true ∨ noneV (.at y) = true) : ArFact l x y := by
  refine ⟨.none, .none, ?_, ?_, rfl⟩
  · rw [run_arith, arith_form, seq_ite_t (test_none h) rfl]
    rfl
  · rw [run_reck, reck_form, seq_ite_t (test_none h) rfl]
    rfl

/-- what a value that is not None is -/
theorem cls_of {v : A} (hm : v ∈ menuB) (hn : noneV (.at v) = false) : ∃ i s, i ∈ I20 ∧ run prog 9 8 [.at v] = .ok (.at (.int i)) ∧ run prog 11 25 [.at v] = .ok (.at (.int i)) ∧ run prog 9 9 [.at v] = .ok (.at (.str s)) ∧ run prog 11 27 [.at v] = .ok (.at (.str s)) ∧ s.length ≤ 400 := by
  have h := List.all_eq_true.mp gc v hm
  have key : ((match okA (run prog 9 8 [.at v]), okA (run prog 11 25 [.at v]) with
    | some (.int i), some (.int j) => i == j && I20.any (· == i)
    | _, _ => false) && (match okA (run prog 9 9 [.at v]), okA (run prog 11 27 [.at v]) with
    | some (.str s), some (.str t) => s == t && Nat.ble s.length 400
    | _, _ => false)) = true := by
    cases v with
    | none => cases hn
    | _ => exact h
  obtain ⟨k1, k2⟩ := Bool.and_eq_true_iff.mp key
  split at k1
  · rename_i i j e1 e2
    split at k2
    · rename_i s t e3 e4
      obtain ⟨a1, a2⟩ := Bool.and_eq_true_iff.mp k1
      obtain ⟨a3, a4⟩ := Bool.and_eq_true_iff.mp k2
      have a1 := eq_of_beq a1
      have a3 := eq_of_beq a3
      subst a1
      subst a3
      obtain ⟨c, hc, hce⟩ := List.any_eq_true.mp a2
      have hce := eq_of_beq hce
      subst hce
      exact ⟨_, s, hc, okA_eq e1, okA_eq e2, okA_eq e3, okA_eq e4, Nat.le_of_ble_eq_true a4⟩
    · cases k2
  · cases k1
theorem same_str (u : List Nat) : run prog 12 33 [.at (.str u), .at (.str u)] = .ok (.at (.bool true)) := by
  have : run prog 12 33 [.at (.str u), .at (.str u)] = .ok (.at (.bool (u == u))) := rfl
  rw [this]
  simp
theorem ar_cat {x y : A} (hx : x ∈ menuB) (hy : y ∈ menuB) (h1 : noneV (.at x) = false) (h2 : noneV (.at y) = false) : ArFact [124, 124] x y := by
  obtain ⟨i, s, _, _, _, a1, a2, a3⟩ := cls_of hx h1
  obtain ⟨j, t, _, _, _, b1, b2, b3⟩ := cls_of hy h2
  have hc : binV .add (.at (.str s)) (.at (.str t)) = .ok (.at (.str (s ++ t))) := by
    show (match Nat.ble (s.length + t.length) 1000 with | true => Res.ok (V.at (A.str (s ++ t))) | false => .fail) = _
    rw [Nat.ble_eq_true_of_le (by omega)]
  refine ⟨.str (s ++ t), .str (s ++ t), ?_, ?_, same_str _⟩
  · have e : evalE (run prog 9) (.bin .add (.call1 9 (.loc 1)) (.call1 9 (.loc 2))) [.at (.str [124, 124]), .at x, .at y, .undef, .undef, .undef] = .ok (.at (.str (s ++ t))) :=
      (ev_bin ((ev_call1 (v := .at x) rfl).trans a1) ((ev_call1 (v := .at y) rfl).trans b1)).trans hc
    rw [run_arith, arith_form, seq_ite_f (test_some h1 h2), seq_ite_t rfl (v := .at (.str (s ++ t))) (by
      show ((((evalE (run prog 9) (.bin .add (.call1 9 (.loc 1)) (.call1 9 (.loc 2))) [.at (.str [124, 124]), .at x, .at y, .undef, .undef, .undef])).bind fun v => Res.ok (Fl.ret v)).bind _) = _
      rw [e]; rfl)]
    rfl
  · have e : evalE (run prog 11) (.bin .add (.call1 27 (.loc 1)) (.call1 27 (.loc 2))) [.at (.str [124, 124]), .at x, .at y, .undef, .undef, .undef, .undef, .undef, .undef, .undef] = .ok (.at (.str (s ++ t))) :=
      (ev_bin ((ev_call1 (v := .at x) rfl).trans a2) ((ev_call1 (v := .at y) rfl).trans b2)).trans hc
    rw [run_reck, reck_form, seq_ite_f (test_some h1 h2), seq_ite_t rfl (v := .at (.str (s ++ t))) (by
      show ((((evalE (run prog 11) (.bin .add (.call1 27 (.loc 1)) (.call1 27 (.loc 2))) [.at (.str [124, 124]), .at x, .at y, .undef, .undef, .undef, .undef, .undef, .undef, .undef])).bind fun v => Res.ok (Fl.ret v)).bind _) = _
      rw [e]; rfl)]
    rfl

theorem arith_int {l : List Nat} {x y : A} {i j : Int} (h1 : noneV (.at x) = false) (h2 : noneV (.at y) = false) (hl : (l == [124, 124]) = false) (a : run prog 9 8 [.at x] = .ok (.at (.int i))) (b : run prog 9 8 [.at y] = .ok (.at (.int j))) :
    run prog 10 18 [.at (.str l), .at x, .at y] = retOf (execP (run prog 9) restA [.at (.str l), .at x, .at y, .at (.int i), .at (.int j), .undef]) := by
  have t : (evalE (run prog 9) (.cmp .eq (.loc 0) (.const (A.str [124, 124]))) [.at (.str l), .at x, .at y, .undef, .undef, .undef]).bind truthy = .ok false := by
    show Res.ok (l == [124, 124]) = _
    rw [hl]
  rw [run_arith, arith_form, seq_ite_f (test_some h1 h2), seq_ite_f t, seq_assign ((ev_call1 (v := .at x) rfl).trans a), seq_assign ((ev_call1 (v := .at y) rfl).trans b)]
  rfl
theorem reck_int {l : List Nat} {x y : A} {i j : Int} (h1 : noneV (.at x) = false) (h2 : noneV (.at y) = false) (hl : (l == [124, 124]) = false) (a : run prog 11 25 [.at x] = .ok (.at (.int i))) (b : run prog 11 25 [.at y] = .ok (.at (.int j))) :
    run prog 12 31 [.at (.str l), .at x, .at y] = retOf (execP (run prog 11) restR [.at (.str l), .at x, .at y, .at (.int i), .at (.int j), .undef, .undef, .undef, .undef, .undef]) := by
  have t : (evalE (run prog 11) (.cmp .eq (.loc 0) (.const (A.str [124, 124]))) [.at (.str l), .at x, .at y, .undef, .undef, .undef, .undef, .undef, .undef, .undef]).bind truthy = .ok false := by
    show Res.ok (l == [124, 124]) = _
    rw [hl]
  rw [run_reck, reck_form, seq_ite_f (test_some h1 h2), seq_ite_f t, seq_assign2 ((ev_call1 (v := .at x) rfl).trans a) ((ev_call1 (v := .at y) rfl).trans b)]
  rfl
theorem ar_int {l : List Nat} {x y : A} (hx : x ∈ menuB) (hy : y ∈ menuB) (h1 : noneV (.at x) = false) (h2 : noneV (.at y) = false) (hl : (l == [124, 124]) = false) (G : ∀ x y : V, (I20.all fun i => I20.all fun j => pairI x y l i j) = true) : ArFact l x y := by
  obtain ⟨i, s, hi, a1, a2, _⟩ := cls_of hx h1
  obtain ⟨j, t, hj, b1, b2, _⟩ := cls_of hy h2
  have g := List.all_eq_true.mp (List.all_eq_true.mp (G (.at x) (.at y)) i hi) j hj
  unfold pairI at g
  split at g
  · rename_i r q e1 e2
    exact ⟨r, q, by rw [arith_int h1 h2 hl a1 b1]; exact e1, by rw [reck_int h1 h2 hl a2 b2]; exact okA_eq e2, isTrueR_eq g⟩
  · cases g
theorem ar_bit {am : Bool} {x y : A} (hx : x ∈ menuB) (hy : y ∈ menuB) (h1 : noneV (.at x) = false) (h2 : noneV (.at y) = false) (G : ∀ x y : V, (I20.all fun i => I20.all fun j => pairBit x y am i j) = true) : ArFact (opB am) x y := by
  obtain ⟨i, s, hi, a1, a2, _⟩ := cls_of hx h1
  obtain ⟨j, t, hj, b1, b2, _⟩ := cls_of hy h2
  have g := List.all_eq_true.mp (List.all_eq_true.mp (G (.at x) (.at y)) i hi) j hj
  have hl : (opB am == [124, 124]) = false := by cases am <;> rfl
  unfold pairBit at g
  split at g
  · rename_i r q e1 e2
    refine ⟨r, q, by rw [arith_int h1 h2 hl a1 b1]; exact e1, ?_, isTrueR_eq g⟩
    rw [reck_int h1 h2 hl a2 b2, reck_bit (okA_eq e2)]
    rfl
  · cases g
theorem ar_all {x y : A} {l : List Nat} (hx : x ∈ menuB) (hy : y ∈ menuB) (hl : l ∈ opsL) : ArFact l x y := by
  cases h1 : noneV (.at x) with
  | true => exact ar_none (Or.inl h1)
  | false =>
    cases h2 : noneV (.at y) with
    | true => exact ar_none (Or.inr h2)
    | false =>
      simp only [opsL, List.mem_cons, List.not_mem_nil, or_false] at hl
      rcases hl with rfl | rfl | rfl | rfl | rfl | rfl | rfl | rfl | rfl | rfl
      · exact ar_int hx hy h1 h2 rfl gi1
      · exact ar_int hx hy h1 h2 rfl gi2
      · exact ar_int hx hy h1 h2 rfl gi3
      · exact ar_int hx hy h1 h2 rfl gi4
      · exact ar_int hx hy h1 h2 rfl gi5
      · exact ar_bit (am := true) hx hy h1 h2 gb1
      · exact ar_bit (am := false) hx hy h1 h2 gb2
      · exact ar_int hx hy h1 h2 rfl gi6
      · exact ar_int hx hy h1 h2 rfl gi7
      · exact ar_cat hx hy h1 h2
end Mine
end

section
set_option maxRecDepth 100000
set_option linter.unusedVariables false
set_option genSizeOf false
set_option genInjectivity false
open PySem PySem.W PyProof.Rows
namespace Mine

noncomputable def andTx : List Nat := [97, 110, 100]
noncomputable def restL : PS := seqDrop f_logic.body 2
noncomputable def restM : PS := seqDrop f_law_logic.body 1
theorem logic_form : f_logic.body = .seq (.assign 3 (.call1 12 (.loc 1))) (.seq (.assign 4 (.call1 12 (.loc 2))) restL) := rfl
theorem llogic_form : f_law_logic.body = .seq (.assign 3 (.lst2 (.call1 34 (.loc 1)) (.call1 34 (.loc 2)))) restM := rfl
theorem run_logic {w x y : V} : run prog 12 20 [w, x, y] = retOf (execP (run prog 11) f_logic.body [w, x, y, .undef, .undef]) := rfl
theorem run_llogic {w x y : V} : run prog 12 35 [w, x, y] = retOf (execP (run prog 11) f_law_logic.body [w, x, y, .undef, .undef]) := rfl
/-- and, or of three-valued truths -/
noncomputable def logT (o : Bool) (t u : A) : A := match o, t, u with
  | false, .bool false, _ => .int 0
  | false, _, .bool false => .int 0
  | false, .bool true, .bool true => .int 1
  | true, .bool true, _ => .int 1
  | true, _, .bool true => .int 1
  | true, .bool false, .bool false => .int 0
  | _, _, _ => .none
noncomputable def wordL : Bool → List Nat
  | false => andTx
  | true => orL
theorem tru_of {v : A} (hm : v ∈ menuB) : ∃ t, isT t = true ∧ run prog 11 12 [.at v] = .ok (.at t) ∧ run prog 11 34 [.at v] = .ok (.at t) ∧ run prog 12 19 [.at (.str notL), .at v] = .ok (.at (notT t)) := by
  have h := List.all_eq_true.mp gt v hm
  unfold truB at h
  split at h
  · rename_i t t' n e1 e2 e3
    simp only [Bool.and_eq_true] at h
    obtain ⟨⟨h1, h2⟩, h3⟩ := h
    have h2 := eqA_eq h2
    have h3 := eqA_eq h3
    subst h2
    subst h3
    exact ⟨_, h1, okA_eq e1, okA_eq e2, okA_eq e3⟩
  · cases h
theorem restL_eq {x y : V} {t u : A} (o : Bool) (ht : isT t = true) (hu : isT u = true) : retOf (execP (run prog 11) restL [.at (.str (wordL o)), x, y, .at t, .at u]) = .ok (.at (logT o t u)) := by
  cases t with
  | none => cases u with
    | none => cases o <;> rfl
    | bool b => cases b <;> cases o <;> rfl
    | _ => cases hu
  | bool a => cases u with
    | none => cases a <;> cases o <;> rfl
    | bool b => cases a <;> cases b <;> cases o <;> rfl
    | _ => cases hu
  | _ => cases ht
theorem restM_eq {x y : V} {t u : A} (o : Bool) (ht : isT t = true) (hu : isT u = true) : retOf (execP (run prog 11) restM [.at (.str (wordL o)), x, y, .lst [t, u], .undef]) = .ok (.at (logT o t u)) := by
  cases t with
  | none => cases u with
    | none => cases o <;> rfl
    | bool b => cases b <;> cases o <;> rfl
    | _ => cases hu
  | bool a => cases u with
    | none => cases a <;> cases o <;> rfl
    | bool b => cases a <;> cases b <;> cases o <;> rfl
    | _ => cases hu
  | _ => cases ht
theorem logic_val {x y t u : A} (o : Bool) (ht : isT t = true) (hu : isT u = true) (hx : run prog 11 12 [.at x] = .ok (.at t)) (hy : run prog 11 12 [.at y] = .ok (.at u)) : run prog 12 20 [.at (.str (wordL o)), .at x, .at y] = .ok (.at (logT o t u)) := by
  rw [run_logic, logic_form, seq_assign ((ev_call1 (v := .at x) rfl).trans hx), seq_assign ((ev_call1 (v := .at y) rfl).trans hy)]
  exact restL_eq o ht hu
theorem llogic_val {x y t u : A} (o : Bool) (ht : isT t = true) (hu : isT u = true) (hx : run prog 11 34 [.at x] = .ok (.at t)) (hy : run prog 11 34 [.at y] = .ok (.at u)) : run prog 12 35 [.at (.str (wordL o)), .at x, .at y] = .ok (.at (logT o t u)) := by
  rw [run_llogic, llogic_form, seq_assign (ev_lst2 ((ev_call1 (v := .at x) rfl).trans hx) ((ev_call1 (v := .at y) rfl).trans hy))]
  exact restM_eq o ht hu
noncomputable def isN3 : A → Bool
  | .none => true
  | .int i => i == 0 || i == 1
  | _ => false
theorem same_n3 {p : A} (h : isN3 p = true) : run prog 12 33 [.at p, .at p] = .ok (.at (.bool true)) := by
  cases p with
  | none => rfl
  | int i =>
    have h : (i == 0 || i == 1) = true := h
    simp only [Bool.or_eq_true, beq_iff_eq] at h
    rcases h with rfl | rfl <;> rfl
  | _ => cases h
theorem logT_n3 (o : Bool) {t u : A} (ht : isT t = true) (hu : isT u = true) : isN3 (logT o t u) = true := by
  cases t with
  | none => cases u with
    | none => cases o <;> rfl
    | bool b => cases b <;> cases o <;> rfl
    | _ => cases hu
  | bool a => cases u with
    | none => cases a <;> cases o <;> rfl
    | bool b => cases a <;> cases b <;> cases o <;> rfl
    | _ => cases hu
  | _ => cases ht
theorem logT_comm (o : Bool) {t u : A} (ht : isT t = true) (hu : isT u = true) : logT o u t = logT o t u := by
  cases t with
  | none => cases u with
    | none => cases o <;> rfl
    | bool b => cases b <;> cases o <;> rfl
    | _ => cases hu
  | bool a => cases u with
    | none => cases a <;> cases o <;> rfl
    | bool b => cases a <;> cases b <;> cases o <;> rfl
    | _ => cases hu
  | _ => cases ht

/-- the loop's body -/
noncomputable def pW : PE := .or (.not (.call2 33 (.call3 20 (.loc 4) (.loc 1) (.loc 2)) (.call3 35 (.loc 4) (.loc 1) (.loc 2)))) (.not (.call2 33 (.call3 20 (.loc 4) (.loc 2) (.loc 1)) (.call3 20 (.loc 4) (.loc 1) (.loc 2))))
noncomputable def pWb : PS := .seq (.ite pW (.seq (.ret (.const (A.bool false))) .skip) .skip) .skip
theorem pB1_form : pB 1 = .forLits 4 [andTx, orL] pWb := rfl
noncomputable def pNt : PE := .not (.call2 33 (.call2 19 (.const (A.str notL)) (.call3 20 (.const (A.str andTx)) (.loc 1) (.loc 2))) (.call3 20 (.const (A.str orL)) (.call2 19 (.const (A.str notL)) (.loc 1)) (.call2 19 (.const (A.str notL)) (.loc 2))))
theorem pB2_form : pB 2 = .ite pNt (.seq (.ret (.const (A.bool false))) .skip) .skip := rfl

theorem turn_word {x y t u : A} {z v : V} {l : V} (o : Bool) (ht : isT t = true) (hu : isT u = true) (hx : run prog 11 12 [.at x] = .ok (.at t)) (hy : run prog 11 12 [.at y] = .ok (.at u)) (hx' : run prog 11 34 [.at x] = .ok (.at t)) (hy' : run prog 11 34 [.at y] = .ok (.at u)) (hl : ∃ a, l = .at a) :
    execP (run prog 12) pWb [z, .at x, .at y, l, .at (.str (wordL o))] = .ok (.next [z, .at x, .at y, l, .at (.str (wordL o))]) := by
  have e1 : evalE (run prog 12) (.call3 20 (.loc 4) (.loc 1) (.loc 2)) [z, .at x, .at y, l, .at (.str (wordL o))] = .ok (.at (logT o t u)) := (ev_call3 (v := .at (.str (wordL o))) (w := .at x) (x := .at y) rfl rfl rfl).trans (logic_val o ht hu hx hy)
  have e2 : evalE (run prog 12) (.call3 35 (.loc 4) (.loc 1) (.loc 2)) [z, .at x, .at y, l, .at (.str (wordL o))] = .ok (.at (logT o t u)) := (ev_call3 (v := .at (.str (wordL o))) (w := .at x) (x := .at y) rfl rfl rfl).trans (llogic_val o ht hu hx' hy')
  have e3 : evalE (run prog 12) (.call3 20 (.loc 4) (.loc 2) (.loc 1)) [z, .at x, .at y, l, .at (.str (wordL o))] = .ok (.at (logT o t u)) := by
    rw [ev_call3 (v := .at (.str (wordL o))) (w := .at y) (x := .at x) rfl rfl rfl, logic_val o hu ht hy hx, logT_comm o ht hu]
  have sm := same_n3 (logT_n3 o ht hu)
  have n1 := ev_notT ((ev_call2 e1 e2).trans sm)
  have n2 := ev_notT ((ev_call2 e3 e1).trans sm)
  refine (seq_ite_f ?_).trans rfl
  show (evalE (run prog 12) (.or _ _) _).bind truthy = _
  rw [ev_orF n1 n2]
  rfl
theorem word_loop {x y t u : A} {l : List Nat} (ht : isT t = true) (hu : isT u = true) (hx : run prog 11 12 [.at x] = .ok (.at t)) (hy : run prog 11 12 [.at y] = .ok (.at u)) (hx' : run prog 11 34 [.at x] = .ok (.at t)) (hy' : run prog 11 34 [.at y] = .ok (.at u)) :
    execP (run prog 12) (pB 1) [.undef, .at x, .at y, .at (.str l), .undef] = .ok (.next [.undef, .at x, .at y, .at (.str l), .at (.str orL)]) := by
  rw [pB1_form]
  show ((quiet (execP (run prog 12) pWb [.undef, .at x, .at y, .at (.str l), .at (.str (wordL false))])).bind fun f => match f with
    | .next ρ' => forF 4 (execP (run prog 12) pWb) [.at (.str orL)] ρ'
    | .ret v => .ok (.ret v)) = _
  rw [turn_word (z := .undef) (v := .undef) (l := .at (.str l)) false ht hu hx hy hx' hy' ⟨_, rfl⟩]
  show ((quiet (execP (run prog 12) pWb [.undef, .at x, .at y, .at (.str l), .at (.str (wordL true))])).bind fun f => match f with
    | .next ρ' => forF 4 (execP (run prog 12) pWb) [] ρ'
    | .ret v => .ok (.ret v)) = _
  rw [turn_word (z := .undef) (v := .undef) (l := .at (.str l)) true ht hu hx hy hx' hy' ⟨_, rfl⟩]
  rfl
/-- not (a and b) is (not a) or (not b) -/
theorem de_morgan {t u : A} (ht : isT t = true) (hu : isT u = true) : ∃ p, isN3 p = true ∧ run prog 12 19 [.at (.str notL), .at (logT false t u)] = .ok (.at p) ∧ run prog 12 20 [.at (.str orL), .at (notT t), .at (notT u)] = .ok (.at p) := by
  cases t with
  | none => cases u with
    | none => exact ⟨.none, rfl, rfl, rfl⟩
    | bool b => cases b with
      | true => exact ⟨.none, rfl, rfl, rfl⟩
      | false => exact ⟨.int 1, rfl, rfl, rfl⟩
    | _ => cases hu
  | bool a => cases u with
    | none => cases a with
      | true => exact ⟨.none, rfl, rfl, rfl⟩
      | false => exact ⟨.int 1, rfl, rfl, rfl⟩
    | bool b => cases a with
      | true => cases b with
        | true => exact ⟨.int 0, rfl, rfl, rfl⟩
        | false => exact ⟨.int 1, rfl, rfl, rfl⟩
      | false => cases b with
        | true => exact ⟨.int 1, rfl, rfl, rfl⟩
        | false => exact ⟨.int 1, rfl, rfl, rfl⟩
    | _ => cases hu
  | _ => cases ht
theorem not_stmt {x y t u : A} {l : List Nat} {z w : V} (ht : isT t = true) (hu : isT u = true) (hx : run prog 11 12 [.at x] = .ok (.at t)) (hy : run prog 11 12 [.at y] = .ok (.at u)) (nx : run prog 12 19 [.at (.str notL), .at x] = .ok (.at (notT t))) (ny : run prog 12 19 [.at (.str notL), .at y] = .ok (.at (notT u))) :
    execP (run prog 12) (pB 2) [z, .at x, .at y, .at (.str l), w] = .ok (.next [z, .at x, .at y, .at (.str l), w]) := by
  obtain ⟨p, hp, p1, p2⟩ := de_morgan ht hu
  have e1 : evalE (run prog 12) (.call3 20 (.const (A.str andTx)) (.loc 1) (.loc 2)) [z, .at x, .at y, .at (.str l), w] = .ok (.at (logT false t u)) := (ev_call3 (v := .at (.str andTx)) (w := .at x) (x := .at y) rfl rfl rfl).trans (logic_val false ht hu hx hy)
  have e2 := (ev_call2 (f := 19) (a := .const (A.str notL)) (v := .at (.str notL)) rfl e1).trans p1
  have e3 : evalE (run prog 12) (.call2 19 (.const (A.str notL)) (.loc 1)) [z, .at x, .at y, .at (.str l), w] = .ok (.at (notT t)) := (ev_call2 (v := .at (.str notL)) (w := .at x) rfl rfl).trans nx
  have e4 : evalE (run prog 12) (.call2 19 (.const (A.str notL)) (.loc 2)) [z, .at x, .at y, .at (.str l), w] = .ok (.at (notT u)) := (ev_call2 (v := .at (.str notL)) (w := .at y) rfl rfl).trans ny
  have e5 := (ev_call3 (f := 20) (a := .const (A.str orL)) (v := .at (.str orL)) rfl e3 e4).trans p2
  have n1 := ev_notT ((ev_call2 (f := 33) e2 e5).trans (same_n3 hp))
  rw [pB2_form]
  show ((evalE (run prog 12) pNt [z, .at x, .at y, .at (.str l), w]).bind fun v => (truthy v).bind fun c => match c with | true => execP (run prog 12) (.seq (.ret (.const (A.bool false))) .skip) _ | false => execP (run prog 12) .skip _) = _
  unfold pNt
  rw [n1]
  rfl

theorem menuL_B {x : A} (h : x ∈ menuL) : x ∈ menuB := List.mem_append_left _ h
theorem FP : ∀ x ∈ menuL, ∀ y ∈ menuB, ∀ l ∈ opsL, ∃ r q, PairFact x y l r q := fun x hx y hy l hl => by
  obtain ⟨r, q, h1, h2, h3⟩ := ar_all (menuL_B hx) hy hl
  obtain ⟨t, ht, a1, a2, a3⟩ := tru_of (menuL_B hx)
  obtain ⟨u, hu, b1, b2, b3⟩ := tru_of hy
  exact ⟨r, q, ⟨h1, h2, h3, word_loop ht hu a1 b1 a2 b2, not_stmt ht hu a1 b1 a3 b3⟩⟩
end Mine
end

section
set_option maxRecDepth 100000
open PySem PySem.W PySem.Calls PyProof.Rows
namespace Mine
theorem nd_caller : Nd (⟨.builtin "claim.caller" {}, none, none, [], none⟩ : Ctx) := ⟨by decide, fun x hx => nomatch hx⟩
theorem thread_endsN {prog : Program} {w : World} {t : Sem Fin} {s : Shared} {R : Result → Shared → Prop} (hreg : s.asleep)
    (h : wpN (model prog w) callerA t (fun fin s' => ∃ f, fin = .done f ∧ (R (.ok f) s' ∧ leftWithCleanup s'.gens = false)) s) :
    ∃ n r s' s'', runN (denote table) prog w n s ⟨t, .builtin "claim.caller" {}, default, []⟩ = .halted (outcomeOf r) s' ∧
      schedN (denote table) prog w n (.single s ⟨t, .builtin "claim.caller" {}, default, []⟩) = .halted (outcomeOf r) s' ∧ s'.forget = s''.forget ∧ R r s'' := by
  have hw := h _ default caller_in nd_caller
  obtain ⟨n, r, s₁, s₂, hs, hn, hfo, hR⟩ := wp_halts_full (M := model prog w) (R := R) hreg
    (Sem.wp_mono _ _ t (fun fin p' s' h' => by obtain ⟨f, rfl, hf⟩ := h'; exact hf) (fun _ _ _ h' => h'.elim) _ _ hw)
  exact ⟨n, r, s₂, s₁, hn, hs, hfo, hR⟩

theorem callFromN {c : ClaimW} {tree : List Value → Sem Fin} {w : World} {s : Shared} {free : Addr → Prop} {gens : Prop} {kept : Heap → Prop} (hz : s.asleep) (hgens : s.gens = #[])
    (hspec : ∀ args, c.pre args = true → WData.layableAll args = true → ∀ ord : List DictEntry → List DictEntry, (∀ l, (ord l).Perm l) →
      ∃ vs s₁, layAllW c.records (classAt s.heap) w.params ord args s = some (vs, s₁) ∧
        wpN (model c.prog w) callerA (tree vs) (fun fin s' => ∃ f, fin = .done f ∧ (c.Ends s args vs s₁ (.ok f) s' ∧ s'.os = s.os ∧ AllBare s'.gens ∧ kept s'.heap)) s₁) :
    c.CallFrom (fun vs => ⟨tree vs, .builtin "claim.caller" {}, default, []⟩) w free gens kept s := by
  intro args hpre hlay ord hord
  obtain ⟨vs, s₁, hlaid, hcode⟩ := hspec args hpre hlay ord hord
  have hal := layAllW_rest _ _ _ hlaid
  obtain ⟨k, r, s', s'', hrun, hsched, hfo, hcase, hos, hkp⟩ := thread_endsN (prog := c.prog) (w := w) (t := tree vs) (s := s₁) (R := fun r s' => c.Ends s args vs s₁ r s' ∧ s'.os = s.os ∧ kept s'.heap)
    (Shared.asleep_of_life hal.2.2.2 hz) (wpN_mono hcode fun fin s' q => by
      obtain ⟨f, e, h1, h2, h3, h4⟩ := q
      exact ⟨f, e, ⟨h1, h2, h4⟩, leftWithCleanup_false_of_bare h3⟩)
  obtain ⟨eh, -, -, eo, -⟩ := Shared.forget_eq hfo
  have hcase := hcase.congr eh
  have hkp : kept s'.heap := by rw [eh]; exact hkp
  rw [← eo] at hos
  have hlife : s'.heap.life = s.heap.life := (runN_life _ _ _ hrun).trans hal.2.2.2
  refine ⟨vs, s₁, hlaid, k, _, s', hsched, ?_, (fun _ i x hx => by rw [hgens] at hx; simp at hx), hkp, by rw [hlife], Shared.rest_eq hos⟩
  rcases hcase with ⟨v, rfl, d1, d2, d3, d4, d5⟩ | ⟨e, ob, cls, rfl, d1, d2, d3, d4, d5⟩
  · exact .inl ⟨v, rfl, d1, d2, d3, fun b o y _ => d4 b o y, d5⟩
  · exact .inr ⟨e, ob, cls, rfl, d1, d2, d3, d4, fun b o y _ => d5 b o y⟩

/-- the walk, with no decoder about -/
noncomputable abbrev WalkD (q : Program) (loose : List Str) (XP : (Str → Option Value) → Heap → Prop) (YP : World → Heap → Prop) (r : RowW) (d : DefRec) (kwd : List (Str × Expr)) : Prop :=
  ∀ (w : World) (s₀ s₁ : Shared) (mg mb : Str → Option Value), Ground q loose r.records XP w s₀ mg mb s₁.heap → YP w s₁.heap → ∀ (a : Addr) (o : Obj) (pm cd doc dV kV : Value), s₁.heap.get? a = some o →
    o.data = .func { docDef d.name d.params d.body d.scope pm cd doc with defaults := dV, kwdefaults := kV } → s₁.heap.CodeRec cd d.name → Dflts mg s₁.heap d.params kwd dV kV → mg d.name = some (.ref a) → s₁.gens = #[] →
    ∀ (args : List WData) (vals : List Value) (as : List Addr), r.claim.pre args = true → WData.layableAll args = true → ReadsAllW r.records (classAt s₀.heap) s₁.heap vals args as → WellAll w.params s₁.heap vals args → (∀ a ∈ as, (a == sysModules) = false) →
      wpN (model r.prog w) callerA (PySem.call (.ref a) vals) (fun v s' => GoodWG r.claim (classAt s₀.heap) (ExcName.means s₀.heap) args s₁ (.ok (.ret v)) s') s₁

theorem holds_walkD {r : OpenRow} {q : Program} {loose : List Str} {Xt : Shared → Bool} {XP : (Str → Option Value) → Heap → Prop} {α : Type} {Yf : Shared → α} {Ya : World → α} {YP : World → Heap → Prop} {d : DefRec} {kwd : List (Str × Expr)} {N : Nat}
    (left : LeftO r.prog q loose Xt Yf Ya N) (hY : ∀ w s, Yf s = Ya w → YP w s.heap) (hYk : ∀ w h h', YP w h → (∀ b o, h.get? b = some o → h'.get? b = some o) → YP w h')
    (hX : ∀ s, Xt s = true → XP (s.heap.nsMap mainGlobals) s.heap) (hXk : ∀ mg h h', XP mg h → (∀ b o, h.get? b = some o → h'.get? b = some o) → XP mg h')
    (hdef : defOf q r.name = some (d, kwd)) (hp : r.prog.theDef r.name = some (d.params, d.body, d.scope)) (hk : kwWritten? d.params.kwonlyargs d.params.kw_defaults = some kwd) (hRf : ∀ s, Xt s = true → RecFacts r.records s.heap) (hwr : (!r.writes || r.records.isEmpty) = true)
    (k1 : r.wellSaid = true) (ok : (chainsOk q && opensWell r.prog && (frees r.toRowW && r.within.isEmpty)) = true) (hb : r.prog.bare) (hw : r.toRowW.promised)
    (walk : WalkD q loose XP YP r.toRowW d kwd) : r.Holds := by
  obtain ⟨ok, k5⟩ := Bool.and_eq_true_iff.mp ok
  obtain ⟨hch, o1⟩ := Bool.and_eq_true_iff.mp ok
  obtain ⟨k5, k6⟩ := Bool.and_eq_true_iff.mp k5
  obtain ⟨hsame, hu, ha, hap, hm⟩ := frees_parts k5
  refine ⟨k1, hw, ⟨hb, o1, by show r.makers.map _ = []; rw [hm]; rfl⟩, hw.witness, fun w => ⟨(left.behind hX hch w).1, fun s' hs' => ?_⟩⟩
  obtain ⟨s₀, hf, hg0, s, hT, hz, hgens, hg, G00, y⟩ := (left.behind (XP := fun mg h => XP mg h ∧ RecFacts r.records h) (fun s hs => ⟨hX s hs, hRf s hs⟩) hch w).2 s' hs'
  have G0 : Ground q loose [] XP w s (s.heap.nsMap mainGlobals) (s.heap.nsMap builtinsNs) s.heap := ⟨G00.T, G00.B, G00.D, G00.TE, G00.TD, G00.W, G00.X.1, G00.cls, G00.has, G00.apart, G00.once, G00.K⟩
  have RF := G00.X.2
  refine ⟨s₀, hf, hg0, s, hT, fun n hn => ?_, RF.1, RF.2.1, ?_⟩
  · obtain rfl : n = r.name := by split at hn <;> simp_all
    exact pinned_of_view hg G0 hdef hp hk
  have hgens : s.gens = #[] := Array.eq_empty_of_size_eq_zero (beq_iff_eq.mp hgens)
  have G : Ground q loose r.records XP w s _ _ s.heap := RF.ground G0
  refine callFromN (c := r.claim) hz hgens fun args hpre hlay ord hord => ?_
  obtain ⟨⟨vs, s₁⟩, hlaid⟩ := Option.isSome_iff_exists.mp (layAllW_isSome (P := w.params) (ord := ord) G.has args r.args s (pre_splitW hpre).1)
  have keeps := layAllW_keeps _ _ _ hlaid
  have hal := layAllW_rest _ _ _ hlaid
  obtain ⟨as, hrd, hin, hold⟩ := reads_layAllW hord _ _ _ hlaid hlay s₁.heap (fun _ _ e => e)
  have L : Laid r.records w s s₁ args vs as := ⟨⟨ord, hord, hlaid⟩, hrd, hin, hold, keeps, hal.1.trans hgens, hal.2.2.1⟩
  have G₁ := G.keeps hXk keeps
  have hi := ident_freeW hu ha hap
  have hwi : r.claim.within = [] := List.isEmpty_iff.mp k6
  obtain ⟨a, o, pm, cd, doc, dV, kV, h1, h2, h3, h4, h5⟩ := G₁.fn hdef
  have h := walk w s s₁ _ _ G₁ (hYk _ _ _ (hY w s y) keeps) a o pm cd doc dV kV h2 h3 h4 h5 (defOf_name hdef ▸ h1) L.gens args vs as hpre hlay L.reads L.well (L.low G.low)
  refine ⟨vs, s₁, hlaid, ?_⟩
  refine wpN_then (wpAny_nsGet G₁.T.g ?_)
  rw [h1]
  refine wpN_bind (wpN_mono h fun v s' g => wpN_pure ⟨_, rfl, ?_⟩)
  have z := g.laid (c := r.claim) hsame hwi hi L
  exact ⟨z.1, z.2.1, z.2.2, fun q => ⟨namesKept_of hT hg r.keeps keeps g.2.1.old, noTable hwr q⟩⟩
end Mine
end

section
set_option maxRecDepth 1000000
open PySem PySem.W PyProof.Rows
namespace Mine
noncomputable def isTab (o : Obj) : Bool := match o.cls, o.data with
  | .none, .fields _ => true
  | _, _ => false
/-- the cells that the checks look at: the world's first, each def and its code -/
noncomputable def needL : List Addr := addrs.flatMap (fun a => [a, a - 1]) ++ List.range 60
noncomputable def fragOf (h : Heap) : Frag := needL.filterMap fun a => (h.get? a).bind fun o => match isTab o with
  | true => none
  | false => some (a, o)
theorem fragOf_in (h : Heap) : (fragOf h).In h := fun a o e => by
  have m := mem_of_lookupK e
  obtain ⟨b, -, e2⟩ := List.mem_filterMap.mp m
  obtain ⟨o2, e3, e4⟩ := Option.bind_eq_some_iff.mp e2
  cases ht : isTab o2 with
  | true => rw [ht] at e4; cases e4
  | false => rw [ht] at e4; cases e4; exact e3
noncomputable def glB (K : Frag) (x : Str) (a : Addr) : Bool := match nsIn K mainGlobals x with
  | some (some (.ref b)) => Nat.beq b a
  | _ => false
theorem name_of {K : Frag} {x : Str} {a : Addr} (h : glB K x a = true) : nsIn K mainGlobals x = some (some (.ref a)) := by
  unfold glB at h
  split at h
  · rename_i b e
    rw [e, Nat.eq_of_beq_eq_true h]
  · cases h
noncomputable def kfL (K : Frag) : List Bool := [glChk K addrOf, fnsChk K Mine.prog, excChk K 44 31 28, excIn K 44 [.ref 31, .type "Exception", .type "BaseException", .type "object"] "Exception.__new__",
  fnHead K 65 f_utf8 (fun sc b => utf8Chk (f_utf8.names.map mkS) sc b), fnHead K (addrOf 10) f_as_blob (fun sc b => asBlobChk (f_as_blob.names.map mkS) sc b),
  fnHead K (addrOf 11) f_cast_value (fun sc b => castChk (f_cast_value.names.map mkS) sc b), fnHead K (addrOf 32) f_told (fun sc b => toldChk (f_told.names.map mkS) sc b),
  glB K "SqlError" 44, glB K "law" (addrOf 38), dHead K (addrOf 21) poolChk, dHead K (addrOf 22) takeChk, dHead K (addrOf 23) oneChk, dHead K (addrOf 26) valueChk, dHead K (addrOf 36) aloneChk, dHead K (addrOf 37) pairChk, dHead K (addrOf 38) lawChk,
  codeHdIn K 314 310, codeHdIn K 321 317, noTabs K]
noncomputable def obsF (s : Shared) : Bool × List (Option Obj) := ((kfL (fragOf s.heap)).all id, ([310, 317] : List Addr).map s.heap.get?)
noncomputable def obsV : Bool × List (Option Obj) := (true, [some (tabObj #[]), some (tabObj #[])])
theorem kf_of {K : Frag} (h : (kfL K).all id = true) : KFacts K := by
  simp only [kfL, List.all_cons, List.all_nil, id_eq, Bool.and_eq_true] at h
  obtain ⟨a1, a2, a3, a4, a5, a6, a7, a8, a9, b1, b2, b3, b4, b5, b6, b7, b8, b9, c1, c2, -⟩ := h
  exact ⟨a1, a2, a3, a4, a5, a6, a7, a8, name_of a9, name_of b1, b2, b3, b4, b5, b6, b7, b8, b9, c1, c2⟩
noncomputable def kSays (h : Heap) : Prop := (∃ K, KFacts K ∧ K.In h) ∧ ∀ P ∈ ([310, 317] : List Addr), h.get? P = some (tabObj #[])
theorem says_of {s : Shared} (e : obsF s = obsV) : kSays s.heap := by
  have e1 := congrArg Prod.fst e
  have e2 : [s.heap.get? 310, s.heap.get? 317] = [some (tabObj #[]), some (tabObj #[])] := congrArg Prod.snd e
  have e3 := List.cons.inj e2
  exact ⟨⟨_, kf_of e1, fragOf_in _⟩, List.forall_mem_cons.mpr ⟨e3.1, List.forall_mem_cons.mpr ⟨(List.cons.inj e3.2).1, fun _ h => nomatch h⟩⟩⟩
theorem says_keeps {h h' : Heap} (k : kSays h) (z : ∀ b o, h.get? b = some o → h'.get? b = some o) : kSays h' :=
  ⟨k.1.imp fun _ x => ⟨x.1, fun a o e => z a o (x.2 a o e)⟩, fun P m => z P _ (k.2 P m)⟩
noncomputable abbrev pw : Program := PySem.Challenge.pw_nt0102_01
noncomputable def keepL : List Nat := [1, 2, 3, 5, 6, 7, 8, 9, 10, 11, 12, 13, 14, 15, 16, 17, 18, 19, 20, 21, 22, 23, 24, 25, 26, 27, 28, 29, 30, 31, 33, 34, 35, 36, 37, 38, 39, 40, 41, 42, 43, 44, 45, 46, 47, 48, 49, 50]
noncomputable def qv : Program := view pw keepL
noncomputable def looseL : List Str := ["MIN_INT", "MAX_INT", "WORD", "REPLACEMENT"]
noncomputable def rW : RowW := (PySem.Challenge.rw_nt0102_01.row).toRowW
noncomputable def XtF (s : Shared) : Bool := xlAt qv [] s && recOk rW.records s
theorem left : LeftO pw qv looseL XtF obsF (fun _ => obsV) 4080 := fun w => by
  unfold openEnds fencedOpening topFrom
  rw [Fast.te10274390034422433532, Fast.te5923862056798008813, Fast.te14364793385576792824, Fast.te4187177175401517315, Fast.te1435165496053646825, Fast.te14289696077712309145, Fast.te14082659384304107361]
  kernel_rfl
end Mine
end

section
open PySem PySem.W PyProof.Rows PySem.Spec
set_option Elab.async false
set_option maxRecDepth 100000
namespace Mine
theorem room0 : Room callerA 15 := ⟨rfl, by decide +kernel, by decide +kernel⟩
theorem lawS : (defOf qv "law").isSome = true := by kernel_rfl
noncomputable def lawD : DefRec × List (Str × Expr) := (defOf qv "law").get lawS
theorem hdef : defOf qv "law" = some (lawD.1, lawD.2) := (Option.some_get lawS).symm
theorem said : PySem.Challenge.rw_nt0102_01.wellSaid = true := by
  rw [Fast.te9446332074065402090]
  kernel_rfl
theorem hpq : pw.theDef "law" = some (lawD.1.params, lawD.1.body, lawD.1.scope) := by kernel_rfl
theorem hkw : kwWritten? lawD.1.params.kwonlyargs lawD.1.params.kw_defaults = some lawD.2 := by kernel_rfl
end Mine
set_option maxHeartbeats 8000000 in
theorem PySem.Challenge.cw_nt0102_01_holds : PySem.Challenge.rw_nt0102_01.Holds := by
  w_on
  refine holds_law Mine.said fun said => ?_
  refine Mine.holds_walkD (q := Mine.qv) (loose := Mine.looseL) (Xt := Mine.XtF) (XP := XL Mine.qv []) (Yf := Mine.obsF) (Ya := fun _ => Mine.obsV) (YP := fun _ h => Mine.kSays h) (N := 4080) Mine.left
    (fun _ _ e => Mine.says_of e) (fun _ _ _ k z => Mine.says_keeps k z) (fun s e => xl_of s (Bool.and_eq_true_iff.mp e).1) XL.keeps Mine.hdef Mine.hpq Mine.hkw (fun s e => recFacts_of (Bool.and_eq_true_iff.mp e).2) (by rfl)
    (by first | assumption | decide +kernel) (by decide +kernel) ⟨rfl, rfl, rfl, rfl, rfl, by decide +kernel⟩ ?hw ?hc
  case hw => w_witness2
  case hc =>
    intro w s₀ s₁ mg mb G Y fa o pm cd doc dV kV ho hd hcd hD hmg hg args vals as hpre hlay hrd hwl hlo
    obtain ⟨⟨KF, kf, KX⟩, hT8⟩ := Y
    refine Ground.open G ?_
    intro T B D TE TW
    clear B D TE TW hD ho hd hcd G
    wrow_args hpre hlay hrd hwl hlo
    rename_i hI hr hcond hc2
    refine Mine.law_top kf Mine.room0 rfl KX hT8 T Mine.FP Mine.FA hmg (by assumption) hI (by omega) fun h' tk' kp t1 t2 => ?_
    exact Mine.good_end kf KX hT8 (fun _ _ => rfl) (by kernel_rfl) kp t1 t2 rfl hg
end
