import PyProof.Rows.All
import PyProof.ExcArgsOwn
import PyProof.ExcBaseAll.Exception
import PyProof.ExcAttrAll.Exception
import PyProof.ExcInit
import PyProof.InstStoreFacts
import Open.Line
import OpenK.KMore
import Open.Boot
import Open.Tree
import KE.KUnpack
import KE.KDictSum
import KE.KDictOf
import Wide.All
import Lean
import PySem.Challenge.RW_sa0124_01
set_option maxHeartbeats 4000000
set_option maxRecDepth 100000
set_option linter.all false
set_option Elab.async false
open PySem
namespace Mine
theorem ba {a b : Bool} (h : (a && b) = true) : a = true ∧ b = true := Bool.and_eq_true_iff.mp h
theorem si {α : Type} {a b : α} (h : some a = some b) : a = b := Option.some.inj h
theorem lb {a b : Nat} (h : Nat.ble a b = true) : a ≤ b := Nat.le_of_ble_eq_true h
theorem bl {a b : Nat} (h : a ≤ b) : Nat.ble a b = true := Nat.ble_eq_true_of_le h
theorem mc {α : Type} {a : α} {l : List α} (y : α) (h : a ∈ l) : a ∈ y :: l := List.mem_cons_of_mem y h
theorem mp {α : Type} {a b : α} {l : List α} (h : a ∈ b :: l) : a = b ∨ a ∈ l := List.mem_cons.mp h
theorem ms {α : Type} {a b : α} (h : a ∈ [b]) : a = b := List.mem_singleton.mp h
theorem mz {α : Type} {a : α} {l : List α} : a ∈ a :: l := List.mem_cons_self
theorem la {α : Type} {p : α → Bool} {l : List α} (h : l.all p = true) : ∀ x ∈ l, p x = true := List.all_eq_true.mp h
theorem bq {α : Type} [BEq α] [LawfulBEq α] {a b : α} (h : (a == b) = true) : a = b := beq_iff_eq.mp h
theorem ni {α : Type} {a : Option α} (h : a.isNone = true) : a = none := Option.isNone_iff_eq_none.mp h
theorem ie {α : Type} {a : Option α} (h : a.isSome = true) : ∃ x, a = some x := Option.isSome_iff_exists.mp h
theorem me {α β : Type} {f : α → β} {x : Option α} {b : β} (h : x.map f = some b) : ∃ a, x = some a ∧ f a = b := Option.map_eq_some_iff.mp h
theorem ml {α : Type} {a : α} {l : List α} (r : List α) (h : a ∈ l) : a ∈ l ++ r := List.mem_append_left r h
theorem mr {α : Type} {a : α} (l : List α) {r : List α} (h : a ∈ r) : a ∈ l ++ r := List.mem_append_right l h
theorem mq {α : Type} {a : α} {l r : List α} (h : a ∈ l ++ r) : a ∈ l ∨ a ∈ r := List.mem_append.mp h
theorem n0 {α : Type} {a : α} : a ∉ [] := List.not_mem_nil
noncomputable abbrev wB := @wpAny_bind
noncomputable abbrev wP := @wpAny_pure
noncomputable def k1 {a0 d : Type} (x : d) : a0 → d := fun _ => x
noncomputable def k2 {a0 a1 d : Type} (x : d) : a0 → a1 → d := fun _ _ => x
noncomputable def k3 {a0 a1 a2 d : Type} (x : d) : a0 → a1 → a2 → d := fun _ _ _ => x
noncomputable def k4 {a0 a1 a2 a3 d : Type} (x : d) : a0 → a1 → a2 → a3 → d := fun _ _ _ _ => x
noncomputable def k5 {a0 a1 a2 a3 a4 d : Type} (x : d) : a0 → a1 → a2 → a3 → a4 → d := fun _ _ _ _ _ => x
noncomputable def k7 {a0 a1 a2 a3 a4 a5 a6 d : Type} (x : d) : a0 → a1 → a2 → a3 → a4 → a5 → a6 → d := fun _ _ _ _ _ _ _ => x
noncomputable def k10 {a0 a1 a2 a3 a4 a5 a6 a7 a8 a9 d : Type} (x : d) : a0 → a1 → a2 → a3 → a4 → a5 → a6 → a7 → a8 → a9 → d := fun _ _ _ _ _ _ _ _ _ _ => x
noncomputable def k11 {a0 a1 a2 a3 a4 a5 a6 a7 a8 a9 a10 d : Type} (x : d) : a0 → a1 → a2 → a3 → a4 → a5 → a6 → a7 → a8 → a9 → a10 → d := fun _ _ _ _ _ _ _ _ _ _ _ => x
theorem nn {α : Type} {x : α} {P : Prop} (h : (none : Option α) = some x) : P := nomatch h
theorem sn {α : Type} {x : α} {P : Prop} (h : some x = (none : Option α)) : P := nomatch h
theorem ft {P : Prop} (h : false = true) : P := nomatch h
theorem tf {P : Prop} (h : true = false) : P := nomatch h
theorem sp {α β : Type} {a c : α} {b d : β} (h : some (a, b) = some (c, d)) : a = c ∧ b = d := by cases h; exact ⟨rfl, rfl⟩
theorem nox {α : Type} {x : Option α} {y : α} {P : Prop} (h : x = none) (k : x = some y) : P := nn (h.symm.trans k)
noncomputable abbrev D := PyData
noncomputable abbrev SStr := PySem.Str
noncomputable abbrev MR (α : Type) := Option (Except SStr α)
abbrev VQ := Value → Shared → Prop
abbrev FQ := Flow → Shared → Prop
abbrev NM := SStr → Option Value
abbrev XD := Except SStr D
noncomputable def bnd {α β : Type} (x : MR α) (f : α → MR β) : MR β := match x with
 | none => none
 | some (.error k) => some (.error k)
 | some (.ok a) => f a
noncomputable def rt {α : Type} (a : α) : MR α := some (.ok a)
inductive Bd where
 | imm (d : D)
 | own (d : D)
noncomputable abbrev Vars := List (SStr × Bd)
theorem io {d e : D} {P : Prop} (h : some (Bd.imm d) = some (Bd.own e)) : P := nomatch h
theorem oi {d e : D} {P : Prop} (h : some (Bd.own d) = some (Bd.imm e)) : P := nomatch h
theorem ii {d e : D} (h : some (Bd.imm d) = some (Bd.imm e)) : d = e := by cases h; rfl
theorem oo {d e : D} (h : some (Bd.own d) = some (Bd.own e)) : d = e := by cases h; rfl
noncomputable def aU (e : Expr) : Option (SStr × Pos) := Expr.casesOn (motive_1 := fun _ => Option (SStr × Pos)) e (k3 none) (k3 none) (k4 none) (k3 none) (k4 none) (k4 none) (k3 none) (k3 none) (k4 none) (k4 none) (k5 none) (k4 none) (k2 none) (k2 none) (k2 none) (k4 none) (k4 none) (k4 none) (k2 none) (k3 none) (k3 none) (k3 none) (k2 none) (fun a0 a1 => some (a0, a1)) (k2 none) (k3 none) (k4 none)
theorem bF {e : Expr} {x : SStr × Pos} (h : aU e = some x) : e = .Name x.1 x.2 := by
 revert h
 cases e with
 | Name => exact fun h => si h ▸ rfl
 | _ => exact nn
noncomputable def asTuple (e : Expr) : Option ((List Expr) × Nat × Pos) := Expr.casesOn (motive_1 := fun _ => Option ((List Expr) × Nat × Pos)) e (k3 none) (k3 none) (k4 none) (k3 none) (k4 none) (k4 none) (k3 none) (k3 none) (k4 none) (k4 none) (k5 none) (k4 none) (k2 none) (k2 none) (k2 none) (k4 none) (k4 none) (k4 none) (k2 none) (k3 none) (k3 none) (k3 none) (k2 none) (k2 none) (k2 none) (fun a0 a1 a2 => some (a0, a1, a2)) (k4 none)
theorem asTuple_eq {e : Expr} {x : (List Expr) × Nat × Pos} (h : asTuple e = some x) : e = .Tuple x.1 x.2.1 x.2.2 := by
 revert h
 cases e with
 | Tuple => exact fun h => si h ▸ rfl
 | _ => exact nn
noncomputable def asList (e : Expr) : Option ((List Expr) × Pos) := Expr.casesOn (motive_1 := fun _ => Option ((List Expr) × Pos)) e (k3 none) (k3 none) (k4 none) (k3 none) (k4 none) (k4 none) (k3 none) (k3 none) (k4 none) (k4 none) (k5 none) (k4 none) (k2 none) (k2 none) (k2 none) (k4 none) (k4 none) (k4 none) (k2 none) (k3 none) (k3 none) (k3 none) (k2 none) (k2 none) (fun a0 a1 => some (a0, a1)) (k3 none) (k4 none)
theorem asList_eq {e : Expr} {x : (List Expr) × Pos} (h : asList e = some x) : e = .List x.1 x.2 := by
 revert h
 cases e with
 | List => exact fun h => si h ▸ rfl
 | _ => exact nn
noncomputable def asDict (e : Expr) : Option ((List (Option Expr)) × (List Expr) × Pos) := Expr.casesOn (motive_1 := fun _ => Option ((List (Option Expr)) × (List Expr) × Pos)) e (k3 none) (k3 none) (k4 none) (k3 none) (k4 none) (k4 none) (fun a0 a1 a2 => some (a0, a1, a2)) (k3 none) (k4 none) (k4 none) (k5 none) (k4 none) (k2 none) (k2 none) (k2 none) (k4 none) (k4 none) (k4 none) (k2 none) (k3 none) (k3 none) (k3 none) (k2 none) (k2 none) (k2 none) (k3 none) (k4 none)
theorem asDict_eq {e : Expr} {x : (List (Option Expr)) × (List Expr) × Pos} (h : asDict e = some x) : e = .Dict x.1 x.2.1 x.2.2 := by
 revert h
 cases e with
 | Dict => exact fun h => si h ▸ rfl
 | _ => exact nn
noncomputable def asCall (e : Expr) : Option (Expr × (List Expr) × (List Keyword) × Pos) := Expr.casesOn (motive_1 := fun _ => Option (Expr × (List Expr) × (List Keyword) × Pos)) e (k3 none) (k3 none) (k4 none) (k3 none) (k4 none) (k4 none) (k3 none) (k3 none) (k4 none) (k4 none) (k5 none) (k4 none) (k2 none) (k2 none) (k2 none) (k4 none) (fun a0 a1 a2 a3 => some (a0, a1, a2, a3)) (k4 none) (k2 none) (k3 none) (k3 none) (k3 none) (k2 none) (k2 none) (k2 none) (k3 none) (k4 none)
theorem asCall_eq {e : Expr} {x : Expr × (List Expr) × (List Keyword) × Pos} (h : asCall e = some x) : e = .Call x.1 x.2.1 x.2.2.1 x.2.2.2 := by
 revert h
 cases e with
 | Call => exact fun h => si h ▸ rfl
 | _ => exact nn
noncomputable def asAttribute (e : Expr) : Option (Expr × SStr × Pos) := Expr.casesOn (motive_1 := fun _ => Option (Expr × SStr × Pos)) e (k3 none) (k3 none) (k4 none) (k3 none) (k4 none) (k4 none) (k3 none) (k3 none) (k4 none) (k4 none) (k5 none) (k4 none) (k2 none) (k2 none) (k2 none) (k4 none) (k4 none) (k4 none) (k2 none) (k3 none) (fun a0 a1 a2 => some (a0, a1, a2)) (k3 none) (k2 none) (k2 none) (k2 none) (k3 none) (k4 none)
theorem asAttribute_eq {e : Expr} {x : Expr × SStr × Pos} (h : asAttribute e = some x) : e = .Attribute x.1 x.2.1 x.2.2 := by
 revert h
 cases e with
 | Attribute => exact fun h => si h ▸ rfl
 | _ => exact nn
noncomputable def asSubscript (e : Expr) : Option (Expr × Expr × Pos) := Expr.casesOn (motive_1 := fun _ => Option (Expr × Expr × Pos)) e (k3 none) (k3 none) (k4 none) (k3 none) (k4 none) (k4 none) (k3 none) (k3 none) (k4 none) (k4 none) (k5 none) (k4 none) (k2 none) (k2 none) (k2 none) (k4 none) (k4 none) (k4 none) (k2 none) (k3 none) (k3 none) (fun a0 a1 a2 => some (a0, a1, a2)) (k2 none) (k2 none) (k2 none) (k3 none) (k4 none)
theorem asSubscript_eq {e : Expr} {x : Expr × Expr × Pos} (h : asSubscript e = some x) : e = .Subscript x.1 x.2.1 x.2.2 := by
 revert h
 cases e with
 | Subscript => exact fun h => si h ▸ rfl
 | _ => exact nn
noncomputable def asSlice (e : Expr) : Option ((Option Expr) × (Option Expr) × (Option Expr) × Pos) := Expr.casesOn (motive_1 := fun _ => Option ((Option Expr) × (Option Expr) × (Option Expr) × Pos)) e (k3 none) (k3 none) (k4 none) (k3 none) (k4 none) (k4 none) (k3 none) (k3 none) (k4 none) (k4 none) (k5 none) (k4 none) (k2 none) (k2 none) (k2 none) (k4 none) (k4 none) (k4 none) (k2 none) (k3 none) (k3 none) (k3 none) (k2 none) (k2 none) (k2 none) (k3 none) (fun a0 a1 a2 a3 => some (a0, a1, a2, a3))
theorem asSlice_eq {e : Expr} {x : (Option Expr) × (Option Expr) × (Option Expr) × Pos} (h : asSlice e = some x) : e = .Slice x.1 x.2.1 x.2.2.1 x.2.2.2 := by
 revert h
 cases e with
 | Slice => exact fun h => si h ▸ rfl
 | _ => exact nn
noncomputable def asCompare (e : Expr) : Option (Expr × (List CmpOp) × (List Expr) × Pos) := Expr.casesOn (motive_1 := fun _ => Option (Expr × (List CmpOp) × (List Expr) × Pos)) e (k3 none) (k3 none) (k4 none) (k3 none) (k4 none) (k4 none) (k3 none) (k3 none) (k4 none) (k4 none) (k5 none) (k4 none) (k2 none) (k2 none) (k2 none) (fun a0 a1 a2 a3 => some (a0, a1, a2, a3)) (k4 none) (k4 none) (k2 none) (k3 none) (k3 none) (k3 none) (k2 none) (k2 none) (k2 none) (k3 none) (k4 none)
theorem asCompare_eq {e : Expr} {x : Expr × (List CmpOp) × (List Expr) × Pos} (h : asCompare e = some x) : e = .Compare x.1 x.2.1 x.2.2.1 x.2.2.2 := by
 revert h
 cases e with
 | Compare => exact fun h => si h ▸ rfl
 | _ => exact nn
noncomputable def asConstant (e : Expr) : Option (Const × Nat × Pos) := Expr.casesOn (motive_1 := fun _ => Option (Const × Nat × Pos)) e (k3 none) (k3 none) (k4 none) (k3 none) (k4 none) (k4 none) (k3 none) (k3 none) (k4 none) (k4 none) (k5 none) (k4 none) (k2 none) (k2 none) (k2 none) (k4 none) (k4 none) (k4 none) (k2 none) (fun a0 a1 a2 => some (a0, a1, a2)) (k3 none) (k3 none) (k2 none) (k2 none) (k2 none) (k3 none) (k4 none)
theorem asConstant_eq {e : Expr} {x : Const × Nat × Pos} (h : asConstant e = some x) : e = .Constant x.1 x.2.1 x.2.2 := by
 revert h
 cases e with
 | Constant => exact fun h => si h ▸ rfl
 | _ => exact nn
noncomputable def stReturn (e : Stmt) : Option ((Option Expr) × Pos) := Stmt.casesOn (motive_2 := fun _ => Option ((Option Expr) × Pos)) e (k10 none) (k10 none) (k11 none) (fun a0 a1 => some (a0, a1)) (k2 none) (k3 none) (k7 none) (k4 none) (k5 none) (k5 none) (k5 none) (k4 none) (k4 none) (k3 none) (k3 none) (k3 none) (k3 none) (k5 none) (k5 none) (k3 none) (k2 none) (k4 none) (k2 none) (k2 none) (k2 none) (k1 none) (k1 none) (k1 none)
theorem stReturn_eq {e : Stmt} {x : (Option Expr) × Pos} (h : stReturn e = some x) : e = .Return x.1 x.2 := by
 revert h
 cases e with
 | Return => exact fun h => si h ▸ rfl
 | _ => exact nn
noncomputable def stAssign (e : Stmt) : Option ((List Expr) × Expr × Pos) := Stmt.casesOn (motive_2 := fun _ => Option ((List Expr) × Expr × Pos)) e (k10 none) (k10 none) (k11 none) (k2 none) (k2 none) (fun a0 a1 a2 => some (a0, a1, a2)) (k7 none) (k4 none) (k5 none) (k5 none) (k5 none) (k4 none) (k4 none) (k3 none) (k3 none) (k3 none) (k3 none) (k5 none) (k5 none) (k3 none) (k2 none) (k4 none) (k2 none) (k2 none) (k2 none) (k1 none) (k1 none) (k1 none)
theorem stAssign_eq {e : Stmt} {x : (List Expr) × Expr × Pos} (h : stAssign e = some x) : e = .Assign x.1 x.2.1 x.2.2 := by
 revert h
 cases e with
 | Assign => exact fun h => si h ▸ rfl
 | _ => exact nn
noncomputable def stIf (e : Stmt) : Option (Expr × (List Stmt) × (List Stmt) × Pos) := Stmt.casesOn (motive_2 := fun _ => Option (Expr × (List Stmt) × (List Stmt) × Pos)) e (k10 none) (k10 none) (k11 none) (k2 none) (k2 none) (k3 none) (k7 none) (k4 none) (k5 none) (k5 none) (k5 none) (k4 none) (fun a0 a1 a2 a3 => some (a0, a1, a2, a3)) (k3 none) (k3 none) (k3 none) (k3 none) (k5 none) (k5 none) (k3 none) (k2 none) (k4 none) (k2 none) (k2 none) (k2 none) (k1 none) (k1 none) (k1 none)
theorem stIf_eq {e : Stmt} {x : Expr × (List Stmt) × (List Stmt) × Pos} (h : stIf e = some x) : e = .If x.1 x.2.1 x.2.2.1 x.2.2.2 := by
 revert h
 cases e with
 | If => exact fun h => si h ▸ rfl
 | _ => exact nn
noncomputable def stRaise (e : Stmt) : Option ((Option Expr) × (Option Expr) × Pos) := Stmt.casesOn (motive_2 := fun _ => Option ((Option Expr) × (Option Expr) × Pos)) e (k10 none) (k10 none) (k11 none) (k2 none) (k2 none) (k3 none) (k7 none) (k4 none) (k5 none) (k5 none) (k5 none) (k4 none) (k4 none) (k3 none) (k3 none) (k3 none) (fun a0 a1 a2 => some (a0, a1, a2)) (k5 none) (k5 none) (k3 none) (k2 none) (k4 none) (k2 none) (k2 none) (k2 none) (k1 none) (k1 none) (k1 none)
theorem stRaise_eq {e : Stmt} {x : (Option Expr) × (Option Expr) × Pos} (h : stRaise e = some x) : e = .Raise x.1 x.2.1 x.2.2 := by
 revert h
 cases e with
 | Raise => exact fun h => si h ▸ rfl
 | _ => exact nn
noncomputable def stFunctionDef (e : Stmt) : Option (SStr × Arguments × (List Stmt) × (List Expr) × (Option Expr) × (List TypeParam) × Scope × (Option Scope) × SStr × Pos) := Stmt.casesOn (motive_2 := fun _ => Option (SStr × Arguments × (List Stmt) × (List Expr) × (Option Expr) × (List TypeParam) × Scope × (Option Scope) × SStr × Pos)) e (fun a0 a1 a2 a3 a4 a5 a6 a7 a8 a9 => some (a0, a1, a2, a3, a4, a5, a6, a7, a8, a9)) (k10 none) (k11 none) (k2 none) (k2 none) (k3 none) (k7 none) (k4 none) (k5 none) (k5 none) (k5 none) (k4 none) (k4 none) (k3 none) (k3 none) (k3 none) (k3 none) (k5 none) (k5 none) (k3 none) (k2 none) (k4 none) (k2 none) (k2 none) (k2 none) (k1 none) (k1 none) (k1 none)
theorem stFunctionDef_eq {e : Stmt} {x : SStr × Arguments × (List Stmt) × (List Expr) × (Option Expr) × (List TypeParam) × Scope × (Option Scope) × SStr × Pos} (h : stFunctionDef e = some x) : e = .FunctionDef x.1 x.2.1 x.2.2.1 x.2.2.2.1 x.2.2.2.2.1 x.2.2.2.2.2.1 x.2.2.2.2.2.2.1 x.2.2.2.2.2.2.2.1 x.2.2.2.2.2.2.2.2.1 x.2.2.2.2.2.2.2.2.2 := by
 revert h
 cases e with
 | FunctionDef => exact fun h => si h ▸ rfl
 | _ => exact nn
noncomputable def one {α : Type} : List α → Option α
 | [a] => some a
 | _ => none
noncomputable def two {α : Type} : List α → Option (α × α)
 | a :: r => (one r).bind fun b => some (a, b)
 | [] => none
noncomputable def three {α : Type} : List α → Option (α × α × α)
 | a :: r => (two r).bind fun b => some (a, b)
 | [] => none
inductive OB {α β : Type} (x : Option α) (f : α → Option β) (b : β) : Prop
 | mk (a : α) : x = some a → f a = some b → OB x f b
theorem obi {α β : Type} {x : Option α} {f : α → Option β} {b : β} (h : x.bind f = some b) : OB x f b := by
 cases x with
 | none => exact nn h
 | some a => exact ⟨a, rfl, h⟩
theorem one_eq {α : Type} {l : List α} {a : α} (h : one l = some a) : l = [a] := by
 match l, h with
 | [b], h => exact congrArg (fun x => [x]) (si h)
theorem two_eq {α : Type} {l : List α} {a : α × α} (h : two l = some a) : l = [a.1, a.2] := by
 match l, h with
 | b :: r, h =>
  obtain ⟨c, h1, h2⟩ := obi h
  obtain rfl := one_eq h1
  obtain rfl := si h2
  rfl
theorem three_eq {α : Type} {l : List α} {a : α × α × α} (h : three l = some a) : l = [a.1, a.2.1, a.2.2] := by
 match l, h with
 | b :: r, h =>
  obtain ⟨c, h1, h2⟩ := obi h
  obtain rfl := two_eq h1
  obtain rfl := si h2
  rfl
noncomputable def isNil {α : Type} : List α → Bool
 | [] => true
 | _ :: _ => false
theorem aZ {α : Type} {l : List α} (h : isNil l = true) : l = [] := by
 cases l with
 | nil => rfl
 | cons => exact ft h
noncomputable def callOf (e : Expr) : Option (SStr × Pos × List Expr × Pos) := (asCall e).bind fun x => (aU x.1).bind fun f => match isNil x.2.2.1 with
 | true => some (f.1, f.2, x.2.1, x.2.2.2)
 | false => none
theorem callOf_eq {e : Expr} {x : SStr × Pos × List Expr × Pos} (h : callOf e = some x) : e = .Call (.Name x.1 x.2.1) x.2.2.1 [] x.2.2.2 := by
 obtain ⟨⟨f, as, kw, ps⟩, h1, h⟩ := obi h
 obtain ⟨⟨n, p⟩, h2, h⟩ := obi h
 dsimp only at h h2
 cases q : isNil kw with
 | false => rw [q] at h; exact nn h
 | true =>
  rw [q] at h
  obtain rfl := si h
  obtain rfl := aZ q
  rw [asCall_eq h1, bF h2]
noncomputable def natsEq : List Nat → List Nat → Bool
 | [], [] => true
 | a :: as, b :: bs => match Nat.beq a b with
  | true => natsEq as bs
  | false => false
 | [], _ :: _ => false
 | _ :: _, [] => false
noncomputable def sEq (a b : SStr) : Bool := natsEq a.cps.toList b.cps.toList
theorem natsEq_iff : ∀ {a b : List Nat}, natsEq a b = true ↔ a = b
 | [], [] => by simp [natsEq]
 | [], _ :: _ => by simp [natsEq]
 | _ :: _, [] => by simp [natsEq]
 | a :: as, b :: bs => by
  unfold natsEq
  cases h : Nat.beq a b with
  | true => simp [Nat.eq_of_beq_eq_true h, natsEq_iff]
  | false => simp [Nat.ne_of_beq_eq_false h]
theorem aX {a b : SStr} : sEq a b = true ↔ a = b := by
 obtain ⟨⟨a⟩⟩ := a
 obtain ⟨⟨b⟩⟩ := b
 simp [sEq, natsEq_iff]
theorem sEq_refl (a : SStr) : sEq a a = true := aX.mpr rfl
noncomputable def lk : Vars → SStr → Option Bd
 | [], _ => none
 | (y, b) :: r, x => match sEq y x with
  | true => some b
  | false => lk r x
noncomputable def upd : Vars → SStr → Bd → Vars
 | [], x, b => [(x, b)]
 | (y, c) :: r, x, b => match sEq y x with
  | true => (y, b) :: r
  | false => (y, c) :: upd r x b
noncomputable def frz (vs : Vars) (x : SStr) : Vars := match lk vs x with
 | some (.own d) => upd vs x (.imm d)
 | _ => vs
noncomputable def aA (vs : Vars) (xs : List SStr) : Vars := xs.foldl frz vs
noncomputable def allImm : Vars → Vars
 | [] => []
 | (x, .imm d) :: r => (x, .imm d) :: allImm r
 | (x, .own d) :: r => (x, .imm d) :: allImm r
structure Cx where
 call : SStr → Option (List D → MR D)
 ins : D → D → D → MR D
 glob : SStr → Option D
noncomputable def ofO {α : Type} (x : Option α) : MR α := match x with
 | some a => rt a
 | none => none
noncomputable def b2 (b : Bool) : Int := match b with | true => 1 | false => 0
noncomputable def repL (l : List D) : Nat → List D
 | 0 => []
 | n + 1 => l ++ repL l n
noncomputable def aG {α : Type} (b : Bool) (x : Option α) : Option α := match b with
 | true => x
 | false => none
noncomputable def yes (x : Option Bool) : Bool := x.getD false
noncomputable def asInt : D → Option Int
 | .int i => some i
 | _ => none
noncomputable def asBoo : D → Option Bool
 | .bool i => some i
 | _ => none
noncomputable def asStr : D → Option SStr
 | .str i => some i
 | _ => none
noncomputable def asL : D → Option (List D)
 | .list i => some i
 | _ => none
noncomputable def asT : D → Option (List D)
 | .tuple i => some i
 | _ => none
noncomputable def asD : D → Option (List (D × D))
 | .dict i => some i
 | _ => none
theorem bA {d : D} {i : Int} (h : asInt d = some i) : d = .int i := by cases d <;> first | exact nn h | exact si h ▸ rfl
theorem asBoo_eq {d : D} {i : Bool} (h : asBoo d = some i) : d = .bool i := by cases d <;> first | exact nn h | exact si h ▸ rfl
theorem asStr_eq {d : D} {i : SStr} (h : asStr d = some i) : d = .str i := by cases d <;> first | exact nn h | exact si h ▸ rfl
theorem asL_eq {d : D} {i : List D} (h : asL d = some i) : d = .list i := by cases d <;> first | exact nn h | exact si h ▸ rfl
theorem asT_eq {d : D} {i : List D} (h : asT d = some i) : d = .tuple i := by cases d <;> first | exact nn h | exact si h ▸ rfl
theorem asD_eq {d : D} {i : List (D × D)} (h : asD d = some i) : d = .dict i := by cases d <;> first | exact nn h | exact si h ▸ rfl
theorem aB {α : Type} {b : Bool} {x : Option α} {y : α} (e : aG b x = some y) : b = true ∧ x = some y := by
 cases b with
 | true => exact ⟨rfl, e⟩
 | false => exact nn e
noncomputable def bAdd (a b : D) : Option D := match a with
 | .int a => (asInt b).bind fun b => some (.int (a + b))
 | .list a => (asL b).bind fun b => aG (Nat.ble (a.length + b.length) 1000) (some (.list (a ++ b)))
 | .str a => (asStr b).bind fun b => aG (Nat.ble (a.length + b.length) 1000) (some (.str (a ++ b)))
 | _ => none
noncomputable def bSub (a b : D) : Option D := match a with
 | .int a => (asInt b).bind fun b => some (.int (a - b))
 | .bool a => (asBoo b).bind fun b => some (.int (b2 a - b2 b))
 | _ => none
noncomputable def bMul (a b : D) : Option D := match a with
 | .int a => (asInt b).bind fun b => aG (Nat.blt a.natAbs 18446744073709551616) (some (.int (a * b)))
 | .list a => (asInt b).bind fun b => aG (Nat.ble (a.length * b.toNat) 1000 && (decide (b < 1000) && decide (-1000 < b))) (some (.list (repL a b.toNat)))
 | _ => none
noncomputable def bInt (a b : D) (f : Int → Int → Option D) : Option D := (asInt a).bind fun a => (asInt b).bind fun b => f a b
noncomputable def binop (op : Operator) (a b : D) : Option D := match op with
 | .Add => bAdd a b
 | .Sub => bSub a b
 | .Mult => bMul a b
 | .FloorDiv => bInt a b fun a b => aG (Nat.blt b.natAbs 1073741824 && !(b == 0)) (some (.int (a.fdiv b)))
 | .Mod => bInt a b fun a b => aG (!(b == 0)) (some (.int (a.fmod b)))
 | .Pow => bInt a b fun a b => aG (decide (0 ≤ b) && decide (b ≤ 10000) && Nat.blt a.natAbs 18446744073709551616) (some (.int (a ^ b.toNat)))
 | _ => none
noncomputable def noDict : D → Bool := fun d => d.canLay0 && Nat.ble d.depth 64
noncomputable def intN (n : Nat) : D := .int (Int.ofNat n)
noncomputable def dlen : D → Option Nat
 | .list l => aG (Nat.ble l.length 10000) (some l.length)
 | .tuple l => aG (Nat.ble l.length 10000) (some l.length)
 | .dict l => aG (Nat.ble l.length 10000) (some l.length)
 | _ => none
noncomputable def kyOf (d : D) : Option (Int × Int × Int) := (asT d).bind fun l => (three l).bind fun x => (asT x.1).bind fun n => match n with
 | [] => (asT x.2.1).bind fun r => (two r).bind fun y => (asInt y.1).bind fun p => (asInt y.2).bind fun q => (asInt x.2.2).bind fun l => some (p, q, l)
 | _ :: _ => none
noncomputable def kyD (k : Int × Int × Int) : D := .tuple [.tuple [], .tuple [.int k.1, .int k.2.1], .int k.2.2]
noncomputable def tEq (a b : Int × Int × Int) : Bool := a.1 == b.1 && a.2.1 == b.2.1 && a.2.2 == b.2.2
noncomputable def kEq (a b : D) : Bool := match kyOf a, kyOf b with
 | some x, some y => tEq x y
 | _, _ => false
noncomputable def isKey (d : D) : Bool := (kyOf d).isSome
noncomputable def dget : List (D × D) → D → Option D
 | [], _ => none
 | (a, b) :: r, k => match kEq a k with
  | true => some b
  | false => dget r k
noncomputable def dset : List (D × D) → D → D → List (D × D)
 | [], k, v => [(k, v)]
 | (a, b) :: r, k, v => match kEq a k with
  | true => (a, v) :: r
  | false => (a, b) :: dset r k v
noncomputable def ratOf (d : D) : Option (Int × Int) := (asT d).bind fun r => (two r).bind fun y => (asInt y.1).bind fun p => (asInt y.2).bind fun q => some (p, q)
noncomputable def isRat (d : D) : Bool := (ratOf d).isSome
noncomputable def dict1 (d : D) : Option (D × D) := (asD d).bind one
noncomputable def dictHd (d : D) : Option (List (D × D)) := (asT d).bind fun l => match l with
 | [] => none
 | a :: _ => asD a
noncomputable def both {α : Type} (x y : Option α) : Option (α × α) := x.bind fun a => y.bind fun b => some (a, b)
noncomputable def eqD (a b : D) : Option Bool := match both (dict1 a) (dict1 b) with
 | some p => aG (isKey p.1.1 && isKey p.2.1 && isRat p.1.2 && isRat p.2.2) (some (match kEq p.1.1 p.2.1 with | true => PyData.eqv p.1.2 p.2.2 | false => false))
 | none => match both (dictHd a) (dictHd b) with
  | some p => aG (!(Nat.beq p.1.length p.2.length)) (some false)
  | none => aG (noDict a && noDict b) (some (PyData.eqv a b))
noncomputable def cInt (a b : D) (f : Int → Int → Bool) : Option D := (asInt a).bind fun a => (asInt b).bind fun b => some (.bool (f a b))
noncomputable def isNone : D → Bool
 | .none => true
 | _ => false
noncomputable def cIs (a b : D) (f : Bool → Bool) : Option D := match isNone b with
 | true => some (.bool (f (isNone a)))
 | false => none
noncomputable def cIn (a b : D) (f : Bool → Bool) : Option D := (asStr a).bind fun a => (asT b).bind fun l => aG (noDict (.tuple l) && noDict (.str a)) (some (.bool (f (l.any fun y => PyData.eqv y (.str a)))))
noncomputable def cmp (op : CmpOp) (a b : D) : Option D := match op with
 | .Eq => (eqD a b).bind fun x => some (.bool x)
 | .NotEq => match dictHd a with
  | some _ => none
  | none => (eqD a b).bind fun x => some (.bool (!x))
 | .Lt => cInt a b fun a b => decide (a < b)
 | .Gt => cInt a b fun a b => decide (b < a)
 | .LtE => cInt a b fun a b => decide (a ≤ b)
 | .GtE => cInt a b fun a b => decide (b ≤ a)
 | .Is => cIs a b id
 | .IsNot => cIs a b not
 | .In => cIn a b id
 | .NotIn => cIn a b not
noncomputable def item (d k : D) : Option D := match d with
 | .list l => (asInt k).bind fun i => aG (decide (0 ≤ i) && decide (i < 1000)) l[i.toNat]?
 | .tuple l => (asInt k).bind fun i => aG (decide (0 ≤ i) && decide (i < 1000)) l[i.toNat]?
 | .dict l => aG (isKey k) (dget l k)
 | _ => none
noncomputable def fits (l : List D) : Bool := Nat.ble l.length 1000
noncomputable def cutL (l : List D) (up : Bool) (i : D) : Option (List D) := (asInt i).bind fun i => match up with
 | false => aG (decide (0 ≤ i) && decide (i < 1000) && fits l) (some (l.take i.toNat))
 | true => aG (decide (0 ≤ i) && Nat.ble i.toNat l.length && fits l) (some (l.drop i.toNat))
noncomputable def intsD : List Int → List D := List.map .int
noncomputable def upto (a : Int) : Nat → List Int
 | 0 => []
 | n + 1 => a :: upto (a + 1) n
noncomputable def rangeD (l : List D) : Option (List D) := match one l with
 | some d => (asInt d).bind fun b => aG (decide (b ≤ 1000) && decide (-1000 ≤ b)) (some (intsD (upto 0 (b - 0).toNat)))
 | none => (two l).bind fun y => (asInt y.1).bind fun a => (asInt y.2).bind fun b => aG (decide (b ≤ 1000) && decide (-1000 ≤ b) && decide (a ≤ 1000) && decide (-1000 ≤ a)) (some (intsD (upto a (b - a).toNat)))
noncomputable def intsOf : List D → Option (List Int)
 | [] => some []
 | .int a :: r => (intsOf r).map (a :: ·)
 | _ => none
noncomputable def imaxs (l : List D) : Option Int := match intsOf l with
 | some (x :: r) => aG (Nat.ble r.length 1000) (some (r.foldl (fun m x => if m < x then x else m) x))
 | _ => none
noncomputable def kyHash (k : Int × Int × Int) : Int :=
 reduceHash (Builtin.Tuple.tupleHashOf [reduceHash (Builtin.Tuple.tupleHashOf []), reduceHash (Builtin.Tuple.tupleHashOf [hashInt k.1, hashInt k.2.1]), hashInt k.2.2])
noncomputable def khash (d : D) : Int := match kyOf d with
 | some k => kyHash k
 | none => 0
noncomputable def apart : List Int → Bool
 | [] => true
 | x :: r => !(r.any fun y => x == y) && apart r
noncomputable def nm (s : String) : SStr := PySem.Str.ofString s
noncomputable def absB (as : List D) : Option D := (one as).bind fun a => (asInt a).bind fun a => some (.int a.natAbs)
noncomputable def minB (as : List D) : Option D := (two as).bind fun y => (asInt y.1).bind fun a => (asInt y.2).bind fun b => some (.int (if b < a then b else a))
noncomputable def maxB (as : List D) : Option D := match one as with
 | some d => (asL d).bind fun l => (imaxs l).map .int
 | none => (two as).bind fun y => (asInt y.1).bind fun a => (asInt y.2).bind fun b => some (.int (if a < b then b else a))
noncomputable def lenB (as : List D) : Option D := (one as).bind fun d => (dlen d).map intN
noncomputable def seqOf : D → Option (List D)
 | .list l => some l
 | .tuple l => some l
 | _ => none
noncomputable def listB (as : List D) : Option D := (one as).bind fun d => (seqOf d).bind fun l => aG (fits l) (some (.list l))
noncomputable def tupleB (as : List D) : Option D := (one as).bind fun d => (asL d).bind fun l => aG (fits l) (some (.tuple l))
noncomputable def dictB (as : List D) : Option D := (one as).bind fun d => match d with
 | .dict l => aG (Nat.ble l.length 1000 && apart (l.map fun p => khash p.1)) (some (.dict l))
 | .list l => aG (isNil l) (some (.dict []))
 | _ => none
noncomputable def sortedB (as : List D) : Option D := (one as).bind fun d => (asD d).bind fun l => aG (isNil l) (some (.list []))
noncomputable def tabS {α : Type} (l : List (SStr × α)) (x : SStr) : Option α := match l with
 | [] => none
 | (y, g) :: r => match sEq y x with
  | true => some g
  | false => tabS r x
theorem tabS_mem {α : Type} {x : SStr} {g : α} : ∀ {l : List (SStr × α)}, tabS l x = some g → (x, g) ∈ l
 | [], h => nn h
 | (y, a) :: r, h => by
  unfold tabS at h
  cases q : sEq y x with
  | true =>
   rw [q] at h
   obtain rfl := si h
   rw [aX.mp q]
   exact mz
  | false =>
   rw [q] at h
   exact mc _ (tabS_mem h)
noncomputable def blts : List (SStr × (List D → Option D)) := [(nm "abs", absB), (nm "min", minB), (nm "max", maxB), (nm "len", lenB), (nm "list", listB), (nm "tuple", tupleB), (nm "dict", dictB), (nm "sorted", sortedB)]
noncomputable def blt (f : SStr) (as : List D) : Option (Option D) := (tabS blts f).bind fun g => some (g as)
noncomputable def bltVals : List (SStr × Value) := [(nm "abs", .builtin "abs"), (nm "min", .builtin "min"), (nm "max", .builtin "max"), (nm "len", .builtin "len"), (nm "sorted", .builtin "sorted"), (nm "list", .type "list"), (nm "tuple", .type "tuple"), (nm "dict", .type "dict"), (nm "range", .type "range")]
noncomputable def bltVal (f : SStr) : Option Value := tabS bltVals f
noncomputable def iterOf : D → Option (List D)
 | .list l => aG (fits l) (some l)
 | .tuple l => aG (fits l) (some l)
 | .dict l => aG (Nat.ble l.length 1000) (some (l.map (·.1)))
 | _ => none
noncomputable abbrev Names := List (SStr × NameKind)
noncomputable def bZ (ns : Names) (x : SStr) : Bool := match ns.lookup x with
 | some .globalImplicit => true
 | _ => false
noncomputable def relab (ns cn : Names) : Names := cn.map fun (n, k) => match k, ns.lookup n with
 | .free, some .cell => (n, .cell)
 | k, _ => (n, k)
noncomputable def compOk (ns : Names) (sc : Scope) : Bool := sc.kind == .function && (sc.names.all fun (y, k) => match k with
 | .cell => false
 | .local => sc.names.lookup y == some .local
 | .free => ns.lookup y == some .cell && sc.names.lookup y == some .free
 | _ => true) && (sc.names.lookup (nm "__debug__")).isNone && (sc.names.lookup (nm "__classdict__")).isNone
noncomputable def isLoc (ns : Names) (x : SStr) : Bool := ns.lookup x == some .local
noncomputable def isSet (e : Expr) : Bool := Expr.casesOn (motive_1 := fun _ => Bool) e (k3 false) (k3 false) (k4 false) (k3 false) (k4 false) (k4 false) (k3 false) (k3 true) (k4 false) (k4 false) (k5 false) (k4 false) (k2 false) (k2 false) (k2 false) (k4 false) (k4 false) (k4 false) (k2 false) (k3 false) (k3 false) (k3 false) (k2 false) (k2 false) (k2 false) (k3 false) (k4 false)
noncomputable def mapR {α β : Type} (f : α → MR β) : List α → MR (List β)
 | [] => rt []
 | a :: r => bnd (f a) fun b => bnd (mapR f r) fun bs => rt (b :: bs)
noncomputable def compR (test : D → MR Bool) (elt : D → MR D) : List D → MR (List D)
 | [] => rt []
 | a :: r => bnd (test a) fun q => match q with
  | true => bnd (elt a) fun b => bnd (compR test elt r) fun bs => rt (b :: bs)
  | false => compR test elt r
noncomputable def bI (e : Expr) : Bool := Expr.casesOn (motive_1 := fun _ => Bool) e (k3 true) (k3 true) (k4 true) (k3 true) (k4 true) (k4 true) (k3 true) (k3 true) (k4 true) (k4 true) (k5 true) (k4 true) (k2 true) (k2 true) (k2 true) (k4 true) (k4 true) (k4 true) (k2 true) (k3 true) (k3 true) (k3 true) (k2 false) (k2 true) (k2 true) (k3 true) (k4 true)
noncomputable def isRange (ns : Names) (e : Expr) : Option (List Expr) := (callOf e).bind fun x => aG (sEq x.1 (nm "range") && bZ ns x.1 && x.2.2.1.all bI) (some x.2.2.1)
noncomputable def valsOf (it : Expr) : Option (SStr × SStr × Pos × Pos) := (asCall it).bind fun x => (asAttribute x.1).bind fun y => (aU y.1).bind fun a => aG (isNil x.2.1 && isNil x.2.2.1) (some (a.1, y.2.1, y.2.2, x.2.2.2))
theorem valsOf_eq {it : Expr} {x : SStr × SStr × Pos × Pos} (h : valsOf it = some x) : ∃ p, it = .Call (.Attribute (.Name x.1 p) x.2.1 x.2.2.1) [] [] x.2.2.2 := by
 obtain ⟨⟨f, as, kw, ps⟩, h1, h⟩ := obi h
 obtain ⟨⟨v, m, ap⟩, h2, h⟩ := obi h
 obtain ⟨⟨a, p⟩, h3, h⟩ := obi h
 dsimp only at h h2 h3
 obtain ⟨g, h⟩ := aB h
 obtain ⟨g1, g2⟩ := ba g
 obtain rfl := si h
 exact ⟨p, by rw [asCall_eq h1, asAttribute_eq h2, bF h3, aZ g1, aZ g2]⟩
noncomputable def capt (vs : Vars) : Names → Vars
 | [] => []
 | (x, k) :: r => match k, lk vs x with
  | .free, some (.imm d) => (x, .imm d) :: capt vs r
  | _, _ => capt vs r
noncomputable def compTest (e : Bool → Names → Vars → Expr → MR D) (cn : Names) (vs : Vars) : List Expr → MR Bool
 | [] => rt true
 | t :: r => match isNil r with
  | true => bnd (e true cn vs t) fun q => (asBoo q).bind fun b => rt b
  | false => none
noncomputable def compGo (e : Bool → Names → Vars → Expr → MR D) (ns : Names) (vs : Vars) (tg elt : Expr) (ifs : List Expr) (sc : Scope) : List D → MR D
 | [] => rt (.list [])
 | d :: l => (aU tg).bind fun x => match isLoc sc.names x.1 && Nat.ble (d :: l).length 1000 with
  | false => none
  | true => bnd (compR (fun d => compTest e (relab ns sc.names) (upd (capt vs sc.names) x.1 (.imm d)) ifs) (fun d => e false (relab ns sc.names) (upd (capt vs sc.names) x.1 (.imm d)) elt) (d :: l)) fun ds => rt (.list ds)
noncomputable def bdImm : Bd → Option D
 | .imm d => some d
 | .own _ => none
noncomputable def bdOwn : Bd → Option D
 | .own d => some d
 | .imm _ => none
noncomputable def lkImm (vs : Vars) (x : SStr) : Option D := (lk vs x).bind bdImm
noncomputable def lkOwn (vs : Vars) (x : SStr) : Option D := (lk vs x).bind bdOwn
theorem lkImm_eq {vs : Vars} {x : SStr} {d : D} (h : lkImm vs x = some d) : lk vs x = some (.imm d) := by
 obtain ⟨b, h1, h⟩ := obi h
 cases b with
 | imm e => rw [h1, si h]
 | own e => exact nn h
theorem lkOwn_eq {vs : Vars} {x : SStr} {d : D} (h : lkOwn vs x = some d) : lk vs x = some (.own d) := by
 obtain ⟨b, h1, h⟩ := obi h
 cases b with
 | own e => rw [h1, si h]
 | imm e => exact nn h
noncomputable def srcOf (e : Bool → Names → Vars → Expr → MR D) (ns : Names) (vs : Vars) (it : Expr) : MR (List D) := match isRange ns it with
 | some as => bnd (mapR (e false ns vs) as) fun ds => ofO (rangeD ds)
 | none => match valsOf it with
  | some x => aG (sEq x.2.1 (nm "values") && x.2.2.1.endLine == x.2.2.2.line) ((lkImm vs x.1).bind fun d => (asD d).bind fun l => match Nat.ble l.length 1000 with
   | true => rt (l.map (·.2))
   | false => none)
  | none => bnd (e false ns vs it) fun d => ofO (iterOf d)
noncomputable def asBool (x : MR D) : MR D := bnd x fun r => match r with
 | .bool b => rt (.bool b)
 | _ => none
noncomputable def baseOf (e : Bool → Names → Vars → Expr → MR D) (ns : Names) (vs : Vars) (v : Expr) : MR D := match (aU v).bind fun x => lkOwn vs x.1 with
 | some d => rt d
 | none => e false ns vs v
noncomputable abbrev EvF := Bool → Names → Vars → Expr → MR D
noncomputable def evConst : Const → MR D
 | .none => rt .none
 | .bool b => rt (.bool b)
 | .int i => rt (.int i)
 | .str s => rt (.str s)
 | _ => none
noncomputable def evName (c : Cx) (ns : Names) (vs : Vars) (x : SStr) : MR D := match lk vs x with
 | some b => (bdImm b).bind rt
 | none => match bZ ns x with
  | true => ofO (c.glob x)
  | false => none
noncomputable def evBool (e : EvF) (ns : Names) (vs : Vars) (op : BoolOp) (es : List Expr) : MR D := (two es).bind fun y => match op with
 | .And => bnd (e false ns vs y.1) fun q => match q with
  | .bool true => asBool (e false ns vs y.2)
  | .bool false => rt (.bool false)
  | _ => none
 | .Or => bnd (e false ns vs y.1) fun q => match q with
  | .bool false => asBool (e false ns vs y.2)
  | .bool true => rt (.bool true)
  | _ => none
noncomputable def evCmp (e : EvF) (ns : Names) (vs : Vars) (l : Expr) (ops : List CmpOp) (rs : List Expr) : MR D := (one ops).bind fun op => (one rs).bind fun r => match isSet r with
 | false => bnd (e false ns vs l) fun a => bnd (e false ns vs r) fun b => ofO (cmp op a b)
 | true => none
noncomputable def sliceOf (i : Expr) : Option (Bool × Expr × Pos) := (asSlice i).bind fun x => match x.2.2.1 with
 | some _ => none
 | none => match x.1 with
  | none => x.2.1.bind fun h => some (false, h, x.2.2.2)
  | some h => match x.2.1 with
   | none => some (true, h, x.2.2.2)
   | some _ => none
noncomputable def sliceTree (b : Bool) (h : Expr) (p : Pos) : Expr := match b with
 | false => .Slice none (some h) none p
 | true => .Slice (some h) none none p
theorem sliceOf_eq {i : Expr} {x : Bool × Expr × Pos} (h : sliceOf i = some x) : i = sliceTree x.1 x.2.1 x.2.2 := by
 obtain ⟨⟨a, b, c, p⟩, h1, h⟩ := obi h
 rw [asSlice_eq h1]
 cases c with
 | some _ => exact nn h
 | none =>
  cases a with
  | none =>
   cases b with
   | none => exact nn h
   | some b => obtain rfl := si h; rfl
  | some a =>
   cases b with
   | none => obtain rfl := si h; rfl
   | some b => exact nn h
noncomputable def evSub (e : EvF) (ns : Names) (vs : Vars) (v i : Expr) : MR D := match sliceOf i with
 | some x => bnd (e false ns vs v) fun d => (asL d).bind fun l => bnd (e false ns vs x.2.1) fun i => ofO ((cutL l x.1 i).map .list)
 | none => bnd (baseOf e ns vs v) fun d => bnd (e false ns vs i) fun k => ofO (item d k)
noncomputable def evDict (e : EvF) (ns : Names) (vs : Vars) (ks : List (Option Expr)) (es : List Expr) : MR D := match ks with
 | [] => match isNil es with
  | true => rt (.dict [])
  | false => none
 | k :: r => match isNil r with
  | true => k.bind fun k => (one es).bind fun v => bnd (e false ns vs k) fun a => bnd (e false ns vs v) fun b => ofO (aG (isKey a && isRat b) (some (.dict [(a, b)])))
  | false => none
noncomputable def bdOf : Bd → D
 | .imm d => d
 | .own d => d
noncomputable def evGet (e : EvF) (ns : Names) (vs : Vars) (x : SStr) (as : List Expr) : MR D := (two as).bind fun y => match bI y.1 && bI y.2 with
 | true => (lk vs x).bind fun o => (asD (bdOf o)).bind fun l => bnd (e false ns vs y.1) fun a => bnd (e false ns vs y.2) fun b => ofO (aG (isKey a) (some ((dget l a).getD b)))
 | false => none
noncomputable def evBlt (e : EvF) (ns : Names) (vs : Vars) (f : SStr) (as : List Expr) : MR D := (bltVal f).bind fun _ => bnd (mapR (e false ns vs) as) fun ds => (blt f ds).bind ofO
noncomputable def lenArg (f : SStr) (as : List Expr) : Option Expr := aG (sEq f (nm "len")) (one as)
noncomputable def evFn (c : Cx) (e : EvF) (ns : Names) (vs : Vars) (f : SStr) (as : List Expr) : MR D := match bZ ns f && as.all bI with
 | false => none
 | true => match c.call f with
  | some g => bnd (mapR (e false ns vs) as) g
  | none => match lenArg f as with
   | some x => bnd (baseOf e ns vs x) fun d => ofO ((dlen d).map intN)
   | none => evBlt e ns vs f as
noncomputable def evCall (c : Cx) (e : EvF) (ns : Names) (vs : Vars) (f : Expr) (as : List Expr) (kw : List Keyword) (ps : Pos) : MR D := match isNil kw with
 | false => none
 | true => match aU f with
  | some x => evFn c e ns vs x.1 as
  | none => (asAttribute f).bind fun y => (aU y.1).bind fun x => match sEq y.2.1 (nm "get") && y.2.2.endLine == ps.line with
   | true => evGet e ns vs x.1 as
   | false => none
noncomputable def evComp (e : EvF) (ns : Names) (vs : Vars) (elt : Expr) (gs : List Comprehension) (sc : Scope) : MR D := (one gs).bind fun g => match decide (g.is_async = 0) && compOk ns sc && !(isSet g.iter) with
 | false => none
 | true => bnd (srcOf e ns vs g.iter) (compGo e ns vs g.target elt g.ifs sc)
noncomputable def evTup (e : EvF) (ns : Names) (vs : Vars) (es : List Expr) : MR D := match es.all bI with
 | true => bnd (mapR (e false ns vs) es) fun ds => ofO (aG (fits ds) (some (.tuple ds)))
 | false => none
noncomputable def evLst (e : EvF) (ns : Names) (vs : Vars) (es : List Expr) : MR D := match es.all bI with
 | true => bnd (mapR (e false ns vs) es) fun ds => ofO (aG (fits ds) (some (.list ds)))
 | false => none
noncomputable def evBin (e : EvF) (ns : Names) (vs : Vars) (l : Expr) (op : Operator) (r : Expr) : MR D := bnd (e false ns vs l) fun a => bnd (e false ns vs r) fun b => ofO (binop op a b)
noncomputable def isUSub : UnaryOp → Bool
 | .USub => true
 | _ => false
noncomputable def evNeg (e : EvF) (ns : Names) (vs : Vars) (op : UnaryOp) (x : Expr) : MR D := match isUSub op with
 | true => bnd (e false ns vs x) fun a => (asInt a).bind fun i => rt (.int (-i))
 | false => none
noncomputable def evIf (e : EvF) (ns : Names) (vs : Vars) (t a b : Expr) : MR D := bnd (e true ns vs t) fun q => match q with
 | .bool true => e false ns vs a
 | .bool false => e false ns vs b
 | _ => none
noncomputable def evE (c : Cx) (e : EvF) (ns : Names) (vs : Vars) (x : Expr) : MR D := Expr.casesOn (motive_1 := fun _ => MR D) x (fun op es _ => evBool e ns vs op es) (k3 none) (fun l op r _ => evBin e ns vs l op r) (fun op x _ => evNeg e ns vs op x) (k4 none) (fun t a b _ => evIf e ns vs t a b) (fun ks es _ => evDict e ns vs ks es) (k3 none) (fun elt gs sc _ => evComp e ns vs elt gs sc) (k4 none) (k5 none) (k4 none) (k2 none) (k2 none) (k2 none) (fun l ops rs _ => evCmp e ns vs l ops rs) (fun f as kw ps => evCall c e ns vs f as kw ps) (k4 none) (k2 none) (fun k _ _ => evConst k) (k3 none) (fun v i _ => evSub e ns vs v i) (k2 none) (fun x _ => evName c ns vs x) (fun es _ => evLst e ns vs es) (fun es _ _ => evTup e ns vs es) (k4 none)
noncomputable def tBool (e : EvF) (ns : Names) (vs : Vars) (op : BoolOp) (x : Expr) (k : MR D) : MR D := match op with
 | .And => bnd (e true ns vs x) fun q => match q with
  | .bool true => k
  | .bool false => rt (.bool false)
  | _ => none
 | .Or => bnd (e true ns vs x) fun q => match q with
  | .bool false => k
  | .bool true => rt (.bool true)
  | _ => none
noncomputable def evTBool (e : EvF) (ns : Names) (vs : Vars) (op : BoolOp) (es : List Expr) : MR D := match two es with
 | some y => tBool e ns vs op y.1 (asBool (e true ns vs y.2))
 | none => (three es).bind fun y => tBool e ns vs op y.1 (tBool e ns vs op y.2.1 (asBool (e true ns vs y.2.2)))
noncomputable def booOf : Const → Option Bool
 | .bool b => some b
 | _ => none
noncomputable def evTConst (k : Const) : MR D := (booOf k).bind fun b => asBool (rt (.bool b))
noncomputable def evT (c : Cx) (e : EvF) (ns : Names) (vs : Vars) (x : Expr) : MR D := Expr.casesOn (motive_1 := fun _ => MR D) x (fun op es _ => evTBool e ns vs op es) (k3 none) (k4 none) (k3 none) (k4 none) (k4 none) (k3 none) (k3 none) (k4 none) (k4 none) (k5 none) (k4 none) (k2 none) (k2 none) (k2 none) (fun l ops rs _ => evCmp e ns vs l ops rs) (fun f as kw p => asBool (evCall c e ns vs f as kw p)) (k4 none) (k2 none) (fun k _ _ => evTConst k) (k3 none) (k3 none) (k2 none) (fun x _ => asBool (evName c ns vs x)) (k2 none) (k3 none) (k4 none)
noncomputable def ev (c : Cx) : Nat → Bool → Names → Vars → Expr → MR D
 | 0, _, _, _, _ => none
 | n + 1, tst, ns, vs, x => match tst with
  | false => evE c (ev c n) ns vs x
  | true => evT c (ev c n) ns vs x
noncomputable def optL (f : Expr → List SStr) : Option Expr → List SStr
 | some a => f a
 | none => []
noncomputable def leakSub (f : Expr → List SStr) (v i : Expr) : List SStr := match aU v with
 | some _ => f i
 | none => f v ++ f i
noncomputable def leakCall (f : Expr → List SStr) (g : Expr) (as : List Expr) : List SStr := match aU g with
 | some x => match (lenArg x.1 as).bind aU with
  | some _ => []
  | none => as.flatMap f
 | none => match (asAttribute g).bind fun y => aU y.1 with
  | some _ => as.flatMap f
  | none => []
noncomputable def freesOf (ns : Names) : List SStr := ns.filterMap fun (x, k) => match k with
 | .free => some x
 | _ => none
noncomputable def leakE (f : Expr → List SStr) (e : Expr) : List SStr := Expr.casesOn (motive_1 := fun _ => List SStr) e (fun _ es _ => es.flatMap f) (k3 []) (fun l _ r _ => f l ++ f r) (fun _ x _ => f x) (k4 []) (fun t a b _ => f t ++ f a ++ f b) (fun ks vs _ => ks.flatMap (optL f) ++ vs.flatMap f) (k3 []) (fun _ gs sc _ => freesOf sc.names ++ gs.flatMap fun g => f g.iter) (k4 []) (k5 []) (k4 []) (k2 []) (k2 []) (k2 []) (fun l _ rs _ => f l ++ rs.flatMap f) (fun g as _ _ => leakCall f g as) (k4 []) (k2 []) (k3 []) (k3 []) (fun v i _ => leakSub f v i) (k2 []) (fun x _ => [x]) (fun es _ => es.flatMap f) (fun es _ _ => es.flatMap f) (fun a b _ _ => optL f a ++ optL f b)
noncomputable def bY : Nat → Expr → List SStr
 | 0, _ => []
 | n + 1, e => leakE (bY n) e
noncomputable def isFresh (ns : Names) (v : Expr) : Bool := match asList v with
 | some x => isNil x.1
 | none => match asDict v with
  | some x => isNil x.1 && isNil x.2.1
  | none => match callOf v with
   | some x => (one x.2.2.1).isSome && (sEq x.1 (nm "dict") && bZ ns x.1 && x.2.2.1.all bI)
   | none => false
inductive Fl where
 | next
 | ret (d : D)
noncomputable abbrev SR := Option (Vars × Except SStr Fl)
noncomputable def bndS {α : Type} (vs : Vars) (x : MR α) (f : α → SR) : SR := match x with
 | none => none
 | some (.error k) => some (vs, .error k)
 | some (.ok a) => f a
noncomputable def seqS (f : Stmt → Vars → SR) : List Stmt → Vars → SR
 | [], vs => some (vs, .ok .next)
 | s :: r, vs => match f s vs with
  | some (vs', .ok .next) => seqS f r vs'
  | x => x
noncomputable def forS (bind : Vars → D → Vars) (body : Vars → SR) : List D → Vars → SR
 | [], vs => some (vs, .ok .next)
 | d :: r, vs => match body (bind vs d) with
  | some (vs', .ok .next) => forS bind body r vs'
  | x => x
noncomputable def whileS (test : Vars → MR D) (body : Vars → SR) : Nat → Vars → SR
 | 0, _ => none
 | n + 1, vs => bndS vs (test vs) fun q => match q with
  | .bool true => match body vs with
   | some (vs', .ok .next) => whileS test body n vs'
   | x => x
  | .bool false => some (vs, .ok .next)
  | _ => none
noncomputable def bM (ns : Names) (x : SStr) : Bool := ns.lookup x == some .local || ns.lookup x == some .cell
noncomputable def setN (ns : Names) : List Expr → List D → Vars → Option Vars
 | [], [], vs => some vs
 | t :: ts, d :: ds, vs => (aU t).bind fun x => match bM ns x.1 with
  | true => setN ns ts ds (upd vs x.1 (.imm d))
  | false => none
 | _, _, _ => none
noncomputable def setT (ns : Names) : List Expr → List D → Vars → Option Vars
 | [], [], vs => some vs
 | t :: ts, d :: ds, vs => match aU t with
  | some x => match bM ns x.1 with
   | true => setT ns ts ds (upd vs x.1 (.imm d))
   | false => none
  | none => (asTuple t).bind fun us => (asT d).bind fun es => (setN ns us.1 es vs).bind fun vs' => setT ns ts ds vs'
 | _, _, _ => none
noncomputable def okSwap (v : Expr) : Bool := match asTuple v with
 | some x => !(x.1.all (constantsAlone 8)) || x.1.all (foldedForSure 8)
 | none => true
noncomputable def isComp (e : Expr) : Bool := Expr.casesOn (motive_1 := fun _ => Bool) e (k3 false) (k3 false) (k4 false) (k3 false) (k4 false) (k4 false) (k3 false) (k3 false) (k4 true) (k4 true) (k5 true) (k4 false) (k2 false) (k2 false) (k2 false) (k4 false) (k4 false) (k4 false) (k2 false) (k3 false) (k3 false) (k3 false) (k2 false) (k2 false) (k2 false) (k3 false) (k4 false)
noncomputable def nilList (e : Expr) : Bool := match asList e with
 | some x => isNil x.1
 | none => false
theorem nilList_eq {e : Expr} (h : nilList e = true) : ∃ p, e = .List [] p := by
 unfold nilList at h
 cases q : asList e with
 | none => rw [q] at h; exact ft h
 | some x =>
  rw [q] at h
  exact ⟨x.2, by rw [asList_eq q, aZ h]⟩
noncomputable def twoLists (ns : Names) (ts : List Expr) (v : Expr) : Option (SStr × SStr) := (two ts).bind fun t => (aU t.1).bind fun x => (aU t.2).bind fun y => (asTuple v).bind fun es => (two es.1).bind fun q => aG (nilList q.1 && nilList q.2 && (bM ns x.1 && bM ns y.1 && !(sEq x.1 y.1))) (some (x.1, y.1))
structure TryHd where
 v : Expr
 vs : Vars
 go : D → SR
 rest : List Stmt
noncomputable def tryHead (ns : Names) (vs : Vars) (b : List Stmt) : Option TryHd := match b with
 | [] => none
 | s :: r => match stReturn s with
  | some x => match isNil r with
   | true => x.1.bind fun v => some ⟨v, allImm vs, fun d => some (allImm vs, .ok (.ret d)), []⟩
   | false => none
  | none => (stAssign s).bind fun a => (one a.1).bind fun t => (aU t).bind fun x => match bM ns x.1 && !(isFresh ns a.2.1) && !(isComp a.2.1) with
   | true => some ⟨a.2.1, aA vs (bY 20 a.2.1), fun d => some (upd (aA vs (bY 20 a.2.1)) x.1 (.imm d), .ok .next), r⟩
   | false => none
noncomputable def noErr : SR → SR
 | some (_, .error _) => none
 | x => x
noncomputable def exName (c : Cx) (e : EvF) (ns : Names) (vs : Vars) (x : SStr) (v : Expr) : SR := match bM ns x with
 | false => none
 | true => match isFresh ns v with
  | true => bndS (aA vs (bY 20 v)) (e false ns (aA vs (bY 20 v)) v) fun d => some (upd (aA vs (bY 20 v)) x (.own d), .ok .next)
  | false => bndS (aA vs (bY 20 v)) (e false ns (aA vs (bY 20 v)) v) fun d => some (upd (aA vs (bY 20 v)) x (.imm d), .ok .next)
noncomputable def exTup (e : EvF) (ns : Names) (vs : Vars) (ts : List Expr) (v : Expr) : SR := match twoLists ns ts v with
 | some (x, y) => some (upd (upd (aA vs (bY 20 v)) x (.own (.list []))) y (.own (.list [])), .ok .next)
 | none => match okSwap v with
  | true => bndS (aA vs (bY 20 v)) (e false ns (aA vs (bY 20 v)) v) fun d => match d with
   | .tuple ds => (setT ns ts ds (aA vs (bY 20 v))).map fun vs2 => (vs2, .ok .next)
   | .list ds => (setT ns ts ds (aA vs (bY 20 v))).map fun vs2 => (vs2, .ok .next)
   | _ => none
  | false => none
noncomputable def exItem (e : EvF) (ns : Names) (vs : Vars) (x : SStr) (i v : Expr) : SR := match isComp v with
 | true => none
 | false =>
  bndS (aA vs (bY 20 v ++ bY 20 i)) (e false ns (aA vs (bY 20 v ++ bY 20 i)) v) fun d => (lkOwn (aA vs (bY 20 v ++ bY 20 i)) x).bind fun o => (asD o).bind fun l => bndS (aA vs (bY 20 v ++ bY 20 i)) (e false ns (aA vs (bY 20 v ++ bY 20 i)) i) fun a => match isKey a && isRat d && Nat.ble l.length 1000 with
   | true => some (upd (aA vs (bY 20 v ++ bY 20 i)) x (.own (.dict (dset l a d))), .ok .next)
   | false => none
inductive Tgt where
 | name (x : SStr) (p : Pos)
 | tup (ts : List Expr) (k : Nat) (p : Pos)
 | item (x : SStr) (q : Pos) (i : Expr) (p : Pos)
noncomputable def Tgt.tree : Tgt → List Expr
 | .name x p => [.Name x p]
 | .tup ts k p => [.Tuple ts k p]
 | .item x q i p => [.Subscript (.Name x q) i p]
noncomputable def tgtOf (tgs : List Expr) : Option Tgt := (one tgs).bind fun t => match aU t with
 | some x => some (.name x.1 x.2)
 | none => match asTuple t with
  | some x => some (.tup x.1 x.2.1 x.2.2)
  | none => (asSubscript t).bind fun x => (aU x.1).bind fun y => some (.item y.1 y.2 x.2.1 x.2.2)
theorem tgtOf_eq {tgs : List Expr} {g : Tgt} (h : tgtOf tgs = some g) : tgs = g.tree := by
 obtain ⟨t, h1, h⟩ := obi h
 rw [one_eq h1]
 cases q : aU t with
 | some x => rw [q] at h; obtain rfl := si h; rw [bF q]; rfl
 | none =>
  rw [q] at h
  cases q : asTuple t with
  | some x => rw [q] at h; obtain rfl := si h; rw [asTuple_eq q]; rfl
  | none =>
   rw [q] at h
   obtain ⟨x, h2, h⟩ := obi h
   obtain ⟨y, h3, h⟩ := obi h
   obtain rfl := si h
   rw [asSubscript_eq h2, bF h3]
   rfl
noncomputable def exAssign (c : Cx) (e : EvF) (ns : Names) (vs : Vars) (tgs : List Expr) (v : Expr) : SR := (tgtOf tgs).bind fun g => match g with
 | .name x _ => exName c e ns vs x v
 | .tup ts _ _ => exTup e ns vs ts v
 | .item x _ i _ => exItem e ns vs x i v
noncomputable def exFor (e : EvF) (rc : List Stmt → Vars → SR) (ns : Names) (vs : Vars) (tg it : Expr) (body els : List Stmt) : SR := match isNil els && !(isSet it) with
 | false => none
 | true => bndS (aA vs (bY 20 it)) (srcOf e ns (aA vs (bY 20 it)) it) fun l => match l with
  | [] => some (aA vs (bY 20 it), .ok .next)
  | d :: l => (aU tg).bind fun x => match isLoc ns x.1 && Nat.ble (d :: l).length 1000 with
   | true => forS (fun vs d => upd vs x.1 (.imm d)) (rc body) (d :: l) (aA vs (bY 20 it))
   | false => none
noncomputable def exRet (e : EvF) (ns : Names) (vs : Vars) : Option Expr → SR
 | none => some (vs, .ok (.ret .none))
 | some v => bndS (allImm vs) (e false ns (allImm vs) v) fun d => some (allImm vs, .ok (.ret d))
structure Rse where
 f : SStr
 p : Pos
 a : Expr
 b : Expr
 q : Pos
noncomputable def rseOf (x y : Option Expr) : Option Rse := match y with
 | some _ => none
 | none => x.bind fun e => (callOf e).bind fun z => (two z.2.2.1).bind fun w => some ⟨z.1, z.2.1, w.1, w.2, z.2.2.2⟩
theorem rseOf_eq {x y : Option Expr} {r : Rse} (h : rseOf x y = some r) : x = some (.Call (.Name r.f r.p) [r.a, r.b] [] r.q) ∧ y = none := by
 cases y with
 | some _ => exact nn h
 | none =>
  obtain ⟨e, h0, h⟩ := obi h
  obtain ⟨z, h1, h⟩ := obi h
  obtain ⟨w, h2, h⟩ := obi h
  obtain rfl := si h
  refine ⟨?_, rfl⟩
  rw [h0, callOf_eq h1, two_eq h2]
noncomputable def exRaise (e : EvF) (ns : Names) (vs : Vars) (x y : Option Expr) : SR := (rseOf x y).bind fun r => match sEq r.f (nm "CasFail") && bZ ns r.f && bI r.a && bI r.b with
 | true => bndS vs (e false ns vs r.a) fun x => bndS vs (e false ns vs r.b) fun y => (asStr x).bind fun x => (asStr y).bind fun y => match Nat.ble (x.length + y.length) 1000 with
  | true => some (vs, .error x)
  | false => none
 | false => none
noncomputable def strOf : Const → Option SStr
 | .str s => some s
 | _ => none
theorem strOf_eq {k : Const} {s : SStr} (h : strOf k = some s) : k = .str s := by cases k <;> first | exact nn h | exact si h ▸ rfl
noncomputable def isNe : CmpOp → Bool
 | .NotEq => true
 | _ => false
theorem isNe_eq {o : CmpOp} (h : isNe o = true) : o = .NotEq := by cases o <;> first | exact ft h | rfl
structure TryPat where
 cn : SStr
 en : SStr
 e1 : SStr
 at1 : SStr
 kd : SStr
noncomputable def raiseName (s : Stmt) : Option Unit := (stRaise s).bind fun z => match z.2.1 with
 | some _ => none
 | none => z.1.bind fun e => (aU e).bind fun _ => some ()
noncomputable def tryIf (s : Stmt) : Option (SStr × SStr × SStr) := (stIf s).bind fun x => (asCompare x.1).bind fun y => (asAttribute y.1).bind fun a => (aU a.1).bind fun n => (one y.2.1).bind fun o => (one y.2.2.1).bind fun k => (asConstant k).bind fun q => (strOf q.1).bind fun kd => (one x.2.1).bind fun r => (raiseName r).bind fun _ =>
 aG (isNe o && isNil x.2.2.1) (some (n.1, a.2.1, kd))
noncomputable def tryPat (hs : List ExceptHandler) : Option TryPat := (one hs).bind fun h => match h with
 | .ExceptHandler ty en body _ => ty.bind fun t => (aU t).bind fun cn => en.bind fun en => (one body).bind fun s => (tryIf s).bind fun q => some ⟨cn.1, en, q.1, q.2.1, q.2.2⟩
inductive IfIs (s : Stmt) (x : SStr × SStr × SStr) : Prop
 | mk (p1 ap kp cp ip kk r) : s = .If (.Compare (.Attribute (.Name x.1 p1) x.2.1 ap) [.NotEq] [.Constant (.str x.2.2) kk kp] cp) [r] [] ip → IfIs s x
theorem tryIf_eq {s : Stmt} {x : SStr × SStr × SStr} (h : tryIf s = some x) : IfIs s x := by
 obtain ⟨x1, h1, h⟩ := obi h
 obtain ⟨y, h2, h⟩ := obi h
 obtain ⟨a, h3, h⟩ := obi h
 obtain ⟨n, h4, h⟩ := obi h
 obtain ⟨o, h5, h⟩ := obi h
 obtain ⟨k, h6, h⟩ := obi h
 obtain ⟨q, h7, h⟩ := obi h
 obtain ⟨kd, h8, h⟩ := obi h
 obtain ⟨r, h9, h⟩ := obi h
 obtain ⟨_, _, h⟩ := obi h
 obtain ⟨g, h⟩ := aB h
 obtain ⟨g1, g2⟩ := ba g
 obtain rfl := si h
 exact ⟨_, _, _, _, _, _, r, by rw [stIf_eq h1, asCompare_eq h2, asAttribute_eq h3, bF h4, one_eq h5, one_eq h6, asConstant_eq h7, strOf_eq h8, one_eq h9, isNe_eq g1, aZ g2]⟩
inductive TryIs (hs : List ExceptHandler) (t : TryPat) : Prop
 | mk (np s pos) : IfIs s (t.e1, t.at1, t.kd) → hs = [.ExceptHandler (some (.Name t.cn np)) (some t.en) [s] pos] → TryIs hs t
theorem tryPat_eq {hs : List ExceptHandler} {t : TryPat} (h : tryPat hs = some t) : TryIs hs t := by
 obtain ⟨⟨ty, en, body, p⟩, h1, h⟩ := obi h
 obtain ⟨e, h2, h⟩ := obi h
 obtain ⟨cn, h3, h⟩ := obi h
 obtain ⟨n, h4, h⟩ := obi h
 obtain ⟨s, h5, h⟩ := obi h
 obtain ⟨q, h6, h⟩ := obi h
 obtain rfl := si h
 exact ⟨cn.2, s, p, tryIf_eq h6, by rw [one_eq h1, h2, h4, bF h3, one_eq h5]⟩
noncomputable def tryGo (e : EvF) (rc : List Stmt → Vars → SR) (ns : Names) (kd : SStr) (h : TryHd) : SR := match e false ns h.vs h.v with
 | some (.error k) => match sEq k kd && noDict (.str kd) with
  | true => some (h.vs, .ok .next)
  | false => none
 | some (.ok d) => match h.go d with
  | some (vs2, .ok .next) => noErr (rc h.rest vs2)
  | r => r
 | none => none
noncomputable def exTry (e : EvF) (rc : List Stmt → Vars → SR) (ns : Names) (vs : Vars) (body : List Stmt) (hs : List ExceptHandler) (els fin : List Stmt) : SR := match isNil els && isNil fin with
 | false => none
 | true => (tryPat hs).bind fun q => match sEq q.cn (nm "CasFail") && bZ ns q.cn && sEq q.en q.e1 && sEq q.at1 (nm "kind") && isLoc ns q.en && (lk vs q.en).isNone with
  | true => (tryHead ns vs body).bind (tryGo e rc ns q.kd)
  | false => none
noncomputable def exAppend (e : EvF) (ns : Names) (vs : Vars) (x : SStr) (a : Expr) : SR := (lkOwn (aA vs (bY 20 a)) x).bind fun o => (asL o).bind fun l => match Nat.ble l.length 1000 with
 | true => bndS (aA vs (bY 20 a)) (e false ns (aA vs (bY 20 a)) a) fun d => some (upd (aA vs (bY 20 a)) x (.own (.list (l ++ [d]))), .ok .next)
 | false => none
noncomputable def exIns (c : Cx) (e : EvF) (ns : Names) (vs : Vars) (x : SStr) (a b : Expr) : SR := (lkOwn (aA vs (bY 20 a ++ bY 20 b)) x).bind fun d => bndS (aA vs (bY 20 a ++ bY 20 b)) (e false ns (aA vs (bY 20 a ++ bY 20 b)) a) fun y => bndS (aA vs (bY 20 a ++ bY 20 b)) (e false ns (aA vs (bY 20 a ++ bY 20 b)) b) fun z => bndS (aA vs (bY 20 a ++ bY 20 b)) (c.ins d y z) fun r => some (upd (aA vs (bY 20 a ++ bY 20 b)) x (.own r), .ok .next)
structure App where
 x : SStr
 p : Pos
 m : SStr
 ap : Pos
 a : Expr
 ps : Pos
noncomputable def appOf (v : Expr) : Option App := (asCall v).bind fun z => (asAttribute z.1).bind fun y => (aU y.1).bind fun x => (one z.2.1).bind fun a => aG (isNil z.2.2.1) (some ⟨x.1, x.2, y.2.1, y.2.2, a, z.2.2.2⟩)
theorem appOf_eq {v : Expr} {r : App} (h : appOf v = some r) : v = .Call (.Attribute (.Name r.x r.p) r.m r.ap) [r.a] [] r.ps := by
 obtain ⟨z, h1, h⟩ := obi h
 obtain ⟨y, h2, h⟩ := obi h
 obtain ⟨x, h3, h⟩ := obi h
 obtain ⟨a, h4, h⟩ := obi h
 obtain ⟨g, h⟩ := aB h
 obtain rfl := si h
 rw [asCall_eq h1, asAttribute_eq h2, bF h3, one_eq h4, aZ g]
noncomputable def insOf (as : List Expr) : Option (SStr × Pos × Expr × Expr) := (three as).bind fun y => (aU y.1).bind fun x => some (x.1, x.2, y.2.1, y.2.2)
theorem insOf_eq {as : List Expr} {y : SStr × Pos × Expr × Expr} (h : insOf as = some y) : as = [.Name y.1 y.2.1, y.2.2.1, y.2.2.2] := by
 obtain ⟨z, h1, h⟩ := obi h
 obtain ⟨x, h2, h⟩ := obi h
 obtain rfl := si h
 rw [three_eq h1, bF h2]
noncomputable def exCall (e : EvF) (ns : Names) (vs : Vars) (f : SStr) (p : Pos) (as : List Expr) (q : Pos) : SR := bndS (aA vs (as.flatMap (bY 20))) (e false ns (aA vs (as.flatMap (bY 20))) (.Call (.Name f p) as [] q)) fun d => match isNone d with
 | true => some (aA vs (as.flatMap (bY 20)), .ok .next)
 | false => none
noncomputable def exExpr (c : Cx) (e : EvF) (ns : Names) (vs : Vars) (v : Expr) : SR := match callOf v with
 | none => (appOf v).bind fun r => match sEq r.m (nm "append") && r.ap.endLine == r.ps.line && bI r.a with
  | true => exAppend e ns vs r.x r.a
  | false => none
 | some z => match insOf z.2.2.1 with
  | some y => match sEq z.1 (nm "ginsert") && bZ ns z.1 && bI y.2.2.1 && bI y.2.2.2 with
   | true => exIns c e ns vs y.1 y.2.2.1 y.2.2.2
   | false => none
  | none => exCall e ns vs z.1 z.2.1 z.2.2.1 z.2.2.2
noncomputable def exIf (e : EvF) (rc : List Stmt → Vars → SR) (ns : Names) (vs : Vars) (t : Expr) (a b : List Stmt) : SR := bndS vs (e true ns vs t) fun q => match q with
 | .bool true => rc a vs
 | .bool false => rc b vs
 | _ => none
noncomputable def exWhile (k : Nat) (e : EvF) (rc : List Stmt → Vars → SR) (ns : Names) (vs : Vars) (t : Expr) (body els : List Stmt) : SR := match isNil els with
 | true => whileS (fun vs => e true ns vs t) (rc body) k vs
 | false => none
noncomputable def exE (c : Cx) (k : Nat) (e : EvF) (rc : List Stmt → Vars → SR) (ns : Names) (vs : Vars) (s : Stmt) : SR := Stmt.casesOn (motive_2 := fun _ => SR) s (k10 none) (k10 none) (k11 none) (fun v _ => exRet e ns vs v) (k2 none) (fun tgs v _ => exAssign c e ns vs tgs v) (k7 none) (k4 none) (k5 none) (fun tg it body els _ => exFor e rc ns vs tg it body els) (k5 none) (fun t body els _ => exWhile k e rc ns vs t body els) (fun t a b _ => exIf e rc ns vs t a b) (k3 none) (k3 none) (k3 none) (fun x y _ => exRaise e ns vs x y) (fun body hs els fin _ => exTry e rc ns vs body hs els fin) (k5 none) (k3 none) (k2 none) (k4 none) (k2 none) (k2 none) (fun v _ => exExpr c e ns vs v) (k1 none) (k1 none) (k1 none)
noncomputable def exS (c : Cx) (k : Nat) (ns : Names) : Nat → Stmt → Vars → SR
 | 0, _, _ => none
 | n + 1, s, vs => exE c k (ev c n) (seqS (exS c k ns n)) ns vs s
structure Fn where
 params : List SStr
 body : List Stmt
 names : Names
noncomputable def fnHit (f : SStr) (s : Stmt) : Option Fn := (stFunctionDef s).bind fun x => aG (isNil x.2.2.2.1 && x.2.2.2.2.1.isNone && isNil x.2.2.2.2.2.1 && sEq x.1 f) (some ⟨x.2.1.args.map (·.arg), x.2.2.1, x.2.2.2.2.2.2.1.names⟩)
noncomputable def findFn (f : SStr) : List Stmt → Option Fn
 | [] => none
 | s :: r => match fnHit f s with
  | some q => some q
  | none => findFn f r
noncomputable def bindP : List SStr → List D → Option Vars
 | [], [] => some []
 | x :: xs, d :: ds => (bindP xs ds).map fun r => (x, .imm d) :: r
 | _, _ => none
noncomputable def resOf : SR → MR D
 | some (_, .ok (.ret d)) => rt d
 | some (_, .ok .next) => rt .none
 | some (_, .error k) => some (.error k)
 | none => none
noncomputable def runFn (c : Cx) (k n : Nat) (fn : Fn) (as : List D) : MR D := match bindP fn.params as with
 | some vs => resOf (seqS (exS c k fn.names n) fn.body vs)
 | none => none
noncomputable abbrev pg : Program := PySem.Challenge.pw_sa0124_01
noncomputable def fnOf (f : SStr) : Option Fn := findFn f pg.main.body
noncomputable def globs : List (SStr × D) := [(nm "R0", .tuple [.int 0, .int 1]), (nm "R1", .tuple [.int 1, .int 1]), (nm "STILL", .tuple [.tuple [], .tuple [.int 0, .int 1], .int 0]), (nm "TRIES", .tuple (intsD [1, 5, 7, 11, 19, 35, 67])), (nm "FAR", .str (nm "inf")), (nm "LOW", .str (nm "-inf")), (nm "MOST_BITS", .int 200000), (nm "MOST_TURNS", .int 200), (nm "MOST_KINDS", .int 1000), (nm "MOST_SQUARED", .int 1000)]
noncomputable def globD (x : SStr) : Option D := tabS globs x
noncomputable def ginsN : SStr := nm "ginsert"
noncomputable def insR (run : Fn → Vars → SR) (d k v : D) : MR D := match fnOf ginsN with
 | some fn => match fn.params with
  | [x, y, z] => match run fn [(x, .own d), (y, .imm k), (z, .imm v)] with
   | some (vs, .ok .next) => match lk vs x with
    | some (.own r) => rt r
    | _ => none
   | _ => none
  | _ => none
 | none => none
noncomputable def callN : Nat → SStr → Option (List D → MR D)
 | 0, _ => none
 | 1, _ => none
 | n + 2, f => match fnOf f with
  | some fn => some fun as => runFn ⟨callN (n + 1), insR fun fn vs => seqS (exS ⟨callN n, fun _ _ _ => none, globD⟩ 2000 fn.names 40) fn.body vs, globD⟩ 2000 40 fn as
  | none => none
termination_by structural n => n
noncomputable def callR (n : Nat) (f : SStr) (as : List D) : MR D := match callN n f with
 | some g => g as
 | none => none
section
open PySem.Spec PySem.W PyProof.Rows
noncomputable def initBody : List Stmt := match pg.main.body with
 | _ :: .ClassDef _ _ _ [.FunctionDef _ _ b _ _ _ _ _ _ _] _ _ _ _ _ _ _ :: _ => b
 | _ => []
noncomputable def uncons {α : Type} : List α → Option (α × List α)
 | [] => none
 | a :: l => some (a, l)
noncomputable def allB (f : Value → D → Bool) : List Value → List D → Bool
 | [], ds => isNil ds
 | v :: vs, ds => yes ((uncons ds).bind fun x => some (f v x.1 && allB f vs x.2))
noncomputable def bltIs : Value → String → Bool
 | .builtin t, s => t == s
 | _, _ => false
noncomputable def clsIs : Value → String → Bool
 | .type t, s => t == s
 | _, _ => false
noncomputable def sameV (v u : Value) : Bool := match v with
 | .builtin a => bltIs u a
 | .type a => clsIs u a
 | _ => false
noncomputable def seqV : Data → Option (List Value)
 | .seq vs _ => some vs.toList
 | _ => none
noncomputable def tupAt (h : Heap) (a : Addr) : Option (List Value) := (h.get? a).bind fun o => aG (clsIs o.cls "tuple") (seqV o.data)
noncomputable def rdB (h : Heap) : Nat → Value → D → Bool
 | 0, _, _ => false
 | n + 1, v, d => match v with
  | .int j _ => yes ((asInt d).bind fun i => some (i == j))
  | .str t _ => yes ((asStr d).bind fun s => some (sEq t s))
  | .ref a => yes ((tupAt h a).bind fun vs => (asT d).bind fun ds => some (allB (rdB h n) vs ds))
  | _ => false
noncomputable def oneB (h : Heap) (x : SStr × D) : Bool := yes ((h.nsMap mainGlobals x.1).bind fun v => some (rdB h 6 v x.2))
noncomputable def isV (v : Option Value) (u : Value) : Bool := yes (v.bind fun v => some (sameV v u))
noncomputable def bltB (h : Heap) (x : SStr × Value) : Bool := (h.nsMap mainGlobals x.1).isNone && isV (h.nsMap builtinsNs x.1) x.2
noncomputable def funcOf : Data → Option FuncData
 | .func fd => some fd
 | _ => none
noncomputable def fieldsOf : Data → Option (Array Value)
 | .fields vs => some vs
 | _ => none
noncomputable def clsOf : Data → Option ClassData
 | .cls c => some c
 | _ => none
noncomputable def refOf : Value → Option Addr
 | .ref a => some a
 | _ => none
noncomputable def strV (v : Value) (q : SStr) : Bool := match v with
 | .str s _ => sEq s q
 | _ => false
noncomputable def noneV : Value → Bool
 | .none => true
 | _ => false
noncomputable def fnRead (h : Heap) (a : Addr) : Option FuncData := (h.get? a).bind fun o => aG (clsIs o.cls "function") (funcOf o.data)
noncomputable def codeB (h : Heap) (fd : FuncData) : Bool := yes ((refOf fd.code).bind fun c => (h.get? c).bind fun o => (fieldsOf o.data).bind fun vs => (vs[1]? : Option Value).bind fun v => some (strV v fd.qualname))
noncomputable def plainFd (fd : FuncData) : Bool := noneV fd.defaults && fd.closure.isEmpty && Nat.beq fd.globals mainGlobals && Nat.beq fd.builtins builtinsNs
noncomputable def slotsB (s : List (Option Value)) : Bool := yes ((uncons s).bind fun a => (uncons a.2).bind fun b => (uncons b.2).bind fun c => (uncons c.2).bind fun d => (uncons d.2).bind fun e => e.1.bind fun v => (uncons e.2).bind fun f => some (bltIs v "Exception.__new__" && isNil f.2))
noncomputable def tysB : List Value → List String → Bool
 | [], ss => isNil ss
 | v :: vs, ss => yes ((uncons ss).bind fun s => some (clsIs v s.1 && tysB vs s.2))
noncomputable def mroB (C : Addr) (l : List Value) : Bool := yes ((uncons l).bind fun x => (refOf x.1).bind fun a => some (Nat.beq a C && tysB x.2 ["Exception", "BaseException", "object"]))
noncomputable def nsB (h : Heap) (N : Addr) : Bool := h.isNs N && (h.nsMap N "__setattr__").isNone && (h.nsMap N "__getattribute__").isNone && (h.nsMap N "__getattr__").isNone && (h.nsMap N (nm "kind")).isNone && (h.nsMap N (nm "text")).isNone
noncomputable def clsRead (h : Heap) : Option FuncData := (h.nsMap mainGlobals (nm "CasFail")).bind fun v => (refOf v).bind fun C => (h.get? C).bind fun o => (clsOf o.data).bind fun cd => aG (clsIs o.cls "type" && mroB C cd.mro && cd.hasDict && !cd.hasDel && slotsB o.slots.toList && nsB h cd.ns)
 ((h.nsMap cd.ns "__init__").bind fun u => (refOf u).bind fun f => (fnRead h f).bind fun fd => aG (codeB h fd && plainFd fd) (some fd))
noncomputable def clsBody (e : Stmt) : Option (List Stmt) := Stmt.casesOn (motive_2 := fun _ => Option (List Stmt)) e (k10 none) (k10 none) (fun _ _ _ b _ _ _ _ _ _ _ => some b) (k2 none) (k2 none) (k3 none) (k7 none) (k4 none) (k5 none) (k5 none) (k5 none) (k4 none) (k4 none) (k3 none) (k3 none) (k3 none) (k3 none) (k5 none) (k5 none) (k3 none) (k2 none) (k4 none) (k2 none) (k2 none) (k2 none) (k1 none) (k1 none) (k1 none)
noncomputable def bP : Arguments × Scope := (((uncons pg.main.body).bind fun x => (uncons x.2).bind fun y => (clsBody y.1).bind fun z => (uncons z).bind fun f => (stFunctionDef f.1).bind fun w => some (w.2.1, w.2.2.2.2.2.2.1))).getD (⟨[], [], none, [], [], none, []⟩, pg.main.scope)
noncomputable def keepIx : List Nat := (List.range 90).filter fun i => !([0,2,6,20,38,57,65,73,83].contains i)
noncomputable def q : Program := view pg keepIx
noncomputable def lv' : List (PySem.Str × WData) := [(Str.ofString "STILL", WData.tuple [WData.tuple [], WData.tuple [WData.int 0, WData.int 1], WData.int 0])]
noncomputable def ls : List PySem.Str := [Str.ofString "STILL"]
noncomputable def Xt : Shared → Bool := fun s => xlAt q lv' s && recOk [] s
noncomputable def boolsB (h : Heap) : Bool := h.isNs mainGlobals && h.isNs builtinsNs && (h.get? sysModules).isSome && globs.all (oneB h) && bltVals.all (bltB h) && (h.nsMap mainGlobals (nm "Exception")).isNone && isV (h.nsMap builtinsNs (nm "Exception")) (.type "Exception")
noncomputable def headObs (s : Shared) : Bool × Option (FuncBody × Arguments × Scope) := (boolsB s.heap, (clsRead s.heap).map fun fd => (fd.body, fd.params, fd.scope))
noncomputable def headVal : Bool × Option (FuncBody × Arguments × Scope) := (true, some (.stmts initBody, bP.1, bP.2))
noncomputable def topRunT (tb : String → Option Builtin) (p : Program) (w : World) (n₀ : Nat) (ann : Option Value) : Nat → SharedT → Thread → Option SharedT
 | 0, _, _ => none
 | n + 1, s, t => match through t with
  | true => some s
  | false => match stepOk n₀ ann t with
   | false => none
   | true => match stepT (denote tb) p w s t with
    | some (s', t') => topRunT tb p w n₀ ann n s' t'
    | none => none
noncomputable def treeOf : Nat → BT → List Obj → BT
 | _, t, [] => t
 | i, t, o :: l => treeOf (i + 1) (t.ins i o) l
noncomputable def bootTree (P : Params) : BT := treeOf 0 .nil (boot_heap P).objs.toList
noncomputable def bootS (w : World) (os : OsState) : SharedT := ⟨bootTree w.params, (boot_heap w.params).objs.size, (boot_heap w.params).life, Array.mk [], boot_drawn, boot_toks, os⟩
noncomputable def endOf (w : World) (os : OsState) : Option SharedT := topRunT treeTable pg w ((boot_heap w.params).objs.size) ((boot_heap w.params).nsMap mainGlobals "__annotations__") 2700 (bootS w os) (topStub pg)
noncomputable def mods : List PySem.Str := importedModules pg.main.body
theorem law_said : PySem.Challenge.rw_sa0124_01.wellSaid = true := by kernel_rfl
noncomputable def tests1 (s₀ s : Shared) := (staticsOk mods s₀.heap s.heap && namesBound pg s.heap && gensDone s && laidKept s₀.heap s.heap, seen ((recsOf q).map (·.name)) (ownsOf q) [] { s with gens := #[] }, s.heap.bltView, tabsOk q s)
noncomputable def tests2 (s : Shared) := (s.heap.keysOk (looseW q ls) ((recsOf q).map (·.name)) ((litsOf q).map (·.1)) ((clssOf q (looseW q ls)).map (·.name)) && s.heap.accountedOkI mods && s.heap.isNs mainGlobals && s.heap.isNs builtinsNs && tablesOk q s.heap && Xt s && (s.gens.size == 0), headObs s, pinSeenD q (drecsOf q) s, plainSeenE q (looseW q ls) s, plainSeenD q ls s, wideSeen q s, clsSeenW q ls s)
theorem top_1 : ∀ (w : World) (os : OsState), (endOf w os).map (fun s => tests1 (SharedT.abs (bootS w os)) s.abs) = some (true, expectedOf q, bltViewBooted, true) := by
 intro w os
 kernel_rfl
theorem top_2 : ∀ (w : World) (os : OsState), (endOf w os).map (fun s => tests2 s.abs) = some (true, headVal, pinGoodD (drecsOf q), plainGoodE q (looseW q ls), plainGoodD q ls, wideGood q, clsGoodW q ls) := by
 intro w os
 kernel_rfl
theorem whole_ok : PySem.Challenge.rw_sa0124_01.row.prog.tablesWhole = true := by kernel_rfl
end
noncomputable abbrev KR := Vars → MR D
noncomputable def toK (x : SR) (κ : KR) : MR D := match x with
 | none => none
 | some (_, .error k) => some (.error k)
 | some (vs, .ok .next) => κ vs
 | some (_, .ok (.ret d)) => rt d
theorem bS {α : Type} {vs : Vars} {x : MR α} {f : α → SR} {κ : KR} : toK (bndS vs x f) κ = bnd x fun d => toK (f d) κ := by
 cases x with
 | none => rfl
 | some y => cases y <;> rfl
theorem resOf_toK (x : SR) : resOf x = toK x fun _ => rt .none := by
 cases x with
 | none => rfl
 | some y =>
  obtain ⟨vs, r⟩ := y
  cases r with
  | error k => rfl
  | ok f => cases f <;> rfl
noncomputable def seqK (f : Stmt → Vars → KR → MR D) : List Stmt → Vars → KR → MR D
 | [], vs, κ => κ vs
 | s :: r, vs, κ => f s vs fun vs' => seqK f r vs' κ
noncomputable def forK (bind : Vars → D → Vars) (body : Vars → KR → MR D) : List D → Vars → KR → MR D
 | [], vs, κ => κ vs
 | d :: r, vs, κ => body (bind vs d) fun vs' => forK bind body r vs' κ
noncomputable def whileK (test : Vars → MR D) (body : Vars → KR → MR D) : Nat → Vars → KR → MR D
 | 0, _, _ => none
 | n + 1, vs, κ => bnd (test vs) fun q => match q with
  | .bool true => body vs fun vs' => whileK test body n vs' κ
  | .bool false => κ vs
  | _ => none
theorem toK_seq {f : Stmt → Vars → SR} {g : Stmt → Vars → KR → MR D} (h : ∀ s vs κ, toK (f s vs) κ = g s vs κ) : ∀ (l : List Stmt) (vs : Vars) (κ : KR), toK (seqS f l vs) κ = seqK g l vs κ
 | [], _, _ => rfl
 | s :: r, vs, κ => by
  unfold seqS seqK
  rw [← h]
  cases f s vs with
  | none => rfl
  | some y =>
   obtain ⟨vs', r'⟩ := y
   cases r' with
   | error k => rfl
   | ok fl => cases fl with
    | next => exact toK_seq h r vs' κ
    | ret d => rfl
theorem toK_for {bind : Vars → D → Vars} {f : Vars → SR} {g : Vars → KR → MR D} (h : ∀ vs κ, toK (f vs) κ = g vs κ) : ∀ (l : List D) (vs : Vars) (κ : KR), toK (forS bind f l vs) κ = forK bind g l vs κ
 | [], _, _ => rfl
 | d :: r, vs, κ => by
  unfold forS forK
  rw [← h]
  cases f (bind vs d) with
  | none => rfl
  | some y =>
   obtain ⟨vs', r'⟩ := y
   cases r' with
   | error k => rfl
   | ok fl => cases fl with
    | next => exact toK_for h r vs' κ
    | ret d => rfl
theorem toK_while {t : Vars → MR D} {f : Vars → SR} {g : Vars → KR → MR D} (h : ∀ vs κ, toK (f vs) κ = g vs κ) : ∀ (n : Nat) (vs : Vars) (κ : KR), toK (whileS t f n vs) κ = whileK t g n vs κ
 | 0, _, _ => rfl
 | n + 1, vs, κ => by
  unfold whileS whileK
  rw [bS]
  congr 1
  funext q
  cases q with
  | bool b =>
   cases b with
   | false => rfl
   | true =>
    dsimp only
    rw [← h]
    cases f vs with
    | none => rfl
    | some y =>
     obtain ⟨vs', r'⟩ := y
     cases r' with
     | error k => rfl
     | ok fl => cases fl with
      | next => exact toK_while h n vs' κ
      | ret d => rfl
  | _ => rfl
noncomputable def kName (e : EvF) (ns : Names) (vs : Vars) (x : SStr) (v : Expr) (κ : KR) : MR D := match bM ns x with
 | false => none
 | true => match isFresh ns v with
  | true => bnd (e false ns (aA vs (bY 20 v)) v) fun d => κ (upd (aA vs (bY 20 v)) x (.own d))
  | false => bnd (e false ns (aA vs (bY 20 v)) v) fun d => κ (upd (aA vs (bY 20 v)) x (.imm d))
noncomputable def setNK (ns : Names) : List Expr → List D → Vars → KR → MR D
 | [], ds, vs, κ => match ds with
  | [] => κ vs
  | _ :: _ => none
 | t :: ts, ds, vs, κ => match ds with
  | [] => none
  | d :: ds => (aU t).bind fun x => match bM ns x.1 with
   | true => setNK ns ts ds (upd vs x.1 (.imm d)) κ
   | false => none
noncomputable def setTK (ns : Names) : List Expr → List D → Vars → KR → MR D
 | [], ds, vs, κ => match ds with
  | [] => κ vs
  | _ :: _ => none
 | t :: ts, ds, vs, κ => match ds with
  | [] => none
  | d :: ds => match aU t with
   | some x => match bM ns x.1 with
    | true => setTK ns ts ds (upd vs x.1 (.imm d)) κ
    | false => none
   | none => (asTuple t).bind fun us => (asT d).bind fun es => setNK ns us.1 es vs fun vs' => setTK ns ts ds vs' κ
theorem setNK_eq (ns : Names) (κ : KR) : ∀ (ts : List Expr) (ds : List D) (vs : Vars), setNK ns ts ds vs κ = (setN ns ts ds vs).bind κ
 | [], [], _ => rfl
 | [], _ :: _, _ => rfl
 | _ :: _, [], _ => rfl
 | t :: ts, d :: ds, vs => by
  show ((aU t).bind fun x => match bM ns x.1 with | true => setNK ns ts ds (upd vs x.1 (.imm d)) κ | false => none) = Option.bind ((aU t).bind fun x => match bM ns x.1 with | true => setN ns ts ds (upd vs x.1 (.imm d)) | false => none) κ
  cases aU t with
  | none => rfl
  | some x =>
   show (match bM ns x.1 with | true => setNK ns ts ds (upd vs x.1 (.imm d)) κ | false => none) = Option.bind (match bM ns x.1 with | true => setN ns ts ds (upd vs x.1 (.imm d)) | false => none) κ
   cases bM ns x.1 with
   | true => exact setNK_eq ns κ ts ds _
   | false => rfl
theorem setTK_eq (ns : Names) (κ : KR) : ∀ (ts : List Expr) (ds : List D) (vs : Vars), setTK ns ts ds vs κ = (setT ns ts ds vs).bind κ
 | [], [], _ => rfl
 | [], _ :: _, _ => rfl
 | _ :: _, [], _ => rfl
 | t :: ts, d :: ds, vs => by
  show (match aU t with
   | some x => match bM ns x.1 with
    | true => setTK ns ts ds (upd vs x.1 (.imm d)) κ
    | false => none
   | none => (asTuple t).bind fun us => (asT d).bind fun es => setNK ns us.1 es vs fun vs' => setTK ns ts ds vs' κ) = Option.bind (match aU t with
   | some x => match bM ns x.1 with
    | true => setT ns ts ds (upd vs x.1 (.imm d))
    | false => none
   | none => (asTuple t).bind fun us => (asT d).bind fun es => (setN ns us.1 es vs).bind fun vs' => setT ns ts ds vs') κ
  cases aU t with
  | some x =>
   dsimp only
   cases bM ns x.1 with
   | true => exact setTK_eq ns κ ts ds _
   | false => rfl
  | none =>
   dsimp only
   cases asTuple t with
   | none => rfl
   | some us =>
    cases asT d with
    | none => rfl
    | some es =>
     refine (setNK_eq ns _ _ _ _).trans ?_
     show _ = ((setN ns us.1 es vs).bind fun vs' => setT ns ts ds vs').bind κ
     cases setN ns us.1 es vs with
     | none => rfl
     | some vs' => exact setTK_eq ns κ ts ds vs'
noncomputable def kTup (e : EvF) (ns : Names) (vs : Vars) (ts : List Expr) (v : Expr) (κ : KR) : MR D := match twoLists ns ts v with
 | some (x, y) => κ (upd (upd (aA vs (bY 20 v)) x (.own (.list []))) y (.own (.list [])))
 | none => match okSwap v with
  | true => bnd (e false ns (aA vs (bY 20 v)) v) fun d => match d with
   | .tuple ds => setTK ns ts ds (aA vs (bY 20 v)) κ
   | .list ds => setTK ns ts ds (aA vs (bY 20 v)) κ
   | _ => none
  | false => none
noncomputable def kFor (e : EvF) (rc : List Stmt → Vars → KR → MR D) (ns : Names) (vs : Vars) (tg it : Expr) (body els : List Stmt) (κ : KR) : MR D := match isNil els && !(isSet it) with
 | false => none
 | true => bnd (srcOf e ns (aA vs (bY 20 it)) it) fun l => match l with
  | [] => κ (aA vs (bY 20 it))
  | d :: l => (aU tg).bind fun x => match isLoc ns x.1 && Nat.ble (d :: l).length 1000 with
   | true => forK (fun vs d => upd vs x.1 (.imm d)) (rc body) (d :: l) (aA vs (bY 20 it)) κ
   | false => none
noncomputable def kAppend (e : EvF) (ns : Names) (vs : Vars) (x : SStr) (a : Expr) (κ : KR) : MR D := (lkOwn (aA vs (bY 20 a)) x).bind fun o => (asL o).bind fun l => match Nat.ble l.length 1000 with
 | true => bnd (e false ns (aA vs (bY 20 a)) a) fun d => κ (upd (aA vs (bY 20 a)) x (.own (.list (l ++ [d]))))
 | false => none
noncomputable def kItem (e : EvF) (ns : Names) (vs : Vars) (x : SStr) (i v : Expr) (κ : KR) : MR D := match isComp v with
 | true => none
 | false =>
  bnd (e false ns (aA vs (bY 20 v ++ bY 20 i)) v) fun d => (lkOwn (aA vs (bY 20 v ++ bY 20 i)) x).bind fun o => (asD o).bind fun l => bnd (e false ns (aA vs (bY 20 v ++ bY 20 i)) i) fun a => match isKey a && isRat d && Nat.ble l.length 1000 with
   | true => κ (upd (aA vs (bY 20 v ++ bY 20 i)) x (.own (.dict (dset l a d))))
   | false => none
noncomputable def kAssign (e : EvF) (ns : Names) (vs : Vars) (tgs : List Expr) (v : Expr) (κ : KR) : MR D := (tgtOf tgs).bind fun g => match g with
 | .name x _ => kName e ns vs x v κ
 | .tup ts _ _ => kTup e ns vs ts v κ
 | .item x _ i _ => kItem e ns vs x i v κ
noncomputable def kIns (c : Cx) (e : EvF) (ns : Names) (vs : Vars) (x : SStr) (a b : Expr) (κ : KR) : MR D := (lkOwn (aA vs (bY 20 a ++ bY 20 b)) x).bind fun d => bnd (e false ns (aA vs (bY 20 a ++ bY 20 b)) a) fun y => bnd (e false ns (aA vs (bY 20 a ++ bY 20 b)) b) fun z => bnd (c.ins d y z) fun r => κ (upd (aA vs (bY 20 a ++ bY 20 b)) x (.own r))
noncomputable def kCall (e : EvF) (ns : Names) (vs : Vars) (f : SStr) (p : Pos) (as : List Expr) (q : Pos) (κ : KR) : MR D := bnd (e false ns (aA vs (as.flatMap (bY 20))) (.Call (.Name f p) as [] q)) fun d => match isNone d with
 | true => κ (aA vs (as.flatMap (bY 20)))
 | false => none
noncomputable def kExpr (c : Cx) (e : EvF) (ns : Names) (vs : Vars) (v : Expr) (κ : KR) : MR D := match callOf v with
 | none => (appOf v).bind fun r => match sEq r.m (nm "append") && r.ap.endLine == r.ps.line && bI r.a with
  | true => kAppend e ns vs r.x r.a κ
  | false => none
 | some z => match insOf z.2.2.1 with
  | some y => match sEq z.1 (nm "ginsert") && bZ ns z.1 && bI y.2.2.1 && bI y.2.2.2 with
   | true => kIns c e ns vs y.1 y.2.2.1 y.2.2.2 κ
   | false => none
  | none => kCall e ns vs z.1 z.2.1 z.2.2.1 z.2.2.2 κ
noncomputable def raiseD (x y : D) : MR D := (asStr x).bind fun x => (asStr y).bind fun y => match Nat.ble (x.length + y.length) 1000 with
 | true => some (.error x)
 | false => none
noncomputable def kRaise (e : EvF) (ns : Names) (vs : Vars) (x y : Option Expr) : MR D := (rseOf x y).bind fun r => match sEq r.f (nm "CasFail") && bZ ns r.f && bI r.a && bI r.b with
 | true => bnd (e false ns vs r.a) fun x => bnd (e false ns vs r.b) fun y => raiseD x y
 | false => none
noncomputable def kRet (e : EvF) (ns : Names) (vs : Vars) : Option Expr → MR D
 | none => rt .none
 | some v => e false ns (allImm vs) v
noncomputable def kWhile (k : Nat) (e : EvF) (rk : List Stmt → Vars → KR → MR D) (ns : Names) (vs : Vars) (t : Expr) (body els : List Stmt) (κ : KR) : MR D := match isNil els with
 | true => whileK (fun vs => e true ns vs t) (rk body) k vs κ
 | false => none
noncomputable def kIf (e : EvF) (rk : List Stmt → Vars → KR → MR D) (ns : Names) (vs : Vars) (t : Expr) (a b : List Stmt) (κ : KR) : MR D := bnd (e true ns vs t) fun q => match q with
 | .bool true => rk a vs κ
 | .bool false => rk b vs κ
 | _ => none
noncomputable def exK (c : Cx) (k : Nat) (e : EvF) (rc : List Stmt → Vars → SR) (rk : List Stmt → Vars → KR → MR D) (ns : Names) (vs : Vars) (s : Stmt) (κ : KR) : MR D := Stmt.casesOn (motive_2 := fun _ => MR D) s (k10 none) (k10 none) (k11 none) (fun v _ => kRet e ns vs v) (k2 none) (fun tgs v _ => kAssign e ns vs tgs v κ) (k7 none) (k4 none) (k5 none) (fun tg it body els _ => kFor e rk ns vs tg it body els κ) (k5 none) (fun t body els _ => kWhile k e rk ns vs t body els κ) (fun t a b _ => kIf e rk ns vs t a b κ) (k3 none) (k3 none) (k3 none) (fun x y _ => kRaise e ns vs x y) (fun body hs els fin _ => toK (exTry e rc ns vs body hs els fin) κ) (k5 none) (k3 none) (k2 none) (k4 none) (k2 none) (k2 none) (fun v _ => kExpr c e ns vs v κ) (k1 none) (k1 none) (k1 none)
noncomputable def exSK (c : Cx) (k : Nat) (ns : Names) : Nat → Stmt → Vars → KR → MR D
 | 0, _, _, _ => none
 | n + 1, s, vs, κ => exK c k (ev c n) (seqS (exS c k ns n)) (seqK (exSK c k ns n)) ns vs s κ
theorem bnd_rt (x : MR D) : bnd x (fun d => rt d) = x := by
 cases x with
 | none => rfl
 | some y => cases y <;> rfl
theorem toK_name (c : Cx) {e : EvF} {ns : Names} {vs : Vars} {x : SStr} {v : Expr} {κ : KR} : toK (exName c e ns vs x v) κ = kName e ns vs x v κ := by
 unfold exName kName
 cases bM ns x with
 | false => rfl
 | true => cases isFresh ns v <;> exact bS
theorem toK_map {ns : Names} {ts : List Expr} {ds : List D} {vs : Vars} {κ : KR} : toK ((setT ns ts ds vs).map fun vs2 => (vs2, .ok .next)) κ = setTK ns ts ds vs κ := by
 rw [setTK_eq]
 cases setT ns ts ds vs <;> rfl
theorem toK_tup {e : EvF} {ns : Names} {vs : Vars} {ts : List Expr} {v : Expr} {κ : KR} : toK (exTup e ns vs ts v) κ = kTup e ns vs ts v κ := by
 unfold exTup kTup
 cases twoLists ns ts v with
 | some y => rfl
 | none => cases okSwap v with
  | false => rfl
  | true =>
   refine bS.trans ?_
   congr 1
   funext d
   cases d <;> first | exact toK_map | rfl
theorem toK_fors {e : EvF} {rc : List Stmt → Vars → SR} {rk : List Stmt → Vars → KR → MR D} {ns : Names} {vs : Vars} {tg it : Expr} {body els : List Stmt} {κ : KR} (h : ∀ l vs κ, toK (rc l vs) κ = rk l vs κ) : toK (exFor e rc ns vs tg it body els) κ = kFor e rk ns vs tg it body els κ := by
 unfold exFor kFor
 cases isNil els && !(isSet it) with
 | false => rfl
 | true =>
  refine bS.trans ?_
  congr 1
  funext l
  cases l with
  | nil => rfl
  | cons d r =>
   dsimp only
   cases aU tg with
   | none => rfl
   | some x =>
    show toK (match isLoc ns x.1 && Nat.ble (d :: r).length 1000 with | true => forS (fun vs d => upd vs x.1 (.imm d)) (rc body) (d :: r) (aA vs (bY 20 it)) | false => none) κ = match isLoc ns x.1 && Nat.ble (d :: r).length 1000 with | true => forK (fun vs d => upd vs x.1 (.imm d)) (rk body) (d :: r) (aA vs (bY 20 it)) κ | false => none
    cases isLoc ns x.1 && Nat.ble (d :: r).length 1000 with
    | true => exact toK_for (h body) _ _ _
    | false => rfl
theorem toK_append {e : EvF} {ns : Names} {vs : Vars} {x : SStr} {a : Expr} {κ : KR} : toK (exAppend e ns vs x a) κ = kAppend e ns vs x a κ := by
 unfold exAppend kAppend
 generalize aA vs (bY 20 a) = vs1
 cases lkOwn vs1 x with
 | none => rfl
 | some o =>
  dsimp only [Option.bind]
  cases asL o with
  | none => rfl
  | some l =>
   dsimp only
   cases Nat.ble l.length 1000 with
   | true => exact bS
   | false => rfl
theorem toK_item {e : EvF} {ns : Names} {vs : Vars} {x : SStr} {i v : Expr} {κ : KR} : toK (exItem e ns vs x i v) κ = kItem e ns vs x i v κ := by
 unfold exItem kItem
 generalize aA vs (bY 20 v ++ bY 20 i) = vs1
 cases isComp v with
 | true => rfl
 | false =>
  refine bS.trans ?_
  congr 1
  funext d
  cases lkOwn vs1 x with
  | none => rfl
  | some o =>
   dsimp only [Option.bind]
   cases asD o with
   | none => rfl
   | some l =>
    refine bS.trans ?_
    congr 1
    funext a
    cases isKey a && isRat d && Nat.ble l.length 1000 <;> rfl
theorem toK_assign {c : Cx} {e : EvF} {ns : Names} {vs : Vars} {tgs : List Expr} {v : Expr} {κ : KR} : toK (exAssign c e ns vs tgs v) κ = kAssign e ns vs tgs v κ := by
 unfold exAssign kAssign
 cases tgtOf tgs with
 | none => rfl
 | some g =>
  cases g with
  | name x p => exact toK_name c
  | tup ts k p => exact toK_tup
  | item x q i p => exact toK_item
theorem toK_ins {c : Cx} {e : EvF} {ns : Names} {vs : Vars} {x : SStr} {a b : Expr} {κ : KR} : toK (exIns c e ns vs x a b) κ = kIns c e ns vs x a b κ := by
 unfold exIns kIns
 generalize aA vs (bY 20 a ++ bY 20 b) = vs1
 cases lkOwn vs1 x with
 | none => rfl
 | some d =>
  refine bS.trans ?_
  show bnd _ _ = bnd _ _
  congr 1
  funext y
  refine bS.trans ?_
  congr 1
  funext z
  exact bS
theorem toK_call {e : EvF} {ns : Names} {vs : Vars} {f : SStr} {p q : Pos} {as : List Expr} {κ : KR} : toK (exCall e ns vs f p as q) κ = kCall e ns vs f p as q κ := by
 refine bS.trans ?_
 unfold kCall
 congr 1
 funext d
 cases isNone d <;> rfl
theorem toK_expr {c : Cx} {e : EvF} {ns : Names} {vs : Vars} {v : Expr} {κ : KR} : toK (exExpr c e ns vs v) κ = kExpr c e ns vs v κ := by
 unfold exExpr kExpr
 cases callOf v with
 | none =>
  cases appOf v with
  | none => rfl
  | some r =>
   dsimp only [Option.bind]
   cases sEq r.m (nm "append") && r.ap.endLine == r.ps.line && bI r.a with
   | true => exact toK_append
   | false => rfl
 | some z =>
  dsimp only
  cases insOf z.2.2.1 with
  | none => exact toK_call
  | some y =>
   dsimp only
   cases sEq z.1 (nm "ginsert") && bZ ns z.1 && bI y.2.2.1 && bI y.2.2.2 with
   | true => exact toK_ins
   | false => rfl
theorem toK_raise {e : EvF} {ns : Names} {vs : Vars} {x y : Option Expr} {κ : KR} : toK (exRaise e ns vs x y) κ = kRaise e ns vs x y := by
 unfold exRaise kRaise
 cases rseOf x y with
 | none => rfl
 | some r =>
  dsimp only [Option.bind]
  cases sEq r.f (nm "CasFail") && bZ ns r.f && bI r.a && bI r.b with
  | false => rfl
  | true =>
   refine bS.trans ?_
   show bnd _ _ = bnd _ _
   congr 1
   funext x
   refine bS.trans ?_
   congr 1
   funext y
   unfold raiseD
   cases asStr x with
   | none => rfl
   | some x =>
    cases asStr y with
    | none => rfl
    | some y =>
     dsimp only [Option.bind]
     cases Nat.ble (x.length + y.length) 1000 <;> rfl
theorem toK_if {e : EvF} {rc : List Stmt → Vars → SR} {rk : List Stmt → Vars → KR → MR D} {ns : Names} {vs : Vars} {t : Expr} {a b : List Stmt} {κ : KR} (h : ∀ l vs κ, toK (rc l vs) κ = rk l vs κ) : toK (exIf e rc ns vs t a b) κ = kIf e rk ns vs t a b κ := by
 refine bS.trans ?_
 unfold kIf
 congr 1
 funext q
 cases q with
 | bool b => cases b <;> exact h _ _ _
 | _ => rfl
theorem toK_wh {k : Nat} {e : EvF} {rc : List Stmt → Vars → SR} {rk : List Stmt → Vars → KR → MR D} {ns : Names} {vs : Vars} {t : Expr} {body els : List Stmt} {κ : KR} (h : ∀ l vs κ, toK (rc l vs) κ = rk l vs κ) : toK (exWhile k e rc ns vs t body els) κ = kWhile k e rk ns vs t body els κ := by
 unfold exWhile kWhile
 cases isNil els with
 | true => exact toK_while (h _) _ _ _
 | false => rfl
theorem toK_ret {e : EvF} {ns : Names} {vs : Vars} {v : Option Expr} {κ : KR} : toK (exRet e ns vs v) κ = kRet e ns vs v := by
 cases v with
 | none => rfl
 | some v => exact bS.trans (bnd_rt _)
theorem toK_ex {c : Cx} {k : Nat} {e : EvF} {rc : List Stmt → Vars → SR} {rk : List Stmt → Vars → KR → MR D} {ns : Names} {vs : Vars} {κ : KR} (h : ∀ l vs κ, toK (rc l vs) κ = rk l vs κ) (s : Stmt) : toK (exE c k e rc ns vs s) κ = exK c k e rc rk ns vs s κ := by
 cases s with
 | Assign => exact toK_assign
 | If => exact toK_if h
 | While => exact toK_wh h
 | For => exact toK_fors h
 | Return => exact toK_ret
 | Raise => exact toK_raise
 | Expr => exact toK_expr
 | _ => rfl
theorem toK_exS {c : Cx} {k : Nat} {ns : Names} : ∀ (n : Nat) (s : Stmt) (vs : Vars) (κ : KR), toK (exS c k ns n s vs) κ = exSK c k ns n s vs κ
 | 0, _, _, _ => rfl
 | n + 1, s, _, _ => toK_ex (fun l vs κ => toK_seq (fun s vs κ => toK_exS n s vs κ) l vs κ) s
theorem aV {c : Cx} {k n : Nat} {fn : Fn} {as : List D} {vs : Vars} (h : bindP fn.params as = some vs) : runFn c k n fn as = seqK (exSK c k fn.names n) fn.body vs fun _ => rt .none := by
 unfold runFn
 rw [h]
 exact (resOf_toK _).trans (toK_seq (fun s vs κ => toK_exS n s vs κ) _ _ _)
noncomputable abbrev TF := List D → MR D
noncomputable def mR (l : List (MR D)) : MR (List D) := mapR id l
noncomputable def tupR (l : List (MR D)) : MR D := bnd (mR l) fun ds => ofO (aG (fits ds) (some (.tuple ds)))
noncomputable def lstR (l : List (MR D)) : MR D := bnd (mR l) fun ds => ofO (aG (fits ds) (some (.list ds)))
noncomputable def bopR (o : Operator) (x y : MR D) : MR D := bnd x fun a => bnd y fun b => ofO (binop o a b)
noncomputable def negR (x : MR D) : MR D := bnd x fun a => (asInt a).bind fun i => rt (.int (-i))
noncomputable def ifR (t a b : MR D) : MR D := bnd t fun q => match q with
 | .bool true => a
 | .bool false => b
 | _ => none
noncomputable def andR (x y : MR D) : MR D := bnd x fun q => match q with
 | .bool true => asBool y
 | .bool false => rt (.bool false)
 | _ => none
noncomputable def orR (x y : MR D) : MR D := bnd x fun q => match q with
 | .bool false => asBool y
 | .bool true => rt (.bool true)
 | _ => none
noncomputable def and3R (x y z : MR D) : MR D := bnd x fun q => match q with
 | .bool true => andR y z
 | .bool false => rt (.bool false)
 | _ => none
noncomputable def or3R (x y z : MR D) : MR D := bnd x fun q => match q with
 | .bool false => orR y z
 | .bool true => rt (.bool true)
 | _ => none
noncomputable def cmpR (o : CmpOp) (x y : MR D) : MR D := bnd x fun a => bnd y fun b => ofO (cmp o a b)
noncomputable def subR (x y : MR D) : MR D := bnd x fun d => bnd y fun k => ofO (item d k)
noncomputable def uptoR (x h : MR D) : MR D := bnd x fun d => (asL d).bind fun l => bnd h fun i => ofO ((cutL l false i).map .list)
noncomputable def fromR (x h : MR D) : MR D := bnd x fun d => (asL d).bind fun l => bnd h fun i => ofO ((cutL l true i).map .list)
noncomputable def dictR (k v : MR D) : MR D := bnd k fun a => bnd v fun b => ofO (aG (isKey a && isRat b) (some (.dict [(a, b)])))
noncomputable def lenR (x : MR D) : MR D := bnd x fun d => ofO ((dlen d).map intN)
noncomputable def blR (f : List D → Option D) (l : List (MR D)) : MR D := bnd (mR l) fun ds => ofO (f ds)
noncomputable def tstR (x : MR D) : MR Bool := bnd x fun q => (asBoo q).bind fun b => rt b
noncomputable def compF (t : D → MR Bool) (e : D → MR D) (l : List D) : MR D := match l with
 | [] => rt (.list [])
 | d :: l => match Nat.ble (d :: l).length 1000 with
  | false => none
  | true => bnd (compR t e (d :: l)) fun ds => rt (.list ds)
noncomputable def compN (l : List D) : MR D := match l with
 | [] => rt (.list [])
 | _ :: _ => none
noncomputable def rngR (l : List (MR D)) : MR (List D) := bnd (mR l) fun ds => ofO (rangeD ds)
noncomputable def itR (x : MR D) : MR (List D) := bnd x fun d => ofO (iterOf d)
noncomputable def forL (l : List D) (k0 : MR D) (k : D → List D → MR D) : MR D := match l with
 | [] => k0
 | d :: r => match Nat.ble (d :: r).length 1000 with
  | true => k d r
  | false => none
noncomputable def forN (l : List D) (k : MR D) : MR D := match l with
 | [] => k
 | _ :: _ => none
noncomputable def itemR (o : D) (v i : MR D) (k : D → MR D) : MR D := bnd v fun d => (asD o).bind fun l => bnd i fun a => match isKey a && isRat d && Nat.ble l.length 1000 with
 | true => k (.dict (dset l a d))
 | false => none
noncomputable def tryR (x : MR D) (kd : SStr) (k0 : MR D) (f : D → MR D) : MR D := match x with
 | some (.error k) => match sEq k kd && noDict (.str kd) with
  | true => k0
  | false => none
 | some (.ok d) => f d
 | none => none
noncomputable def tryRest (t w k : MR D) : MR D := match t with
 | some (.ok (.bool true)) => match w with
  | some (.ok d) => rt d
  | _ => none
 | some (.ok (.bool false)) => k
 | _ => none
noncomputable def raR (x y : MR D) : MR D := bnd x fun x => bnd y fun y => raiseD x y
noncomputable def unT (d : D) (k : List D → MR D) : MR D := match d with
 | .tuple ds => k ds
 | .list ds => k ds
 | _ => none
noncomputable def unS (d : D) (k : List D → MR D) : MR D := (asT d).bind k
noncomputable def unC (ds : List D) (k : D → List D → MR D) : MR D := match ds with
 | [] => none
 | d :: ds => k d ds
noncomputable def unE (ds : List D) (k : MR D) : MR D := match ds with
 | [] => k
 | _ :: _ => none
noncomputable def cnR (x k : MR D) : MR D := bnd x fun d => match isNone d with
 | true => k
 | false => none
noncomputable def apR (l : List D) (x : MR D) (k : D → MR D) : MR D := match Nat.ble l.length 1000 with
 | true => bnd x k
 | false => none
noncomputable def getR (l : D) (k v : MR D) : MR D := (asD l).bind fun l => bnd k fun a => bnd v fun b => ofO (aG (isKey a) (some ((dget l a).getD b)))
noncomputable def valsR (d : D) : MR (List D) := (asD d).bind fun l => match Nat.ble l.length 1000 with
 | true => rt (l.map (·.2))
 | false => none
noncomputable def tab (l : List (SStr × TF)) (x : SStr) : Option TF := match l with
 | [] => none
 | (y, g) :: r => match sEq y x with
  | true => some g
  | false => tab r x
noncomputable def cxT (ins : D → D → D → MR D) (l : List (SStr × TF)) : Cx := ⟨tab l, ins, globD⟩
noncomputable def aJ : D → D → D → MR D := fun _ _ _ => none
noncomputable def fnO (f : SStr) : Fn := (fnOf f).getD ⟨[], [], []⟩
noncomputable def gR0 : D := .tuple [.int 0, .int 1]
noncomputable def gR1 : D := .tuple [.int 1, .int 1]
noncomputable def gSTILL : D := .tuple [.tuple [], .tuple [.int 0, .int 1], .int 0]
noncomputable def gTRIES : D := .tuple (intsD [1, 5, 7, 11, 19, 35, 67])
noncomputable def gFAR : D := .str (nm "inf")
noncomputable def gLOW : D := .str (nm "-inf")
noncomputable def gMOST_BITS : D := .int 200000
noncomputable def gMOST_TURNS : D := .int 200
noncomputable def gMOST_KINDS : D := .int 1000
noncomputable def gMOST_SQUARED : D := .int 1000
theorem yes_of {α : Type} {x : Option α} {f : α → Option Bool} (h : yes (x.bind f) = true) : ∃ a, x = some a ∧ yes (f a) = true := by
 cases x with
 | none => exact ft h
 | some a => exact ⟨a, rfl, h⟩
theorem yes_ex {x : Option Bool} (h : yes x = true) : x = some true := by
 cases x with
 | none => exact ft h
 | some b => exact congrArg some h
noncomputable def intM {β : Type} (d : D) (k : Int → Option β) : Option β := match d with
 | .int a => k a
 | _ => none
noncomputable def ratM {β : Type} (d : D) (k : Int → Int → Option β) : Option β := match d with
 | .tuple [x, y] => match x with
  | .int a => match y with
   | .int b => k a b
   | _ => none
  | _ => none
 | _ => none
noncomputable def okM {β : Type} (r : MR D) (k : D → Option β) : Option β := match r with
 | some (.ok d) => k d
 | _ => none
inductive IntM {β : Type} (d : D) (k : Int → Option β) (r : β) : Prop
 | mk (a) : d = .int a → k a = some r → IntM d k r
inductive RatM {β : Type} (d : D) (k : Int → Int → Option β) (r : β) : Prop
 | mk (a b) : d = .tuple [.int a, .int b] → k a b = some r → RatM d k r
inductive OkM {β : Type} (x : MR D) (k : D → Option β) (r : β) : Prop
 | mk (d) : x = rt d → k d = some r → OkM x k r
theorem intM_of {β : Type} {d : D} {k : Int → Option β} {r : β} (h : intM d k = some r) : IntM d k r := by
 cases d with
 | int a => exact ⟨a, rfl, h⟩
 | _ => exact nn h
theorem ratM_of {β : Type} {d : D} {k : Int → Int → Option β} {r : β} (h : ratM d k = some r) : RatM d k r := by
 cases d with
 | tuple l =>
  cases l with
  | nil => exact nn h
  | cons x l =>
   cases l with
   | nil => exact nn h
   | cons y l =>
    cases l with
    | cons z l => exact nn h
    | nil =>
     cases x with
     | int a => cases y with
      | int b => exact ⟨a, b, rfl, h⟩
      | _ => exact nn h
     | _ => exact nn h
 | _ => exact nn h
theorem okM_of {β : Type} {x : MR D} {k : D → Option β} {r : β} (h : okM x k = some r) : OkM x k r := by
 cases x with
 | none => exact nn h
 | some y => cases y with
  | error e => exact nn h
  | ok d => exact ⟨d, rfl, h⟩
noncomputable def im (x : String) (d : D) : SStr × Bd := (nm x, .imm d)
noncomputable def ow (x : String) (d : D) : SStr × Bd := (nm x, .own d)
noncomputable def ri (n : Int) : MR D := rt (.int n)
noncomputable def rs (s : String) : MR D := rt (.str (nm s))
noncomputable def kEnd : KR := fun _ => rt .none
noncomputable def stFor (e : Stmt) : Option (Expr × Expr × List Stmt × Pos) := Stmt.casesOn (motive_2 := fun _ => Option (Expr × Expr × List Stmt × Pos)) e (k10 none) (k10 none) (k11 none) (k2 none) (k2 none) (k3 none) (k7 none) (k4 none) (k5 none) (fun a0 a1 a2 a3 a4 => some (a0, a1, a2, a4)) (k5 none) (k4 none) (k4 none) (k3 none) (k3 none) (k3 none) (k3 none) (k5 none) (k5 none) (k3 none) (k2 none) (k4 none) (k2 none) (k2 none) (k2 none) (k1 none) (k1 none) (k1 none)
noncomputable def stWhile (e : Stmt) : Option (Expr × List Stmt × Pos) := Stmt.casesOn (motive_2 := fun _ => Option (Expr × List Stmt × Pos)) e (k10 none) (k10 none) (k11 none) (k2 none) (k2 none) (k3 none) (k7 none) (k4 none) (k5 none) (k5 none) (k5 none) (fun a0 a1 a2 a3 => some (a0, a1, a3)) (k4 none) (k3 none) (k3 none) (k3 none) (k3 none) (k5 none) (k5 none) (k3 none) (k2 none) (k4 none) (k2 none) (k2 none) (k2 none) (k1 none) (k1 none) (k1 none)
noncomputable def tryBody (e : Stmt) : List Stmt := Stmt.casesOn (motive_2 := fun _ => List Stmt) e (k10 []) (k10 []) (k11 []) (k2 []) (k2 []) (k3 []) (k7 []) (k4 []) (k5 []) (k5 []) (k5 []) (k4 []) (k4 []) (k3 []) (k3 []) (k3 []) (k3 []) (fun a0 a1 a2 a3 a4 => a0) (k5 []) (k3 []) (k2 []) (k4 []) (k2 []) (k2 []) (k2 []) (k1 []) (k1 []) (k1 [])
noncomputable def noP : Pos := ⟨0, 0, 0, 0⟩
noncomputable def noE : Expr := .Constant .none 0 noP
noncomputable def bV (s : Stmt) : List Stmt := ((stFor s).map (·.2.2.1)).getD (((stWhile s).map (·.2.1)).getD (((stIf s).map (·.2.1)).getD []))
noncomputable def elseBody (s : Stmt) : List Stmt := ((stIf s).map (·.2.2.1)).getD []
noncomputable def whileTest (s : Stmt) : Expr := ((stWhile s).map (·.1)).getD noE
noncomputable def sAt (l : List Stmt) (i : Nat) : Stmt := (l[i]?).getD (.Pass ⟨0, 0, 0, 0⟩)
noncomputable def retOf (s : Stmt) : Expr := ((stReturn s).bind (·.1)).getD noE
noncomputable def asgOf (s : Stmt) : Expr := ((stAssign s).map (·.2.1)).getD noE
noncomputable def ifTest (s : Stmt) : Expr := ((stIf s).map (·.1)).getD noE
noncomputable def forIter (s : Stmt) : Expr := ((stFor s).map (·.2.1)).getD noE
noncomputable def tgtPos (s : Stmt) : Pos := (((stFor s).bind fun x => aU x.1).map (·.2)).getD noP
noncomputable def sPos (s : Stmt) : Pos := ((stFor s).map (·.2.2.2)).getD (((stWhile s).map (·.2.2)).getD noP)
noncomputable def optV {U : Type} (b : Vars) (f : U → Vars) (o : Option U) : Vars := match o with
 | none => b
 | some u => b ++ f u
noncomputable def loopG {T : Type} (B : T → D → (T → MR D) → MR D) (κ : T → MR D) : List D → T → MR D
 | [], t => κ t
 | d :: r, t => B t d fun t' => loopG B κ r t'
theorem forK_loop {T : Type} {V : T → Vars} {b : Vars → D → Vars} {F : Vars → KR → MR D} {B : T → D → (T → MR D) → MR D} (h : ∀ t d κ', F (b (V t) d) κ' = B t d fun t' => κ' (V t')) (κ : KR) : ∀ (r : List D) (t : T), forK b F r (V t) κ = loopG B (fun t' => κ (V t')) r t
 | [], _ => rfl
 | d :: r, t => (h t d _).trans (congrArg (B t d) (funext fun t' => forK_loop h κ r t'))
theorem for_step {T : Type} {c : Cx} {k n : Nat} {ns : Names} {vs : Vars} {s : Stmt} {x : SStr} {px pos : Pos} {it : Expr} {body : List Stmt} {V : T → Vars} {B0 : D → (T → MR D) → MR D} {B : T → D → (T → MR D) → MR D} {src : MR (List D)} {vs1 : Vars} (κ : KR) (hst : s = .For (.Name x px) it body [] pos)
  (hl : isLoc ns x = true) (hs : isSet it = false) (hv : aA vs (bY 20 it) = vs1) (hsrc : srcOf (ev c n) ns vs1 it = src)
  (h0 : ∀ d κ', seqK (exSK c k ns n) body (upd vs1 x (.imm d)) κ' = B0 d fun t => κ' (V t)) (h : ∀ t d κ', seqK (exSK c k ns n) body (upd (V t) x (.imm d)) κ' = B t d fun t' => κ' (V t')) :
  exSK c k ns (n + 1) s vs κ = bnd src fun l => forL l (κ vs1) fun d r => B0 d fun t => loopG B (fun t' => κ (V t')) r t := by
 subst hst
 show kFor (ev c n) (seqK (exSK c k ns n)) ns vs (.Name x px) it body [] κ = _
 unfold kFor
 rw [hs]
 show bnd (srcOf (ev c n) ns (aA vs (bY 20 it)) it) _ = _
 rw [hv, hsrc]
 congr 1
 funext l
 cases l with
 | nil => rfl
 | cons d r =>
  show (match isLoc ns x && Nat.ble (d :: r).length 1000 with | true => forK (fun vs d => upd vs x (.imm d)) (seqK (exSK c k ns n) body) (d :: r) vs1 κ | false => none) = forL (d :: r) (κ vs1) fun d r => B0 d fun t => loopG B (fun t' => κ (V t')) r t
  rw [hl, Bool.true_and]
  dsimp only [forL]
  cases Nat.ble (d :: r).length 1000 with
  | false => rfl
  | true =>
   refine (h0 d _).trans (congrArg (B0 d) (funext fun t => ?_))
   exact forK_loop (b := fun vs d => upd vs x (.imm d)) h κ r t
noncomputable def forR {T : Type} (src : MR (List D)) (B0 : D → (T → MR D) → MR D) (B : T → D → (T → MR D) → MR D) (K0 : MR D) (K : T → MR D) : MR D := bnd src fun l => forL l K0 fun d r => B0 d fun t => loopG B K r t
theorem for_at {T : Type} {c : Cx} {k n : Nat} {ns : Names} {vs : Vars} (s : Stmt) (x : SStr) {V : T → Vars} {B0 : D → (T → MR D) → MR D} {B : T → D → (T → MR D) → MR D} {src : MR (List D)} {vs1 : Vars} (κ : KR)
  (hs : (s, isLoc ns x, isSet (forIter s), aA vs (bY 20 (forIter s)), srcOf (ev c n) ns vs1 (forIter s)) = (.For (.Name x (tgtPos s)) (forIter s) (bV s) [] (sPos s), true, false, vs1, src))
  (h0 : ∀ d κ', seqK (exSK c k ns n) (bV s) (upd vs1 x (.imm d)) κ' = B0 d fun t => κ' (V t)) (h : ∀ t d κ', seqK (exSK c k ns n) (bV s) (upd (V t) x (.imm d)) κ' = B t d fun t' => κ' (V t')) :
  exSK c k ns (n + 1) s vs κ = forR src B0 B (κ vs1) (fun t' => κ (V t')) :=
 for_step κ (congrArg Prod.fst hs) (congrArg (fun z => z.2.1) hs) (congrArg (fun z => z.2.2.1) hs) (congrArg (fun z => z.2.2.2.1) hs) (congrArg (fun z => z.2.2.2.2) hs) h0 h
noncomputable def cs : List TF → Nat → TF
 | [], _ => fun _ => none
 | f :: _, 0 => f
 | _ :: r, n + 1 => cs r n
theorem fx2 {α0 α1 δ : Type} {f g : α0 → α1 → δ} (h : ∀ a0 a1, f a0 a1 = g a0 a1) : f = g := funext fun a0 => funext fun a1 => h a0 a1
theorem fx3 {α0 α1 α2 δ : Type} {f g : α0 → α1 → α2 → δ} (h : ∀ a0 a1 a2, f a0 a1 a2 = g a0 a1 a2) : f = g := funext fun a0 => funext fun a1 => funext fun a2 => h a0 a1 a2
theorem fx4 {α0 α1 α2 α3 δ : Type} {f g : α0 → α1 → α2 → α3 → δ} (h : ∀ a0 a1 a2 a3, f a0 a1 a2 a3 = g a0 a1 a2 a3) : f = g := funext fun a0 => funext fun a1 => funext fun a2 => funext fun a3 => h a0 a1 a2 a3
theorem fx5 {α0 α1 α2 α3 α4 δ : Type} {f g : α0 → α1 → α2 → α3 → α4 → δ} (h : ∀ a0 a1 a2 a3 a4, f a0 a1 a2 a3 a4 = g a0 a1 a2 a3 a4) : f = g := funext fun a0 => funext fun a1 => funext fun a2 => funext fun a3 => funext fun a4 => h a0 a1 a2 a3 a4
theorem fx6 {α0 α1 α2 α3 α4 α5 δ : Type} {f g : α0 → α1 → α2 → α3 → α4 → α5 → δ} (h : ∀ a0 a1 a2 a3 a4 a5, f a0 a1 a2 a3 a4 a5 = g a0 a1 a2 a3 a4 a5) : f = g := funext fun a0 => funext fun a1 => funext fun a2 => funext fun a3 => funext fun a4 => funext fun a5 => h a0 a1 a2 a3 a4 a5
theorem fx7 {α0 α1 α2 α3 α4 α5 α6 δ : Type} {f g : α0 → α1 → α2 → α3 → α4 → α5 → α6 → δ} (h : ∀ a0 a1 a2 a3 a4 a5 a6, f a0 a1 a2 a3 a4 a5 a6 = g a0 a1 a2 a3 a4 a5 a6) : f = g := funext fun a0 => funext fun a1 => funext fun a2 => funext fun a3 => funext fun a4 => funext fun a5 => funext fun a6 => h a0 a1 a2 a3 a4 a5 a6
noncomputable def loopW {T : Type} (t : T → MR D) (B : T → (T → MR D) → MR D) (κ : T → MR D) : Nat → T → MR D
 | 0, _ => none
 | n + 1, s => bnd (t s) fun q => match q with
  | .bool true => B s fun s' => loopW t B κ n s'
  | .bool false => κ s
  | _ => none
theorem whileK_loop {T : Type} {V : T → Vars} {te : Vars → MR D} {F : Vars → KR → MR D} {t : T → MR D} {B : T → (T → MR D) → MR D} (ht : ∀ s, te (V s) = t s) (h : ∀ s κ', F (V s) κ' = B s fun t' => κ' (V t')) (κ : KR) : ∀ (n : Nat) (s : T), whileK te F n (V s) κ = loopW t B (fun t' => κ (V t')) n s
 | 0, _ => rfl
 | n + 1, s => by
  unfold whileK loopW
  rw [ht]
  congr 1
  funext q
  cases q with
  | bool b =>
   cases b with
   | false => rfl
   | true => exact (h s _).trans (congrArg (B s) (funext fun t' => whileK_loop ht h κ n t'))
  | _ => rfl
theorem while_step {T : Type} {c : Cx} {k n : Nat} {ns : Names} {st : Stmt} {te : Expr} {body : List Stmt} {pos : Pos} {V : T → Vars} {t : T → MR D} {B : T → (T → MR D) → MR D} (κ : KR) (hst : st = .While te body [] pos) (ht : ∀ s, ev c n true ns (V s) te = t s) (h : ∀ s κ', seqK (exSK c k ns n) body (V s) κ' = B s fun t' => κ' (V t')) (s : T) :
  exSK c k ns (n + 1) st (V s) κ = loopW t B (fun t' => κ (V t')) k s := by
 subst hst
 exact whileK_loop ht h κ k s
theorem while_at {T : Type} {c : Cx} {k n : Nat} {ns : Names} (st : Stmt) (V : T → Vars) {t : T → MR D} {B : T → (T → MR D) → MR D} (κ : KR) (hst : st = .While (whileTest st) (bV st) [] (sPos st)) (ht : ∀ s, ev c n true ns (V s) (whileTest st) = t s) (h : ∀ s κ', seqK (exSK c k ns n) (bV st) (V s) κ' = B s fun t' => κ' (V t')) (s : T) :
  exSK c k ns (n + 1) st (V s) κ = loopW t B (fun t' => κ (V t')) k s := while_step κ hst ht h s
noncomputable abbrev clause (cn en e1 at1 e2 kd : SStr) (p2 p3 p4 p5 p6 p7 p8 p9 p10 : Pos) (kk : Nat) : List ExceptHandler := [.ExceptHandler (some (.Name cn p2)) (some en) [.If (.Compare (.Attribute (.Name e1 p3) at1 p4) [.NotEq] [.Constant (.str kd) kk p5] p6) [.Raise (some (.Name e2 p7)) none p8] [] p9] p10]
noncomputable abbrev okTry (ns : Names) (vs : Vars) (cn en e1 at1 : SStr) : Bool := sEq cn (nm "CasFail") && bZ ns cn && sEq en e1 && sEq at1 (nm "kind") && isLoc ns en && (lk vs en).isNone
theorem ex_try {e : EvF} {rc : List Stmt → Vars → SR} {ns : Names} {vs : Vars} {cn en e1 at1 e2 kd : SStr} {p2 p3 p4 p5 p6 p7 p8 p9 p10 : Pos} {kk : Nat} {body : List Stmt} {h : TryHd} (hc : okTry ns vs cn en e1 at1 = true) (hh : tryHead ns vs body = some h) :
  exTry e rc ns vs body (clause cn en e1 at1 e2 kd p2 p3 p4 p5 p6 p7 p8 p9 p10 kk) [] [] = tryGo e rc ns kd h := by
 show (match okTry ns vs cn en e1 at1 with | true => (tryHead ns vs body).bind (tryGo e rc ns kd) | false => none) = _
 rw [hc, hh]
 rfl
theorem tryGo_R {e : EvF} {rc : List Stmt → Vars → SR} {ns : Names} {kd : SStr} {h : TryHd} {κ : KR} {F : D → MR D} (hf : ∀ d, toK (match h.go d with
  | some (vs2, .ok .next) => noErr (rc h.rest vs2)
  | r => r) κ = F d) : toK (tryGo e rc ns kd h) κ = tryR (e false ns h.vs h.v) kd (κ h.vs) F := by
 unfold tryGo tryR
 cases e false ns h.vs h.v with
 | none => rfl
 | some y =>
  cases y with
  | ok d => exact hf d
  | error q =>
   dsimp only
   cases sEq q kd && noDict (.str kd) <;> rfl
theorem try_ret {c : Cx} {k n : Nat} {ns : Names} {vs : Vars} {s : Stmt} {cn en e1 at1 e2 kd : SStr} {p1 p2 p3 p4 p5 p6 p7 p8 p9 p10 p11 : Pos} {kk : Nat} {v : Expr} (κ : KR)
  (hst : s = .Try [.Return (some v) p1] (clause cn en e1 at1 e2 kd p2 p3 p4 p5 p6 p7 p8 p9 p10 kk) [] [] p11)
  (hc : okTry ns vs cn en e1 at1 = true) :
  exSK c k ns (n + 1) s vs κ = tryR (ev c n false ns (allImm vs) v) kd (κ (allImm vs)) fun d => rt d := by
 subst hst
 show toK (exTry (ev c n) (seqS (exS c k ns n)) ns vs [.Return (some v) p1] (clause cn en e1 at1 e2 kd p2 p3 p4 p5 p6 p7 p8 p9 p10 kk) [] []) κ = _
 rw [ex_try (h := ⟨v, allImm vs, fun d => some (allImm vs, .ok (.ret d)), []⟩) hc rfl]
 exact tryGo_R fun d => rfl
theorem rest_R {c : Cx} {k n : Nat} {ns : Names} {vs2 : Vars} {t w : Expr} {p13 p14 : Pos} {κ : KR} : toK (noErr (seqS (exS c k ns (n + 2)) [Stmt.If t [.Return (some w) p13] [] p14] vs2)) κ = tryRest (ev c (n + 1) true ns vs2 t) (ev c n false ns (allImm vs2) w) (κ vs2) := by
 show toK (noErr (match bndS vs2 (ev c (n + 1) true ns vs2 t) (fun q => match q with
  | .bool true => (match (bndS (allImm vs2) (ev c n false ns (allImm vs2) w) fun d' => (some (allImm vs2, .ok (.ret d')) : SR)) with
   | some (vs', .ok .next) => seqS (exS c k ns (n + 1)) [] vs'
   | x => x)
  | .bool false => some (vs2, .ok .next)
  | _ => none) with
  | some (vs', .ok .next) => seqS (exS c k ns (n + 2)) [] vs'
  | x => x)) κ = tryRest _ _ _
 cases ev c (n + 1) true ns vs2 t with
 | none => rfl
 | some y =>
  cases y with
  | error q => rfl
  | ok q =>
   cases q with
   | bool b =>
    cases b with
    | false => rfl
    | true =>
     cases ev c n false ns (allImm vs2) w with
     | none => rfl
     | some y => cases y <;> rfl
   | _ => rfl
theorem try_if {c : Cx} {k n : Nat} {ns : Names} {vs : Vars} {s : Stmt} {x cn en e1 at1 e2 kd : SStr} {p1 p2 p3 p4 p5 p6 p7 p8 p9 p10 p11 p12 p13 p14 : Pos} {kk : Nat} {v t w : Expr} (κ : KR)
  (hst : s = .Try [.Assign [.Name x p12] v p1, .If t [.Return (some w) p13] [] p14] (clause cn en e1 at1 e2 kd p2 p3 p4 p5 p6 p7 p8 p9 p10 kk) [] [] p11)
  (hc : okTry ns vs cn en e1 at1 = true) (hx : (bM ns x && !(isFresh ns v) && !(isComp v)) = true) :
  exSK c k ns (n + 3) s vs κ = tryR (ev c (n + 2) false ns (aA vs (bY 20 v)) v) kd (κ (aA vs (bY 20 v))) fun d =>
   tryRest (ev c (n + 1) true ns (upd (aA vs (bY 20 v)) x (.imm d)) t) (ev c n false ns (allImm (upd (aA vs (bY 20 v)) x (.imm d))) w) (κ (upd (aA vs (bY 20 v)) x (.imm d))) := by
 subst hst
 show toK (exTry (ev c (n + 2)) (seqS (exS c k ns (n + 2))) ns vs [.Assign [.Name x p12] v p1, .If t [.Return (some w) p13] [] p14] (clause cn en e1 at1 e2 kd p2 p3 p4 p5 p6 p7 p8 p9 p10 kk) [] []) κ = _
 have hh : tryHead ns vs [.Assign [.Name x p12] v p1, .If t [.Return (some w) p13] [] p14] = some ⟨v, aA vs (bY 20 v), fun d => some (upd (aA vs (bY 20 v)) x (.imm d), .ok .next), [.If t [.Return (some w) p13] [] p14]⟩ := by
  show (match bM ns x && !(isFresh ns v) && !(isComp v) with
   | true => some (TryHd.mk v (aA vs (bY 20 v)) (fun d => some (upd (aA vs (bY 20 v)) x (.imm d), .ok .next)) [.If t [.Return (some w) p13] [] p14])
   | false => none) = _
  rw [hx]
 rw [ex_try hc hh]
 exact tryGo_R fun d => rest_R
noncomputable abbrev f0_s (n : Nat) : Stmt → Vars → KR → MR D := exSK (cxT aJ []) 2000 (fnO (nm "gcd")).names n
noncomputable def f0_p2 : List Stmt := (fnO (nm "gcd")).body
noncomputable def f0_w3 (x0 x1 : D) : Vars := [im "a" x0, im "b" x1]
noncomputable def f0_b4 (x0 x1 : D) (k : D × D → MR D) : MR D :=
 (bnd (tupR [(rt x1), (bopR .Mod (rt x0) (rt x1))]) fun v1 => unT v1 fun l2 => (unC l2 fun v3 l4 => (unC l4 fun v5 l6 => (unE l6 (k (v3, v5))))))
noncomputable def f0_u5 (x0 x1 : D) (K : D × D → MR D) : MR D :=
 loopW (fun t => (cmpR .NotEq (rt t.2) (rt (.int 0)))) (fun t k => (f0_b4 t.1 t.2 k)) K 2000 (x0, x1)
noncomputable def f0_b6 (x0 x1 : D) : MR D :=
 (rt x0)
noncomputable def f0_b7c (x0 x1 : D) (L0 : D → D → MR D) : MR D :=
 (bnd (tupR [(blR absB [(rt x0)]), (blR absB [(rt x1)])]) fun v1 => unT v1 fun l2 => (unC l2 fun v3 l4 => (unC l4 fun v5 l6 => (unE l6 (L0 v3 v5)))))
noncomputable def f0_b7 (x0 x1 : D) : MR D :=
 f0_b7c x0 x1 (fun y0 y1 => (f0_u5 y0 y1 fun t => (f0_b6 t.1 t.2)))
noncomputable def f0_v9 (t : D × D) : Vars := (f0_w3 t.1 t.2)
theorem f0_e8 (x0 x1 : D) (κ : KR) : f0_s 40 (sAt f0_p2 1) (f0_w3 x0 x1) κ = f0_u5 x0 x1 (fun t => κ (f0_v9 t)) :=
 while_at (sAt f0_p2 1) f0_v9 κ (by kernel_rfl) (fun t => by kernel_rfl) (fun t _ => by kernel_rfl) (x0, x1)
theorem f0_e10 (x0 x1 : D) : seqK (f0_s 40) (f0_p2.drop 2) (f0_w3 x0 x1) kEnd = (f0_b6 x0 x1) := by kernel_rfl
theorem f0_e1 (x0 x1 : D) : seqK (f0_s 40) f0_p2 (f0_w3 x0 x1) kEnd = (f0_b7 x0 x1) :=
 have h := congrArg (f0_b7c x0 x1) (fx2 fun y0 y1 => (f0_e8 y0 y1 (fun vs => seqK (f0_s 40) (f0_p2.drop 2) vs kEnd)).trans (congrArg (f0_u5 y0 y1) (funext fun t => f0_e10 t.1 t.2)))
 Eq.trans (by kernel_rfl) h
noncomputable abbrev gcd_R (x0 x1 : D) : MR D := f0_b7 x0 x1
theorem gcd_eq (x0 x1 : D) : runFn (cxT aJ []) 2000 40 (fnO (nm "gcd")) [x0, x1] = gcd_R x0 x1 :=
 (aV (vs := [im "a" x0, im "b" x1]) (by kernel_rfl)).trans (f0_e1 x0 x1)
noncomputable def rat_R (c0 : TF) (x0 x1 : D) : MR D :=
 (ifR (cmpR .Eq (rt x1) (rt (.int 0))) (raR (rt (.str (nm "division by zero"))) (rt (.str (nm "a ratio with the bottom 0")))) (bnd (ifR (cmpR .Gt (rt x1) (rt (.int 0))) (bnd (mR [(rt x0), (rt x1)]) c0) (bopR .Sub (rt (.int 0)) (bnd (mR [(rt x0), (rt x1)]) c0))) fun v0 => (tupR [(bopR .FloorDiv (rt x0) (rt v0)), (bopR .FloorDiv (rt x1) (rt v0))])))
theorem rat_eq (c0 : TF) (x0 x1 : D) : runFn (cxT aJ [(nm "gcd", c0)]) 2000 40 (fnO (nm "rat")) [x0, x1] = rat_R c0 x0 x1 :=
 (aV (vs := [im "top" x0, im "bottom" x1]) (by kernel_rfl)).trans (by kernel_rfl)
noncomputable def radd_R (c0 : TF) (x0 x1 : D) : MR D :=
 (bnd (mR [(bopR .Add (bopR .Mult (subR (rt x0) (rt (.int 0))) (subR (rt x1) (rt (.int 1)))) (bopR .Mult (subR (rt x1) (rt (.int 0))) (subR (rt x0) (rt (.int 1))))), (bopR .Mult (subR (rt x0) (rt (.int 1))) (subR (rt x1) (rt (.int 1))))]) c0)
theorem radd_eq (c0 : TF) (x0 x1 : D) : runFn (cxT aJ [(nm "rat", c0)]) 2000 40 (fnO (nm "radd")) [x0, x1] = radd_R c0 x0 x1 :=
 (aV (vs := [im "a" x0, im "b" x1]) (by kernel_rfl)).trans (by kernel_rfl)
noncomputable def rsub_R (c0 : TF) (x0 x1 : D) : MR D :=
 (bnd (mR [(bopR .Sub (bopR .Mult (subR (rt x0) (rt (.int 0))) (subR (rt x1) (rt (.int 1)))) (bopR .Mult (subR (rt x1) (rt (.int 0))) (subR (rt x0) (rt (.int 1))))), (bopR .Mult (subR (rt x0) (rt (.int 1))) (subR (rt x1) (rt (.int 1))))]) c0)
theorem rsub_eq (c0 : TF) (x0 x1 : D) : runFn (cxT aJ [(nm "rat", c0)]) 2000 40 (fnO (nm "rsub")) [x0, x1] = rsub_R c0 x0 x1 :=
 (aV (vs := [im "a" x0, im "b" x1]) (by kernel_rfl)).trans (by kernel_rfl)
noncomputable def rmul_R (c0 : TF) (x0 x1 : D) : MR D :=
 (bnd (mR [(bopR .Mult (subR (rt x0) (rt (.int 0))) (subR (rt x1) (rt (.int 0)))), (bopR .Mult (subR (rt x0) (rt (.int 1))) (subR (rt x1) (rt (.int 1))))]) c0)
theorem rmul_eq (c0 : TF) (x0 x1 : D) : runFn (cxT aJ [(nm "rat", c0)]) 2000 40 (fnO (nm "rmul")) [x0, x1] = rmul_R c0 x0 x1 :=
 (aV (vs := [im "a" x0, im "b" x1]) (by kernel_rfl)).trans (by kernel_rfl)
noncomputable def rdiv_R (c0 : TF) (x0 x1 : D) : MR D :=
 (bnd (mR [(bopR .Mult (subR (rt x0) (rt (.int 0))) (subR (rt x1) (rt (.int 1)))), (bopR .Mult (subR (rt x0) (rt (.int 1))) (subR (rt x1) (rt (.int 0))))]) c0)
theorem rdiv_eq (c0 : TF) (x0 x1 : D) : runFn (cxT aJ [(nm "rat", c0)]) 2000 40 (fnO (nm "rdiv")) [x0, x1] = rdiv_R c0 x0 x1 :=
 (aV (vs := [im "a" x0, im "b" x1]) (by kernel_rfl)).trans (by kernel_rfl)
noncomputable def rneg_R (x0 : D) : MR D :=
 (tupR [(bopR .Sub (ri 0) (subR (rt x0) (ri 0))), (subR (rt x0) (ri 1))])
theorem rneg_eq (x0 : D) : runFn (cxT aJ []) 2000 40 (fnO (nm "rneg")) [x0] = rneg_R x0 :=
 (aV (vs := [im "a" x0]) (by kernel_rfl)).trans (by kernel_rfl)
noncomputable def rinv_R (c0 : TF) (x0 : D) : MR D :=
 (bnd (mR [(subR (rt x0) (ri 1)), (subR (rt x0) (ri 0))]) c0)
theorem rinv_eq (c0 : TF) (x0 : D) : runFn (cxT aJ [(nm "rat", c0)]) 2000 40 (fnO (nm "rinv")) [x0] = rinv_R c0 x0 :=
 (aV (vs := [im "a" x0]) (by kernel_rfl)).trans (by kernel_rfl)
noncomputable abbrev f1_s (n : Nat) : Stmt → Vars → KR → MR D := exSK (cxT aJ []) 2000 (fnO (nm "bits_of")).names n
noncomputable def f1_p2 : List Stmt := (fnO (nm "bits_of")).body
noncomputable def f1_p3 : List Stmt := (bV (sAt f1_p2 1))
noncomputable def f1_b4 (x0 x1 x2 x3 : D) (k : D × D → MR D) : MR D :=
 (bnd (tupR [(bopR .FloorDiv (rt x0) (rt x3)), (bopR .Add (rt x1) (rt x2))]) fun v1 => unT v1 fun l2 => (unC l2 fun v3 l4 => (unC l4 fun v5 l6 => (unE l6 (k (v3, v5))))))
noncomputable def f1_u5 (x0 x1 x2 x3 : D) (K : D × D → MR D) : MR D :=
 loopW (fun t => (cmpR .GtE (rt t.1) (rt x3))) (fun t k => (f1_b4 t.1 t.2 x2 x3 k)) K 2000 (x0, x1)
noncomputable def f1_b6c (x0 x1 x2 x3 : D) (k : D × D × D × D → MR D) (L0 : D → D → D → D → MR D) : MR D :=
 (bnd (bopR .Pow (ri 2) (rt x2)) fun v1 => (L0 x0 x1 x2 v1))
noncomputable def f1_b6 (x0 x1 x2 x3 : D) (k : D × D × D × D → MR D) : MR D :=
 f1_b6c x0 x1 x2 x3 k (fun y0 y1 y2 y3 => (f1_u5 y0 y1 y2 y3 fun t => (k (t.1, t.2, y2, y3))))
noncomputable def f1_u7 (x0 x1 : D) (K0 : MR D) (K : D × D × D × D → MR D) : MR D :=
 forR (itR (tupR [(ri 4096), (ri 64), (ri 1)])) (fun d k => (f1_b6 x0 x1 d .none k)) (fun t d k => (f1_b6 t.1 t.2.1 d t.2.2.2 k)) K0 K
noncomputable def f1_b8 (x0 x1 x2 x3 : D) : MR D :=
 (bopR .Add (rt x1) (rt x0))
noncomputable def f1_b9c (x0 : D) (L0 : D → D → MR D) : MR D :=
 (bnd (ri 0) fun v1 => (L0 x0 v1))
noncomputable def f1_b9 (x0 : D) : MR D :=
 f1_b9c x0 (fun y0 y1 => (f1_u7 y0 y1 (f1_b8 y0 y1 .none .none) fun t => (f1_b8 t.1 t.2.1 t.2.2.1 t.2.2.2)))
noncomputable def f1_w11 (x0 x1 : D) : Vars := [im "n" x0, im "found" x1]
noncomputable def f1_w13 (x0 x1 x2 x3 : D) : Vars := [im "n" x0, im "found" x1, im "many" x2, im "step" x3]
noncomputable def f1_v12 (t : D × D × D × D) : Vars := (f1_w13 t.1 t.2.1 t.2.2.1 t.2.2.2)
noncomputable def f1_v16 (x2 x3 : D) (t : D × D) : Vars := (f1_w13 t.1 t.2 x2 x3)
theorem f1_e15 (x0 x1 x2 x3 : D) (κ : KR) : f1_s 39 (sAt f1_p3 1) (f1_w13 x0 x1 x2 x3) κ = f1_u5 x0 x1 x2 x3 (fun t => κ (f1_v16 x2 x3 t)) :=
 while_at (sAt f1_p3 1) (f1_v16 x2 x3) κ (by kernel_rfl) (fun t => by kernel_rfl) (fun t _ => by kernel_rfl) (x0, x1)
theorem f1_e14 (x0 x1 x2 x3 : D) (κ : KR) : seqK (f1_s 39) f1_p3 (f1_w13 x0 x1 x2 x3) κ = (f1_b6 x0 x1 x2 x3 (fun t => κ (f1_v12 t))) :=
 have h := congrArg (f1_b6c x0 x1 x2 x3 (fun t => κ (f1_v12 t))) (fx4 fun y0 y1 y2 y3 => f1_e15 y0 y1 y2 y3 κ)
 Eq.trans (by kernel_rfl) h
theorem f1_e17 (x0 x1 x2 : D) (κ : KR) : seqK (f1_s 39) f1_p3 [im "n" x0, im "found" x1, im "many" x2] κ = (f1_b6 x0 x1 x2 .none (fun t => κ (f1_v12 t))) :=
 have h := congrArg (f1_b6c x0 x1 x2 .none (fun t => κ (f1_v12 t))) (fx4 fun y0 y1 y2 y3 => f1_e15 y0 y1 y2 y3 κ)
 Eq.trans (by kernel_rfl) h
theorem f1_e10 (x0 x1 : D) (κ : KR) : f1_s 40 (sAt f1_p2 1) (f1_w11 x0 x1) κ = f1_u7 x0 x1 (κ (f1_w11 x0 x1)) (fun t => κ (f1_v12 t)) :=
 for_at (sAt f1_p2 1) (nm "many") κ (by kernel_rfl) (fun d κ => f1_e17 x0 x1 d κ) (fun t d κ => f1_e14 t.1 t.2.1 d t.2.2.2 κ)
theorem f1_e18 (x0 x1 x2 x3 : D) : seqK (f1_s 40) (f1_p2.drop 2) (f1_w13 x0 x1 x2 x3) kEnd = (f1_b8 x0 x1 x2 x3) := by kernel_rfl
theorem f1_e19 (x0 x1 : D) : seqK (f1_s 40) (f1_p2.drop 2) (f1_w11 x0 x1) kEnd = (f1_b8 x0 x1 .none .none) := by kernel_rfl
theorem f1_e1 (x0 : D) : seqK (f1_s 40) f1_p2 [im "n" x0] kEnd = (f1_b9 x0) :=
 have h := congrArg (f1_b9c x0) (fx2 fun y0 y1 => (f1_e10 y0 y1 (fun vs => seqK (f1_s 40) (f1_p2.drop 2) vs kEnd)).trans (congr (congrArg (f1_u7 y0 y1) (f1_e19 y0 y1)) (funext fun t => f1_e18 t.1 t.2.1 t.2.2.1 t.2.2.2)))
 Eq.trans (by kernel_rfl) h
noncomputable abbrev bits_of_R (x0 : D) : MR D := f1_b9 x0
theorem bits_of_eq (x0 : D) : runFn (cxT aJ []) 2000 40 (fnO (nm "bits_of")) [x0] = bits_of_R x0 :=
 (aV (vs := [im "n" x0]) (by kernel_rfl)).trans (f1_e1 x0)
noncomputable def rpower_R (c0 c1 : TF) (x0 x1 : D) : MR D :=
 (ifR (cmpR .Lt (rt x1) (ri 0)) (bnd (tupR [(bnd (mR [(rt x0)]) c0), (bopR .Sub (ri 0) (rt x1))]) fun v0 => unT v0 fun l1 => (unC l1 fun v2 l3 => (unC l3 fun v4 l5 => (unE l5 (bnd (blR maxB [(blR absB [(subR (rt v2) (ri 0))]), (subR (rt v2) (ri 1))]) fun v6 => (ifR (and3R (cmpR .Gt (rt v4) (ri 1)) (cmpR .Gt (rt v6) (ri 1)) (cmpR .Gt (bopR .Mult (rt v4) (bnd (mR [(rt v6)]) c1)) (rt gMOST_BITS))) (raR (rs "limit") (rs "a number of too many figures")) (tupR [(bopR .Pow (subR (rt v2) (ri 0)) (rt v4)), (bopR .Pow (subR (rt v2) (ri 1)) (rt v4))]))))))) (bnd (blR maxB [(blR absB [(subR (rt x0) (ri 0))]), (subR (rt x0) (ri 1))]) fun v7 => (ifR (and3R (cmpR .Gt (rt x1) (ri 1)) (cmpR .Gt (rt v7) (ri 1)) (cmpR .Gt (bopR .Mult (rt x1) (bnd (mR [(rt v7)]) c1)) (rt gMOST_BITS))) (raR (rs "limit") (rs "a number of too many figures")) (tupR [(bopR .Pow (subR (rt x0) (ri 0)) (rt x1)), (bopR .Pow (subR (rt x0) (ri 1)) (rt x1))]))))
theorem rpower_eq (c0 c1 : TF) (x0 x1 : D) : runFn (cxT aJ [(nm "rinv", c0), (nm "bits_of", c1)]) 2000 40 (fnO (nm "rpower")) [x0, x1] = rpower_R c0 c1 x0 x1 :=
 (aV (vs := [im "a" x0, im "n" x1]) (by kernel_rfl)).trans (by kernel_rfl)
noncomputable def is_vast_R (c0 : TF) (x0 : D) : MR D :=
 (bnd (blR maxB [(blR absB [(subR (rt x0) (rt (.int 0)))]), (subR (rt x0) (rt (.int 1)))]) fun v0 => (andR (cmpR .GtE (rt v0) (bopR .Pow (rt (.int 2)) (rt (.int 64)))) (cmpR .Gt (bnd (mR [(rt v0)]) c0) (rt gMOST_BITS))))
theorem is_vast_eq (c0 : TF) (x0 : D) : runFn (cxT aJ [(nm "bits_of", c0)]) 2000 40 (fnO (nm "is_vast")) [x0] = is_vast_R c0 x0 :=
 (aV (vs := [im "a" x0]) (by kernel_rfl)).trans (by kernel_rfl)
noncomputable def rcompare_R (x0 x1 : D) : MR D :=
 (bnd (bopR .Sub (bopR .Mult (subR (rt x0) (ri 0)) (subR (rt x1) (ri 1))) (bopR .Mult (subR (rt x1) (ri 0)) (subR (rt x0) (ri 1)))) fun v0 => (bopR .Sub (cmpR .Gt (rt v0) (ri 0)) (cmpR .Lt (rt v0) (ri 0))))
theorem rcompare_eq (x0 x1 : D) : runFn (cxT aJ []) 2000 40 (fnO (nm "rcompare")) [x0, x1] = rcompare_R x0 x1 :=
 (aV (vs := [im "a" x0, im "b" x1]) (by kernel_rfl)).trans (by kernel_rfl)
noncomputable def cut_R (x0 x1 : D) : MR D :=
 (bopR .Add (blR listB [(uptoR (rt x0) (rt x1))]) (bopR .Mult (lstR [(rt gR0)]) (bopR .Sub (rt x1) (lenR (rt x0)))))
theorem cut_eq (x0 x1 : D) : runFn (cxT aJ []) 2000 40 (fnO (nm "cut")) [x0, x1] = cut_R x0 x1 :=
 (aV (vs := [im "a" x0, im "order" x1]) (by kernel_rfl)).trans (by kernel_rfl)
noncomputable def let_R (c0 : TF) (x0 : D) : MR D :=
 (ifR (asBool (bnd (mR [(rt x0)]) c0)) (raR (rt (.str (nm "limit"))) (rt (.str (nm "a series with too long numbers")))) (rt x0))
theorem let_eq (c0 : TF) (x0 : D) : runFn (cxT aJ [(nm "is_vast", c0)]) 2000 40 (fnO (nm "let")) [x0] = let_R c0 x0 :=
 (aV (vs := [im "number" x0]) (by kernel_rfl)).trans (by kernel_rfl)
noncomputable def sadd_R (c0 : TF) (x0 x1 : D) : MR D :=
 (bnd (rngR [(blR minB [(lenR (rt x0)), (lenR (rt x1))])]) (compF (fun v0 => (rt true)) (fun v0 => (bnd (mR [(subR (rt x0) (rt v0)), (subR (rt x1) (rt v0))]) c0))))
theorem sadd_eq (c0 : TF) (x0 x1 : D) : runFn (cxT aJ [(nm "radd", c0)]) 2000 40 (fnO (nm "sadd")) [x0, x1] = sadd_R c0 x0 x1 :=
 (aV (vs := [im "a" x0, im "b" x1]) (by kernel_rfl)).trans (by kernel_rfl)
noncomputable def sscale_R (c0 : TF) (x0 x1 : D) : MR D :=
 (bnd (itR (rt x1)) (compF (fun v0 => (rt true)) (fun v0 => (bnd (mR [(rt x0), (rt v0)]) c0))))
theorem sscale_eq (c0 : TF) (x0 x1 : D) : runFn (cxT aJ [(nm "rmul", c0)]) 2000 40 (fnO (nm "sscale")) [x0, x1] = sscale_R c0 x0 x1 :=
 (aV (vs := [im "number" x0, im "a" x1]) (by kernel_rfl)).trans (by kernel_rfl)
noncomputable abbrev f31_s (c : Nat → TF) (n : Nat) : Stmt → Vars → KR → MR D := exSK (cxT aJ [(nm "radd", (c 0)), (nm "rmul", (c 1))]) 2000 (fnO (nm "mixed")).names n
noncomputable def f31_p2 : List Stmt := (fnO (nm "mixed")).body
noncomputable def f31_b3 (c : Nat → TF) (x0 x1 x2 x3 x4 : D) (k : D × D → MR D) : MR D :=
 (ifR (andR (cmpR .NotEq (subR (rt x0) (rt x4)) (rt gR0)) (cmpR .NotEq (subR (rt x1) (bopR .Sub (rt x2) (rt x4))) (rt gR0))) (bnd (bnd (mR [(rt x3), (bnd (mR [(subR (rt x0) (rt x4)), (subR (rt x1) (bopR .Sub (rt x2) (rt x4)))]) (c 1))]) (c 0)) fun v1 => (k (v1, x4))) (k (x3, x4)))
noncomputable def f31_u4 (c : Nat → TF) (x0 x1 x2 x3 : D) (K0 : MR D) (K : D × D → MR D) : MR D :=
 forR (rngR [(bopR .Add (rt x2) (rt (.int 1)))]) (fun d k => (f31_b3 c x0 x1 x2 x3 d k)) (fun t d k => (f31_b3 c x0 x1 x2 t.1 d k)) K0 K
noncomputable def f31_b5 (c : Nat → TF) (x0 x1 x2 x3 x4 : D) : MR D :=
 (rt x3)
noncomputable def f31_b6c (c : Nat → TF) (x0 x1 x2 : D) (L0 : D → D → D → D → MR D) : MR D :=
 (bnd (rt gR0) fun v1 => (L0 x0 x1 x2 v1))
noncomputable def f31_b6 (c : Nat → TF) (x0 x1 x2 : D) : MR D :=
 f31_b6c c x0 x1 x2 (fun y0 y1 y2 y3 => (f31_u4 c y0 y1 y2 y3 (f31_b5 c y0 y1 y2 y3 .none) fun t => (f31_b5 c y0 y1 y2 t.1 t.2)))
noncomputable def f31_w8 (x0 x1 x2 x3 : D) : Vars := [im "a" x0, im "b" x1, im "at" x2, im "found" x3]
noncomputable def f31_v9 (x0 x1 x2 : D) (t : D × D) : Vars := [im "a" x0, im "b" x1, im "at" x2, im "found" t.1, im "spot" t.2]
theorem f31_e7 (c : Nat → TF) (x0 x1 x2 x3 : D) (κ : KR) : f31_s c 40 (sAt f31_p2 1) (f31_w8 x0 x1 x2 x3) κ = f31_u4 c x0 x1 x2 x3 (κ (f31_w8 x0 x1 x2 x3)) (fun t => κ (f31_v9 x0 x1 x2 t)) :=
 for_at (sAt f31_p2 1) (nm "spot") κ (by kernel_rfl) (fun d _ => by kernel_rfl) (fun t d _ => by kernel_rfl)
theorem f31_e10 (c : Nat → TF) (x0 x1 x2 x3 x4 : D) : seqK (f31_s c 40) (f31_p2.drop 2) [im "a" x0, im "b" x1, im "at" x2, im "found" x3, im "spot" x4] kEnd = (f31_b5 c x0 x1 x2 x3 x4) := by kernel_rfl
theorem f31_e11 (c : Nat → TF) (x0 x1 x2 x3 : D) : seqK (f31_s c 40) (f31_p2.drop 2) (f31_w8 x0 x1 x2 x3) kEnd = (f31_b5 c x0 x1 x2 x3 .none) := by kernel_rfl
theorem f31_e1 (c : Nat → TF) (x0 x1 x2 : D) : seqK (f31_s c 40) f31_p2 [im "a" x0, im "b" x1, im "at" x2] kEnd = (f31_b6 c x0 x1 x2) :=
 have h := congrArg (f31_b6c c x0 x1 x2) (fx4 fun y0 y1 y2 y3 => (f31_e7 c y0 y1 y2 y3 (fun vs => seqK (f31_s c 40) (f31_p2.drop 2) vs kEnd)).trans (congr (congrArg (f31_u4 c y0 y1 y2 y3) (f31_e11 c y0 y1 y2 y3)) (funext fun t => f31_e10 c y0 y1 y2 t.1 t.2)))
 Eq.trans (by kernel_rfl) h
noncomputable abbrev mixed_R (c0 c1 : TF) (x0 x1 x2 : D) : MR D := f31_b6 (cs [c0, c1]) x0 x1 x2
theorem mixed_eq (c0 c1 : TF) (x0 x1 x2 : D) : runFn (cxT aJ [(nm "radd", c0), (nm "rmul", c1)]) 2000 40 (fnO (nm "mixed")) [x0, x1, x2] = mixed_R c0 c1 x0 x1 x2 :=
 (aV (vs := [im "a" x0, im "b" x1, im "at" x2]) (by kernel_rfl)).trans (f31_e1 (cs [c0, c1]) x0 x1 x2)
noncomputable def smul_R (c0 c1 : TF) (x0 x1 : D) : MR D :=
 (bnd (rngR [(blR minB [(lenR (rt x0)), (lenR (rt x1))])]) (compF (fun v0 => (rt true)) (fun v0 => (bnd (mR [(bnd (mR [(rt x0), (rt x1), (rt v0)]) c1)]) c0))))
theorem smul_eq (c0 c1 : TF) (x0 x1 : D) : runFn (cxT aJ [(nm "let", c0), (nm "mixed", c1)]) 2000 40 (fnO (nm "smul")) [x0, x1] = smul_R c0 c1 x0 x1 :=
 (aV (vs := [im "a" x0, im "b" x1]) (by kernel_rfl)).trans (by kernel_rfl)
noncomputable abbrev f33_s (c : Nat → TF) (n : Nat) : Stmt → Vars → KR → MR D := exSK (cxT aJ [(nm "rsub", (c 0)), (nm "let", (c 1)), (nm "rmul", (c 2)), (nm "rdiv", (c 3))]) 2000 (fnO (nm "sinverse")).names n
noncomputable def f33_p2 : List Stmt := (fnO (nm "sinverse")).body
noncomputable def f33_p3 : List Stmt := (bV (sAt f33_p2 2))
noncomputable def f33_b4 (c : Nat → TF) (x0 : D) (x1 : List D) (x2 x3 x4 : D) (k : D × D → MR D) : MR D :=
 (bnd (bnd (mR [(rt x3), (bnd (mR [(subR (rt x0) (rt x4)), (subR (rt (.list x1)) (bopR .Sub (rt x2) (rt x4)))]) (c 2))]) (c 0)) fun v1 => (k (v1, x4)))
noncomputable def f33_u5 (c : Nat → TF) (x0 : D) (x1 : List D) (x2 x3 : D) (K0 : MR D) (K : D × D → MR D) : MR D :=
 forR (rngR [(ri 1), (bopR .Add (rt x2) (ri 1))]) (fun d k => (f33_b4 c x0 x1 x2 x3 d k)) (fun t d k => (f33_b4 c x0 x1 x2 t.1 d k)) K0 K
noncomputable def f33_b6 (c : Nat → TF) (x0 : D) (x1 : List D) (x2 x3 : D) (o : Option (D)) (k : (List D × D × D) × Option (D) → MR D) : MR D :=
 (apR x1 (bnd (mR [(bnd (mR [(rt x3), (subR (rt x0) (ri 0))]) (c 3))]) (c 1)) fun v1 => (k (((x1 ++ [v1]), x2, x3), o)))
noncomputable def f33_b7c (c : Nat → TF) (x0 : D) (x1 : List D) (x2 x3 : D) (o : Option (D)) (k : (List D × D × D) × Option (D) → MR D) (L0 : D → List D → D → D → Option (D) → MR D) : MR D :=
 (bnd (ifR (cmpR .Eq (rt x2) (ri 0)) (rt gR1) (rt gR0)) fun v1 => (L0 x0 x1 x2 v1 o))
noncomputable def f33_b7 (c : Nat → TF) (x0 : D) (x1 : List D) (x2 x3 : D) (o : Option (D)) (k : (List D × D × D) × Option (D) → MR D) : MR D :=
 f33_b7c c x0 x1 x2 x3 o k (fun y0 y1 y2 y3 o => (f33_u5 c y0 y1 y2 y3 (f33_b6 c y0 y1 y2 y3 o k) fun t => (f33_b6 c y0 y1 y2 t.1 (some t.2) k)))
noncomputable def f33_u8 (c : Nat → TF) (x0 : D) (x1 : List D) (K0 : MR D) (K : (List D × D × D) × Option (D) → MR D) : MR D :=
 forR (rngR [(lenR (rt x0))]) (fun d k => (f33_b7 c x0 x1 d .none none k)) (fun t d k => (f33_b7 c x0 t.1.1 d t.1.2.2 t.2 k)) K0 K
noncomputable def f33_b9 (c : Nat → TF) (x0 : D) (x1 : List D) (x2 x3 : D) : MR D :=
 (rt (.list x1))
noncomputable def f33_b10c (c : Nat → TF) (x0 : D) (L0 : D → List D → MR D) : MR D :=
 (ifR (andR (cmpR .Gt (lenR (rt x0)) (ri 0)) (cmpR .Eq (subR (rt x0) (ri 0)) (rt gR0))) (raR (rs "division by zero") (rs "a series that begins with 0")) (L0 x0 []))
noncomputable def f33_b10 (c : Nat → TF) (x0 : D) : MR D :=
 f33_b10c c x0 (fun y0 y1 => (f33_u8 c y0 y1 (f33_b9 c y0 y1 .none .none) fun t => (f33_b9 c y0 t.1.1 t.1.2.1 t.1.2.2)))
noncomputable def f33_w12 (x0 : D) (x1 : List D) : Vars := [im "a" x0, ow "found" (.list x1)]
noncomputable def f33_w14 (x0 : D) (x1 : List D) (x2 x3 : D) : Vars := [im "a" x0, ow "found" (.list x1), im "at" x2, im "total" x3]
noncomputable def f33_v13 (x0 : D) (t : (List D × D × D) × Option (D)) : Vars := (optV (f33_w14 x0 t.1.1 t.1.2.1 t.1.2.2) (fun u : D => [im "spot" u]) t.2)
noncomputable def f33_w16 (x0 : D) (x1 : List D) (x2 x3 x4 : D) : Vars := [im "a" x0, ow "found" (.list x1), im "at" x2, im "total" x3, im "spot" x4]
noncomputable def f33_v18 (x0 : D) (x1 : List D) (x2 : D) (t : D × D) : Vars := (f33_w16 x0 x1 x2 t.1 t.2)
theorem f33_e17 (c : Nat → TF) (x0 : D) (x1 : List D) (x2 x3 x4 : D) (κ : KR) : f33_s c 39 (sAt f33_p3 1) (f33_w16 x0 x1 x2 x3 x4) κ = f33_u5 c x0 x1 x2 x3 (κ (f33_w16 x0 x1 x2 x3 x4)) (fun t => κ (f33_v18 x0 x1 x2 t)) :=
 for_at (sAt f33_p3 1) (nm "spot") κ (by kernel_rfl) (fun d _ => by kernel_rfl) (fun t d _ => by kernel_rfl)
theorem f33_e19 (c : Nat → TF) (x0 : D) (x1 : List D) (x2 x3 x4 : D) (κ : KR) : seqK (f33_s c 39) (f33_p3.drop 2) (f33_w16 x0 x1 x2 x3 x4) κ = (f33_b6 c x0 x1 x2 x3 (some x4) (fun t => κ (f33_v13 x0 t))) := by kernel_rfl
theorem f33_e15 (c : Nat → TF) (x0 : D) (x1 : List D) (x2 x3 x4 : D) (κ : KR) : seqK (f33_s c 39) f33_p3 (f33_w16 x0 x1 x2 x3 x4) κ = (f33_b7 c x0 x1 x2 x3 (some x4) (fun t => κ (f33_v13 x0 t))) :=
 have h := congrArg (f33_b7c c x0 x1 x2 x3 (some x4) (fun t => κ (f33_v13 x0 t))) (fx5 fun y0 y1 y2 y3 o => (f33_e17 c y0 y1 y2 y3 x4 (fun vs => seqK (f33_s c 39) (f33_p3.drop 2) vs κ)).trans (congr (congrArg (f33_u5 c y0 y1 y2 y3) (f33_e19 c y0 y1 y2 y3 x4 κ)) (funext fun t => f33_e19 c y0 y1 y2 t.1 t.2 κ)))
 Eq.trans (by kernel_rfl) h
theorem f33_e21 (c : Nat → TF) (x0 : D) (x1 : List D) (x2 x3 : D) (κ : KR) : f33_s c 39 (sAt f33_p3 1) (f33_w14 x0 x1 x2 x3) κ = f33_u5 c x0 x1 x2 x3 (κ (f33_w14 x0 x1 x2 x3)) (fun t => κ (f33_v18 x0 x1 x2 t)) :=
 for_at (sAt f33_p3 1) (nm "spot") κ (by kernel_rfl) (fun d _ => by kernel_rfl) (fun t d _ => by kernel_rfl)
theorem f33_e22 (c : Nat → TF) (x0 : D) (x1 : List D) (x2 x3 : D) (κ : KR) : seqK (f33_s c 39) (f33_p3.drop 2) (f33_w14 x0 x1 x2 x3) κ = (f33_b6 c x0 x1 x2 x3 none (fun t => κ (f33_v13 x0 t))) := by kernel_rfl
theorem f33_e20 (c : Nat → TF) (x0 : D) (x1 : List D) (x2 x3 : D) (κ : KR) : seqK (f33_s c 39) f33_p3 (f33_w14 x0 x1 x2 x3) κ = (f33_b7 c x0 x1 x2 x3 none (fun t => κ (f33_v13 x0 t))) :=
 have h := congrArg (f33_b7c c x0 x1 x2 x3 none (fun t => κ (f33_v13 x0 t))) (fx5 fun y0 y1 y2 y3 o => (f33_e21 c y0 y1 y2 y3 (fun vs => seqK (f33_s c 39) (f33_p3.drop 2) vs κ)).trans (congr (congrArg (f33_u5 c y0 y1 y2 y3) (f33_e22 c y0 y1 y2 y3 κ)) (funext fun t => f33_e19 c y0 y1 y2 t.1 t.2 κ)))
 Eq.trans (by kernel_rfl) h
theorem f33_e23 (c : Nat → TF) (x0 : D) (x1 : List D) (x2 : D) (κ : KR) : seqK (f33_s c 39) f33_p3 [im "a" x0, ow "found" (.list x1), im "at" x2] κ = (f33_b7 c x0 x1 x2 .none none (fun t => κ (f33_v13 x0 t))) :=
 have h := congrArg (f33_b7c c x0 x1 x2 .none none (fun t => κ (f33_v13 x0 t))) (fx5 fun y0 y1 y2 y3 o => (f33_e21 c y0 y1 y2 y3 (fun vs => seqK (f33_s c 39) (f33_p3.drop 2) vs κ)).trans (congr (congrArg (f33_u5 c y0 y1 y2 y3) (f33_e22 c y0 y1 y2 y3 κ)) (funext fun t => f33_e19 c y0 y1 y2 t.1 t.2 κ)))
 Eq.trans (by kernel_rfl) h
theorem f33_e11 (c : Nat → TF) (x0 : D) (x1 : List D) (κ : KR) : f33_s c 40 (sAt f33_p2 2) (f33_w12 x0 x1) κ = f33_u8 c x0 x1 (κ (f33_w12 x0 x1)) (fun t => κ (f33_v13 x0 t)) :=
 for_at (sAt f33_p2 2) (nm "at") κ (by kernel_rfl) (fun d κ => f33_e23 c x0 x1 d κ) (fun t d κ => match t with | (s, none) => f33_e20 c x0 s.1 d s.2.2 κ | (s, some u) => f33_e15 c x0 s.1 d s.2.2 u κ)
theorem f33_e25 (c : Nat → TF) (x0 : D) (x1 : List D) (x2 x3 x4 : D) : seqK (f33_s c 40) (f33_p2.drop 3) (f33_w16 x0 x1 x2 x3 x4) kEnd = (f33_b9 c x0 x1 x2 x3) := by kernel_rfl
theorem f33_e26 (c : Nat → TF) (x0 : D) (x1 : List D) (x2 x3 : D) : seqK (f33_s c 40) (f33_p2.drop 3) (f33_w14 x0 x1 x2 x3) kEnd = (f33_b9 c x0 x1 x2 x3) := by kernel_rfl
theorem f33_e24 (c : Nat → TF) (x0 : D) (x1 : List D) (x2 x3 : D) (xo : Option (D)) : seqK (f33_s c 40) (f33_p2.drop 3) (optV (f33_w14 x0 x1 x2 x3) (fun u : D => [im "spot" u]) xo) kEnd = (f33_b9 c x0 x1 x2 x3) := by
 cases xo with
 | none => exact f33_e26 c x0 x1 x2 x3
 | some u => exact f33_e25 c x0 x1 x2 x3 u
theorem f33_e27 (c : Nat → TF) (x0 : D) (x1 : List D) : seqK (f33_s c 40) (f33_p2.drop 3) (f33_w12 x0 x1) kEnd = (f33_b9 c x0 x1 .none .none) := by kernel_rfl
theorem f33_e1 (c : Nat → TF) (x0 : D) : seqK (f33_s c 40) f33_p2 [im "a" x0] kEnd = (f33_b10 c x0) :=
 have h := congrArg (f33_b10c c x0) (fx2 fun y0 y1 => (f33_e11 c y0 y1 (fun vs => seqK (f33_s c 40) (f33_p2.drop 3) vs kEnd)).trans (congr (congrArg (f33_u8 c y0 y1) (f33_e27 c y0 y1)) (funext fun t => f33_e24 c y0 t.1.1 t.1.2.1 t.1.2.2 t.2)))
 Eq.trans (by kernel_rfl) h
noncomputable abbrev sinverse_R (c0 c1 c2 c3 : TF) (x0 : D) : MR D := f33_b10 (cs [c0, c1, c2, c3]) x0
theorem sinverse_eq (c0 c1 c2 c3 : TF) (x0 : D) : runFn (cxT aJ [(nm "rsub", c0), (nm "let", c1), (nm "rmul", c2), (nm "rdiv", c3)]) 2000 40 (fnO (nm "sinverse")) [x0] = sinverse_R c0 c1 c2 c3 x0 :=
 (aV (vs := [im "a" x0]) (by kernel_rfl)).trans (f33_e1 (cs [c0, c1, c2, c3]) x0)
noncomputable def sderive_R (c0 : TF) (x0 : D) : MR D :=
 (bnd (rngR [(ri 1), (lenR (rt x0))]) (compF (fun v0 => (rt true)) (fun v0 => (bnd (mR [(tupR [(rt v0), (ri 1)]), (subR (rt x0) (rt v0))]) c0))))
theorem sderive_eq (c0 : TF) (x0 : D) : runFn (cxT aJ [(nm "rmul", c0)]) 2000 40 (fnO (nm "sderive")) [x0] = sderive_R c0 x0 :=
 (aV (vs := [im "a" x0]) (by kernel_rfl)).trans (by kernel_rfl)
noncomputable def sintegrate_R (c0 : TF) (x0 : D) : MR D :=
 (bopR .Add (lstR [(rt gR0)]) (bnd (rngR [(lenR (rt x0))]) (compF (fun v0 => (rt true)) (fun v0 => (bnd (mR [(subR (rt x0) (rt v0)), (tupR [(bopR .Add (rt v0) (ri 1)), (ri 1)])]) c0)))))
theorem sintegrate_eq (c0 : TF) (x0 : D) : runFn (cxT aJ [(nm "rdiv", c0)]) 2000 40 (fnO (nm "sintegrate")) [x0] = sintegrate_R c0 x0 :=
 (aV (vs := [im "a" x0]) (by kernel_rfl)).trans (by kernel_rfl)
noncomputable def need_begin_R (c0 : TF) (x0 x1 : D) : MR D :=
 (ifR (andR (cmpR .Gt (lenR (rt x0)) (ri 0)) (cmpR .NotEq (bnd (mR [(subR (rt x0) (ri 0)), (rt x1)]) c0) (ri 0))) (raR (rs "domain") (bopR .Add (rs "a series has to begin with ") none)) (rt .none))
theorem need_begin_eq (c0 : TF) (x0 x1 : D) : runFn (cxT aJ [(nm "rcompare", c0)]) 2000 40 (fnO (nm "need_begin")) [x0, x1] = need_begin_R c0 x0 x1 :=
 (aV (vs := [im "a" x0, im "number" x1]) (by kernel_rfl)).trans (by kernel_rfl)
noncomputable abbrev f37_s (c : Nat → TF) (n : Nat) : Stmt → Vars → KR → MR D := exSK (cxT aJ [(nm "need_begin", (c 0)), (nm "radd", (c 1)), (nm "rmul", (c 2)), (nm "let", (c 3)), (nm "rdiv", (c 4))]) 2000 (fnO (nm "sexp")).names n
noncomputable def f37_p2 : List Stmt := (fnO (nm "sexp")).body
noncomputable def f37_p3 : List Stmt := (bV (sAt f37_p2 2))
noncomputable def f37_b4 (c : Nat → TF) (x0 : D) (x1 : List D) (x2 x3 x4 : D) (k : D × D → MR D) : MR D :=
 (bnd (bnd (mR [(rt x3), (bnd (mR [(bnd (mR [(tupR [(rt x4), (ri 1)]), (subR (rt x0) (rt x4))]) (c 2)), (subR (rt (.list x1)) (bopR .Sub (rt x2) (rt x4)))]) (c 2))]) (c 1)) fun v1 => (k (v1, x4)))
noncomputable def f37_u5 (c : Nat → TF) (x0 : D) (x1 : List D) (x2 x3 : D) (K0 : MR D) (K : D × D → MR D) : MR D :=
 forR (rngR [(ri 1), (bopR .Add (rt x2) (ri 1))]) (fun d k => (f37_b4 c x0 x1 x2 x3 d k)) (fun t d k => (f37_b4 c x0 x1 x2 t.1 d k)) K0 K
noncomputable def f37_b6 (c : Nat → TF) (x0 : D) (x1 : List D) (x2 x3 : D) (o : Option (D)) (k : (List D × D × D) × Option (D) → MR D) : MR D :=
 (apR x1 (ifR (cmpR .Eq (rt x2) (ri 0)) (rt gR1) (bnd (mR [(bnd (mR [(rt x3), (tupR [(rt x2), (ri 1)])]) (c 4))]) (c 3))) fun v1 => (k (((x1 ++ [v1]), x2, x3), o)))
noncomputable def f37_b7c (c : Nat → TF) (x0 : D) (x1 : List D) (x2 x3 : D) (o : Option (D)) (k : (List D × D × D) × Option (D) → MR D) (L0 : D → List D → D → D → Option (D) → MR D) : MR D :=
 (bnd (rt gR0) fun v1 => (L0 x0 x1 x2 v1 o))
noncomputable def f37_b7 (c : Nat → TF) (x0 : D) (x1 : List D) (x2 x3 : D) (o : Option (D)) (k : (List D × D × D) × Option (D) → MR D) : MR D :=
 f37_b7c c x0 x1 x2 x3 o k (fun y0 y1 y2 y3 o => (f37_u5 c y0 y1 y2 y3 (f37_b6 c y0 y1 y2 y3 o k) fun t => (f37_b6 c y0 y1 y2 t.1 (some t.2) k)))
noncomputable def f37_u8 (c : Nat → TF) (x0 : D) (x1 : List D) (K0 : MR D) (K : (List D × D × D) × Option (D) → MR D) : MR D :=
 forR (rngR [(lenR (rt x0))]) (fun d k => (f37_b7 c x0 x1 d .none none k)) (fun t d k => (f37_b7 c x0 t.1.1 d t.1.2.2 t.2 k)) K0 K
noncomputable def f37_b9 (c : Nat → TF) (x0 : D) (x1 : List D) (x2 x3 : D) : MR D :=
 (rt (.list x1))
noncomputable def f37_b10c (c : Nat → TF) (x0 : D) (L0 : D → List D → MR D) : MR D :=
 (cnR (bnd (mR [(rt x0), (rt gR0)]) (c 0)) (L0 x0 []))
noncomputable def f37_b10 (c : Nat → TF) (x0 : D) : MR D :=
 f37_b10c c x0 (fun y0 y1 => (f37_u8 c y0 y1 (f37_b9 c y0 y1 .none .none) fun t => (f37_b9 c y0 t.1.1 t.1.2.1 t.1.2.2)))
noncomputable def f37_w12 (x0 : D) (x1 : List D) : Vars := [im "a" x0, ow "found" (.list x1)]
noncomputable def f37_w14 (x0 : D) (x1 : List D) (x2 x3 : D) : Vars := [im "a" x0, ow "found" (.list x1), im "at" x2, im "total" x3]
noncomputable def f37_v13 (x0 : D) (t : (List D × D × D) × Option (D)) : Vars := (optV (f37_w14 x0 t.1.1 t.1.2.1 t.1.2.2) (fun u : D => [im "spot" u]) t.2)
noncomputable def f37_w16 (x0 : D) (x1 : List D) (x2 x3 x4 : D) : Vars := [im "a" x0, ow "found" (.list x1), im "at" x2, im "total" x3, im "spot" x4]
noncomputable def f37_v18 (x0 : D) (x1 : List D) (x2 : D) (t : D × D) : Vars := (f37_w16 x0 x1 x2 t.1 t.2)
theorem f37_e17 (c : Nat → TF) (x0 : D) (x1 : List D) (x2 x3 x4 : D) (κ : KR) : f37_s c 39 (sAt f37_p3 1) (f37_w16 x0 x1 x2 x3 x4) κ = f37_u5 c x0 x1 x2 x3 (κ (f37_w16 x0 x1 x2 x3 x4)) (fun t => κ (f37_v18 x0 x1 x2 t)) :=
 for_at (sAt f37_p3 1) (nm "spot") κ (by kernel_rfl) (fun d _ => by kernel_rfl) (fun t d _ => by kernel_rfl)
theorem f37_e19 (c : Nat → TF) (x0 : D) (x1 : List D) (x2 x3 x4 : D) (κ : KR) : seqK (f37_s c 39) (f37_p3.drop 2) (f37_w16 x0 x1 x2 x3 x4) κ = (f37_b6 c x0 x1 x2 x3 (some x4) (fun t => κ (f37_v13 x0 t))) := by kernel_rfl
theorem f37_e15 (c : Nat → TF) (x0 : D) (x1 : List D) (x2 x3 x4 : D) (κ : KR) : seqK (f37_s c 39) f37_p3 (f37_w16 x0 x1 x2 x3 x4) κ = (f37_b7 c x0 x1 x2 x3 (some x4) (fun t => κ (f37_v13 x0 t))) :=
 have h := congrArg (f37_b7c c x0 x1 x2 x3 (some x4) (fun t => κ (f37_v13 x0 t))) (fx5 fun y0 y1 y2 y3 o => (f37_e17 c y0 y1 y2 y3 x4 (fun vs => seqK (f37_s c 39) (f37_p3.drop 2) vs κ)).trans (congr (congrArg (f37_u5 c y0 y1 y2 y3) (f37_e19 c y0 y1 y2 y3 x4 κ)) (funext fun t => f37_e19 c y0 y1 y2 t.1 t.2 κ)))
 Eq.trans (by kernel_rfl) h
theorem f37_e21 (c : Nat → TF) (x0 : D) (x1 : List D) (x2 x3 : D) (κ : KR) : f37_s c 39 (sAt f37_p3 1) (f37_w14 x0 x1 x2 x3) κ = f37_u5 c x0 x1 x2 x3 (κ (f37_w14 x0 x1 x2 x3)) (fun t => κ (f37_v18 x0 x1 x2 t)) :=
 for_at (sAt f37_p3 1) (nm "spot") κ (by kernel_rfl) (fun d _ => by kernel_rfl) (fun t d _ => by kernel_rfl)
theorem f37_e22 (c : Nat → TF) (x0 : D) (x1 : List D) (x2 x3 : D) (κ : KR) : seqK (f37_s c 39) (f37_p3.drop 2) (f37_w14 x0 x1 x2 x3) κ = (f37_b6 c x0 x1 x2 x3 none (fun t => κ (f37_v13 x0 t))) := by kernel_rfl
theorem f37_e20 (c : Nat → TF) (x0 : D) (x1 : List D) (x2 x3 : D) (κ : KR) : seqK (f37_s c 39) f37_p3 (f37_w14 x0 x1 x2 x3) κ = (f37_b7 c x0 x1 x2 x3 none (fun t => κ (f37_v13 x0 t))) :=
 have h := congrArg (f37_b7c c x0 x1 x2 x3 none (fun t => κ (f37_v13 x0 t))) (fx5 fun y0 y1 y2 y3 o => (f37_e21 c y0 y1 y2 y3 (fun vs => seqK (f37_s c 39) (f37_p3.drop 2) vs κ)).trans (congr (congrArg (f37_u5 c y0 y1 y2 y3) (f37_e22 c y0 y1 y2 y3 κ)) (funext fun t => f37_e19 c y0 y1 y2 t.1 t.2 κ)))
 Eq.trans (by kernel_rfl) h
theorem f37_e23 (c : Nat → TF) (x0 : D) (x1 : List D) (x2 : D) (κ : KR) : seqK (f37_s c 39) f37_p3 [im "a" x0, ow "found" (.list x1), im "at" x2] κ = (f37_b7 c x0 x1 x2 .none none (fun t => κ (f37_v13 x0 t))) :=
 have h := congrArg (f37_b7c c x0 x1 x2 .none none (fun t => κ (f37_v13 x0 t))) (fx5 fun y0 y1 y2 y3 o => (f37_e21 c y0 y1 y2 y3 (fun vs => seqK (f37_s c 39) (f37_p3.drop 2) vs κ)).trans (congr (congrArg (f37_u5 c y0 y1 y2 y3) (f37_e22 c y0 y1 y2 y3 κ)) (funext fun t => f37_e19 c y0 y1 y2 t.1 t.2 κ)))
 Eq.trans (by kernel_rfl) h
theorem f37_e11 (c : Nat → TF) (x0 : D) (x1 : List D) (κ : KR) : f37_s c 40 (sAt f37_p2 2) (f37_w12 x0 x1) κ = f37_u8 c x0 x1 (κ (f37_w12 x0 x1)) (fun t => κ (f37_v13 x0 t)) :=
 for_at (sAt f37_p2 2) (nm "at") κ (by kernel_rfl) (fun d κ => f37_e23 c x0 x1 d κ) (fun t d κ => match t with | (s, none) => f37_e20 c x0 s.1 d s.2.2 κ | (s, some u) => f37_e15 c x0 s.1 d s.2.2 u κ)
theorem f37_e25 (c : Nat → TF) (x0 : D) (x1 : List D) (x2 x3 x4 : D) : seqK (f37_s c 40) (f37_p2.drop 3) (f37_w16 x0 x1 x2 x3 x4) kEnd = (f37_b9 c x0 x1 x2 x3) := by kernel_rfl
theorem f37_e26 (c : Nat → TF) (x0 : D) (x1 : List D) (x2 x3 : D) : seqK (f37_s c 40) (f37_p2.drop 3) (f37_w14 x0 x1 x2 x3) kEnd = (f37_b9 c x0 x1 x2 x3) := by kernel_rfl
theorem f37_e24 (c : Nat → TF) (x0 : D) (x1 : List D) (x2 x3 : D) (xo : Option (D)) : seqK (f37_s c 40) (f37_p2.drop 3) (optV (f37_w14 x0 x1 x2 x3) (fun u : D => [im "spot" u]) xo) kEnd = (f37_b9 c x0 x1 x2 x3) := by
 cases xo with
 | none => exact f37_e26 c x0 x1 x2 x3
 | some u => exact f37_e25 c x0 x1 x2 x3 u
theorem f37_e27 (c : Nat → TF) (x0 : D) (x1 : List D) : seqK (f37_s c 40) (f37_p2.drop 3) (f37_w12 x0 x1) kEnd = (f37_b9 c x0 x1 .none .none) := by kernel_rfl
theorem f37_e1 (c : Nat → TF) (x0 : D) : seqK (f37_s c 40) f37_p2 [im "a" x0] kEnd = (f37_b10 c x0) :=
 have h := congrArg (f37_b10c c x0) (fx2 fun y0 y1 => (f37_e11 c y0 y1 (fun vs => seqK (f37_s c 40) (f37_p2.drop 3) vs kEnd)).trans (congr (congrArg (f37_u8 c y0 y1) (f37_e27 c y0 y1)) (funext fun t => f37_e24 c y0 t.1.1 t.1.2.1 t.1.2.2 t.2)))
 Eq.trans (by kernel_rfl) h
noncomputable abbrev sexp_R (c0 c1 c2 c3 c4 : TF) (x0 : D) : MR D := f37_b10 (cs [c0, c1, c2, c3, c4]) x0
theorem sexp_eq (c0 c1 c2 c3 c4 : TF) (x0 : D) : runFn (cxT aJ [(nm "need_begin", c0), (nm "radd", c1), (nm "rmul", c2), (nm "let", c3), (nm "rdiv", c4)]) 2000 40 (fnO (nm "sexp")) [x0] = sexp_R c0 c1 c2 c3 c4 x0 :=
 (aV (vs := [im "a" x0]) (by kernel_rfl)).trans (f37_e1 (cs [c0, c1, c2, c3, c4]) x0)
noncomputable def slog_R (c0 c1 c2 c3 c4 : TF) (x0 : D) : MR D :=
 (cnR (bnd (mR [(rt x0), (rt gR1)]) c0) (ifR (cmpR .Eq (lenR (rt x0)) (ri 0)) (lstR []) (bnd (mR [(bnd (mR [(bnd (mR [(rt x0)]) c3), (bnd (mR [(rt x0)]) c4)]) c2)]) c1)))
theorem slog_eq (c0 c1 c2 c3 c4 : TF) (x0 : D) : runFn (cxT aJ [(nm "need_begin", c0), (nm "sintegrate", c1), (nm "smul", c2), (nm "sderive", c3), (nm "sinverse", c4)]) 2000 40 (fnO (nm "slog")) [x0] = slog_R c0 c1 c2 c3 c4 x0 :=
 (aV (vs := [im "a" x0]) (by kernel_rfl)).trans (by kernel_rfl)
noncomputable abbrev f39_s (c : Nat → TF) (n : Nat) : Stmt → Vars → KR → MR D := exSK (cxT aJ [(nm "need_begin", (c 0)), (nm "rmul", (c 1)), (nm "radd", (c 2)), (nm "rsub", (c 3)), (nm "let", (c 4)), (nm "rdiv", (c 5))]) 2000 (fnO (nm "ssin_cos")).names n
noncomputable def f39_p2 : List Stmt := (fnO (nm "ssin_cos")).body
noncomputable def f39_p3 : List Stmt := (bV (sAt f39_p2 2))
noncomputable def f39_b4 (c : Nat → TF) (x0 : D) (x1 x2 : List D) (x3 x4 x5 x6 x7 : D) (k : D × D × D × D → MR D) : MR D :=
 (bnd (bnd (mR [(tupR [(rt x6), (ri 1)]), (subR (rt x0) (rt x6))]) (c 1)) fun v1 => (bnd (bnd (mR [(rt x4), (bnd (mR [(rt v1), (subR (rt (.list x2)) (bopR .Sub (rt x3) (rt x6)))]) (c 1))]) (c 2)) fun v2 => (bnd (bnd (mR [(rt x5), (bnd (mR [(rt v1), (subR (rt (.list x1)) (bopR .Sub (rt x3) (rt x6)))]) (c 1))]) (c 3)) fun v3 => (k (v2, v3, x6, v1)))))
noncomputable def f39_u5 (c : Nat → TF) (x0 : D) (x1 x2 : List D) (x3 x4 x5 : D) (K0 : MR D) (K : D × D × D × D → MR D) : MR D :=
 forR (rngR [(ri 1), (bopR .Add (rt x3) (ri 1))]) (fun d k => (f39_b4 c x0 x1 x2 x3 x4 x5 d .none k)) (fun t d k => (f39_b4 c x0 x1 x2 x3 t.1 t.2.1 d t.2.2.2 k)) K0 K
noncomputable def f39_b6 (c : Nat → TF) (x0 : D) (x1 x2 : List D) (x3 x4 x5 : D) (o : Option (D × D)) (k : (List D × List D × D × D × D) × Option (D × D) → MR D) : MR D :=
 (apR x1 (ifR (cmpR .Eq (rt x3) (ri 0)) (rt gR0) (bnd (mR [(bnd (mR [(rt x4), (tupR [(rt x3), (ri 1)])]) (c 5))]) (c 4))) fun v1 => (apR x2 (ifR (cmpR .Eq (rt x3) (ri 0)) (rt gR1) (bnd (mR [(bnd (mR [(rt x5), (tupR [(rt x3), (ri 1)])]) (c 5))]) (c 4))) fun v2 => (k (((x1 ++ [v1]), (x2 ++ [v2]), x3, x4, x5), o))))
noncomputable def f39_b7c (c : Nat → TF) (x0 : D) (x1 x2 : List D) (x3 x4 x5 : D) (o : Option (D × D)) (k : (List D × List D × D × D × D) × Option (D × D) → MR D) (L0 : D → List D → List D → D → D → D → Option (D × D) → MR D) : MR D :=
 (bnd (tupR [(rt gR0), (rt gR0)]) fun v1 => unT v1 fun l2 => (unC l2 fun v3 l4 => (unC l4 fun v5 l6 => (unE l6 (L0 x0 x1 x2 x3 v3 v5 o)))))
noncomputable def f39_b7 (c : Nat → TF) (x0 : D) (x1 x2 : List D) (x3 x4 x5 : D) (o : Option (D × D)) (k : (List D × List D × D × D × D) × Option (D × D) → MR D) : MR D :=
 f39_b7c c x0 x1 x2 x3 x4 x5 o k (fun y0 y1 y2 y3 y4 y5 o => (f39_u5 c y0 y1 y2 y3 y4 y5 (f39_b6 c y0 y1 y2 y3 y4 y5 o k) fun t => (f39_b6 c y0 y1 y2 y3 t.1 t.2.1 (some (t.2.2.1, t.2.2.2)) k)))
noncomputable def f39_u8 (c : Nat → TF) (x0 : D) (x1 x2 : List D) (K0 : MR D) (K : (List D × List D × D × D × D) × Option (D × D) → MR D) : MR D :=
 forR (rngR [(lenR (rt x0))]) (fun d k => (f39_b7 c x0 x1 x2 d .none .none none k)) (fun t d k => (f39_b7 c x0 t.1.1 t.1.2.1 d t.1.2.2.2.1 t.1.2.2.2.2 t.2 k)) K0 K
noncomputable def f39_b9 (c : Nat → TF) (x0 : D) (x1 x2 : List D) (x3 x4 x5 : D) : MR D :=
 (tupR [(rt (.list x1)), (rt (.list x2))])
noncomputable def f39_b10c (c : Nat → TF) (x0 : D) (L0 : D → List D → List D → MR D) : MR D :=
 (cnR (bnd (mR [(rt x0), (rt gR0)]) (c 0)) (L0 x0 [] []))
noncomputable def f39_b10 (c : Nat → TF) (x0 : D) : MR D :=
 f39_b10c c x0 (fun y0 y1 y2 => (f39_u8 c y0 y1 y2 (f39_b9 c y0 y1 y2 .none .none .none) fun t => (f39_b9 c y0 t.1.1 t.1.2.1 t.1.2.2.1 t.1.2.2.2.1 t.1.2.2.2.2)))
noncomputable def f39_w12 (x0 : D) (x1 x2 : List D) : Vars := [im "a" x0, ow "sines" (.list x1), ow "others" (.list x2)]
noncomputable def f39_w14 (x0 : D) (x1 x2 : List D) (x3 x4 x5 : D) : Vars := [im "a" x0, ow "sines" (.list x1), ow "others" (.list x2), im "at" x3, im "one" x4, im "other" x5]
noncomputable def f39_v13 (x0 : D) (t : (List D × List D × D × D × D) × Option (D × D)) : Vars := (optV (f39_w14 x0 t.1.1 t.1.2.1 t.1.2.2.1 t.1.2.2.2.1 t.1.2.2.2.2) (fun u : D × D => [im "spot" u.1, im "moved" u.2]) t.2)
noncomputable def f39_w16 (x0 : D) (x1 x2 : List D) (x3 x4 x5 x6 x7 : D) : Vars := [im "a" x0, ow "sines" (.list x1), ow "others" (.list x2), im "at" x3, im "one" x4, im "other" x5, im "spot" x6, im "moved" x7]
noncomputable def f39_v18 (x0 : D) (x1 x2 : List D) (x3 : D) (t : D × D × D × D) : Vars := (f39_w16 x0 x1 x2 x3 t.1 t.2.1 t.2.2.1 t.2.2.2)
theorem f39_e17 (c : Nat → TF) (x0 : D) (x1 x2 : List D) (x3 x4 x5 x6 x7 : D) (κ : KR) : f39_s c 39 (sAt f39_p3 1) (f39_w16 x0 x1 x2 x3 x4 x5 x6 x7) κ = f39_u5 c x0 x1 x2 x3 x4 x5 (κ (f39_w16 x0 x1 x2 x3 x4 x5 x6 x7)) (fun t => κ (f39_v18 x0 x1 x2 x3 t)) :=
 for_at (sAt f39_p3 1) (nm "spot") κ (by kernel_rfl) (fun d _ => by kernel_rfl) (fun t d _ => by kernel_rfl)
theorem f39_e19 (c : Nat → TF) (x0 : D) (x1 x2 : List D) (x3 x4 x5 x6 x7 : D) (κ : KR) : seqK (f39_s c 39) (f39_p3.drop 2) (f39_w16 x0 x1 x2 x3 x4 x5 x6 x7) κ = (f39_b6 c x0 x1 x2 x3 x4 x5 (some (x6, x7)) (fun t => κ (f39_v13 x0 t))) := by kernel_rfl
theorem f39_e15 (c : Nat → TF) (x0 : D) (x1 x2 : List D) (x3 x4 x5 x6 x7 : D) (κ : KR) : seqK (f39_s c 39) f39_p3 (f39_w16 x0 x1 x2 x3 x4 x5 x6 x7) κ = (f39_b7 c x0 x1 x2 x3 x4 x5 (some (x6, x7)) (fun t => κ (f39_v13 x0 t))) :=
 have h := congrArg (f39_b7c c x0 x1 x2 x3 x4 x5 (some (x6, x7)) (fun t => κ (f39_v13 x0 t))) (fx7 fun y0 y1 y2 y3 y4 y5 o => (f39_e17 c y0 y1 y2 y3 y4 y5 x6 x7 (fun vs => seqK (f39_s c 39) (f39_p3.drop 2) vs κ)).trans (congr (congrArg (f39_u5 c y0 y1 y2 y3 y4 y5) (f39_e19 c y0 y1 y2 y3 y4 y5 x6 x7 κ)) (funext fun t => f39_e19 c y0 y1 y2 y3 t.1 t.2.1 t.2.2.1 t.2.2.2 κ)))
 Eq.trans (by kernel_rfl) h
theorem f39_e21 (c : Nat → TF) (x0 : D) (x1 x2 : List D) (x3 x4 x5 : D) (κ : KR) : f39_s c 39 (sAt f39_p3 1) (f39_w14 x0 x1 x2 x3 x4 x5) κ = f39_u5 c x0 x1 x2 x3 x4 x5 (κ (f39_w14 x0 x1 x2 x3 x4 x5)) (fun t => κ (f39_v18 x0 x1 x2 x3 t)) :=
 for_at (sAt f39_p3 1) (nm "spot") κ (by kernel_rfl) (fun d _ => by kernel_rfl) (fun t d _ => by kernel_rfl)
theorem f39_e22 (c : Nat → TF) (x0 : D) (x1 x2 : List D) (x3 x4 x5 : D) (κ : KR) : seqK (f39_s c 39) (f39_p3.drop 2) (f39_w14 x0 x1 x2 x3 x4 x5) κ = (f39_b6 c x0 x1 x2 x3 x4 x5 none (fun t => κ (f39_v13 x0 t))) := by kernel_rfl
theorem f39_e20 (c : Nat → TF) (x0 : D) (x1 x2 : List D) (x3 x4 x5 : D) (κ : KR) : seqK (f39_s c 39) f39_p3 (f39_w14 x0 x1 x2 x3 x4 x5) κ = (f39_b7 c x0 x1 x2 x3 x4 x5 none (fun t => κ (f39_v13 x0 t))) :=
 have h := congrArg (f39_b7c c x0 x1 x2 x3 x4 x5 none (fun t => κ (f39_v13 x0 t))) (fx7 fun y0 y1 y2 y3 y4 y5 o => (f39_e21 c y0 y1 y2 y3 y4 y5 (fun vs => seqK (f39_s c 39) (f39_p3.drop 2) vs κ)).trans (congr (congrArg (f39_u5 c y0 y1 y2 y3 y4 y5) (f39_e22 c y0 y1 y2 y3 y4 y5 κ)) (funext fun t => f39_e19 c y0 y1 y2 y3 t.1 t.2.1 t.2.2.1 t.2.2.2 κ)))
 Eq.trans (by kernel_rfl) h
theorem f39_e23 (c : Nat → TF) (x0 : D) (x1 x2 : List D) (x3 : D) (κ : KR) : seqK (f39_s c 39) f39_p3 [im "a" x0, ow "sines" (.list x1), ow "others" (.list x2), im "at" x3] κ = (f39_b7 c x0 x1 x2 x3 .none .none none (fun t => κ (f39_v13 x0 t))) :=
 have h := congrArg (f39_b7c c x0 x1 x2 x3 .none .none none (fun t => κ (f39_v13 x0 t))) (fx7 fun y0 y1 y2 y3 y4 y5 o => (f39_e21 c y0 y1 y2 y3 y4 y5 (fun vs => seqK (f39_s c 39) (f39_p3.drop 2) vs κ)).trans (congr (congrArg (f39_u5 c y0 y1 y2 y3 y4 y5) (f39_e22 c y0 y1 y2 y3 y4 y5 κ)) (funext fun t => f39_e19 c y0 y1 y2 y3 t.1 t.2.1 t.2.2.1 t.2.2.2 κ)))
 Eq.trans (by kernel_rfl) h
theorem f39_e11 (c : Nat → TF) (x0 : D) (x1 x2 : List D) (κ : KR) : f39_s c 40 (sAt f39_p2 2) (f39_w12 x0 x1 x2) κ = f39_u8 c x0 x1 x2 (κ (f39_w12 x0 x1 x2)) (fun t => κ (f39_v13 x0 t)) :=
 for_at (sAt f39_p2 2) (nm "at") κ (by kernel_rfl) (fun d κ => f39_e23 c x0 x1 x2 d κ) (fun t d κ => match t with | (s, none) => f39_e20 c x0 s.1 s.2.1 d s.2.2.2.1 s.2.2.2.2 κ | (s, some u) => f39_e15 c x0 s.1 s.2.1 d s.2.2.2.1 s.2.2.2.2 u.1 u.2 κ)
theorem f39_e25 (c : Nat → TF) (x0 : D) (x1 x2 : List D) (x3 x4 x5 x6 x7 : D) : seqK (f39_s c 40) (f39_p2.drop 3) (f39_w16 x0 x1 x2 x3 x4 x5 x6 x7) kEnd = (f39_b9 c x0 x1 x2 x3 x4 x5) := by kernel_rfl
theorem f39_e26 (c : Nat → TF) (x0 : D) (x1 x2 : List D) (x3 x4 x5 : D) : seqK (f39_s c 40) (f39_p2.drop 3) (f39_w14 x0 x1 x2 x3 x4 x5) kEnd = (f39_b9 c x0 x1 x2 x3 x4 x5) := by kernel_rfl
theorem f39_e24 (c : Nat → TF) (x0 : D) (x1 x2 : List D) (x3 x4 x5 : D) (xo : Option (D × D)) : seqK (f39_s c 40) (f39_p2.drop 3) (optV (f39_w14 x0 x1 x2 x3 x4 x5) (fun u : D × D => [im "spot" u.1, im "moved" u.2]) xo) kEnd = (f39_b9 c x0 x1 x2 x3 x4 x5) := by
 cases xo with
 | none => exact f39_e26 c x0 x1 x2 x3 x4 x5
 | some u => exact f39_e25 c x0 x1 x2 x3 x4 x5 u.1 u.2
theorem f39_e27 (c : Nat → TF) (x0 : D) (x1 x2 : List D) : seqK (f39_s c 40) (f39_p2.drop 3) (f39_w12 x0 x1 x2) kEnd = (f39_b9 c x0 x1 x2 .none .none .none) := by kernel_rfl
theorem f39_e1 (c : Nat → TF) (x0 : D) : seqK (f39_s c 40) f39_p2 [im "a" x0] kEnd = (f39_b10 c x0) :=
 have h := congrArg (f39_b10c c x0) (fx3 fun y0 y1 y2 => (f39_e11 c y0 y1 y2 (fun vs => seqK (f39_s c 40) (f39_p2.drop 3) vs kEnd)).trans (congr (congrArg (f39_u8 c y0 y1 y2) (f39_e27 c y0 y1 y2)) (funext fun t => f39_e24 c y0 t.1.1 t.1.2.1 t.1.2.2.1 t.1.2.2.2.1 t.1.2.2.2.2 t.2)))
 Eq.trans (by kernel_rfl) h
noncomputable abbrev ssin_cos_R (c0 c1 c2 c3 c4 c5 : TF) (x0 : D) : MR D := f39_b10 (cs [c0, c1, c2, c3, c4, c5]) x0
theorem ssin_cos_eq (c0 c1 c2 c3 c4 c5 : TF) (x0 : D) : runFn (cxT aJ [(nm "need_begin", c0), (nm "rmul", c1), (nm "radd", c2), (nm "rsub", c3), (nm "let", c4), (nm "rdiv", c5)]) 2000 40 (fnO (nm "ssin_cos")) [x0] = ssin_cos_R c0 c1 c2 c3 c4 c5 x0 :=
 (aV (vs := [im "a" x0]) (by kernel_rfl)).trans (f39_e1 (cs [c0, c1, c2, c3, c4, c5]) x0)
noncomputable def ssin_R (c0 : TF) (x0 : D) : MR D :=
 (subR (bnd (mR [(rt x0)]) c0) (ri 0))
theorem ssin_eq (c0 : TF) (x0 : D) : runFn (cxT aJ [(nm "ssin_cos", c0)]) 2000 40 (fnO (nm "ssin")) [x0] = ssin_R c0 x0 :=
 (aV (vs := [im "a" x0]) (by kernel_rfl)).trans (by kernel_rfl)
noncomputable abbrev f43_s (c : Nat → TF) (n : Nat) : Stmt → Vars → KR → MR D := exSK (cxT aJ [(nm "need_begin", (c 0)), (nm "rsub", (c 1)), (nm "radd", (c 2)), (nm "rmul", (c 3)), (nm "let", (c 4)), (nm "rdiv", (c 5))]) 2000 (fnO (nm "spower")).names n
noncomputable def f43_p2 : List Stmt := (fnO (nm "spower")).body
noncomputable def f43_p3 : List Stmt := (bV (sAt f43_p2 2))
noncomputable def f43_b4 (c : Nat → TF) (x0 x1 : D) (x2 : List D) (x3 x4 x5 x6 : D) (k : D × D × D → MR D) : MR D :=
 (bnd (bnd (mR [(bnd (mR [(rt x1), (tupR [(rt x5), (ri 1)])]) (c 3)), (tupR [(bopR .Sub (rt x3) (rt x5)), (ri 1)])]) (c 1)) fun v1 => (bnd (bnd (mR [(rt x4), (bnd (mR [(bnd (mR [(rt v1), (subR (rt x0) (rt x5))]) (c 3)), (subR (rt (.list x2)) (bopR .Sub (rt x3) (rt x5)))]) (c 3))]) (c 2)) fun v2 => (k (v2, x5, v1))))
noncomputable def f43_u5 (c : Nat → TF) (x0 x1 : D) (x2 : List D) (x3 x4 : D) (K0 : MR D) (K : D × D × D → MR D) : MR D :=
 forR (rngR [(ri 1), (bopR .Add (rt x3) (ri 1))]) (fun d k => (f43_b4 c x0 x1 x2 x3 x4 d .none k)) (fun t d k => (f43_b4 c x0 x1 x2 x3 t.1 d t.2.2 k)) K0 K
noncomputable def f43_b6 (c : Nat → TF) (x0 x1 : D) (x2 : List D) (x3 x4 : D) (o : Option (D × D)) (k : (List D × D × D) × Option (D × D) → MR D) : MR D :=
 (apR x2 (ifR (cmpR .Eq (rt x3) (ri 0)) (rt gR1) (bnd (mR [(bnd (mR [(rt x4), (tupR [(rt x3), (ri 1)])]) (c 5))]) (c 4))) fun v1 => (k (((x2 ++ [v1]), x3, x4), o)))
noncomputable def f43_b7c (c : Nat → TF) (x0 x1 : D) (x2 : List D) (x3 x4 : D) (o : Option (D × D)) (k : (List D × D × D) × Option (D × D) → MR D) (L0 : D → D → List D → D → D → Option (D × D) → MR D) : MR D :=
 (bnd (rt gR0) fun v1 => (L0 x0 x1 x2 x3 v1 o))
noncomputable def f43_b7 (c : Nat → TF) (x0 x1 : D) (x2 : List D) (x3 x4 : D) (o : Option (D × D)) (k : (List D × D × D) × Option (D × D) → MR D) : MR D :=
 f43_b7c c x0 x1 x2 x3 x4 o k (fun y0 y1 y2 y3 y4 o => (f43_u5 c y0 y1 y2 y3 y4 (f43_b6 c y0 y1 y2 y3 y4 o k) fun t => (f43_b6 c y0 y1 y2 y3 t.1 (some (t.2.1, t.2.2)) k)))
noncomputable def f43_u8 (c : Nat → TF) (x0 x1 : D) (x2 : List D) (K0 : MR D) (K : (List D × D × D) × Option (D × D) → MR D) : MR D :=
 forR (rngR [(lenR (rt x0))]) (fun d k => (f43_b7 c x0 x1 x2 d .none none k)) (fun t d k => (f43_b7 c x0 x1 t.1.1 d t.1.2.2 t.2 k)) K0 K
noncomputable def f43_b9 (c : Nat → TF) (x0 x1 : D) (x2 : List D) (x3 x4 : D) : MR D :=
 (rt (.list x2))
noncomputable def f43_b10c (c : Nat → TF) (x0 x1 : D) (L0 : D → D → List D → MR D) : MR D :=
 (cnR (bnd (mR [(rt x0), (rt gR1)]) (c 0)) (L0 x0 x1 []))
noncomputable def f43_b10 (c : Nat → TF) (x0 x1 : D) : MR D :=
 f43_b10c c x0 x1 (fun y0 y1 y2 => (f43_u8 c y0 y1 y2 (f43_b9 c y0 y1 y2 .none .none) fun t => (f43_b9 c y0 y1 t.1.1 t.1.2.1 t.1.2.2)))
noncomputable def f43_w12 (x0 x1 : D) (x2 : List D) : Vars := [im "a" x0, im "number" x1, ow "found" (.list x2)]
noncomputable def f43_w14 (x0 x1 : D) (x2 : List D) (x3 x4 : D) : Vars := [im "a" x0, im "number" x1, ow "found" (.list x2), im "at" x3, im "total" x4]
noncomputable def f43_v13 (x0 x1 : D) (t : (List D × D × D) × Option (D × D)) : Vars := (optV (f43_w14 x0 x1 t.1.1 t.1.2.1 t.1.2.2) (fun u : D × D => [im "spot" u.1, im "times" u.2]) t.2)
noncomputable def f43_w16 (x0 x1 : D) (x2 : List D) (x3 x4 x5 x6 : D) : Vars := [im "a" x0, im "number" x1, ow "found" (.list x2), im "at" x3, im "total" x4, im "spot" x5, im "times" x6]
noncomputable def f43_v18 (x0 x1 : D) (x2 : List D) (x3 : D) (t : D × D × D) : Vars := (f43_w16 x0 x1 x2 x3 t.1 t.2.1 t.2.2)
theorem f43_e17 (c : Nat → TF) (x0 x1 : D) (x2 : List D) (x3 x4 x5 x6 : D) (κ : KR) : f43_s c 39 (sAt f43_p3 1) (f43_w16 x0 x1 x2 x3 x4 x5 x6) κ = f43_u5 c x0 x1 x2 x3 x4 (κ (f43_w16 x0 x1 x2 x3 x4 x5 x6)) (fun t => κ (f43_v18 x0 x1 x2 x3 t)) :=
 for_at (sAt f43_p3 1) (nm "spot") κ (by kernel_rfl) (fun d _ => by kernel_rfl) (fun t d _ => by kernel_rfl)
theorem f43_e19 (c : Nat → TF) (x0 x1 : D) (x2 : List D) (x3 x4 x5 x6 : D) (κ : KR) : seqK (f43_s c 39) (f43_p3.drop 2) (f43_w16 x0 x1 x2 x3 x4 x5 x6) κ = (f43_b6 c x0 x1 x2 x3 x4 (some (x5, x6)) (fun t => κ (f43_v13 x0 x1 t))) := by kernel_rfl
theorem f43_e15 (c : Nat → TF) (x0 x1 : D) (x2 : List D) (x3 x4 x5 x6 : D) (κ : KR) : seqK (f43_s c 39) f43_p3 (f43_w16 x0 x1 x2 x3 x4 x5 x6) κ = (f43_b7 c x0 x1 x2 x3 x4 (some (x5, x6)) (fun t => κ (f43_v13 x0 x1 t))) :=
 have h := congrArg (f43_b7c c x0 x1 x2 x3 x4 (some (x5, x6)) (fun t => κ (f43_v13 x0 x1 t))) (fx6 fun y0 y1 y2 y3 y4 o => (f43_e17 c y0 y1 y2 y3 y4 x5 x6 (fun vs => seqK (f43_s c 39) (f43_p3.drop 2) vs κ)).trans (congr (congrArg (f43_u5 c y0 y1 y2 y3 y4) (f43_e19 c y0 y1 y2 y3 y4 x5 x6 κ)) (funext fun t => f43_e19 c y0 y1 y2 y3 t.1 t.2.1 t.2.2 κ)))
 Eq.trans (by kernel_rfl) h
theorem f43_e21 (c : Nat → TF) (x0 x1 : D) (x2 : List D) (x3 x4 : D) (κ : KR) : f43_s c 39 (sAt f43_p3 1) (f43_w14 x0 x1 x2 x3 x4) κ = f43_u5 c x0 x1 x2 x3 x4 (κ (f43_w14 x0 x1 x2 x3 x4)) (fun t => κ (f43_v18 x0 x1 x2 x3 t)) :=
 for_at (sAt f43_p3 1) (nm "spot") κ (by kernel_rfl) (fun d _ => by kernel_rfl) (fun t d _ => by kernel_rfl)
theorem f43_e22 (c : Nat → TF) (x0 x1 : D) (x2 : List D) (x3 x4 : D) (κ : KR) : seqK (f43_s c 39) (f43_p3.drop 2) (f43_w14 x0 x1 x2 x3 x4) κ = (f43_b6 c x0 x1 x2 x3 x4 none (fun t => κ (f43_v13 x0 x1 t))) := by kernel_rfl
theorem f43_e20 (c : Nat → TF) (x0 x1 : D) (x2 : List D) (x3 x4 : D) (κ : KR) : seqK (f43_s c 39) f43_p3 (f43_w14 x0 x1 x2 x3 x4) κ = (f43_b7 c x0 x1 x2 x3 x4 none (fun t => κ (f43_v13 x0 x1 t))) :=
 have h := congrArg (f43_b7c c x0 x1 x2 x3 x4 none (fun t => κ (f43_v13 x0 x1 t))) (fx6 fun y0 y1 y2 y3 y4 o => (f43_e21 c y0 y1 y2 y3 y4 (fun vs => seqK (f43_s c 39) (f43_p3.drop 2) vs κ)).trans (congr (congrArg (f43_u5 c y0 y1 y2 y3 y4) (f43_e22 c y0 y1 y2 y3 y4 κ)) (funext fun t => f43_e19 c y0 y1 y2 y3 t.1 t.2.1 t.2.2 κ)))
 Eq.trans (by kernel_rfl) h
theorem f43_e23 (c : Nat → TF) (x0 x1 : D) (x2 : List D) (x3 : D) (κ : KR) : seqK (f43_s c 39) f43_p3 [im "a" x0, im "number" x1, ow "found" (.list x2), im "at" x3] κ = (f43_b7 c x0 x1 x2 x3 .none none (fun t => κ (f43_v13 x0 x1 t))) :=
 have h := congrArg (f43_b7c c x0 x1 x2 x3 .none none (fun t => κ (f43_v13 x0 x1 t))) (fx6 fun y0 y1 y2 y3 y4 o => (f43_e21 c y0 y1 y2 y3 y4 (fun vs => seqK (f43_s c 39) (f43_p3.drop 2) vs κ)).trans (congr (congrArg (f43_u5 c y0 y1 y2 y3 y4) (f43_e22 c y0 y1 y2 y3 y4 κ)) (funext fun t => f43_e19 c y0 y1 y2 y3 t.1 t.2.1 t.2.2 κ)))
 Eq.trans (by kernel_rfl) h
theorem f43_e11 (c : Nat → TF) (x0 x1 : D) (x2 : List D) (κ : KR) : f43_s c 40 (sAt f43_p2 2) (f43_w12 x0 x1 x2) κ = f43_u8 c x0 x1 x2 (κ (f43_w12 x0 x1 x2)) (fun t => κ (f43_v13 x0 x1 t)) :=
 for_at (sAt f43_p2 2) (nm "at") κ (by kernel_rfl) (fun d κ => f43_e23 c x0 x1 x2 d κ) (fun t d κ => match t with | (s, none) => f43_e20 c x0 x1 s.1 d s.2.2 κ | (s, some u) => f43_e15 c x0 x1 s.1 d s.2.2 u.1 u.2 κ)
theorem f43_e25 (c : Nat → TF) (x0 x1 : D) (x2 : List D) (x3 x4 x5 x6 : D) : seqK (f43_s c 40) (f43_p2.drop 3) (f43_w16 x0 x1 x2 x3 x4 x5 x6) kEnd = (f43_b9 c x0 x1 x2 x3 x4) := by kernel_rfl
theorem f43_e26 (c : Nat → TF) (x0 x1 : D) (x2 : List D) (x3 x4 : D) : seqK (f43_s c 40) (f43_p2.drop 3) (f43_w14 x0 x1 x2 x3 x4) kEnd = (f43_b9 c x0 x1 x2 x3 x4) := by kernel_rfl
theorem f43_e24 (c : Nat → TF) (x0 x1 : D) (x2 : List D) (x3 x4 : D) (xo : Option (D × D)) : seqK (f43_s c 40) (f43_p2.drop 3) (optV (f43_w14 x0 x1 x2 x3 x4) (fun u : D × D => [im "spot" u.1, im "times" u.2]) xo) kEnd = (f43_b9 c x0 x1 x2 x3 x4) := by
 cases xo with
 | none => exact f43_e26 c x0 x1 x2 x3 x4
 | some u => exact f43_e25 c x0 x1 x2 x3 x4 u.1 u.2
theorem f43_e27 (c : Nat → TF) (x0 x1 : D) (x2 : List D) : seqK (f43_s c 40) (f43_p2.drop 3) (f43_w12 x0 x1 x2) kEnd = (f43_b9 c x0 x1 x2 .none .none) := by kernel_rfl
theorem f43_e1 (c : Nat → TF) (x0 x1 : D) : seqK (f43_s c 40) f43_p2 [im "a" x0, im "number" x1] kEnd = (f43_b10 c x0 x1) :=
 have h := congrArg (f43_b10c c x0 x1) (fx3 fun y0 y1 y2 => (f43_e11 c y0 y1 y2 (fun vs => seqK (f43_s c 40) (f43_p2.drop 3) vs kEnd)).trans (congr (congrArg (f43_u8 c y0 y1 y2) (f43_e27 c y0 y1 y2)) (funext fun t => f43_e24 c y0 y1 t.1.1 t.1.2.1 t.1.2.2 t.2)))
 Eq.trans (by kernel_rfl) h
noncomputable abbrev spower_R (c0 c1 c2 c3 c4 c5 : TF) (x0 x1 : D) : MR D := f43_b10 (cs [c0, c1, c2, c3, c4, c5]) x0 x1
theorem spower_eq (c0 c1 c2 c3 c4 c5 : TF) (x0 x1 : D) : runFn (cxT aJ [(nm "need_begin", c0), (nm "rsub", c1), (nm "radd", c2), (nm "rmul", c3), (nm "let", c4), (nm "rdiv", c5)]) 2000 40 (fnO (nm "spower")) [x0, x1] = spower_R c0 c1 c2 c3 c4 c5 x0 x1 :=
 (aV (vs := [im "a" x0, im "number" x1]) (by kernel_rfl)).trans (f43_e1 (cs [c0, c1, c2, c3, c4, c5]) x0 x1)
noncomputable abbrev f44_s (c : Nat → TF) (n : Nat) : Stmt → Vars → KR → MR D := exSK (cxT aJ [(nm "sinverse", (c 0)), (nm "cut", (c 1)), (nm "smul", (c 2))]) 2000 (fnO (nm "swhole_power")).names n
noncomputable def f44_p2 : List Stmt := (fnO (nm "swhole_power")).body
noncomputable def f44_b3 (c : Nat → TF) (x0 x1 x2 x3 x4 : D) (k : D × D × D → MR D) : MR D :=
 (ifR (cmpR .Eq (bopR .Mod (rt x4) (ri 2)) (ri 1)) (bnd (bnd (mR [(rt x3), (rt x2)]) (c 2)) fun v1 => (bnd (bopR .FloorDiv (rt x4) (ri 2)) fun v2 => (bnd (ifR (cmpR .Gt (rt v2) (ri 0)) (bnd (mR [(rt x2), (rt x2)]) (c 2)) (rt x2)) fun v3 => (k (v3, v1, v2))))) (bnd (bopR .FloorDiv (rt x4) (ri 2)) fun v4 => (bnd (ifR (cmpR .Gt (rt v4) (ri 0)) (bnd (mR [(rt x2), (rt x2)]) (c 2)) (rt x2)) fun v5 => (k (v5, x3, v4)))))
noncomputable def f44_u4 (c : Nat → TF) (x0 x1 x2 x3 x4 : D) (K : D × D × D → MR D) : MR D :=
 loopW (fun t => (cmpR .Gt (rt t.2.2) (ri 0))) (fun t k => (f44_b3 c x0 x1 t.1 t.2.1 t.2.2 k)) K 2000 (x2, x3, x4)
noncomputable def f44_b5 (c : Nat → TF) (x0 x1 x2 x3 x4 : D) : MR D :=
 (rt x3)
noncomputable def f44_b6c (c : Nat → TF) (x0 x1 : D) (L0 : D → D → D → D → D → MR D) : MR D :=
 (bnd (ifR (cmpR .Lt (rt x1) (ri 0)) (bnd (mR [(rt x0)]) (c 0)) (rt x0)) fun v1 => (bnd (tupR [(bnd (mR [(lstR [(rt gR1)]), (lenR (rt x0))]) (c 1)), (blR absB [(rt x1)])]) fun v2 => unT v2 fun l3 => (unC l3 fun v4 l5 => (unC l5 fun v6 l7 => (unE l7 (L0 x0 x1 v1 v4 v6))))))
noncomputable def f44_b6 (c : Nat → TF) (x0 x1 : D) : MR D :=
 f44_b6c c x0 x1 (fun y0 y1 y2 y3 y4 => (f44_u4 c y0 y1 y2 y3 y4 fun t => (f44_b5 c y0 y1 t.1 t.2.1 t.2.2)))
noncomputable def f44_w8 (x0 x1 x2 x3 x4 : D) : Vars := [im "a" x0, im "many" x1, im "base" x2, im "found" x3, im "left" x4]
noncomputable def f44_v9 (x0 x1 : D) (t : D × D × D) : Vars := (f44_w8 x0 x1 t.1 t.2.1 t.2.2)
theorem f44_e7 (c : Nat → TF) (x0 x1 x2 x3 x4 : D) (κ : KR) : f44_s c 40 (sAt f44_p2 2) (f44_w8 x0 x1 x2 x3 x4) κ = f44_u4 c x0 x1 x2 x3 x4 (fun t => κ (f44_v9 x0 x1 t)) :=
 while_at (sAt f44_p2 2) (f44_v9 x0 x1) κ (by kernel_rfl) (fun t => by kernel_rfl) (fun t _ => by kernel_rfl) (x2, x3, x4)
theorem f44_e10 (c : Nat → TF) (x0 x1 x2 x3 x4 : D) : seqK (f44_s c 40) (f44_p2.drop 3) (f44_w8 x0 x1 x2 x3 x4) kEnd = (f44_b5 c x0 x1 x2 x3 x4) := by kernel_rfl
theorem f44_e1 (c : Nat → TF) (x0 x1 : D) : seqK (f44_s c 40) f44_p2 [im "a" x0, im "many" x1] kEnd = (f44_b6 c x0 x1) :=
 have h := congrArg (f44_b6c c x0 x1) (fx5 fun y0 y1 y2 y3 y4 => (f44_e7 c y0 y1 y2 y3 y4 (fun vs => seqK (f44_s c 40) (f44_p2.drop 3) vs kEnd)).trans (congrArg (f44_u4 c y0 y1 y2 y3 y4) (funext fun t => f44_e10 c y0 y1 t.1 t.2.1 t.2.2)))
 Eq.trans (by kernel_rfl) h
noncomputable abbrev swhole_power_R (c0 c1 c2 : TF) (x0 x1 : D) : MR D := f44_b6 (cs [c0, c1, c2]) x0 x1
theorem swhole_power_eq (c0 c1 c2 : TF) (x0 x1 : D) : runFn (cxT aJ [(nm "sinverse", c0), (nm "cut", c1), (nm "smul", c2)]) 2000 40 (fnO (nm "swhole_power")) [x0, x1] = swhole_power_R c0 c1 c2 x0 x1 :=
 (aV (vs := [im "a" x0, im "many" x1]) (by kernel_rfl)).trans (f44_e1 (cs [c0, c1, c2]) x0 x1)
noncomputable def lplain_R (x0 x1 : D) : MR D :=
 (tupR [(ri 0), (bopR .Add (lstR [(rt x0)]) (bopR .Mult (lstR [(rt gR0)]) (bopR .Sub (rt x1) (ri 1))))])
theorem lplain_eq (x0 x1 : D) : runFn (cxT aJ []) 2000 40 (fnO (nm "lplain")) [x0, x1] = lplain_R x0 x1 :=
 (aV (vs := [im "number" x0, im "many" x1]) (by kernel_rfl)).trans (by kernel_rfl)
noncomputable def ladd_R (c0 : TF) (x0 x1 : D) : MR D :=
 (bnd (blR minB [(subR (rt x0) (ri 0)), (subR (rt x1) (ri 0))]) fun v0 => (bnd (bopR .Sub (blR minB [(bopR .Add (subR (rt x0) (ri 0)) (lenR (subR (rt x0) (ri 1)))), (bopR .Add (subR (rt x1) (ri 0)) (lenR (subR (rt x1) (ri 1))))]) (rt v0)) fun v1 => (bnd (bnd (itR (tupR [(rt x0), (rt x1)])) (compF (fun v2 => (rt true)) (fun v2 => (uptoR (bopR .Add (bopR .Mult (lstR [(rt gR0)]) (blR minB [(bopR .Sub (subR (rt v2) (ri 0)) (rt v0)), (rt v1)])) (subR (rt v2) (ri 1))) (rt v1))))) fun v3 => unT v3 fun l4 => (unC l4 fun v5 l6 => (unC l6 fun v7 l8 => (unE l8 (tupR [(rt v0), (bnd (mR [(rt v5), (rt v7)]) c0)])))))))
theorem ladd_eq (c0 : TF) (x0 x1 : D) : runFn (cxT aJ [(nm "sadd", c0)]) 2000 40 (fnO (nm "ladd")) [x0, x1] = ladd_R c0 x0 x1 :=
 (aV (vs := [im "a" x0, im "b" x1]) (by kernel_rfl)).trans (by kernel_rfl)
noncomputable def lmul_R (c0 : TF) (x0 x1 : D) : MR D :=
 (tupR [(bopR .Add (subR (rt x0) (ri 0)) (subR (rt x1) (ri 0))), (bnd (mR [(subR (rt x0) (ri 1)), (subR (rt x1) (ri 1))]) c0)])
theorem lmul_eq (c0 : TF) (x0 x1 : D) : runFn (cxT aJ [(nm "smul", c0)]) 2000 40 (fnO (nm "lmul")) [x0, x1] = lmul_R c0 x0 x1 :=
 (aV (vs := [im "a" x0, im "b" x1]) (by kernel_rfl)).trans (by kernel_rfl)
noncomputable abbrev f48_s (n : Nat) : Stmt → Vars → KR → MR D := exSK (cxT aJ []) 2000 (fnO (nm "ltrim")).names n
noncomputable def f48_p2 : List Stmt := (fnO (nm "ltrim")).body
noncomputable def f48_b3 (x0 x1 x2 : D) (k : D × D → MR D) : MR D :=
 (bnd (tupR [(bopR .Add (rt x1) (ri 1)), (fromR (rt x2) (ri 1))]) fun v1 => unT v1 fun l2 => (unC l2 fun v3 l4 => (unC l4 fun v5 l6 => (unE l6 (k (v3, v5))))))
noncomputable def f48_u4 (x0 x1 x2 : D) (K : D × D → MR D) : MR D :=
 loopW (fun t => (andR (cmpR .Gt (lenR (rt t.2)) (ri 0)) (cmpR .Eq (subR (rt t.2) (ri 0)) (rt gR0)))) (fun t k => (f48_b3 x0 t.1 t.2 k)) K 2000 (x1, x2)
noncomputable def f48_b5 (x0 x1 x2 : D) : MR D :=
 (tupR [(rt x1), (rt x2)])
noncomputable def f48_b6c (x0 : D) (L0 : D → D → D → MR D) : MR D :=
 (bnd (rt x0) fun v1 => unT v1 fun l2 => (unC l2 fun v3 l4 => (unC l4 fun v5 l6 => (unE l6 (L0 x0 v3 v5)))))
noncomputable def f48_b6 (x0 : D) : MR D :=
 f48_b6c x0 (fun y0 y1 y2 => (f48_u4 y0 y1 y2 fun t => (f48_b5 y0 t.1 t.2)))
noncomputable def f48_w8 (x0 x1 x2 : D) : Vars := [im "a" x0, im "low" x1, im "rest" x2]
noncomputable def f48_v9 (x0 : D) (t : D × D) : Vars := (f48_w8 x0 t.1 t.2)
theorem f48_e7 (x0 x1 x2 : D) (κ : KR) : f48_s 40 (sAt f48_p2 1) (f48_w8 x0 x1 x2) κ = f48_u4 x0 x1 x2 (fun t => κ (f48_v9 x0 t)) :=
 while_at (sAt f48_p2 1) (f48_v9 x0) κ (by kernel_rfl) (fun t => by kernel_rfl) (fun t _ => by kernel_rfl) (x1, x2)
theorem f48_e10 (x0 x1 x2 : D) : seqK (f48_s 40) (f48_p2.drop 2) (f48_w8 x0 x1 x2) kEnd = (f48_b5 x0 x1 x2) := by kernel_rfl
theorem f48_e1 (x0 : D) : seqK (f48_s 40) f48_p2 [im "a" x0] kEnd = (f48_b6 x0) :=
 have h := congrArg (f48_b6c x0) (fx3 fun y0 y1 y2 => (f48_e7 y0 y1 y2 (fun vs => seqK (f48_s 40) (f48_p2.drop 2) vs kEnd)).trans (congrArg (f48_u4 y0 y1 y2) (funext fun t => f48_e10 y0 t.1 t.2)))
 Eq.trans (by kernel_rfl) h
noncomputable abbrev ltrim_R (x0 : D) : MR D := f48_b6 x0
theorem ltrim_eq (x0 : D) : runFn (cxT aJ []) 2000 40 (fnO (nm "ltrim")) [x0] = ltrim_R x0 :=
 (aV (vs := [im "a" x0]) (by kernel_rfl)).trans (f48_e1 x0)
noncomputable def linverse_R (c0 c1 : TF) (x0 : D) : MR D :=
 (bnd (bnd (mR [(rt x0)]) c0) fun v0 => unT v0 fun l1 => (unC l1 fun v2 l3 => (unC l3 fun v4 l5 => (unE l5 (ifR (cmpR .Eq (lenR (rt v4)) (ri 0)) (raR (rs "limit") (rs "nothing is known of a series but noughts")) (tupR [(bopR .Sub (ri 0) (rt v2)), (bnd (mR [(rt v4)]) c1)]))))))
theorem linverse_eq (c0 c1 : TF) (x0 : D) : runFn (cxT aJ [(nm "ltrim", c0), (nm "sinverse", c1)]) 2000 40 (fnO (nm "linverse")) [x0] = linverse_R c0 c1 x0 :=
 (aV (vs := [im "a" x0]) (by kernel_rfl)).trans (by kernel_rfl)
noncomputable def lpower_R (c0 c1 c2 c3 c4 c5 c6 c7 : TF) (x0 x1 : D) : MR D :=
 (ifR (cmpR .Eq (rt x1) (ri 0)) (tupR [(ri 0), (bopR .Add (lstR [(rt gR1)]) (bopR .Mult (lstR [(rt gR0)]) (bopR .Sub (lenR (subR (rt x0) (ri 1))) (ri 1))))]) (ifR (cmpR .Lt (rt x1) (ri 0)) (bnd (mR [(bnd (mR [(rt x0)]) c4), (bopR .Sub (ri 0) (rt x1))]) c1) (bnd (bnd (mR [(rt x0)]) c0) fun v0 => unT v0 fun l1 => (unC l1 fun v2 l3 => (unC l3 fun v4 l5 => (unE l5 (bnd (ifR (cmpR .Gt (lenR (rt v4)) (ri 0)) (bnd (mR [(subR (rt v4) (ri 0)), (rt x1)]) c2) (rt gR1)) fun v6 => (ifR (orR (cmpR .LtE (rt x1) (rt gMOST_SQUARED)) (cmpR .Eq (lenR (rt v4)) (ri 0))) (tupR [(bopR .Mult (rt v2) (rt x1)), (bnd (mR [(rt v4), (rt x1)]) c5)]) (tupR [(bopR .Mult (rt v2) (rt x1)), (bnd (mR [(rt v6), (bnd (mR [(bnd (mR [(bnd (mR [(rt gR1), (subR (rt v4) (ri 0))]) c7), (rt v4)]) c3), (tupR [(rt x1), (ri 1)])]) c6)]) c3)])))))))))
theorem lpower_eq (c0 c1 c2 c3 c4 c5 c6 c7 : TF) (x0 x1 : D) : runFn (cxT aJ [(nm "ltrim", c0), (nm "lpower", c1), (nm "rpower", c2), (nm "sscale", c3), (nm "linverse", c4), (nm "swhole_power", c5), (nm "spower", c6), (nm "rdiv", c7)]) 2000 40 (fnO (nm "lpower")) [x0, x1] = lpower_R c0 c1 c2 c3 c4 c5 c6 c7 x0 x1 :=
 (aV (vs := [im "a" x0, im "many" x1]) (by kernel_rfl)).trans (by kernel_rfl)
noncomputable def exact_root_R (c0 : TF) (x0 x1 : D) : MR D :=
 (bnd (tupR [(bnd (mR [(subR (rt x0) (ri 0)), (rt x1)]) c0), (bnd (mR [(subR (rt x0) (ri 1)), (rt x1)]) c0)]) fun v0 => unT v0 fun l1 => (unC l1 fun v2 l3 => (unC l3 fun v4 l5 => (unE l5 (ifR (andR (cmpR .Eq (bopR .Pow (rt v2) (rt x1)) (subR (rt x0) (ri 0))) (cmpR .Eq (bopR .Pow (rt v4) (rt x1)) (subR (rt x0) (ri 1)))) (tupR [(rt v2), (rt v4)]) (rt .none))))))
theorem exact_root_eq (c0 : TF) (x0 x1 : D) : runFn (cxT aJ [(nm "root_of", c0)]) 2000 40 (fnO (nm "exact_root")) [x0, x1] = exact_root_R c0 x0 x1 :=
 (aV (vs := [im "number" x0, im "many" x1]) (by kernel_rfl)).trans (by kernel_rfl)
noncomputable def from_zero_R (c0 : TF) (x0 x1 : D) : MR D :=
 (bnd (bnd (mR [(rt x0)]) c0) fun v0 => unT v0 fun l1 => (unC l1 fun v2 l3 => (unC l3 fun v4 l5 => (unE l5 (ifR (andR (cmpR .Eq (lenR (rt v4)) (ri 0)) (cmpR .LtE (rt v2) (ri 0))) (raR (rs "limit") (rs "too few powers are known")) (ifR (cmpR .Lt (rt v2) (ri 0)) (raR (rs "domain") (rs "a function of what has no end")) (ifR (cmpR .Gt (rt v2) (rt x1)) (bopR .Mult (lstR [(rt gR0)]) (rt x1)) (bopR .Add (bopR .Mult (lstR [(rt gR0)]) (rt v2)) (rt v4)))))))))
theorem from_zero_eq (c0 : TF) (x0 x1 : D) : runFn (cxT aJ [(nm "ltrim", c0)]) 2000 40 (fnO (nm "from_zero")) [x0, x1] = from_zero_R c0 x0 x1 :=
 (aV (vs := [im "told" x0, im "many" x1]) (by kernel_rfl)).trans (by kernel_rfl)
noncomputable def of_call_R (c0 c1 c2 c3 c4 c5 c6 c7 c8 : TF) (x0 x1 x2 : D) : MR D :=
 (bnd (bnd (mR [(rt x1)]) c0) fun v0 => unT v0 fun l1 => (unC l1 fun v2 l3 => (unC l3 fun v4 l5 => (unE l5 (ifR (andR (cmpR .Gt (rt v2) (rt x2)) (cmpR .In (rt x0) (tupR [(rs "sin"), (rs "tan"), (rs "atan")]))) (tupR [(rt v2), (uptoR (rt v4) (bopR .Mult (ri 2) (rt v2)))]) (bnd (bnd (mR [(rt x1), (rt x2)]) c1) fun v6 => (ifR (cmpR .Eq (rt x0) (rs "exp")) (tupR [(ri 0), (bnd (mR [(rt v6)]) c3)]) (ifR (cmpR .Eq (rt x0) (rs "log")) (tupR [(ri 0), (bnd (mR [(rt v6)]) c4)]) (ifR (cmpR .Eq (rt x0) (rs "sin")) (tupR [(ri 0), (bnd (mR [(rt v6)]) c5)]) (ifR (cmpR .Eq (rt x0) (rs "cos")) (tupR [(ri 0), (bnd (mR [(rt v6)]) c6)]) (ifR (cmpR .Eq (rt x0) (rs "tan")) (bnd (mR [(tupR [(ri 0), (bnd (mR [(rt v6)]) c5)]), (bnd (mR [(tupR [(ri 0), (bnd (mR [(rt v6)]) c6)]), (negR (ri 1))]) c7)]) c2) (ifR (cmpR .Eq (rt x0) (rs "atan")) (tupR [(ri 0), (bnd (mR [(rt v6)]) c8)]) (raR (rs "domain") (bopR .Add (rs "no series of ") (rt x0)))))))))))))))
theorem of_call_eq (c0 c1 c2 c3 c4 c5 c6 c7 c8 : TF) (x0 x1 x2 : D) : runFn (cxT aJ [(nm "ltrim", c0), (nm "from_zero", c1), (nm "lmul", c2), (nm "sexp", c3), (nm "slog", c4), (nm "ssin", c5), (nm "scos", c6), (nm "lpower", c7), (nm "satan", c8)]) 2000 40 (fnO (nm "of_call")) [x0, x1, x2] = of_call_R c0 c1 c2 c3 c4 c5 c6 c7 c8 x0 x1 x2 :=
 (aV (vs := [im "name" x0, im "told" x1, im "many" x2]) (by kernel_rfl)).trans (by kernel_rfl)
noncomputable def of_root_R (c0 c1 c2 c3 c4 c5 : TF) (x0 x1 : D) : MR D :=
 (bnd (bnd (mR [(rt x0)]) c0) fun v0 => unT v0 fun l1 => (unC l1 fun v2 l3 => (unC l3 fun v4 l5 => (unE l5 (ifR (cmpR .Eq (lenR (rt v4)) (ri 0)) (raR (rs "limit") (rs "too few powers are known")) (ifR (orR (cmpR .NotEq (bopR .Mod (bopR .Mult (rt v2) (subR (rt x1) (ri 0))) (subR (rt x1) (ri 1))) (ri 0)) (cmpR .LtE (subR (subR (rt v4) (ri 0)) (ri 0)) (ri 0))) (raR (rs "domain") (rs "a root that has no series")) (bnd (bnd (mR [(subR (rt v4) (ri 0)), (subR (rt x1) (ri 1))]) c1) fun v6 => (ifR (cmpR .Is (rt v6) (rt .none)) (raR (rs "domain") (rs "a root that is no ratio")) (ifR (cmpR .Lt (subR (rt x1) (ri 0)) (ri 0)) (bnd (bnd (mR [(rt gR1), (rt v6)]) c3) fun v7 => (bnd (bnd (mR [(rt v7), (blR absB [(subR (rt x1) (ri 0))])]) c2) fun v8 => (tupR [(bopR .FloorDiv (bopR .Mult (rt v2) (subR (rt x1) (ri 0))) (subR (rt x1) (ri 1))), (bnd (mR [(rt v8), (bnd (mR [(bnd (mR [(bnd (mR [(rt gR1), (subR (rt v4) (ri 0))]) c3), (rt v4)]) c4), (rt x1)]) c5)]) c4)]))) (bnd (bnd (mR [(rt v6), (blR absB [(subR (rt x1) (ri 0))])]) c2) fun v9 => (tupR [(bopR .FloorDiv (bopR .Mult (rt v2) (subR (rt x1) (ri 0))) (subR (rt x1) (ri 1))), (bnd (mR [(rt v9), (bnd (mR [(bnd (mR [(bnd (mR [(rt gR1), (subR (rt v4) (ri 0))]) c3), (rt v4)]) c4), (rt x1)]) c5)]) c4)])))))))))))
theorem of_root_eq (c0 c1 c2 c3 c4 c5 : TF) (x0 x1 : D) : runFn (cxT aJ [(nm "ltrim", c0), (nm "exact_root", c1), (nm "rpower", c2), (nm "rdiv", c3), (nm "sscale", c4), (nm "spower", c5)]) 2000 40 (fnO (nm "of_root")) [x0, x1] = of_root_R c0 c1 c2 c3 c4 c5 x0 x1 :=
 (aV (vs := [im "told" x0, im "number" x1]) (by kernel_rfl)).trans (by kernel_rfl)
noncomputable def of_power_R (c0 c1 c2 : TF) (x0 x1 x2 x3 : D) : MR D :=
 (ifR (cmpR .NotEq (subR (rt x1) (ri 0)) (rs "num")) (raR (rs "domain") (rs "an exponent that is no number")) (ifR (andR (cmpR .Eq (rt x0) (tupR [(rs "num"), (ri 0), (ri 1)])) (cmpR .NotEq (subR (rt x1) (ri 2)) (ri 1))) (raR (rs "domain") (rs "a root that has no series")) (bnd (bnd (mR [(rt x0), (rt x2), (rt x3)]) c0) fun v0 => (ifR (cmpR .Eq (subR (rt x1) (ri 2)) (ri 1)) (bnd (mR [(rt v0), (subR (rt x1) (ri 1))]) c2) (bnd (mR [(rt v0), (tupR [(subR (rt x1) (ri 1)), (subR (rt x1) (ri 2))])]) c1)))))
theorem of_power_eq (c0 c1 c2 : TF) (x0 x1 x2 x3 : D) : runFn (cxT aJ [(nm "of_term", c0), (nm "of_root", c1), (nm "lpower", c2)]) 2000 40 (fnO (nm "of_power")) [x0, x1, x2, x3] = of_power_R c0 c1 c2 x0 x1 x2 x3 :=
 (aV (vs := [im "base" x0, im "exponent" x1, im "many" x2, im "letter" x3]) (by kernel_rfl)).trans (by kernel_rfl)
noncomputable abbrev f56_s (c : Nat → TF) (n : Nat) : Stmt → Vars → KR → MR D := exSK (cxT aJ [(nm "lplain", (c 0)), (nm "ladd", (c 1))]) 2000 (fnO (nm "of_sum")).names n
noncomputable def f56_p2 : List Stmt := (fnO (nm "of_sum")).body
noncomputable def f56_b3 (c : Nat → TF) (x0 x1 x2 x3 : D) (k : D × D → MR D) : MR D :=
 (bnd (bnd (mR [(rt x2), (rt x3)]) (c 1)) fun v1 => (k (v1, x3)))
noncomputable def f56_u4 (c : Nat → TF) (x0 x1 x2 : D) (K0 : MR D) (K : D × D → MR D) : MR D :=
 forR (itR (fromR (rt x0) (ri 1))) (fun d k => (f56_b3 c x0 x1 x2 d k)) (fun t d k => (f56_b3 c x0 x1 t.1 d k)) K0 K
noncomputable def f56_b5 (c : Nat → TF) (x0 x1 x2 x3 : D) : MR D :=
 (rt x2)
noncomputable def f56_b6c (c : Nat → TF) (x0 x1 : D) (L0 : D → D → D → MR D) : MR D :=
 (bnd (ifR (cmpR .Gt (lenR (rt x0)) (ri 0)) (subR (rt x0) (ri 0)) (bnd (mR [(rt gR0), (rt x1)]) (c 0))) fun v1 => (L0 x0 x1 v1))
noncomputable def f56_b6 (c : Nat → TF) (x0 x1 : D) : MR D :=
 f56_b6c c x0 x1 (fun y0 y1 y2 => (f56_u4 c y0 y1 y2 (f56_b5 c y0 y1 y2 .none) fun t => (f56_b5 c y0 y1 t.1 t.2)))
noncomputable def f56_w8 (x0 x1 x2 : D) : Vars := [im "some" x0, im "many" x1, im "found" x2]
noncomputable def f56_v9 (x0 x1 : D) (t : D × D) : Vars := [im "some" x0, im "many" x1, im "found" t.1, im "told" t.2]
theorem f56_e7 (c : Nat → TF) (x0 x1 x2 : D) (κ : KR) : f56_s c 40 (sAt f56_p2 1) (f56_w8 x0 x1 x2) κ = f56_u4 c x0 x1 x2 (κ (f56_w8 x0 x1 x2)) (fun t => κ (f56_v9 x0 x1 t)) :=
 for_at (sAt f56_p2 1) (nm "told") κ (by kernel_rfl) (fun d _ => by kernel_rfl) (fun t d _ => by kernel_rfl)
theorem f56_e10 (c : Nat → TF) (x0 x1 x2 x3 : D) : seqK (f56_s c 40) (f56_p2.drop 2) [im "some" x0, im "many" x1, im "found" x2, im "told" x3] kEnd = (f56_b5 c x0 x1 x2 x3) := by kernel_rfl
theorem f56_e11 (c : Nat → TF) (x0 x1 x2 : D) : seqK (f56_s c 40) (f56_p2.drop 2) (f56_w8 x0 x1 x2) kEnd = (f56_b5 c x0 x1 x2 .none) := by kernel_rfl
theorem f56_e1 (c : Nat → TF) (x0 x1 : D) : seqK (f56_s c 40) f56_p2 [im "some" x0, im "many" x1] kEnd = (f56_b6 c x0 x1) :=
 have h := congrArg (f56_b6c c x0 x1) (fx3 fun y0 y1 y2 => (f56_e7 c y0 y1 y2 (fun vs => seqK (f56_s c 40) (f56_p2.drop 2) vs kEnd)).trans (congr (congrArg (f56_u4 c y0 y1 y2) (f56_e11 c y0 y1 y2)) (funext fun t => f56_e10 c y0 y1 t.1 t.2)))
 Eq.trans (by kernel_rfl) h
noncomputable abbrev of_sum_R (c0 c1 : TF) (x0 x1 : D) : MR D := f56_b6 (cs [c0, c1]) x0 x1
theorem of_sum_eq (c0 c1 : TF) (x0 x1 : D) : runFn (cxT aJ [(nm "lplain", c0), (nm "ladd", c1)]) 2000 40 (fnO (nm "of_sum")) [x0, x1] = of_sum_R c0 c1 x0 x1 :=
 (aV (vs := [im "some" x0, im "many" x1]) (by kernel_rfl)).trans (f56_e1 (cs [c0, c1]) x0 x1)
noncomputable abbrev f57_s (c : Nat → TF) (n : Nat) : Stmt → Vars → KR → MR D := exSK (cxT aJ [(nm "lplain", (c 0)), (nm "of_power", (c 1)), (nm "of_call", (c 2)), (nm "of_term", (c 3)), (nm "of_sum", (c 4)), (nm "lmul", (c 5))]) 2000 (fnO (nm "of_term")).names n
noncomputable def f57_p2 : List Stmt := (fnO (nm "of_term")).body
noncomputable def f57_b3 (c : Nat → TF) (x0 x1 x2 x3 x4 x5 : D) (k : D × D → MR D) : MR D :=
 (bnd (bnd (mR [(rt x4), (rt x5)]) (c 5)) fun v1 => (k (v1, x5)))
noncomputable def f57_u4 (c : Nat → TF) (x0 x1 x2 x3 x4 : D) (K0 : MR D) (K : D × D → MR D) : MR D :=
 forR (itR (rt x3)) (fun d k => (f57_b3 c x0 x1 x2 x3 x4 d k)) (fun t d k => (f57_b3 c x0 x1 x2 x3 t.1 d k)) K0 K
noncomputable def f57_b5 (c : Nat → TF) (x0 x1 x2 x3 x4 x5 : D) : MR D :=
 (rt x4)
noncomputable def f57_b6c (c : Nat → TF) (x0 x1 x2 : D) (L0 : D → D → D → D → D → MR D) : MR D :=
 (ifR (cmpR .Eq (subR (rt x0) (rt (.int 0))) (rt (.str (nm "num")))) (bnd (mR [(tupR [(subR (rt x0) (rt (.int 1))), (subR (rt x0) (rt (.int 2)))]), (rt x1)]) (c 0)) (ifR (cmpR .Eq (subR (rt x0) (rt (.int 0))) (rt (.str (nm "sym")))) (ifR (cmpR .NotEq (subR (rt x0) (rt (.int 1))) (subR (rt x2) (rt (.int 0)))) (raR (rt (.str (nm "domain"))) (bopR .Add (rt (.str (nm "another letter: "))) (subR (rt x0) (rt (.int 1))))) (tupR [(subR (subR (rt x2) (rt (.int 1))) (rt (.int 0))), (bopR .Add (subR (subR (rt x2) (rt (.int 1))) (rt (.int 1))) (bopR .Mult (lstR [(rt gR0)]) (bopR .Sub (rt x1) (lenR (subR (subR (rt x2) (rt (.int 1))) (rt (.int 1)))))))])) (ifR (cmpR .Eq (subR (rt x0) (rt (.int 0))) (rt (.str (nm "pow")))) (bnd (mR [(subR (rt x0) (rt (.int 1))), (subR (rt x0) (rt (.int 2))), (rt x1), (rt x2)]) (c 1)) (ifR (and3R (cmpR .Eq (subR (rt x0) (rt (.int 0))) (rt (.str (nm "call")))) (cmpR .Eq (subR (rt x0) (rt (.int 1))) (rt (.str (nm "sqrt")))) (cmpR .Eq (lenR (subR (rt x0) (rt (.int 2)))) (rt (.int 1)))) (bnd (mR [(subR (subR (rt x0) (rt (.int 2))) (rt (.int 0))), (tupR [(rt (.str (nm "num"))), (rt (.int 1)), (rt (.int 2))]), (rt x1), (rt x2)]) (c 1)) (ifR (andR (cmpR .Eq (subR (rt x0) (rt (.int 0))) (rt (.str (nm "call")))) (cmpR .Eq (lenR (subR (rt x0) (rt (.int 2)))) (rt (.int 1)))) (bnd (mR [(subR (rt x0) (rt (.int 1))), (bnd (mR [(subR (subR (rt x0) (rt (.int 2))) (rt (.int 0))), (rt x1), (rt x2)]) (c 3)), (rt x1)]) (c 2)) (ifR (cmpR .NotIn (subR (rt x0) (rt (.int 0))) (tupR [(rt (.str (nm "sum"))), (rt (.str (nm "prod")))])) (raR (rt (.str (nm "domain"))) (bopR .Add (rt (.str (nm "no series of "))) (subR (rt x0) (rt (.int 0))))) (bnd (bnd (itR (subR (rt x0) (rt (.int 1)))) (compF (fun v1 => (rt true)) (fun v1 => (bnd (mR [(rt v1), (rt x1), (rt x2)]) (c 3))))) fun v2 => (ifR (cmpR .Eq (subR (rt x0) (rt (.int 0))) (rt (.str (nm "sum")))) (bnd (mR [(rt v2), (rt x1)]) (c 4)) (bnd (bnd (mR [(rt gR1), (rt x1)]) (c 0)) fun v3 => (L0 x0 x1 x2 v2 v3))))))))))
noncomputable def f57_b6 (c : Nat → TF) (x0 x1 x2 : D) : MR D :=
 f57_b6c c x0 x1 x2 (fun y0 y1 y2 y3 y4 => (f57_u4 c y0 y1 y2 y3 y4 (f57_b5 c y0 y1 y2 y3 y4 .none) fun t => (f57_b5 c y0 y1 y2 y3 t.1 t.2)))
noncomputable def f57_w8 (x0 x1 x2 x3 x4 : D) : Vars := [im "t" x0, im "many" x1, im "letter" x2, im "some" x3, im "found" x4]
noncomputable def f57_v9 (x0 x1 x2 x3 : D) (t : D × D) : Vars := [im "t" x0, im "many" x1, im "letter" x2, im "some" x3, im "found" t.1, im "told" t.2]
theorem f57_e7 (c : Nat → TF) (x0 x1 x2 x3 x4 : D) (κ : KR) : f57_s c 40 (sAt f57_p2 9) (f57_w8 x0 x1 x2 x3 x4) κ = f57_u4 c x0 x1 x2 x3 x4 (κ (f57_w8 x0 x1 x2 x3 x4)) (fun t => κ (f57_v9 x0 x1 x2 x3 t)) :=
 for_at (sAt f57_p2 9) (nm "told") κ (by kernel_rfl) (fun d _ => by kernel_rfl) (fun t d _ => by kernel_rfl)
theorem f57_e10 (c : Nat → TF) (x0 x1 x2 x3 x4 x5 : D) : seqK (f57_s c 40) (f57_p2.drop 10) [im "t" x0, im "many" x1, im "letter" x2, im "some" x3, im "found" x4, im "told" x5] kEnd = (f57_b5 c x0 x1 x2 x3 x4 x5) := by kernel_rfl
theorem f57_e11 (c : Nat → TF) (x0 x1 x2 x3 x4 : D) : seqK (f57_s c 40) (f57_p2.drop 10) (f57_w8 x0 x1 x2 x3 x4) kEnd = (f57_b5 c x0 x1 x2 x3 x4 .none) := by kernel_rfl
theorem f57_e1 (c : Nat → TF) (x0 x1 x2 : D) : seqK (f57_s c 40) f57_p2 [im "t" x0, im "many" x1, im "letter" x2] kEnd = (f57_b6 c x0 x1 x2) :=
 have h := congrArg (f57_b6c c x0 x1 x2) (fx5 fun y0 y1 y2 y3 y4 => (f57_e7 c y0 y1 y2 y3 y4 (fun vs => seqK (f57_s c 40) (f57_p2.drop 10) vs kEnd)).trans (congr (congrArg (f57_u4 c y0 y1 y2 y3 y4) (f57_e11 c y0 y1 y2 y3 y4)) (funext fun t => f57_e10 c y0 y1 y2 y3 t.1 t.2)))
 Eq.trans (by kernel_rfl) h
noncomputable abbrev of_term_R (c0 c1 c2 c3 c4 c5 : TF) (x0 x1 x2 : D) : MR D := f57_b6 (cs [c0, c1, c2, c3, c4, c5]) x0 x1 x2
theorem of_term_eq (c0 c1 c2 c3 c4 c5 : TF) (x0 x1 x2 : D) : runFn (cxT aJ [(nm "lplain", c0), (nm "of_power", c1), (nm "of_call", c2), (nm "of_term", c3), (nm "of_sum", c4), (nm "lmul", c5)]) 2000 40 (fnO (nm "of_term")) [x0, x1, x2] = of_term_R c0 c1 c2 c3 c4 c5 x0 x1 x2 :=
 (aV (vs := [im "t" x0, im "many" x1, im "letter" x2]) (by kernel_rfl)).trans (f57_e1 (cs [c0, c1, c2, c3, c4, c5]) x0 x1 x2)
noncomputable def poly_sum_R (c0 : TF) (x0 x1 : D) : MR D :=
 (bnd (blR dictB [(blR listB [(rt x0)])]) fun v0 => (bnd (itR (rt x1)) fun l1 => forN l1 (blR tupleB [(bnd (itR (blR sortedB [(rt v0)])) (compF (fun v2 => (tstR (cmpR .NotEq (subR (rt v0) (rt v2)) (rt gR0)))) (fun v2 => (tupR [(rt v2), (subR (rt v0) (rt v2))]))))])))
theorem poly_sum_eq (c0 : TF) (x0 x1 : D) : runFn (cxT aJ [(nm "radd", c0)]) 2000 40 (fnO (nm "poly_sum")) [x0, x1] = poly_sum_R c0 x0 x1 :=
 (aV (vs := [im "one" x0, im "other" x1]) (by kernel_rfl)).trans (by kernel_rfl)
noncomputable def kind_product_R (c0 c1 : TF) (x0 x1 : D) : MR D :=
 (tupR [(bnd (mR [(subR (rt x0) (ri 0)), (subR (rt x1) (ri 0))]) c0), (bnd (mR [(subR (rt x0) (ri 1)), (subR (rt x1) (ri 1))]) c1), (bopR .Add (subR (rt x0) (ri 2)) (subR (rt x1) (ri 2)))])
theorem kind_product_eq (c0 c1 : TF) (x0 x1 : D) : runFn (cxT aJ [(nm "poly_sum", c0), (nm "radd", c1)]) 2000 40 (fnO (nm "kind_product")) [x0, x1] = kind_product_R c0 c1 x0 x1 :=
 (aV (vs := [im "one" x0, im "other" x1]) (by kernel_rfl)).trans (by kernel_rfl)
noncomputable abbrev f14_s (ins : D → D → D → MR D) (n : Nat) : Stmt → Vars → KR → MR D := exSK (cxT ins []) 2000 (fnO (nm "gadd")).names n
noncomputable def f14_p2 : List Stmt := (fnO (nm "gadd")).body
noncomputable def f14_b3 (ins : D → D → D → MR D) (x0 x1 x2 x3 : D) (k : D × D → MR D) : MR D :=
 (bnd (rt x3) fun v1 => bnd (subR (rt x1) (rt x3)) fun v2 => bnd (ins x2 v1 v2) fun v3 => (k (v3, x3)))
noncomputable def f14_u4 (ins : D → D → D → MR D) (x0 x1 x2 : D) (K0 : MR D) (K : D × D → MR D) : MR D :=
 forR (itR (rt x1)) (fun d k => (f14_b3 ins x0 x1 x2 d k)) (fun t d k => (f14_b3 ins x0 x1 t.1 d k)) K0 K
noncomputable def f14_b5 (ins : D → D → D → MR D) (x0 x1 x2 x3 : D) : MR D :=
 (rt x2)
noncomputable def f14_b6c (ins : D → D → D → MR D) (x0 x1 : D) (L0 : D → D → D → MR D) : MR D :=
 (bnd (blR dictB [(rt x0)]) fun v1 => (L0 x0 x1 v1))
noncomputable def f14_b6 (ins : D → D → D → MR D) (x0 x1 : D) : MR D :=
 f14_b6c ins x0 x1 (fun y0 y1 y2 => (f14_u4 ins y0 y1 y2 (f14_b5 ins y0 y1 y2 .none) fun t => (f14_b5 ins y0 y1 t.1 t.2)))
noncomputable def f14_w8 (x0 x1 x2 : D) : Vars := [im "a" x0, im "b" x1, ow "found" x2]
noncomputable def f14_v9 (x0 x1 : D) (t : D × D) : Vars := [im "a" x0, im "b" x1, ow "found" t.1, im "kind" t.2]
theorem f14_e7 (ins : D → D → D → MR D) (x0 x1 x2 : D) (κ : KR) : f14_s ins 40 (sAt f14_p2 1) (f14_w8 x0 x1 x2) κ = f14_u4 ins x0 x1 x2 (κ (f14_w8 x0 x1 x2)) (fun t => κ (f14_v9 x0 x1 t)) :=
 for_at (sAt f14_p2 1) (nm "kind") κ (by kernel_rfl) (fun d _ => by kernel_rfl) (fun t d _ => by kernel_rfl)
theorem f14_e10 (ins : D → D → D → MR D) (x0 x1 x2 x3 : D) : seqK (f14_s ins 40) (f14_p2.drop 2) [im "a" x0, im "b" x1, ow "found" x2, im "kind" x3] kEnd = (f14_b5 ins x0 x1 x2 x3) := by kernel_rfl
theorem f14_e11 (ins : D → D → D → MR D) (x0 x1 x2 : D) : seqK (f14_s ins 40) (f14_p2.drop 2) (f14_w8 x0 x1 x2) kEnd = (f14_b5 ins x0 x1 x2 .none) := by kernel_rfl
theorem f14_e1 (ins : D → D → D → MR D) (x0 x1 : D) : seqK (f14_s ins 40) f14_p2 [im "a" x0, im "b" x1] kEnd = (f14_b6 ins x0 x1) :=
 have h := congrArg (f14_b6c ins x0 x1) (fx3 fun y0 y1 y2 => (f14_e7 ins y0 y1 y2 (fun vs => seqK (f14_s ins 40) (f14_p2.drop 2) vs kEnd)).trans (congr (congrArg (f14_u4 ins y0 y1 y2) (f14_e11 ins y0 y1 y2)) (funext fun t => f14_e10 ins y0 y1 t.1 t.2)))
 Eq.trans (by kernel_rfl) h
noncomputable abbrev gadd_R (ins : D → D → D → MR D) (x0 x1 : D) : MR D := f14_b6 ins x0 x1
theorem gadd_eq (ins : D → D → D → MR D) (x0 x1 : D) : runFn (cxT ins []) 2000 40 (fnO (nm "gadd")) [x0, x1] = gadd_R ins x0 x1 :=
 (aV (vs := [im "a" x0, im "b" x1]) (by kernel_rfl)).trans (f14_e1 ins x0 x1)
noncomputable abbrev f17_s (ins : D → D → D → MR D) (c : Nat → TF) (n : Nat) : Stmt → Vars → KR → MR D := exSK (cxT ins [(nm "kind_product", (c 0)), (nm "rmul", (c 1))]) 2000 (fnO (nm "gmul")).names n
noncomputable def f17_p2 : List Stmt := (fnO (nm "gmul")).body
noncomputable def f17_p3 : List Stmt := (bV (sAt f17_p2 2))
noncomputable def f17_b4 (ins : D → D → D → MR D) (c : Nat → TF) (x0 x1 x2 x3 x4 : D) (k : D × D → MR D) : MR D :=
 (bnd (bnd (mR [(rt x3), (rt x4)]) (c 0)) fun v1 => bnd (bnd (mR [(subR (rt x0) (rt x3)), (subR (rt x1) (rt x4))]) (c 1)) fun v2 => bnd (ins x2 v1 v2) fun v3 => (k (v3, x4)))
noncomputable def f17_u5 (ins : D → D → D → MR D) (c : Nat → TF) (x0 x1 x2 x3 : D) (K0 : MR D) (K : D × D → MR D) : MR D :=
 forR (itR (rt x1)) (fun d k => (f17_b4 ins c x0 x1 x2 x3 d k)) (fun t d k => (f17_b4 ins c x0 x1 t.1 x3 d k)) K0 K
noncomputable def f17_b6 (ins : D → D → D → MR D) (c : Nat → TF) (x0 x1 x2 x3 : D) (o : Option (D)) (k : (D × D) × Option (D) → MR D) : MR D :=
 (f17_u5 ins c x0 x1 x2 x3 (k ((x2, x3), o)) fun t => (k ((t.1, x3), (some t.2))))
noncomputable def f17_u7 (ins : D → D → D → MR D) (c : Nat → TF) (x0 x1 x2 : D) (K0 : MR D) (K : (D × D) × Option (D) → MR D) : MR D :=
 forR (itR (rt x0)) (fun d k => (f17_b6 ins c x0 x1 x2 d none k)) (fun t d k => (f17_b6 ins c x0 x1 t.1.1 d t.2 k)) K0 K
noncomputable def f17_b8 (ins : D → D → D → MR D) (c : Nat → TF) (x0 x1 x2 x3 : D) : MR D :=
 (rt x2)
noncomputable def f17_b9c (ins : D → D → D → MR D) (c : Nat → TF) (x0 x1 : D) (L0 : D → D → D → MR D) : MR D :=
 (ifR (cmpR .Gt (bopR .Mult (lenR (rt x0)) (lenR (rt x1))) (bopR .Mult (rt gMOST_KINDS) (rt gMOST_KINDS))) (raR (rs "domain") (rs "a product of sums with too many kinds")) (L0 x0 x1 (.dict [])))
noncomputable def f17_b9 (ins : D → D → D → MR D) (c : Nat → TF) (x0 x1 : D) : MR D :=
 f17_b9c ins c x0 x1 (fun y0 y1 y2 => (f17_u7 ins c y0 y1 y2 (f17_b8 ins c y0 y1 y2 .none) fun t => (f17_b8 ins c y0 y1 t.1.1 t.1.2)))
noncomputable def f17_w11 (x0 x1 x2 : D) : Vars := [im "a" x0, im "b" x1, ow "found" x2]
noncomputable def f17_w13 (x0 x1 x2 x3 : D) : Vars := [im "a" x0, im "b" x1, ow "found" x2, im "one" x3]
noncomputable def f17_v12 (x0 x1 : D) (t : (D × D) × Option (D)) : Vars := (optV (f17_w13 x0 x1 t.1.1 t.1.2) (fun u : D => [im "other" u]) t.2)
noncomputable def f17_w15 (x0 x1 x2 x3 x4 : D) : Vars := [im "a" x0, im "b" x1, ow "found" x2, im "one" x3, im "other" x4]
noncomputable def f17_v17 (x0 x1 x3 : D) (t : D × D) : Vars := (f17_w15 x0 x1 t.1 x3 t.2)
theorem f17_e16 (ins : D → D → D → MR D) (c : Nat → TF) (x0 x1 x2 x3 x4 : D) (κ : KR) : f17_s ins c 39 (sAt f17_p3 0) (f17_w15 x0 x1 x2 x3 x4) κ = f17_u5 ins c x0 x1 x2 x3 (κ (f17_w15 x0 x1 x2 x3 x4)) (fun t => κ (f17_v17 x0 x1 x3 t)) :=
 for_at (sAt f17_p3 0) (nm "other") κ (by kernel_rfl) (fun d _ => by kernel_rfl) (fun t d _ => by kernel_rfl)
theorem f17_e14 (ins : D → D → D → MR D) (c : Nat → TF) (x0 x1 x2 x3 x4 : D) (κ : KR) : seqK (f17_s ins c 39) f17_p3 (f17_w15 x0 x1 x2 x3 x4) κ = (f17_b6 ins c x0 x1 x2 x3 (some x4) (fun t => κ (f17_v12 x0 x1 t))) :=
 Eq.trans (by kernel_rfl) (f17_e16 ins c x0 x1 x2 x3 x4 κ)
theorem f17_e19 (ins : D → D → D → MR D) (c : Nat → TF) (x0 x1 x2 x3 : D) (κ : KR) : f17_s ins c 39 (sAt f17_p3 0) (f17_w13 x0 x1 x2 x3) κ = f17_u5 ins c x0 x1 x2 x3 (κ (f17_w13 x0 x1 x2 x3)) (fun t => κ (f17_v17 x0 x1 x3 t)) :=
 for_at (sAt f17_p3 0) (nm "other") κ (by kernel_rfl) (fun d _ => by kernel_rfl) (fun t d _ => by kernel_rfl)
theorem f17_e18 (ins : D → D → D → MR D) (c : Nat → TF) (x0 x1 x2 x3 : D) (κ : KR) : seqK (f17_s ins c 39) f17_p3 (f17_w13 x0 x1 x2 x3) κ = (f17_b6 ins c x0 x1 x2 x3 none (fun t => κ (f17_v12 x0 x1 t))) :=
 Eq.trans (by kernel_rfl) (f17_e19 ins c x0 x1 x2 x3 κ)
theorem f17_e10 (ins : D → D → D → MR D) (c : Nat → TF) (x0 x1 x2 : D) (κ : KR) : f17_s ins c 40 (sAt f17_p2 2) (f17_w11 x0 x1 x2) κ = f17_u7 ins c x0 x1 x2 (κ (f17_w11 x0 x1 x2)) (fun t => κ (f17_v12 x0 x1 t)) :=
 for_at (sAt f17_p2 2) (nm "one") κ (by kernel_rfl) (fun d κ => f17_e18 ins c x0 x1 x2 d κ) (fun t d κ => match t with | (s, none) => f17_e18 ins c x0 x1 s.1 d κ | (s, some u) => f17_e14 ins c x0 x1 s.1 d u κ)
theorem f17_e21 (ins : D → D → D → MR D) (c : Nat → TF) (x0 x1 x2 x3 x4 : D) : seqK (f17_s ins c 40) (f17_p2.drop 3) (f17_w15 x0 x1 x2 x3 x4) kEnd = (f17_b8 ins c x0 x1 x2 x3) := by kernel_rfl
theorem f17_e22 (ins : D → D → D → MR D) (c : Nat → TF) (x0 x1 x2 x3 : D) : seqK (f17_s ins c 40) (f17_p2.drop 3) (f17_w13 x0 x1 x2 x3) kEnd = (f17_b8 ins c x0 x1 x2 x3) := by kernel_rfl
theorem f17_e20 (ins : D → D → D → MR D) (c : Nat → TF) (x0 x1 x2 x3 : D) (xo : Option (D)) : seqK (f17_s ins c 40) (f17_p2.drop 3) (optV (f17_w13 x0 x1 x2 x3) (fun u : D => [im "other" u]) xo) kEnd = (f17_b8 ins c x0 x1 x2 x3) := by
 cases xo with
 | none => exact f17_e22 ins c x0 x1 x2 x3
 | some u => exact f17_e21 ins c x0 x1 x2 x3 u
theorem f17_e23 (ins : D → D → D → MR D) (c : Nat → TF) (x0 x1 x2 : D) : seqK (f17_s ins c 40) (f17_p2.drop 3) (f17_w11 x0 x1 x2) kEnd = (f17_b8 ins c x0 x1 x2 .none) := by kernel_rfl
theorem f17_e1 (ins : D → D → D → MR D) (c : Nat → TF) (x0 x1 : D) : seqK (f17_s ins c 40) f17_p2 [im "a" x0, im "b" x1] kEnd = (f17_b9 ins c x0 x1) :=
 have h := congrArg (f17_b9c ins c x0 x1) (fx3 fun y0 y1 y2 => (f17_e10 ins c y0 y1 y2 (fun vs => seqK (f17_s ins c 40) (f17_p2.drop 3) vs kEnd)).trans (congr (congrArg (f17_u7 ins c y0 y1 y2) (f17_e23 ins c y0 y1 y2)) (funext fun t => f17_e20 ins c y0 y1 t.1.1 t.1.2 t.2)))
 Eq.trans (by kernel_rfl) h
noncomputable abbrev gmul_R (ins : D → D → D → MR D) (c0 c1 : TF) (x0 x1 : D) : MR D := f17_b9 ins (cs [c0, c1]) x0 x1
theorem gmul_eq (ins : D → D → D → MR D) (c0 c1 : TF) (x0 x1 : D) : runFn (cxT ins [(nm "kind_product", c0), (nm "rmul", c1)]) 2000 40 (fnO (nm "gmul")) [x0, x1] = gmul_R ins c0 c1 x0 x1 :=
 (aV (vs := [im "a" x0, im "b" x1]) (by kernel_rfl)).trans (f17_e1 ins (cs [c0, c1]) x0 x1)
noncomputable def kind_compare_R (c0 c1 c2 : TF) (x0 x1 : D) : MR D :=
 (bnd (bnd (mR [(subR (rt x0) (ri 0)), (blR tupleB [(bnd (itR (subR (rt x1) (ri 0))) compN)])]) c0) fun v0 => (ifR (cmpR .Gt (lenR (rt v0)) (ri 0)) (ifR (cmpR .Gt (subR (subR (subR (rt v0) (negR (ri 1))) (ri 1)) (ri 0)) (ri 0)) (ri 1) (negR (ri 1))) (bnd (bnd (mR [(subR (rt x0) (ri 1)), (subR (rt x1) (ri 1))]) c1) fun v1 => (ifR (cmpR .NotEq (rt v1) (ri 0)) (rt v1) (bopR .Sub (cmpR .Gt (subR (rt x0) (ri 2)) (subR (rt x1) (ri 2))) (cmpR .Lt (subR (rt x0) (ri 2)) (subR (rt x1) (ri 2))))))))
theorem kind_compare_eq (c0 c1 c2 : TF) (x0 x1 : D) : runFn (cxT aJ [(nm "poly_sum", c0), (nm "rcompare", c1), (nm "rneg", c2)]) 2000 40 (fnO (nm "kind_compare")) [x0, x1] = kind_compare_R c0 c1 c2 x0 x1 :=
 (aV (vs := [im "one" x0, im "other" x1]) (by kernel_rfl)).trans (by kernel_rfl)
noncomputable abbrev f19_s (c0 : TF) (n : Nat) : Stmt → Vars → KR → MR D := exSK (cxT aJ [(nm "kind_compare", c0)]) 2000 (fnO (nm "fastest")).names n
noncomputable def f19_p2 : List Stmt := (fnO (nm "fastest")).body
noncomputable def f19_b3 (c0 : TF) (x0 x1 x2 : D) (k : D × D → MR D) : MR D :=
 (ifR (orR (cmpR .Is (rt x1) (rt .none)) (cmpR .Gt (bnd (mR [(rt x2), (rt x1)]) c0) (ri 0))) (bnd (rt x2) fun v1 => (k (v1, x2))) (k (x1, x2)))
noncomputable def f19_u4 (c0 : TF) (x0 x1 : D) (K0 : MR D) (K : D × D → MR D) : MR D :=
 forR (itR (rt x0)) (fun d k => (f19_b3 c0 x0 x1 d k)) (fun t d k => (f19_b3 c0 x0 t.1 d k)) K0 K
noncomputable def f19_b5 (c0 : TF) (x0 x1 x2 : D) : MR D :=
 (ifR (cmpR .Is (rt x1) (rt .none)) (rt .none) (tupR [(rt x1), (subR (rt x0) (rt x1))]))
noncomputable def f19_b6c (c0 : TF) (x0 : D) (L0 : D → D → MR D) : MR D :=
 (bnd (rt .none) fun v1 => (L0 x0 v1))
noncomputable def f19_b6 (c0 : TF) (x0 : D) : MR D :=
 f19_b6c c0 x0 (fun y0 y1 => (f19_u4 c0 y0 y1 (f19_b5 c0 y0 y1 .none) fun t => (f19_b5 c0 y0 t.1 t.2)))
noncomputable def f19_w8 (x0 x1 : D) : Vars := [im "a" x0, im "found" x1]
noncomputable def f19_v9 (x0 : D) (t : D × D) : Vars := [im "a" x0, im "found" t.1, im "kind" t.2]
theorem f19_e7 (c0 : TF) (x0 x1 : D) (κ : KR) : f19_s c0 40 (sAt f19_p2 1) (f19_w8 x0 x1) κ = f19_u4 c0 x0 x1 (κ (f19_w8 x0 x1)) (fun t => κ (f19_v9 x0 t)) :=
 for_at (sAt f19_p2 1) (nm "kind") κ (by kernel_rfl) (fun d _ => by kernel_rfl) (fun t d _ => by kernel_rfl)
theorem f19_e10 (c0 : TF) (x0 x1 x2 : D) : seqK (f19_s c0 40) (f19_p2.drop 2) [im "a" x0, im "found" x1, im "kind" x2] kEnd = (f19_b5 c0 x0 x1 x2) := by kernel_rfl
theorem f19_e11 (c0 : TF) (x0 x1 : D) : seqK (f19_s c0 40) (f19_p2.drop 2) (f19_w8 x0 x1) kEnd = (f19_b5 c0 x0 x1 .none) := by kernel_rfl
theorem f19_e1 (c0 : TF) (x0 : D) : seqK (f19_s c0 40) f19_p2 [im "a" x0] kEnd = (f19_b6 c0 x0) :=
 have h := congrArg (f19_b6c c0 x0) (fx2 fun y0 y1 => (f19_e7 c0 y0 y1 (fun vs => seqK (f19_s c0 40) (f19_p2.drop 2) vs kEnd)).trans (congr (congrArg (f19_u4 c0 y0 y1) (f19_e11 c0 y0 y1)) (funext fun t => f19_e10 c0 y0 t.1 t.2)))
 Eq.trans (by kernel_rfl) h
noncomputable abbrev fastest_R (c0 : TF) (x0 : D) : MR D := f19_b6 c0 x0
theorem fastest_eq (c0 : TF) (x0 : D) : runFn (cxT aJ [(nm "kind_compare", c0)]) 2000 40 (fnO (nm "fastest")) [x0] = fastest_R c0 x0 :=
 (aV (vs := [im "a" x0]) (by kernel_rfl)).trans (f19_e1 c0 x0)
noncomputable abbrev f21_s (c : Nat → TF) (n : Nat) : Stmt → Vars → KR → MR D := exSK (cxT aJ [(nm "gmul", (c 0)), (nm "rpower", (c 1)), (nm "bits_of", (c 2)), (nm "rmul", (c 3))]) 2000 (fnO (nm "gpower")).names n
noncomputable def f21_p2 : List Stmt := (fnO (nm "gpower")).body
noncomputable def f21_p3 : List Stmt := (bV (sAt f21_p2 0))
noncomputable def f21_b4 (c : Nat → TF) (x0 x1 x2 x3 x4 : D) (k : D × D × D → MR D) : MR D :=
 (bnd (blR tupleB [(bnd (itR (subR (rt x3) (ri 0))) compN)]) fun v1 => (itemR x2 (bnd (mR [(subR (rt x0) (rt x3)), (rt x1)]) (c 1)) (tupR [(rt v1), (bnd (mR [(subR (rt x3) (ri 1)), (tupR [(rt x1), (ri 1)])]) (c 3)), (bopR .Mult (subR (rt x3) (ri 2)) (rt x1))]) fun v2 => (k (v2, x3, v1))))
noncomputable def f21_u5 (c : Nat → TF) (x0 x1 x2 : D) (K0 : MR D) (K : D × D × D → MR D) : MR D :=
 forR (itR (rt x0)) (fun d k => (f21_b4 c x0 x1 x2 d .none k)) (fun t d k => (f21_b4 c x0 x1 t.1 d t.2.2 k)) K0 K
noncomputable def f21_b6 (c : Nat → TF) (x0 x1 x2 x3 x4 : D) : MR D :=
 (rt x2)
noncomputable def f21_b7c (c : Nat → TF) (x0 x1 : D) (L0 : D → D → D → MR D) : MR D :=
 (L0 x0 x1 (.dict []))
noncomputable def f21_b7 (c : Nat → TF) (x0 x1 : D) : MR D :=
 f21_b7c c x0 x1 (fun y0 y1 y2 => (f21_u5 c y0 y1 y2 (f21_b6 c y0 y1 y2 .none .none) fun t => (f21_b6 c y0 y1 t.1 t.2.1 t.2.2)))
noncomputable def f21_b8 (c : Nat → TF) (x0 x1 x5 x2 x6 : D) (k : D × D → MR D) : MR D :=
 (ifR (cmpR .Gt (lenR (rt x2)) (rt gMOST_KINDS)) (raR (rs "domain") (rs "a power of a sum with too many kinds")) (bnd (bnd (mR [(rt x2), (rt x0)]) (c 0)) fun v1 => (k (v1, x6))))
noncomputable def f21_u9 (c : Nat → TF) (x0 x1 x5 x2 : D) (K0 : MR D) (K : D × D → MR D) : MR D :=
 forR (rngR [(rt x1)]) (fun d k => (f21_b8 c x0 x1 x5 x2 d k)) (fun t d k => (f21_b8 c x0 x1 x5 t.1 d k)) K0 K
noncomputable def f21_b10 (c : Nat → TF) (x0 x1 x5 x2 x6 : D) : MR D :=
 (rt x2)
noncomputable def f21_b11c (c : Nat → TF) (x0 x1 : D) (L0 : D → D → MR D) (L1 : D → D → D → D → MR D) : MR D :=
 (ifR (cmpR .Lt (lenR (rt x0)) (ri 2)) (L0 x0 x1) (ifR (cmpR .Gt (rt x1) (rt gMOST_TURNS)) (raR (rs "domain") (rs "a far power of a sum")) (bnd (blR maxB [(bnd (valsR x0) (compF (fun v1 => (rt true)) (fun v1 => (bnd (mR [(blR maxB [(blR absB [(subR (rt v1) (ri 0))]), (subR (rt v1) (ri 1))])]) (c 2)))))]) fun v2 => (ifR (andR (cmpR .Gt (rt x1) (ri 1)) (cmpR .Gt (bopR .Mult (rt x1) (rt v2)) (rt gMOST_BITS))) (raR (rs "domain") (rs "a power of a sum with too long numbers")) (bnd (dictR (rt gSTILL) (rt gR1)) fun v3 => (L1 x0 x1 v2 v3))))))
noncomputable def f21_b11 (c : Nat → TF) (x0 x1 : D) : MR D :=
 f21_b11c c x0 x1 (fun y0 y1 => (f21_b7 c y0 y1)) (fun y0 y1 y5 y2 => (f21_u9 c y0 y1 y5 y2 (f21_b10 c y0 y1 y5 y2 .none) fun t => (f21_b10 c y0 y1 y5 t.1 t.2)))
noncomputable def f21_w14 (x0 x1 x2 : D) : Vars := [im "a" x0, im "many" x1, ow "found" x2]
noncomputable def f21_v15 (x0 x1 : D) (t : D × D × D) : Vars := [im "a" x0, im "many" x1, ow "found" t.1, im "kind" t.2.1, im "poly" t.2.2]
theorem f21_e13 (c : Nat → TF) (x0 x1 x2 : D) (κ : KR) : f21_s c 39 (sAt f21_p3 1) (f21_w14 x0 x1 x2) κ = f21_u5 c x0 x1 x2 (κ (f21_w14 x0 x1 x2)) (fun t => κ (f21_v15 x0 x1 t)) :=
 for_at (sAt f21_p3 1) (nm "kind") κ (by kernel_rfl) (fun d _ => by kernel_rfl) (fun t d _ => by kernel_rfl)
theorem f21_e16 (c : Nat → TF) (x0 x1 x2 x3 x4 : D) (κ : KR) : seqK (f21_s c 39) (f21_p3.drop 2) [im "a" x0, im "many" x1, ow "found" x2, im "kind" x3, im "poly" x4] κ = (f21_b6 c x0 x1 x2 x3 x4) := by kernel_rfl
theorem f21_e17 (c : Nat → TF) (x0 x1 x2 : D) (κ : KR) : seqK (f21_s c 39) (f21_p3.drop 2) (f21_w14 x0 x1 x2) κ = (f21_b6 c x0 x1 x2 .none .none) := by kernel_rfl
theorem f21_e12 (c : Nat → TF) (x0 x1 : D) (κ : KR) : seqK (f21_s c 39) f21_p3 [im "a" x0, im "many" x1] κ = (f21_b7 c x0 x1) :=
 have h := congrArg (f21_b7c c x0 x1) (fx3 fun y0 y1 y2 => (f21_e13 c y0 y1 y2 (fun vs => seqK (f21_s c 39) (f21_p3.drop 2) vs κ)).trans (congr (congrArg (f21_u5 c y0 y1 y2) (f21_e17 c y0 y1 y2 κ)) (funext fun t => f21_e16 c y0 y1 t.1 t.2.1 t.2.2 κ)))
 Eq.trans (by kernel_rfl) h
noncomputable def f21_w19 (x0 x1 x5 x2 : D) : Vars := [im "a" x0, im "many" x1, im "longest" x5, im "found" x2]
noncomputable def f21_v20 (x0 x1 x5 : D) (t : D × D) : Vars := [im "a" x0, im "many" x1, im "longest" x5, im "found" t.1, im "turn" t.2]
theorem f21_e18 (c : Nat → TF) (x0 x1 x5 x2 : D) (κ : KR) : f21_s c 40 (sAt f21_p2 5) (f21_w19 x0 x1 x5 x2) κ = f21_u9 c x0 x1 x5 x2 (κ (f21_w19 x0 x1 x5 x2)) (fun t => κ (f21_v20 x0 x1 x5 t)) :=
 for_at (sAt f21_p2 5) (nm "turn") κ (by kernel_rfl) (fun d _ => by kernel_rfl) (fun t d _ => by kernel_rfl)
theorem f21_e21 (c : Nat → TF) (x0 x1 x5 x2 x6 : D) : seqK (f21_s c 40) (f21_p2.drop 6) [im "a" x0, im "many" x1, im "longest" x5, im "found" x2, im "turn" x6] kEnd = (f21_b10 c x0 x1 x5 x2 x6) := by kernel_rfl
theorem f21_e22 (c : Nat → TF) (x0 x1 x5 x2 : D) : seqK (f21_s c 40) (f21_p2.drop 6) (f21_w19 x0 x1 x5 x2) kEnd = (f21_b10 c x0 x1 x5 x2 .none) := by kernel_rfl
theorem f21_e1 (c : Nat → TF) (x0 x1 : D) : seqK (f21_s c 40) f21_p2 [im "a" x0, im "many" x1] kEnd = (f21_b11 c x0 x1) :=
 have h := congr (congrArg (f21_b11c c x0 x1) (fx2 fun y0 y1 => f21_e12 c y0 y1 (fun vs => seqK (f21_s c 40) (f21_p2.drop 1) vs kEnd))) (fx4 fun y0 y1 y5 y2 => (f21_e18 c y0 y1 y5 y2 (fun vs => seqK (f21_s c 40) (f21_p2.drop 6) vs kEnd)).trans (congr (congrArg (f21_u9 c y0 y1 y5 y2) (f21_e22 c y0 y1 y5 y2)) (funext fun t => f21_e21 c y0 y1 y5 t.1 t.2)))
 Eq.trans (by kernel_rfl) h
noncomputable abbrev gpower_R (c0 c1 c2 c3 : TF) (x0 x1 : D) : MR D := f21_b11 (cs [c0, c1, c2, c3]) x0 x1
theorem gpower_eq (c0 c1 c2 c3 : TF) (x0 x1 : D) : runFn (cxT aJ [(nm "gmul", c0), (nm "rpower", c1), (nm "bits_of", c2), (nm "rmul", c3)]) 2000 40 (fnO (nm "gpower")) [x0, x1] = gpower_R c0 c1 c2 c3 x0 x1 :=
 (aV (vs := [im "a" x0, im "many" x1]) (by kernel_rfl)).trans (f21_e1 (cs [c0, c1, c2, c3]) x0 x1)
noncomputable def gratio_power_R (c0 : TF) (x0 x1 : D) : MR D :=
 (ifR (cmpR .Eq (rt x1) (ri 0)) (tupR [(dictR (rt gSTILL) (rt gR1)), (dictR (rt gSTILL) (rt gR1))]) (bnd (ifR (cmpR .Gt (rt x1) (ri 0)) (rt x0) (tupR [(subR (rt x0) (ri 1)), (subR (rt x0) (ri 0))])) fun v0 => unT v0 fun l1 => (unC l1 fun v2 l3 => (unC l3 fun v4 l5 => (unE l5 (tupR [(bnd (mR [(rt v2), (blR absB [(rt x1)])]) c0), (bnd (mR [(rt v4), (blR absB [(rt x1)])]) c0)]))))))
theorem gratio_power_eq (c0 : TF) (x0 x1 : D) : runFn (cxT aJ [(nm "gpower", c0)]) 2000 40 (fnO (nm "gratio_power")) [x0, x1] = gratio_power_R c0 x0 x1 :=
 (aV (vs := [im "told" x0, im "many" x1]) (by kernel_rfl)).trans (by kernel_rfl)
noncomputable abbrev f23_s (c : Nat → TF) (n : Nat) : Stmt → Vars → KR → MR D := exSK (cxT aJ [(nm "fastest", (c 0)), (nm "rmul", (c 1))]) 2000 (fnO (nm "groot")).names n
noncomputable def f23_p2 : List Stmt := (fnO (nm "groot")).body
noncomputable def f23_b3 (c : Nat → TF) (x0 x1 x2 x3 : D) (x4 : List D) (x5 x6 : D) (k : List D × D × D → MR D) : MR D :=
 (bnd (blR tupleB [(bnd (itR (subR (rt x5) (ri 0))) compN)]) fun v1 => (apR x4 (dictR (tupR [(rt v1), (bnd (mR [(subR (rt x5) (ri 1)), (rt x1)]) (c 1)), (ri 0)]) (rt gR1)) fun v2 => (k ((x4 ++ [v2]), x5, v1))))
noncomputable def f23_u4 (c : Nat → TF) (x0 x1 x2 x3 : D) (x4 : List D) (K0 : MR D) (K : List D × D × D → MR D) : MR D :=
 forR (itR (tupR [(subR (rt x2) (ri 0)), (subR (rt x3) (ri 0))])) (fun d k => (f23_b3 c x0 x1 x2 x3 x4 d .none k)) (fun t d k => (f23_b3 c x0 x1 x2 x3 t.1 d t.2.2 k)) K0 K
noncomputable def f23_b5 (c : Nat → TF) (x0 x1 x2 x3 : D) (x4 : List D) (x5 x6 : D) : MR D :=
 (tupR [(subR (rt (.list x4)) (ri 0)), (subR (rt (.list x4)) (ri 1))])
noncomputable def f23_b6c (c : Nat → TF) (x0 x1 : D) (L0 : D → D → D → D → List D → MR D) : MR D :=
 (ifR (orR (cmpR .NotEq (lenR (subR (rt x0) (ri 0))) (ri 1)) (cmpR .NotEq (lenR (subR (rt x0) (ri 1))) (ri 1))) (raR (rs "domain") (rs "a root of a sum")) (bnd (tupR [(bnd (mR [(subR (rt x0) (ri 0))]) (c 0)), (bnd (mR [(subR (rt x0) (ri 1))]) (c 0))]) fun v1 => unT v1 fun l2 => (unC l2 fun v3 l4 => (unC l4 fun v5 l6 => (unE l6 (ifR (or3R (cmpR .NotEq (subR (rt v3) (ri 1)) (subR (rt v5) (ri 1))) (cmpR .NotEq (subR (subR (rt v3) (ri 0)) (ri 2)) (ri 0)) (cmpR .NotEq (subR (subR (rt v5) (ri 0)) (ri 2)) (ri 0))) (raR (rs "domain") (rs "a root of a number, or of log")) (L0 x0 x1 v3 v5 [])))))))
noncomputable def f23_b6 (c : Nat → TF) (x0 x1 : D) : MR D :=
 f23_b6c c x0 x1 (fun y0 y1 y2 y3 y4 => (f23_u4 c y0 y1 y2 y3 y4 (f23_b5 c y0 y1 y2 y3 y4 .none .none) fun t => (f23_b5 c y0 y1 y2 y3 t.1 t.2.1 t.2.2)))
noncomputable def f23_w8 (x0 x1 x2 x3 : D) (x4 : List D) : Vars := [im "told" x0, im "number" x1, im "above" x2, im "below" x3, ow "found" (.list x4)]
noncomputable def f23_v9 (x0 x1 x2 x3 : D) (t : List D × D × D) : Vars := [im "told" x0, im "number" x1, im "above" x2, im "below" x3, ow "found" (.list t.1), im "kind" t.2.1, im "poly" t.2.2]
theorem f23_e7 (c : Nat → TF) (x0 x1 x2 x3 : D) (x4 : List D) (κ : KR) : f23_s c 40 (sAt f23_p2 4) (f23_w8 x0 x1 x2 x3 x4) κ = f23_u4 c x0 x1 x2 x3 x4 (κ (f23_w8 x0 x1 x2 x3 x4)) (fun t => κ (f23_v9 x0 x1 x2 x3 t)) :=
 for_at (sAt f23_p2 4) (nm "kind") κ (by kernel_rfl) (fun d _ => by kernel_rfl) (fun t d _ => by kernel_rfl)
theorem f23_e10 (c : Nat → TF) (x0 x1 x2 x3 : D) (x4 : List D) (x5 x6 : D) : seqK (f23_s c 40) (f23_p2.drop 5) [im "told" x0, im "number" x1, im "above" x2, im "below" x3, ow "found" (.list x4), im "kind" x5, im "poly" x6] kEnd = (f23_b5 c x0 x1 x2 x3 x4 x5 x6) := by kernel_rfl
theorem f23_e11 (c : Nat → TF) (x0 x1 x2 x3 : D) (x4 : List D) : seqK (f23_s c 40) (f23_p2.drop 5) (f23_w8 x0 x1 x2 x3 x4) kEnd = (f23_b5 c x0 x1 x2 x3 x4 .none .none) := by kernel_rfl
theorem f23_e1 (c : Nat → TF) (x0 x1 : D) : seqK (f23_s c 40) f23_p2 [im "told" x0, im "number" x1] kEnd = (f23_b6 c x0 x1) :=
 have h := congrArg (f23_b6c c x0 x1) (fx5 fun y0 y1 y2 y3 y4 => (f23_e7 c y0 y1 y2 y3 y4 (fun vs => seqK (f23_s c 40) (f23_p2.drop 5) vs kEnd)).trans (congr (congrArg (f23_u4 c y0 y1 y2 y3 y4) (f23_e11 c y0 y1 y2 y3 y4)) (funext fun t => f23_e10 c y0 y1 y2 y3 t.1 t.2.1 t.2.2)))
 Eq.trans (by kernel_rfl) h
noncomputable abbrev groot_R (c0 c1 : TF) (x0 x1 : D) : MR D := f23_b6 (cs [c0, c1]) x0 x1
theorem groot_eq (c0 c1 : TF) (x0 x1 : D) : runFn (cxT aJ [(nm "fastest", c0), (nm "rmul", c1)]) 2000 40 (fnO (nm "groot")) [x0, x1] = groot_R c0 c1 x0 x1 :=
 (aV (vs := [im "told" x0, im "number" x1]) (by kernel_rfl)).trans (f23_e1 (cs [c0, c1]) x0 x1)
noncomputable abbrev f20_s (n : Nat) : Stmt → Vars → KR → MR D := exSK (cxT aJ []) 2000 (fnO (nm "exponent_of")).names n
noncomputable def f20_p2 : List Stmt := (fnO (nm "exponent_of")).body
noncomputable def f20_b3 (x0 : D) (x1 : List D) (x2 : D) (k : List D × D → MR D) : MR D :=
 (ifR none (raR (rs "domain") (rs "an exp of what is no polynomial without a constant")) (apR x1 (tupR [(subR (subR (rt x2) (ri 1)) (ri 0)), (subR (rt x0) (rt x2))]) fun v1 => (k ((x1 ++ [v1]), x2))))
noncomputable def f20_u4 (x0 : D) (x1 : List D) (K0 : MR D) (K : List D × D → MR D) : MR D :=
 forR (itR (rt x0)) (fun d k => (f20_b3 x0 x1 d k)) (fun t d k => (f20_b3 x0 t.1 d k)) K0 K
noncomputable def f20_b5 (x0 : D) (x1 : List D) (x2 : D) : MR D :=
 (blR tupleB [(blR sortedB [(rt (.list x1))])])
noncomputable def f20_b6 (x0 : D) : MR D :=
 (f20_u4 x0 [] (f20_b5 x0 [] .none) fun t => (f20_b5 x0 t.1 t.2))
noncomputable def f20_w8 (x0 : D) (x1 : List D) : Vars := [im "a" x0, ow "found" (.list x1)]
noncomputable def f20_v9 (x0 : D) (t : List D × D) : Vars := [im "a" x0, ow "found" (.list t.1), im "kind" t.2]
theorem f20_e7 (x0 : D) (x1 : List D) (κ : KR) : f20_s 40 (sAt f20_p2 1) (f20_w8 x0 x1) κ = f20_u4 x0 x1 (κ (f20_w8 x0 x1)) (fun t => κ (f20_v9 x0 t)) :=
 for_at (sAt f20_p2 1) (nm "kind") κ (by kernel_rfl) (fun d _ => by kernel_rfl) (fun t d _ => by kernel_rfl)
theorem f20_e10 (x0 : D) (x1 : List D) (x2 : D) : seqK (f20_s 40) (f20_p2.drop 2) [im "a" x0, ow "found" (.list x1), im "kind" x2] kEnd = (f20_b5 x0 x1 x2) := by kernel_rfl
theorem f20_e11 (x0 : D) (x1 : List D) : seqK (f20_s 40) (f20_p2.drop 2) (f20_w8 x0 x1) kEnd = (f20_b5 x0 x1 .none) := by kernel_rfl
theorem f20_e1 (x0 : D) : seqK (f20_s 40) f20_p2 [im "a" x0] kEnd = (f20_b6 x0) :=
 Eq.trans (by kernel_rfl) ((f20_e7 x0 [] (fun vs => seqK (f20_s 40) (f20_p2.drop 2) vs kEnd)).trans (congr (congrArg (f20_u4 x0 []) (f20_e11 x0 [])) (funext fun t => f20_e10 x0 t.1 t.2)))
noncomputable abbrev exponent_of_R (x0 : D) : MR D := f20_b6 x0
theorem exponent_of_eq (x0 : D) : runFn (cxT aJ []) 2000 40 (fnO (nm "exponent_of")) [x0] = exponent_of_R x0 :=
 (aV (vs := [im "a" x0]) (by kernel_rfl)).trans (f20_e1 x0)
noncomputable abbrev f24_s (c : Nat → TF) (n : Nat) : Stmt → Vars → KR → MR D := exSK (cxT aJ [(nm "growth_of_other", (c 0)), (nm "growth_of", (c 1)), (nm "gadd", (c 2)), (nm "gmul", (c 3))]) 2000 (fnO (nm "growth_of")).names n
noncomputable def f24_p2 : List Stmt := (fnO (nm "growth_of")).body
noncomputable def f24_w3 (x0 x1 : D) : Vars := [im "t" x0, im "name" x1]
noncomputable def f24_p4 : List Stmt := (bV (sAt f24_p2 2))
noncomputable def f24_b5 (c : Nat → TF) (x0 x1 x2 x3 x4 : D) (k : D × D × D → MR D) : MR D :=
 (bnd (bnd (mR [(rt x3), (rt x1)]) (c 1)) fun v1 => (bnd (tupR [(bnd (mR [(bnd (mR [(subR (rt x2) (ri 0)), (subR (rt v1) (ri 1))]) (c 3)), (bnd (mR [(subR (rt v1) (ri 0)), (subR (rt x2) (ri 1))]) (c 3))]) (c 2)), (bnd (mR [(subR (rt x2) (ri 1)), (subR (rt v1) (ri 1))]) (c 3))]) fun v2 => (k (v2, x3, v1))))
noncomputable def f24_u6 (c : Nat → TF) (x0 x1 x2 : D) (K0 : MR D) (K : D × D × D → MR D) : MR D :=
 forR (itR (subR (rt x0) (ri 1))) (fun d k => (f24_b5 c x0 x1 x2 d .none k)) (fun t d k => (f24_b5 c x0 x1 t.1 d t.2.2 k)) K0 K
noncomputable def f24_b7 (c : Nat → TF) (x0 x1 x2 x3 x4 : D) : MR D :=
 (rt x2)
noncomputable def f24_b8c (c : Nat → TF) (x0 x1 : D) (L0 : D → D → D → MR D) : MR D :=
 (bnd (tupR [(rt (.dict [])), (dictR (rt gSTILL) (rt gR1))]) fun v1 => (L0 x0 x1 v1))
noncomputable def f24_b8 (c : Nat → TF) (x0 x1 : D) : MR D :=
 f24_b8c c x0 x1 (fun y0 y1 y2 => (f24_u6 c y0 y1 y2 (f24_b7 c y0 y1 y2 .none .none) fun t => (f24_b7 c y0 y1 t.1 t.2.1 t.2.2)))
noncomputable def f24_p9 : List Stmt := (bV (sAt f24_p2 3))
noncomputable def f24_b10 (c : Nat → TF) (x0 x1 x2 x3 x4 : D) (k : D × D × D → MR D) : MR D :=
 (bnd (bnd (mR [(rt x3), (rt x1)]) (c 1)) fun v1 => (bnd (tupR [(bnd (mR [(subR (rt x2) (ri 0)), (subR (rt v1) (ri 0))]) (c 3)), (bnd (mR [(subR (rt x2) (ri 1)), (subR (rt v1) (ri 1))]) (c 3))]) fun v2 => (k (v2, x3, v1))))
noncomputable def f24_u11 (c : Nat → TF) (x0 x1 x2 : D) (K0 : MR D) (K : D × D × D → MR D) : MR D :=
 forR (itR (subR (rt x0) (ri 1))) (fun d k => (f24_b10 c x0 x1 x2 d .none k)) (fun t d k => (f24_b10 c x0 x1 t.1 d t.2.2 k)) K0 K
noncomputable def f24_b12 (c : Nat → TF) (x0 x1 x2 x3 x4 : D) : MR D :=
 (rt x2)
noncomputable def f24_b13c (c : Nat → TF) (x0 x1 : D) (L0 : D → D → D → MR D) : MR D :=
 (bnd (tupR [(dictR (rt gSTILL) (rt gR1)), (dictR (rt gSTILL) (rt gR1))]) fun v1 => (L0 x0 x1 v1))
noncomputable def f24_b13 (c : Nat → TF) (x0 x1 : D) : MR D :=
 f24_b13c c x0 x1 (fun y0 y1 y2 => (f24_u11 c y0 y1 y2 (f24_b12 c y0 y1 y2 .none .none) fun t => (f24_b12 c y0 y1 t.1 t.2.1 t.2.2)))
noncomputable def f24_b14c (c : Nat → TF) (x0 x1 : D) (L0 L1 : D → D → MR D) : MR D :=
 (ifR (cmpR .Eq (subR (rt x0) (ri 0)) (rs "num")) (tupR [(ifR (cmpR .NotEq (subR (rt x0) (ri 1)) (ri 0)) (dictR (rt gSTILL) (tupR [(subR (rt x0) (ri 1)), (subR (rt x0) (ri 2))])) (rt (.dict []))), (dictR (rt gSTILL) (rt gR1))]) (ifR (andR (cmpR .Eq (subR (rt x0) (ri 0)) (rs "sym")) (cmpR .Eq (subR (rt x0) (ri 1)) (rt x1))) (tupR [(dictR (tupR [(tupR []), (rt gR1), (ri 0)]) (rt gR1)), (dictR (rt gSTILL) (rt gR1))]) (ifR (cmpR .Eq (subR (rt x0) (ri 0)) (rs "sum")) (L0 x0 x1) (ifR (cmpR .Eq (subR (rt x0) (ri 0)) (rs "prod")) (L1 x0 x1) (bnd (mR [(rt x0), (rt x1)]) (c 0))))))
noncomputable def f24_b14 (c : Nat → TF) (x0 x1 : D) : MR D :=
 f24_b14c c x0 x1 (fun y0 y1 => (f24_b8 c y0 y1)) (fun y0 y1 => (f24_b13 c y0 y1))
noncomputable def f24_w17 (x0 x1 x2 : D) : Vars := [im "t" x0, im "name" x1, im "found" x2]
noncomputable def f24_w19 (x0 x1 x2 x3 x4 : D) : Vars := [im "t" x0, im "name" x1, im "found" x2, im "one" x3, im "told" x4]
noncomputable def f24_v18 (x0 x1 : D) (t : D × D × D) : Vars := (f24_w19 x0 x1 t.1 t.2.1 t.2.2)
theorem f24_e16 (c : Nat → TF) (x0 x1 x2 : D) (κ : KR) : f24_s c 39 (sAt f24_p4 1) (f24_w17 x0 x1 x2) κ = f24_u6 c x0 x1 x2 (κ (f24_w17 x0 x1 x2)) (fun t => κ (f24_v18 x0 x1 t)) :=
 for_at (sAt f24_p4 1) (nm "one") κ (by kernel_rfl) (fun d _ => by kernel_rfl) (fun t d _ => by kernel_rfl)
theorem f24_e20 (c : Nat → TF) (x0 x1 x2 x3 x4 : D) (κ : KR) : seqK (f24_s c 39) (f24_p4.drop 2) (f24_w19 x0 x1 x2 x3 x4) κ = (f24_b7 c x0 x1 x2 x3 x4) := by kernel_rfl
theorem f24_e21 (c : Nat → TF) (x0 x1 x2 : D) (κ : KR) : seqK (f24_s c 39) (f24_p4.drop 2) (f24_w17 x0 x1 x2) κ = (f24_b7 c x0 x1 x2 .none .none) := by kernel_rfl
theorem f24_e15 (c : Nat → TF) (x0 x1 : D) (κ : KR) : seqK (f24_s c 39) f24_p4 (f24_w3 x0 x1) κ = (f24_b8 c x0 x1) :=
 have h := congrArg (f24_b8c c x0 x1) (fx3 fun y0 y1 y2 => (f24_e16 c y0 y1 y2 (fun vs => seqK (f24_s c 39) (f24_p4.drop 2) vs κ)).trans (congr (congrArg (f24_u6 c y0 y1 y2) (f24_e21 c y0 y1 y2 κ)) (funext fun t => f24_e20 c y0 y1 t.1 t.2.1 t.2.2 κ)))
 Eq.trans (by kernel_rfl) h
noncomputable def f24_v24 (x0 x1 : D) (t : D × D × D) : Vars := (f24_w19 x0 x1 t.1 t.2.1 t.2.2)
theorem f24_e23 (c : Nat → TF) (x0 x1 x2 : D) (κ : KR) : f24_s c 39 (sAt f24_p9 1) (f24_w17 x0 x1 x2) κ = f24_u11 c x0 x1 x2 (κ (f24_w17 x0 x1 x2)) (fun t => κ (f24_v24 x0 x1 t)) :=
 for_at (sAt f24_p9 1) (nm "one") κ (by kernel_rfl) (fun d _ => by kernel_rfl) (fun t d _ => by kernel_rfl)
theorem f24_e25 (c : Nat → TF) (x0 x1 x2 x3 x4 : D) (κ : KR) : seqK (f24_s c 39) (f24_p9.drop 2) (f24_w19 x0 x1 x2 x3 x4) κ = (f24_b12 c x0 x1 x2 x3 x4) := by kernel_rfl
theorem f24_e26 (c : Nat → TF) (x0 x1 x2 : D) (κ : KR) : seqK (f24_s c 39) (f24_p9.drop 2) (f24_w17 x0 x1 x2) κ = (f24_b12 c x0 x1 x2 .none .none) := by kernel_rfl
theorem f24_e22 (c : Nat → TF) (x0 x1 : D) (κ : KR) : seqK (f24_s c 39) f24_p9 (f24_w3 x0 x1) κ = (f24_b13 c x0 x1) :=
 have h := congrArg (f24_b13c c x0 x1) (fx3 fun y0 y1 y2 => (f24_e23 c y0 y1 y2 (fun vs => seqK (f24_s c 39) (f24_p9.drop 2) vs κ)).trans (congr (congrArg (f24_u11 c y0 y1 y2) (f24_e26 c y0 y1 y2 κ)) (funext fun t => f24_e25 c y0 y1 t.1 t.2.1 t.2.2 κ)))
 Eq.trans (by kernel_rfl) h
theorem f24_e1 (c : Nat → TF) (x0 x1 : D) : seqK (f24_s c 40) f24_p2 (f24_w3 x0 x1) kEnd = (f24_b14 c x0 x1) :=
 have h := congr (congrArg (f24_b14c c x0 x1) (fx2 fun y0 y1 => f24_e15 c y0 y1 (fun vs => seqK (f24_s c 40) (f24_p2.drop 3) vs kEnd))) (fx2 fun y0 y1 => f24_e22 c y0 y1 (fun vs => seqK (f24_s c 40) (f24_p2.drop 4) vs kEnd))
 Eq.trans (by kernel_rfl) h
noncomputable abbrev growth_of_R (c0 c1 c2 c3 : TF) (x0 x1 : D) : MR D := f24_b14 (cs [c0, c1, c2, c3]) x0 x1
theorem growth_of_eq (c0 c1 c2 c3 : TF) (x0 x1 : D) : runFn (cxT aJ [(nm "growth_of_other", c0), (nm "growth_of", c1), (nm "gadd", c2), (nm "gmul", c3)]) 2000 40 (fnO (nm "growth_of")) [x0, x1] = growth_of_R c0 c1 c2 c3 x0 x1 :=
 (aV (vs := [im "t" x0, im "name" x1]) (by kernel_rfl)).trans (f24_e1 (cs [c0, c1, c2, c3]) x0 x1)
noncomputable def growth_of_other_R (c0 c1 c2 c3 : TF) (x0 x1 : D) : MR D :=
 (ifR (andR (cmpR .Eq (subR (rt x0) (ri 0)) (rs "pow")) (cmpR .Eq (subR (subR (rt x0) (ri 2)) (ri 0)) (rs "num"))) (bnd (bnd (mR [(subR (rt x0) (ri 1)), (rt x1)]) c0) fun v0 => (ifR (cmpR .Eq (subR (subR (rt x0) (ri 2)) (ri 2)) (ri 1)) (bnd (mR [(rt v0), (subR (subR (rt x0) (ri 2)) (ri 1))]) c2) (bnd (mR [(rt v0), (tupR [(subR (subR (rt x0) (ri 2)) (ri 1)), (subR (subR (rt x0) (ri 2)) (ri 2))])]) c1))) (ifR (and3R (cmpR .Eq (subR (rt x0) (ri 0)) (rs "call")) (cmpR .Eq (subR (rt x0) (ri 1)) (rs "exp")) (cmpR .Eq (lenR (subR (rt x0) (ri 2))) (ri 1))) (bnd (bnd (mR [(subR (subR (rt x0) (ri 2)) (ri 0)), (rt x1)]) c0) fun v1 => (ifR (cmpR .NotEq (subR (rt v1) (ri 1)) (dictR (rt gSTILL) (rt gR1))) (raR (rs "domain") (rs "an exp of a quotient")) (tupR [(dictR (tupR [(bnd (mR [(subR (rt v1) (ri 0))]) c3), (rt gR0), (ri 0)]) (rt gR1)), (dictR (rt gSTILL) (rt gR1))]))) (ifR (and3R (cmpR .Eq (subR (rt x0) (ri 0)) (rs "call")) (cmpR .Eq (subR (rt x0) (ri 1)) (rs "log")) (cmpR .Eq (lenR (subR (rt x0) (ri 2))) (ri 1))) (ifR (cmpR .Eq (bnd (mR [(subR (subR (rt x0) (ri 2)) (ri 0)), (rt x1)]) c0) (tupR [(dictR (tupR [(tupR []), (rt gR1), (ri 0)]) (rt gR1)), (dictR (rt gSTILL) (rt gR1))])) (tupR [(dictR (tupR [(tupR []), (rt gR0), (ri 1)]) (rt gR1)), (dictR (rt gSTILL) (rt gR1))]) (ifR (and3R (cmpR .Eq (subR (rt x0) (ri 0)) (rs "call")) (cmpR .Eq (subR (rt x0) (ri 1)) (rs "sqrt")) (cmpR .Eq (lenR (subR (rt x0) (ri 2))) (ri 1))) (bnd (mR [(bnd (mR [(subR (subR (rt x0) (ri 2)) (ri 0)), (rt x1)]) c0), (tupR [(ri 1), (ri 2)])]) c1) (raR (rs "domain") (bopR .Add (rs "no growth of ") (subR (rt x0) (ri 0)))))) (ifR (and3R (cmpR .Eq (subR (rt x0) (ri 0)) (rs "call")) (cmpR .Eq (subR (rt x0) (ri 1)) (rs "sqrt")) (cmpR .Eq (lenR (subR (rt x0) (ri 2))) (ri 1))) (bnd (mR [(bnd (mR [(subR (subR (rt x0) (ri 2)) (ri 0)), (rt x1)]) c0), (tupR [(ri 1), (ri 2)])]) c1) (raR (rs "domain") (bopR .Add (rs "no growth of ") (subR (rt x0) (ri 0))))))))
theorem growth_of_other_eq (c0 c1 c2 c3 : TF) (x0 x1 : D) : runFn (cxT aJ [(nm "growth_of", c0), (nm "groot", c1), (nm "gratio_power", c2), (nm "exponent_of", c3)]) 2000 40 (fnO (nm "growth_of_other")) [x0, x1] = growth_of_other_R c0 c1 c2 c3 x0 x1 :=
 (aV (vs := [im "t" x0, im "name" x1]) (by kernel_rfl)).trans (by kernel_rfl)
noncomputable def far_limit_R (c0 c1 c2 c3 : TF) (x0 : D) : MR D :=
 (bnd (tupR [(bnd (mR [(subR (rt x0) (ri 0))]) c2), (bnd (mR [(subR (rt x0) (ri 1))]) c2)]) fun v0 => unT v0 fun l1 => (unC l1 fun v2 l3 => (unC l3 fun v4 l5 => (unE l5 (ifR (cmpR .Is (rt v4) (rt .none)) (raR (rs "division by zero") (rs "a bottom that is 0")) (ifR (cmpR .Is (rt v2) (rt .none)) (rt gR0) (bnd (bnd (mR [(subR (rt v2) (ri 0)), (subR (rt v4) (ri 0))]) c0) fun v6 => (bnd (bnd (mR [(subR (rt v2) (ri 1)), (bnd (mR [(subR (rt v4) (ri 1)), (negR (ri 1))]) c3)]) c1) fun v7 => (ifR (cmpR .Eq (rt v6) (ri 0)) (rt v7) (ifR (cmpR .Lt (rt v6) (ri 0)) (rt gR0) (ifR (cmpR .Gt (subR (rt v7) (ri 0)) (ri 0)) (rs "inf") (rs "-inf"))))))))))))
theorem far_limit_eq (c0 c1 c2 c3 : TF) (x0 : D) : runFn (cxT aJ [(nm "kind_compare", c0), (nm "rmul", c1), (nm "fastest", c2), (nm "rpower", c3)]) 2000 40 (fnO (nm "far_limit")) [x0] = far_limit_R c0 c1 c2 c3 x0 :=
 (aV (vs := [im "told" x0]) (by kernel_rfl)).trans (by kernel_rfl)
noncomputable def from_begin_R (c0 : TF) (x0 x1 : D) : MR D :=
 (bnd (bnd (mR [(rt x0)]) c0) fun v0 => unT v0 fun l1 => (unC l1 fun v2 l3 => (unC l3 fun v4 l5 => (unE l5 (ifR (orR (cmpR .Eq (lenR (rt v4)) (ri 0)) (cmpR .Gt (rt v2) (ri 0))) (rt gR0) (ifR (cmpR .Eq (rt v2) (ri 0)) (subR (rt v4) (ri 0)) (bnd (cmpR .Eq (bopR .Mod (rt v2) (ri 2)) (ri 1)) fun v6 => (ifR (andR (asBool (rt v6)) (cmpR .Eq (rt x1) (ri 0))) (rt .none) (bnd (cmpR .NotEq (cmpR .Gt (subR (subR (rt v4) (ri 0)) (ri 0)) (ri 0)) (andR (rt v6) (cmpR .Lt (rt x1) (ri 0)))) fun v7 => (ifR (asBool (rt v7)) (rt gFAR) (rt gLOW)))))))))))
theorem from_begin_eq (c0 : TF) (x0 x1 : D) : runFn (cxT aJ [(nm "ltrim", c0)]) 2000 40 (fnO (nm "from_begin")) [x0, x1] = from_begin_R c0 x0 x1 :=
 (aV (vs := [im "told" x0, im "side" x1]) (by kernel_rfl)).trans (by kernel_rfl)
noncomputable abbrev f59_s (c : Nat → TF) (n : Nat) : Stmt → Vars → KR → MR D := exSK (cxT aJ [(nm "ltrim", (c 0)), (nm "of_term", (c 1))]) 2000 (fnO (nm "begun_series")).names n
noncomputable def f59_p2 : List Stmt := (fnO (nm "begun_series")).body
noncomputable def f59_w3 (x0 x1 : D) : Vars := [im "t" x0, im "letter" x1]
noncomputable def f59_u4 (c : Nat → TF) (x0 x1 x2 : D) (K0 : MR D) (K : D → MR D) : MR D :=
 tryR (bnd (mR [(bnd (mR [(rt x0), (rt x2), (rt x1)]) (c 1))]) (c 0)) (nm "limit") K0 fun d => tryRest (orR (cmpR .Gt (lenR (subR (rt d) (ri 1))) (ri 0)) (cmpR .Gt (subR (rt d) (ri 0)) (ri 0))) (rt d) (K d)
noncomputable def f59_b5 (c : Nat → TF) (x0 x1 x2 : D) (o : Option (D)) (k : (D) × Option (D) → MR D) : MR D :=
 (f59_u4 c x0 x1 x2 (k (x2, o)) fun d => (k (x2, (some d))))
noncomputable def f59_u6 (c : Nat → TF) (x0 x1 : D) (K0 : MR D) (K : (D) × Option (D) → MR D) : MR D :=
 forR (itR (rt gTRIES)) (fun d k => (f59_b5 c x0 x1 d none k)) (fun t d k => (f59_b5 c x0 x1 d t.2 k)) K0 K
noncomputable def f59_b7 (c : Nat → TF) (x0 x1 x2 : D) : MR D :=
 (raR (rs "limit") (rs "too few powers are known"))
noncomputable def f59_b8 (c : Nat → TF) (x0 x1 : D) : MR D :=
 (f59_u6 c x0 x1 (f59_b7 c x0 x1 .none) fun t => (f59_b7 c x0 x1 t.1))
noncomputable def f59_w11 (x0 x1 x2 : D) : Vars := [im "t" x0, im "letter" x1, im "many" x2]
noncomputable def f59_v10 (x0 x1 : D) (t : (D) × Option (D)) : Vars := (optV (f59_w11 x0 x1 t.1) (fun u : D => [im "found" u]) t.2)
noncomputable def f59_p13 : List Stmt := (bV (sAt f59_p2 0))
noncomputable def f59_w14 (x0 x1 x2 x3 : D) : Vars := [im "t" x0, im "letter" x1, im "many" x2, im "found" x3]
theorem f59_e15_f : ∃ (p1 p2 p3 p4 p5 p6 p7 p8 p9 p10 p11 p12 p13 p14 : Pos) (kk : Nat), (sAt f59_p13 0) = .Try [.Assign [.Name (nm "found") p12] (asgOf (sAt (tryBody (sAt f59_p13 0)) 0)) p1, .If (ifTest (sAt (tryBody (sAt f59_p13 0)) 1)) [.Return (some (retOf (sAt (bV (sAt (tryBody (sAt f59_p13 0)) 1)) 0))) p13] [] p14] (clause (nm "CasFail") (nm "e") (nm "e") (nm "kind") (nm "e") (nm "limit") p2 p3 p4 p5 p6 p7 p8 p9 p10 kk) [] [] p11 := ⟨_, _, _, _, _, _, _, _, _, _, _, _, _, _, _, rfl⟩
theorem f59_e15 (c : Nat → TF) (x0 x1 x2 x3 : D) (κ : KR) : f59_s c 39 (sAt f59_p13 0) (f59_w14 x0 x1 x2 x3) κ = f59_u4 c x0 x1 x2 (κ (f59_w14 x0 x1 x2 x3)) (fun d => κ (f59_w14 x0 x1 x2 d)) := by
 obtain ⟨p1, p2, p3, p4, p5, p6, p7, p8, p9, p10, p11, p12, p13, p14, kk, h⟩ := f59_e15_f
 exact Eq.trans (try_if κ h (by kernel_rfl) (by kernel_rfl)) (by kernel_rfl)
theorem f59_e12 (c : Nat → TF) (x0 x1 x2 x3 : D) (κ : KR) : seqK (f59_s c 39) f59_p13 (f59_w14 x0 x1 x2 x3) κ = (f59_b5 c x0 x1 x2 (some x3) (fun t => κ (f59_v10 x0 x1 t))) :=
 Eq.trans (by kernel_rfl) (f59_e15 c x0 x1 x2 x3 κ)
theorem f59_e17_f : ∃ (p1 p2 p3 p4 p5 p6 p7 p8 p9 p10 p11 p12 p13 p14 : Pos) (kk : Nat), (sAt f59_p13 0) = .Try [.Assign [.Name (nm "found") p12] (asgOf (sAt (tryBody (sAt f59_p13 0)) 0)) p1, .If (ifTest (sAt (tryBody (sAt f59_p13 0)) 1)) [.Return (some (retOf (sAt (bV (sAt (tryBody (sAt f59_p13 0)) 1)) 0))) p13] [] p14] (clause (nm "CasFail") (nm "e") (nm "e") (nm "kind") (nm "e") (nm "limit") p2 p3 p4 p5 p6 p7 p8 p9 p10 kk) [] [] p11 := ⟨_, _, _, _, _, _, _, _, _, _, _, _, _, _, _, rfl⟩
theorem f59_e17 (c : Nat → TF) (x0 x1 x2 : D) (κ : KR) : f59_s c 39 (sAt f59_p13 0) (f59_w11 x0 x1 x2) κ = f59_u4 c x0 x1 x2 (κ (f59_w11 x0 x1 x2)) (fun d => κ (f59_w14 x0 x1 x2 d)) := by
 obtain ⟨p1, p2, p3, p4, p5, p6, p7, p8, p9, p10, p11, p12, p13, p14, kk, h⟩ := f59_e17_f
 exact Eq.trans (try_if κ h (by kernel_rfl) (by kernel_rfl)) (by kernel_rfl)
theorem f59_e16 (c : Nat → TF) (x0 x1 x2 : D) (κ : KR) : seqK (f59_s c 39) f59_p13 (f59_w11 x0 x1 x2) κ = (f59_b5 c x0 x1 x2 none (fun t => κ (f59_v10 x0 x1 t))) :=
 Eq.trans (by kernel_rfl) (f59_e17 c x0 x1 x2 κ)
theorem f59_e9 (c : Nat → TF) (x0 x1 : D) (κ : KR) : f59_s c 40 (sAt f59_p2 0) (f59_w3 x0 x1) κ = f59_u6 c x0 x1 (κ (f59_w3 x0 x1)) (fun t => κ (f59_v10 x0 x1 t)) :=
 for_at (sAt f59_p2 0) (nm "many") κ (by kernel_rfl) (fun d κ => f59_e16 c x0 x1 d κ) (fun t d κ => match t with | (s, none) => f59_e16 c x0 x1 d κ | (s, some u) => f59_e12 c x0 x1 d u κ)
theorem f59_e19 (c : Nat → TF) (x0 x1 x2 x3 : D) : seqK (f59_s c 40) (f59_p2.drop 1) (f59_w14 x0 x1 x2 x3) kEnd = (f59_b7 c x0 x1 x2) := by kernel_rfl
theorem f59_e20 (c : Nat → TF) (x0 x1 x2 : D) : seqK (f59_s c 40) (f59_p2.drop 1) (f59_w11 x0 x1 x2) kEnd = (f59_b7 c x0 x1 x2) := by kernel_rfl
theorem f59_e18 (c : Nat → TF) (x0 x1 x2 : D) (xo : Option (D)) : seqK (f59_s c 40) (f59_p2.drop 1) (optV (f59_w11 x0 x1 x2) (fun u : D => [im "found" u]) xo) kEnd = (f59_b7 c x0 x1 x2) := by
 cases xo with
 | none => exact f59_e20 c x0 x1 x2
 | some u => exact f59_e19 c x0 x1 x2 u
theorem f59_e21 (c : Nat → TF) (x0 x1 : D) : seqK (f59_s c 40) (f59_p2.drop 1) (f59_w3 x0 x1) kEnd = (f59_b7 c x0 x1 .none) := by kernel_rfl
theorem f59_e1 (c : Nat → TF) (x0 x1 : D) : seqK (f59_s c 40) f59_p2 (f59_w3 x0 x1) kEnd = (f59_b8 c x0 x1) :=
 Eq.trans (by kernel_rfl) ((f59_e9 c x0 x1 (fun vs => seqK (f59_s c 40) (f59_p2.drop 1) vs kEnd)).trans (congr (congrArg (f59_u6 c x0 x1) (f59_e21 c x0 x1)) (funext fun t => f59_e18 c x0 x1 t.1 t.2)))
noncomputable abbrev begun_series_R (c0 c1 : TF) (x0 x1 : D) : MR D := f59_b8 (cs [c0, c1]) x0 x1
theorem begun_series_eq (c0 c1 : TF) (x0 x1 : D) : runFn (cxT aJ [(nm "ltrim", c0), (nm "of_term", c1)]) 2000 40 (fnO (nm "begun_series")) [x0, x1] = begun_series_R c0 c1 x0 x1 :=
 (aV (vs := [im "t" x0, im "letter" x1]) (by kernel_rfl)).trans (f59_e1 (cs [c0, c1]) x0 x1)
noncomputable def limit_near_R (c0 c1 c2 : TF) (x0 x1 x2 x3 : D) : MR D :=
 (ifR (cmpR .NotEq (rt x3) (rt (.int 0))) (bnd (ifR (cmpR .Gt (rt x3) (rt (.int 0))) (rt gR1) (tupR [(negR (rt (.int 1))), (rt (.int 1))])) fun v0 => (bnd (mR [(bnd (mR [(rt x0), (tupR [(rt x1), (tupR [(rt (.int 0)), (lstR [(rt x2), (rt v0)])])])]) c2), (rt (.int 1))]) c0)) (bnd (tupR [(bnd (mR [(rt x0), (rt x1), (rt x2), (rt (.int 1))]) c1), (bnd (mR [(rt x0), (rt x1), (rt x2), (negR (rt (.int 1)))]) c1)]) fun v1 => unT v1 fun l2 => (unC l2 fun v3 l4 => (unC l4 fun v5 l6 => (unE l6 (ifR (cmpR .Eq (rt v3) (rt v5)) (rt v3) (rt .none)))))))
theorem limit_near_eq (c0 c1 c2 : TF) (x0 x1 x2 x3 : D) : runFn (cxT aJ [(nm "from_begin", c0), (nm "limit_near", c1), (nm "begun_series", c2)]) 2000 40 (fnO (nm "limit_near")) [x0, x1, x2, x3] = limit_near_R c0 c1 c2 x0 x1 x2 x3 :=
 (aV (vs := [im "t" x0, im "name" x1, im "at" x2, im "side" x3]) (by kernel_rfl)).trans (by kernel_rfl)
noncomputable def mirrored_R (c0 : TF) (x0 x1 : D) : MR D :=
 (ifR (cmpR .Eq (subR (rt x0) (ri 0)) (rs "sym")) (ifR (cmpR .Eq (subR (rt x0) (ri 1)) (rt x1)) (tupR [(rs "prod"), (tupR [(tupR [(rs "num"), (negR (ri 1)), (ri 1)]), (rt x0)])]) (rt x0)) (ifR (cmpR .In (subR (rt x0) (ri 0)) (tupR [(rs "sum"), (rs "prod")])) (tupR [(subR (rt x0) (ri 0)), (blR tupleB [(bnd (itR (subR (rt x0) (ri 1))) (compF (fun v0 => (rt true)) (fun v0 => (bnd (mR [(rt v0), (rt x1)]) c0))))])]) (ifR (cmpR .Eq (subR (rt x0) (ri 0)) (rs "pow")) (tupR [(rs "pow"), (bnd (mR [(subR (rt x0) (ri 1)), (rt x1)]) c0), (bnd (mR [(subR (rt x0) (ri 2)), (rt x1)]) c0)]) (ifR (cmpR .Eq (subR (rt x0) (ri 0)) (rs "call")) (tupR [(rs "call"), (subR (rt x0) (ri 1)), (blR tupleB [(bnd (itR (subR (rt x0) (ri 2))) (compF (fun v1 => (rt true)) (fun v1 => (bnd (mR [(rt v1), (rt x1)]) c0))))])]) (rt x0)))))
theorem mirrored_eq (c0 : TF) (x0 x1 : D) : runFn (cxT aJ [(nm "mirrored", c0)]) 2000 40 (fnO (nm "mirrored")) [x0, x1] = mirrored_R c0 x0 x1 :=
 (aV (vs := [im "t" x0, im "name" x1]) (by kernel_rfl)).trans (by kernel_rfl)
noncomputable abbrev f62_s (c : Nat → TF) (n : Nat) : Stmt → Vars → KR → MR D := exSK (cxT aJ [(nm "from_begin", (c 0)), (nm "far_limit", (c 1)), (nm "begun_series", (c 2)), (nm "growth_of", (c 3)), (nm "mirrored", (c 4))]) 2000 (fnO (nm "limit_far")).names n
noncomputable def f62_p2 : List Stmt := (fnO (nm "limit_far")).body
noncomputable def f62_w3 (x0 x1 x2 : D) : Vars := [im "t" x0, im "name" x1, im "is_above" x2]
noncomputable def f62_u4 (c : Nat → TF) (x0 x1 x2 : D) (K0 : MR D) : MR D :=
 tryR (bnd (mR [(bnd (mR [(ifR (asBool (rt x2)) (rt x0) (bnd (mR [(rt x0), (rt x1)]) (c 4))), (rt x1)]) (c 3))]) (c 1)) (nm "domain") K0 fun d => rt d
noncomputable def f62_b5 (c : Nat → TF) (x0 x1 x2 : D) : MR D :=
 (bnd (ifR (asBool (rt x2)) (rt gR1) (tupR [(negR (rt (.int 1))), (rt (.int 1))])) fun v1 => (bnd (mR [(bnd (mR [(rt x0), (tupR [(rt x1), (tupR [(negR (rt (.int 1))), (lstR [(rt v1)])])])]) (c 2)), (rt (.int 1))]) (c 0)))
noncomputable def f62_b6 (c : Nat → TF) (x0 x1 x2 : D) : MR D :=
 (f62_u4 c x0 x1 x2 (f62_b5 c x0 x1 x2))
theorem f62_e7_f : ∃ (p1 p2 p3 p4 p5 p6 p7 p8 p9 p10 p11 : Pos) (kk : Nat), (sAt f62_p2 0) = .Try [.Return (some (retOf (sAt (tryBody (sAt f62_p2 0)) 0))) p1] (clause (nm "CasFail") (nm "e") (nm "e") (nm "kind") (nm "e") (nm "domain") p2 p3 p4 p5 p6 p7 p8 p9 p10 kk) [] [] p11 := ⟨_, _, _, _, _, _, _, _, _, _, _, _, rfl⟩
theorem f62_e7 (c : Nat → TF) (x0 x1 x2 : D) (κ : KR) : f62_s c 40 (sAt f62_p2 0) (f62_w3 x0 x1 x2) κ = f62_u4 c x0 x1 x2 (κ (f62_w3 x0 x1 x2)) := by
 obtain ⟨p1, p2, p3, p4, p5, p6, p7, p8, p9, p10, p11, kk, h⟩ := f62_e7_f
 exact Eq.trans (try_ret κ h (by kernel_rfl)) (by kernel_rfl)
theorem f62_e8 (c : Nat → TF) (x0 x1 x2 : D) : seqK (f62_s c 40) (f62_p2.drop 1) (f62_w3 x0 x1 x2) kEnd = (f62_b5 c x0 x1 x2) := by kernel_rfl
theorem f62_e1 (c : Nat → TF) (x0 x1 x2 : D) : seqK (f62_s c 40) f62_p2 (f62_w3 x0 x1 x2) kEnd = (f62_b6 c x0 x1 x2) :=
 Eq.trans (by kernel_rfl) ((f62_e7 c x0 x1 x2 (fun vs => seqK (f62_s c 40) (f62_p2.drop 1) vs kEnd)).trans (congrArg (f62_u4 c x0 x1 x2) (f62_e8 c x0 x1 x2)))
noncomputable abbrev limit_far_R (c0 c1 c2 c3 c4 : TF) (x0 x1 x2 : D) : MR D := f62_b6 (cs [c0, c1, c2, c3, c4]) x0 x1 x2
theorem limit_far_eq (c0 c1 c2 c3 c4 : TF) (x0 x1 x2 : D) : runFn (cxT aJ [(nm "from_begin", c0), (nm "far_limit", c1), (nm "begun_series", c2), (nm "growth_of", c3), (nm "mirrored", c4)]) 2000 40 (fnO (nm "limit_far")) [x0, x1, x2] = limit_far_R c0 c1 c2 c3 c4 x0 x1 x2 :=
 (aV (vs := [im "t" x0, im "name" x1, im "is_above" x2]) (by kernel_rfl)).trans (f62_e1 (cs [c0, c1, c2, c3, c4]) x0 x1 x2)
noncomputable def limit_R (c0 c1 : TF) (x0 x1 x2 x3 : D) : MR D :=
 (ifR (orR (cmpR .Eq (rt x2) (rt gFAR)) (cmpR .Eq (rt x2) (rt gLOW))) (bnd (mR [(rt x0), (rt x1), (cmpR .Eq (rt x2) (rt gFAR))]) c1) (bnd (mR [(rt x0), (rt x1), (rt x2), (rt x3)]) c0))
theorem limit_eq (c0 c1 : TF) (x0 x1 x2 x3 : D) : runFn (cxT aJ [(nm "limit_near", c0), (nm "limit_far", c1)]) 2000 40 (fnO (nm "limit")) [x0, x1, x2, x3] = limit_R c0 c1 x0 x1 x2 x3 :=
 (aV (vs := [im "t" x0, im "name" x1, im "at" x2, im "side" x3]) (by kernel_rfl)).trans (by kernel_rfl)
noncomputable def law_drawn_R (x0 x1 x2 : D) : MR D :=
 (bopR .Mod (ifR (cmpR .Lt (rt x1) (lenR (rt x0))) (subR (rt x0) (rt x1)) (bopR .Add (bopR .Mult (rt (.int 3)) (rt x1)) (rt (.int 1)))) (rt x2))
theorem law_drawn_eq (x0 x1 x2 : D) : runFn (cxT aJ []) 2000 40 (fnO (nm "_law_drawn")) [x0, x1, x2] = law_drawn_R x0 x1 x2 :=
 (aV (vs := [im "script" x0, im "at" x1, im "many" x2]) (by kernel_rfl)).trans (by kernel_rfl)
noncomputable abbrev f65_s (n : Nat) : Stmt → Vars → KR → MR D := exSK (cxT aJ []) 2000 (fnO (nm "_law_ratio")).names n
noncomputable def f65_p2 : List Stmt := (fnO (nm "_law_ratio")).body
noncomputable def f65_b3 (x0 x1 x2 x3 : D) (k : D × D → MR D) : MR D :=
 (bnd (tupR [(rt x3), (bopR .Mod (rt x2) (rt x3))]) fun v1 => unT v1 fun l2 => (unC l2 fun v3 l4 => (unC l4 fun v5 l6 => (unE l6 (k (v3, v5))))))
noncomputable def f65_u4 (x0 x1 x2 x3 : D) (K : D × D → MR D) : MR D :=
 loopW (fun t => (cmpR .Gt (rt t.2) (rt (.int 0)))) (fun t k => (f65_b3 x0 x1 t.1 t.2 k)) K 2000 (x2, x3)
noncomputable def f65_b5 (x0 x1 x2 x3 : D) : MR D :=
 (bnd (ifR (cmpR .Gt (rt x1) (rt (.int 0))) (rt x2) (bopR .Sub (rt (.int 0)) (rt x2))) fun v1 => (tupR [(bopR .FloorDiv (rt x0) (rt v1)), (bopR .FloorDiv (rt x1) (rt v1))]))
noncomputable def f65_b6c (x0 x1 : D) (L0 : D → D → D → D → MR D) : MR D :=
 (bnd (tupR [(blR absB [(rt x0)]), (blR absB [(rt x1)])]) fun v1 => unT v1 fun l2 => (unC l2 fun v3 l4 => (unC l4 fun v5 l6 => (unE l6 (L0 x0 x1 v3 v5)))))
noncomputable def f65_b6 (x0 x1 : D) : MR D :=
 f65_b6c x0 x1 (fun y0 y1 y2 y3 => (f65_u4 y0 y1 y2 y3 fun t => (f65_b5 y0 y1 t.1 t.2)))
noncomputable def f65_w8 (x0 x1 x2 x3 : D) : Vars := [im "top" x0, im "bottom" x1, im "one" x2, im "other" x3]
noncomputable def f65_v9 (x0 x1 : D) (t : D × D) : Vars := (f65_w8 x0 x1 t.1 t.2)
theorem f65_e7 (x0 x1 x2 x3 : D) (κ : KR) : f65_s 40 (sAt f65_p2 1) (f65_w8 x0 x1 x2 x3) κ = f65_u4 x0 x1 x2 x3 (fun t => κ (f65_v9 x0 x1 t)) :=
 while_at (sAt f65_p2 1) (f65_v9 x0 x1) κ (by kernel_rfl) (fun t => by kernel_rfl) (fun t _ => by kernel_rfl) (x2, x3)
theorem f65_e10 (x0 x1 x2 x3 : D) : seqK (f65_s 40) (f65_p2.drop 2) (f65_w8 x0 x1 x2 x3) kEnd = (f65_b5 x0 x1 x2 x3) := by kernel_rfl
theorem f65_e1 (x0 x1 : D) : seqK (f65_s 40) f65_p2 [im "top" x0, im "bottom" x1] kEnd = (f65_b6 x0 x1) :=
 have h := congrArg (f65_b6c x0 x1) (fx4 fun y0 y1 y2 y3 => (f65_e7 y0 y1 y2 y3 (fun vs => seqK (f65_s 40) (f65_p2.drop 2) vs kEnd)).trans (congrArg (f65_u4 y0 y1 y2 y3) (funext fun t => f65_e10 y0 y1 t.1 t.2)))
 Eq.trans (by kernel_rfl) h
noncomputable abbrev law_ratio_R (x0 x1 : D) : MR D := f65_b6 x0 x1
theorem law_ratio_eq (x0 x1 : D) : runFn (cxT aJ []) 2000 40 (fnO (nm "_law_ratio")) [x0, x1] = law_ratio_R x0 x1 :=
 (aV (vs := [im "top" x0, im "bottom" x1]) (by kernel_rfl)).trans (f65_e1 x0 x1)
noncomputable def law_num_R (x0 : D) : MR D :=
 (tupR [(rt (.str (nm "num"))), (rt x0), (rt (.int 1))])
theorem law_num_eq (x0 : D) : runFn (cxT aJ []) 2000 40 (fnO (nm "_law_num")) [x0] = law_num_R x0 :=
 (aV (vs := [im "number" x0]) (by kernel_rfl)).trans (by kernel_rfl)
noncomputable def law_first_R (c0 : TF) (x0 x1 x2 : D) : MR D :=
 (bnd (tupR [(tupR [(rt (.str (nm "prod"))), (tupR [(bnd (mR [(rt x1)]) c0), (rt x2)])]), (tupR [(rt (.str (nm "pow"))), (rt x2), (bnd (mR [(negR (rt (.int 1)))]) c0)])]) fun v0 => unT v0 fun l1 => (unC l1 fun v2 l3 => (unC l3 fun v4 l5 => (unE l5 (ifR (cmpR .Eq (rt x0) (rt (.int 3))) (tupR [(tupR [(rt (.str (nm "call"))), (rt (.str (nm "exp"))), (tupR [(rt v2)])]), (rt (.int 1))]) (ifR (cmpR .Eq (rt x0) (rt (.int 1))) (tupR [(tupR [(rt (.str (nm "prod"))), (tupR [(tupR [(rt (.str (nm "call"))), (rt (.str (nm "sin"))), (tupR [(rt v2)])]), (rt v4)])]), (rt x1)]) (ifR (cmpR .Eq (rt x0) (rt (.int 2))) (tupR [(tupR [(rt (.str (nm "prod"))), (tupR [(tupR [(rt (.str (nm "call"))), (rt (.str (nm "log"))), (tupR [(tupR [(rt (.str (nm "sum"))), (tupR [(bnd (mR [(rt (.int 1))]) c0), (rt v2)])])])]), (rt v4)])]), (rt x1)]) (tupR [(tupR [(rt (.str (nm "prod"))), (tupR [(tupR [(rt (.str (nm "sum"))), (tupR [(tupR [(rt (.str (nm "call"))), (rt (.str (nm "exp"))), (tupR [(rt v2)])]), (bnd (mR [(negR (rt (.int 1)))]) c0)])]), (rt v4)])]), (rt x1)]))))))))
theorem law_first_eq (c0 : TF) (x0 x1 x2 : D) : runFn (cxT aJ [(nm "_law_num", c0)]) 2000 40 (fnO (nm "_law_first")) [x0, x1, x2] = law_first_R c0 x0 x1 x2 :=
 (aV (vs := [im "form" x0, im "k" x1, im "u" x2]) (by kernel_rfl)).trans (by kernel_rfl)
noncomputable def law_second_R (c0 c1 : TF) (x0 x1 x2 x3 x4 : D) : MR D :=
 (ifR (cmpR .Eq (rt x0) (rt (.int 2))) (bnd (tupR [(rt (.str (nm "call"))), (rt (.str (nm "sqrt"))), (tupR [(tupR [(rt (.str (nm "pow"))), (rt x3), (bnd (mR [(rt (.int 2))]) c1)])])]) fun v0 => (tupR [(tupR [(rt (.str (nm "prod"))), (tupR [(bnd (mR [(rt x2)]) c1), (rt v0), (tupR [(rt (.str (nm "pow"))), (rt x3), (bnd (mR [(negR (rt (.int 1)))]) c1)])])]), (tupR [(bopR .Mult (rt x2) (rt x4)), (rt (.int 1))])])) (ifR (cmpR .Eq (rt x0) (rt (.int 0))) (tupR [(tupR [(rt (.str (nm "sum"))), (tupR [(bnd (mR [(rt x1)]) c1), (tupR [(rt (.str (nm "prod"))), (tupR [(bnd (mR [(rt x2)]) c1), (rt x3)])])])]), (tupR [(rt x1), (rt (.int 1))])]) (bnd (ifR (cmpR .NotEq (rt x1) (rt (.int 0))) (rt x1) (rt (.int 3))) fun v1 => (tupR [(tupR [(rt (.str (nm "pow"))), (tupR [(rt (.str (nm "sum"))), (tupR [(bnd (mR [(rt v1)]) c1), (tupR [(rt (.str (nm "prod"))), (tupR [(bnd (mR [(rt x2)]) c1), (rt x3)])])])]), (bnd (mR [(negR (rt (.int 1)))]) c1)]), (bnd (mR [(rt (.int 1)), (rt v1)]) c0)]))))
theorem law_second_eq (c0 c1 : TF) (x0 x1 x2 x3 x4 : D) : runFn (cxT aJ [(nm "_law_ratio", c0), (nm "_law_num", c1)]) 2000 40 (fnO (nm "_law_second")) [x0, x1, x2, x3, x4] = law_second_R c0 c1 x0 x1 x2 x3 x4 :=
 (aV (vs := [im "form" x0, im "c" x1, im "m" x2, im "u" x3, im "side" x4]) (by kernel_rfl)).trans (by kernel_rfl)
noncomputable def law_R (c0 c1 c2 c3 c4 c5 : TF) (x0 : D) : MR D :=
 (bnd (subR (lstR [(rt (.int 1)), (negR (rt (.int 1)))]) (bnd (mR [(rt x0), (rt (.int 1)), (rt (.int 2))]) c2)) fun v0 => (bnd (tupR [(subR (lstR [(tupR [(rt (.int 0)), (rt (.int 1))]), (tupR [(rt (.int 2)), (rt (.int 1))]), (tupR [(negR (rt (.int 1))), (rt (.int 1))]), (tupR [(rt (.int 1)), (rt (.int 2))]), (rt .none)]) (bnd (mR [(rt x0), (rt (.int 0)), (rt (.int 5))]) c2)), (tupR [(rt (.str (nm "sym"))), (rt (.str (nm "x")))])]) fun v1 => unT v1 fun l2 => (unC l2 fun v3 l4 => (unC l4 fun v5 l6 => (unE l6 (bnd (ifR (cmpR .Is (rt v3) (rt .none)) (tupR [(rt (.str (nm "pow"))), (rt v5), (bnd (mR [(negR (rt (.int 1)))]) c4)]) (tupR [(rt (.str (nm "sum"))), (tupR [(rt v5), (tupR [(rt (.str (nm "num"))), (bopR .Sub (rt (.int 0)) (subR (rt v3) (rt (.int 0)))), (subR (rt v3) (rt (.int 1)))])])])) fun v7 => (bnd (ifR (cmpR .IsNot (rt v3) (rt .none)) (rt v3) (ifR (cmpR .Gt (rt v0) (rt (.int 0))) (rt (.str (nm "inf"))) (rt (.str (nm "-inf"))))) fun v8 => (bnd (bnd (mR [(bnd (mR [(rt x0), (rt (.int 2)), (rt (.int 4))]) c2), (subR (lstR [(rt (.int 1)), (rt (.int 2)), (rt (.int 3)), (negR (rt (.int 1))), (negR (rt (.int 2))), (negR (rt (.int 3)))]) (bnd (mR [(rt x0), (rt (.int 3)), (rt (.int 6))]) c2)), (rt v7)]) c0) fun v9 => unT v9 fun l10 => (unC l10 fun v11 l12 => (unC l12 fun v13 l14 => (unE l14 (bnd (tupR [(bnd (mR [(rt x0), (rt (.int 5)), (rt (.int 3))]) c2), (bopR .Sub (bnd (mR [(rt x0), (rt (.int 4)), (rt (.int 5))]) c2) (rt (.int 2))), (subR (lstR [(rt (.int 1)), (rt (.int 2)), (negR (rt (.int 1)))]) (bnd (mR [(rt x0), (rt (.int 6)), (rt (.int 3))]) c2))]) fun v15 => unT v15 fun l16 => (unC l16 fun v17 l18 => (unC l18 fun v19 l20 => (unC l20 fun v21 l22 => (unE l22 (bnd (bnd (mR [(rt v17), (rt v19), (rt v21), (rt v7), (rt v0)]) c1) fun v23 => unT v23 fun l24 => (unC l24 fun v25 l26 => (unC l26 fun v27 l28 => unS v27 fun l29 => (unC l29 fun v30 l31 => (unC l31 fun v32 l33 => (unE l33 (unE l28 (ifR (orR (cmpR .NotEq (bnd (mR [(rt v11), (rt (.str (nm "x"))), (rt v8), (rt v0)]) c3) (tupR [(rt v13), (rt (.int 1))])) (cmpR .NotEq (bnd (mR [(rt v25), (rt (.str (nm "x"))), (rt v8), (rt v0)]) c3) (tupR [(rt v30), (rt v32)]))) (rt (.bool false)) (bnd (bnd (mR [(rt x0), (rt (.int 7)), (rt (.int 4))]) c2) fun v34 => (ifR (cmpR .Eq (rt v34) (rt (.int 0))) (cmpR .Eq (bnd (mR [(tupR [(rt (.str (nm "sum"))), (tupR [(rt v11), (rt v25)])]), (rt (.str (nm "x"))), (rt v8), (rt v0)]) c3) (tupR [(bopR .Add (bopR .Mult (rt v13) (rt v32)) (rt v30)), (rt v32)])) (ifR (cmpR .Eq (rt v34) (rt (.int 1))) (cmpR .Eq (bnd (mR [(tupR [(rt (.str (nm "prod"))), (tupR [(rt v11), (rt v25)])]), (rt (.str (nm "x"))), (rt v8), (rt v0)]) c3) (bnd (mR [(bopR .Mult (rt v13) (rt v30)), (rt v32)]) c5)) (ifR (cmpR .Eq (rt v34) (rt (.int 2))) (bnd (ifR (cmpR .Eq (rt v30) (rt (.int 0))) (ifR (cmpR .Gt (bopR .Mult (bopR .Mult (rt v13) (rt v21)) (rt v0)) (rt (.int 0))) (rt (.str (nm "inf"))) (rt (.str (nm "-inf")))) (bnd (mR [(bopR .Mult (rt v13) (rt v32)), (rt v30)]) c5)) fun v35 => (cmpR .Eq (bnd (mR [(tupR [(rt (.str (nm "prod"))), (tupR [(rt v11), (tupR [(rt (.str (nm "pow"))), (rt v25), (bnd (mR [(negR (rt (.int 1)))]) c4)])])]), (rt (.str (nm "x"))), (rt v8), (rt v0)]) c3) (rt v35))) (bnd (subR (bnd (mR [(rt v17), (rt v19), (rt v21), (rt v7), (bopR .Sub (rt (.int 0)) (rt v0))]) c1) (rt (.int 1))) fun v36 => (ifR (cmpR .Is (rt v3) (rt .none)) (cmpR .Eq (bnd (mR [(rt v25), (rt (.str (nm "x"))), (ifR (cmpR .Gt (rt v0) (rt (.int 0))) (rt (.str (nm "-inf"))) (rt (.str (nm "inf")))), (rt v0)]) c3) (rt v36)) (cmpR .Eq (bnd (mR [(rt v25), (rt (.str (nm "x"))), (rt v3), (rt (.int 0))]) c3) (ifR (cmpR .Eq (rt v36) (tupR [(rt v30), (rt v32)])) (rt v36) (rt .none)))))))))))))))))))))))))))))))))
theorem law_eq (c0 c1 c2 c3 c4 c5 : TF) (x0 : D) : runFn (cxT aJ [(nm "_law_first", c0), (nm "_law_second", c1), (nm "_law_drawn", c2), (nm "limit", c3), (nm "_law_num", c4), (nm "_law_ratio", c5)]) 2000 40 (fnO (nm "law")) [x0] = law_R c0 c1 c2 c3 c4 c5 x0 :=
 (aV (vs := [im "script" x0]) (by kernel_rfl)).trans (by kernel_rfl)
noncomputable def gcT : D × D → MR D := (fun t7 : D × D => (cmpR .NotEq (rt t7.2) (rt (.int 0))))
noncomputable def gcB : D × D → (D × D → MR D) → MR D := (fun (t7 : D × D) (k11 : D × D → MR D) => (bnd (tupR [(rt t7.2), (bopR .Mod (rt t7.1) (rt t7.2))]) fun v12 => unT v12 fun l13 => (unC l13 fun v14 l15 => (unC l15 fun v16 l17 => (unE l17 (k11 (v14, v16)))))))
noncomputable def gcK : D × D → MR D := (fun t8 : D × D => (rt t8.1))
theorem gcd_fuel : ∀ (k n : Nat) (a b : Nat), b < 2 ^ k → 2 * k + 1 ≤ n → loopW gcT gcB gcK n (.int a, .int b) = rt (.int (Nat.gcd a b : Nat)) := by
 have step : ∀ (n a b : Nat), loopW gcT gcB gcK (n + 1) (.int a, .int b) =
   if b = 0 then rt (.int a) else loopW gcT gcB gcK n (.int b, .int (a % b : Nat)) := by
  intro n a b
  cases b with
  | zero => rfl
  | succ b =>
   rw [if_neg (Nat.succ_ne_zero b)]
   have e : (Int.ofNat a).fmod (Int.ofNat (b + 1)) = ((a % (b + 1) : Nat) : Int) := by
    cases a with
    | zero => simp
    | succ a => rfl
   show loopW _ _ _ n (PyData.int (Int.ofNat (b + 1)), PyData.int ((Int.ofNat a).fmod (Int.ofNat (b + 1)))) = _
   rw [e]
   rfl
 intro k
 induction k with
 | zero =>
  intro n a b hb hn
  obtain rfl : b = 0 := by simpa using hb
  obtain ⟨n, rfl⟩ : ∃ m, n = m + 1 := ⟨n - 1, by omega⟩
  rw [step, if_pos rfl, Nat.gcd_zero_right]
 | succ k ih =>
  intro n a b hb hn
  obtain ⟨n, rfl⟩ : ∃ m, n = m + 2 := ⟨n - 2, by omega⟩
  rw [step]
  by_cases h0 : b = 0
  ·rw [if_pos h0, h0, Nat.gcd_zero_right]
  ·rw [if_neg h0, step]
   have hg : Nat.gcd a b = Nat.gcd b (a % b) := by rw [Nat.gcd_comm, Nat.gcd_rec, Nat.gcd_comm]
   by_cases h1 : a % b = 0
   ·rw [if_pos h1, hg, h1, Nat.gcd_zero_right]
   ·rw [if_neg h1]
    have hr : a % b < b := Nat.mod_lt _ (Nat.pos_of_ne_zero h0)
    have hlt : b % (a % b) < 2 ^ k := by
     have h2 : 2 ^ (k + 1) = 2 * 2 ^ k := by rw [Nat.pow_succ, Nat.mul_comm]
     by_cases hh : a % b ≤ b / 2
     ·have := Nat.mod_lt b (Nat.pos_of_ne_zero h1)
      omega
     ·have e : b % (a % b) = b - a % b := by
       rw [Nat.mod_eq_sub_mod (Nat.le_of_lt hr), Nat.mod_eq_of_lt (by omega)]
      omega
    rw [ih n _ _ hlt (by omega), hg, Nat.gcd_comm b, Nat.gcd_rec (a % b) b, Nat.gcd_comm (b % (a % b))]
noncomputable def sm (x : Int) : Bool := Nat.blt x.natAbs 562949953421312
noncomputable def gcdF : TF := fun ds => match ds with
 | [x, y] => intM x fun a => intM y fun b => match Nat.blt b.natAbs (2 ^ 100) with
  | true => rt (.int (Int.ofNat (Nat.gcd a.natAbs b.natAbs)))
  | false => none
 | _ => none
theorem gcdF_ok : ∀ ds r, gcdF ds = some r → runFn (cxT aJ []) 2000 40 (fnO (nm "gcd")) ds = some r := by
 intro ds r h
 cases ds with
 | nil => exact nn h
 | cons x l => cases l with
  | nil => exact nn h
  | cons y l => cases l with
   | cons z l => exact nn h
   | nil =>
    obtain ⟨a, rfl, h1⟩ := intM_of h
    obtain ⟨b, rfl, h2⟩ := intM_of h1
    cases g : Nat.blt b.natAbs (2 ^ 100) with
    | false => rw [g] at h2; exact nn h2
    | true =>
     rw [g] at h2
     rw [gcd_eq]
     rw [← h2]
     refine Eq.trans (b := loopW gcT gcB gcK 2000 (PyData.int a.natAbs, PyData.int b.natAbs)) (by kernel_rfl) ?_
     exact gcd_fuel 100 2000 _ _ (lb g) (by decide)
noncomputable def ratF : TF := fun ds => match ds with
 | [.int t, .int b] => match Nat.blt b.natAbs (2 ^ 100) && !(b == 0) && Nat.blt (Nat.gcd t.natAbs b.natAbs) 1073741824 && Nat.blt 0 (Nat.gcd t.natAbs b.natAbs) with
  | true => match decide (0 < b) with
   | true => rt (.tuple [.int (t.fdiv (Int.ofNat (Nat.gcd t.natAbs b.natAbs))), .int (b.fdiv (Int.ofNat (Nat.gcd t.natAbs b.natAbs)))])
   | false => rt (.tuple [.int (t.fdiv (0 - Int.ofNat (Nat.gcd t.natAbs b.natAbs))), .int (b.fdiv (0 - Int.ofNat (Nat.gcd t.natAbs b.natAbs)))])
  | false => none
 | _ => none
theorem cmp_eq0 {b : Int} (h : (b == 0) = false) : cmp .Eq (.int b) (.int 0) = some (.bool false) := by
 have : PyData.eqv (.int b) (.int 0) = false := by
  have hb : b ≠ 0 := by simpa using h
  simp [PyData.eqv, hb]
 show (aG (noDict (.int b) && noDict (.int 0)) (some (PyData.eqv (.int b) (.int 0)))).map PyData.bool = _
 rw [this]
 rfl
theorem fdiv_op {t g : Int} (h1 : Nat.blt g.natAbs 1073741824 = true) (h2 : (g == 0) = false) : binop .FloorDiv (.int t) (.int g) = some (.int (t.fdiv g)) := by
 show aG (Nat.blt g.natAbs 1073741824 && !(g == 0)) _ = _
 rw [h1, h2]
 rfl
theorem ratF_ok : ∀ ds r, ratF ds = some r → runFn (cxT aJ [(nm "gcd", gcdF)]) 2000 40 (fnO (nm "rat")) ds = some r := by
 intro ds r h
 unfold ratF at h
 split at h
 ·rename_i t b
  split at h
  ·rename_i g
   obtain ⟨g, g4⟩ := ba g
   obtain ⟨g, g3⟩ := ba g
   obtain ⟨g1, g2⟩ := ba g
   have g2 : (b == 0) = false := by simpa using g2
   have hgc : gcdF [.int t, .int b] = rt (.int (Int.ofNat (Nat.gcd t.natAbs b.natAbs))) := by
    show (match Nat.blt b.natAbs (2 ^ 100) with | true => _ | false => none) = _
    rw [g1]
   rw [rat_eq]
   unfold rat_R
   have e1 : cmpR .Eq (rt (.int b)) (rt (.int 0)) = rt (.bool false) := by
    show ofO (cmp .Eq (.int b) (.int 0)) = _
    rw [cmp_eq0 g2]
    rfl
   have e2 : cmpR .Gt (rt (.int b)) (rt (.int 0)) = rt (.bool (decide (0 < b))) := rfl
   have e3 : bnd (mR [rt (.int t), rt (.int b)]) gcdF = rt (.int (Int.ofNat (Nat.gcd t.natAbs b.natAbs))) := hgc
   rw [e1, e2, e3]
   generalize hG : Nat.gcd t.natAbs b.natAbs = G at *
   have gp : 0 < G := lb g4
   show bnd (ifR (rt (.bool (decide (0 < b)))) (rt (.int (Int.ofNat G))) (bopR .Sub (rt (.int 0)) (rt (.int (Int.ofNat G))))) _ = _
   cases hd : decide (0 < b) with
   | true =>
    rw [hd] at h
    rw [← h]
    show bnd (mR [ofO (binop .FloorDiv (.int t) (.int (Int.ofNat G))), ofO (binop .FloorDiv (.int b) (.int (Int.ofNat G)))]) _ = _
    have k1 : Nat.blt (Int.ofNat G).natAbs 1073741824 = true := g3
    have k2 : ((Int.ofNat G) == 0) = false := by
     apply beq_eq_false_iff_ne.mpr
     intro q
     have : G = 0 := by simpa using q
     omega
    rw [fdiv_op k1 k2, fdiv_op k1 k2]
    rfl
   | false =>
    rw [hd] at h
    rw [← h]
    show bnd (mR [ofO (binop .FloorDiv (.int t) (.int (0 - Int.ofNat G))), ofO (binop .FloorDiv (.int b) (.int (0 - Int.ofNat G)))]) _ = _
    have k0 : (0 - Int.ofNat G).natAbs = G := by
     rw [Int.zero_sub, Int.natAbs_neg]; rfl
    have k1 : Nat.blt (0 - Int.ofNat G).natAbs 1073741824 = true := by rw [k0]; exact g3
    have k2 : ((0 - Int.ofNat G) == 0) = false := by
     apply beq_eq_false_iff_ne.mpr
     intro q
     rw [q] at k0
     have : G = 0 := k0.symm
     omega
    rw [fdiv_op k1 k2, fdiv_op k1 k2]
    rfl
  ·cases h
 ·cases h
theorem mulOk {a b : Int} (h : sm a = true) : binop .Mult (.int a) (.int b) = some (.int (a * b)) := by
 have : Nat.blt a.natAbs 18446744073709551616 = true := bl (Nat.le_trans (lb h) (by decide))
 show aG (Nat.blt a.natAbs 18446744073709551616) _ = _
 rw [this]
 rfl
noncomputable def rr (f : Int → Int → Int → Int → MR D) : TF := fun ds => match ds with
 | [x, y] => ratM x fun a b => ratM y fun c d => match sm a && sm b && sm c && sm d with
  | true => f a b c d
  | false => none
 | _ => none
inductive RrAt (f : Int → Int → Int → Int → MR D) (ds : List D) (r : XD) : Prop
 | mk (a b c d) : ds = [.tuple [.int a, .int b], .tuple [.int c, .int d]] → sm a = true → sm b = true → sm c = true → sm d = true → f a b c d = some r → RrAt f ds r
theorem rr_inv {f : Int → Int → Int → Int → MR D} {ds : List D} {r : XD} (h : rr f ds = some r) : RrAt f ds r := by
 cases ds with
 | nil => exact nn h
 | cons x l => cases l with
  | nil => exact nn h
  | cons y l => cases l with
   | cons z l => exact nn h
   | nil =>
    obtain ⟨a, b, rfl, h1⟩ := ratM_of h
    obtain ⟨c, d, rfl, h2⟩ := ratM_of h1
    cases g : sm a && sm b && sm c && sm d with
    | false => rw [g] at h2; exact nn h2
    | true =>
     rw [g] at h2
     obtain ⟨g, g4⟩ := ba g
     obtain ⟨g, g3⟩ := ba g
     obtain ⟨g1, g2⟩ := ba g
     exact ⟨a, b, c, d, rfl, g1, g2, g3, g4, h2⟩
noncomputable def raddF : TF := rr fun a b c d => ratF [.int (a * d + c * b), .int (b * d)]
noncomputable def rsubF : TF := rr fun a b c d => ratF [.int (a * d - c * b), .int (b * d)]
noncomputable def rmulF : TF := rr fun a b c d => ratF [.int (a * c), .int (b * d)]
noncomputable def rdivF : TF := rr fun a b c d => ratF [.int (a * d), .int (b * c)]
theorem raddF_ok : ∀ ds r, raddF ds = some r → runFn (cxT aJ [(nm "rat", ratF)]) 2000 40 (fnO (nm "radd")) ds = some r := by
 intro ds r h
 obtain ⟨a, b, c, d, rfl, g1, g2, g3, g4, h1⟩ := rr_inv h
 rw [radd_eq, ← h1]
 show bnd (mR [bnd (ofO (binop .Mult (.int a) (.int d))) fun v => bnd (ofO (binop .Mult (.int c) (.int b))) fun w => ofO (binop .Add v w), ofO (binop .Mult (.int b) (.int d))]) ratF = _
 rw [mulOk g1, mulOk g3, mulOk g2]
 rfl
theorem rsubF_ok : ∀ ds r, rsubF ds = some r → runFn (cxT aJ [(nm "rat", ratF)]) 2000 40 (fnO (nm "rsub")) ds = some r := by
 intro ds r h
 obtain ⟨a, b, c, d, rfl, g1, g2, g3, g4, h1⟩ := rr_inv h
 rw [rsub_eq, ← h1]
 show bnd (mR [bnd (ofO (binop .Mult (.int a) (.int d))) fun v => bnd (ofO (binop .Mult (.int c) (.int b))) fun w => ofO (binop .Sub v w), ofO (binop .Mult (.int b) (.int d))]) ratF = _
 rw [mulOk g1, mulOk g3, mulOk g2]
 rfl
theorem rmulF_ok : ∀ ds r, rmulF ds = some r → runFn (cxT aJ [(nm "rat", ratF)]) 2000 40 (fnO (nm "rmul")) ds = some r := by
 intro ds r h
 obtain ⟨a, b, c, d, rfl, g1, g2, g3, g4, h1⟩ := rr_inv h
 rw [rmul_eq, ← h1]
 show bnd (mR [ofO (binop .Mult (.int a) (.int c)), ofO (binop .Mult (.int b) (.int d))]) ratF = _
 rw [mulOk g1, mulOk g2]
 rfl
theorem rdivF_ok : ∀ ds r, rdivF ds = some r → runFn (cxT aJ [(nm "rat", ratF)]) 2000 40 (fnO (nm "rdiv")) ds = some r := by
 intro ds r h
 obtain ⟨a, b, c, d, rfl, g1, g2, g3, g4, h1⟩ := rr_inv h
 rw [rdiv_eq, ← h1]
 show bnd (mR [ofO (binop .Mult (.int a) (.int d)), ofO (binop .Mult (.int b) (.int c))]) ratF = _
 rw [mulOk g1, mulOk g2]
 rfl
noncomputable def vastF : TF := fun ds => match ds with
 | [x] => ratM x fun a b => match sm a && sm b with
  | true => rt (.bool false)
  | false => none
 | _ => none
theorem vastF_ok (c_bits : TF) : ∀ ds r, vastF ds = some r → runFn (cxT aJ [(nm "bits_of", c_bits)]) 2000 40 (fnO (nm "is_vast")) ds = some r := by
 intro ds r h
 cases ds with
 | nil => exact nn h
 | cons x l => cases l with
  | cons y l => exact nn h
  | nil =>
   obtain ⟨a, b, rfl, h1⟩ := ratM_of h
   cases g : sm a && sm b with
   | false => rw [g] at h1; exact nn h1
   | true =>
    rw [g] at h1
    obtain ⟨g1, g2⟩ := ba g
    rw [is_vast_eq, ← h1]
    unfold is_vast_R
    have e1 : blR maxB [blR absB [subR (rt (.tuple [.int a, .int b])) (rt (.int 0))], subR (rt (.tuple [.int a, .int b])) (rt (.int 1))] = rt (.int (if Int.ofNat a.natAbs < b then b else Int.ofNat a.natAbs)) := by kernel_rfl
    rw [e1]
    have lt : (if Int.ofNat a.natAbs < b then b else Int.ofNat a.natAbs) < 18446744073709551616 := by
     have h1 : a.natAbs < 562949953421312 := lb g1
     have h2 : b.natAbs < 562949953421312 := lb g2
     have e : Int.ofNat a.natAbs = (a.natAbs : Int) := rfl
     rw [e]
     split <;> omega
    generalize (if Int.ofNat a.natAbs < b then b else Int.ofNat a.natAbs) = m at lt
    have e2 : cmpR .GtE (rt (.int m)) (bopR .Pow (rt (.int 2)) (rt (.int 64))) = rt (.bool (decide ((18446744073709551616 : Int) ≤ m))) := by kernel_rfl
    show andR (cmpR .GtE (rt (.int m)) (bopR .Pow (rt (.int 2)) (rt (.int 64)))) _ = _
    rw [e2, decide_eq_false (by omega)]
    rfl
noncomputable def letF : TF := fun ds => match ds with
 | [x] => ratM x fun a b => match sm a && sm b with
  | true => rt (.tuple [.int a, .int b])
  | false => none
 | _ => none
theorem letF_ok : ∀ ds r, letF ds = some r → runFn (cxT aJ [(nm "is_vast", vastF)]) 2000 40 (fnO (nm "let")) ds = some r := by
 intro ds r h
 cases ds with
 | nil => exact nn h
 | cons x l => cases l with
  | cons y l => exact nn h
  | nil =>
   obtain ⟨a, b, rfl, h1⟩ := ratM_of h
   cases g : sm a && sm b with
   | false => rw [g] at h1; exact nn h1
   | true =>
    rw [g] at h1
    rw [let_eq, ← h1]
    unfold let_R
    have e : vastF [.tuple [.int a, .int b]] = rt (.bool false) := by
     show (match sm a && sm b with | true => rt (PyData.bool false) | false => none) = _
     rw [g]
    show ifR (asBool (vastF [.tuple [.int a, .int b]])) _ _ = _
    rw [e]
    rfl
noncomputable abbrev Q2 := Int × Int
noncomputable abbrev encQ (x : Q2) : D := .tuple [.int x.1, .int x.2]
noncomputable abbrev encL (l : List Q2) : D := .list (l.map encQ)
noncomputable def t3' (f : D → D → D → MR D) : TF := fun ds => match ds with
 | [a, b, c] => f a b c
 | _ => none
noncomputable def mixedP : TF := t3' (mixed_R raddF rmulF)
noncomputable def unQ (r : MR D) : Option Q2 := okM r fun d => ratM d fun a b => some (a, b)
theorem unQ_eq {r : MR D} {z : Q2} (h : unQ r = some z) : r = rt (encQ z) := by
 obtain ⟨d, rfl, h1⟩ := okM_of h
 obtain ⟨a, b, rfl, h2⟩ := ratM_of h1
 obtain rfl := si h2
 rfl
noncomputable def isZ (x : Q2) : Bool := x.1 == 0 && x.2 == 1
noncomputable def accQ (x y z : Q2) : Option Q2 := match isZ y || isZ z with
 | true => some x
 | false => match unQ (rmulF [encQ y, encQ z]) with
  | some p => unQ (raddF [encQ x, encQ p])
  | none => none
noncomputable def mixGo : List Q2 → List Q2 → Q2 → Option Q2
 | x :: A, y :: B, acc => match accQ acc x y with
  | some z => mixGo A B z
  | none => none
 | _, _, acc => some acc
noncomputable def mixQ (A B : List Q2) (n : Nat) : Option Q2 := match mixGo (A.take (n + 1)) (B.take (n + 1)).reverse (0, 1) with
 | some z => match sm z.1 && sm z.2 with
  | true => some z
  | false => none
 | none => none
noncomputable def mixAll (A B : List Q2) : Nat → Nat → Option (List Q2)
 | _, 0 => some []
 | i, m + 1 => match mixQ A B i with
  | some z => match mixAll A B (i + 1) m with
   | some r => some (z :: r)
   | none => none
  | none => none
noncomputable def decL : List D → Option (List Q2)
 | [] => some []
 | d :: r => ratM d fun a b => (decL r).bind fun l => some ((a, b) :: l)
theorem decL_eq : ∀ {l : List D} {A : List Q2}, decL l = some A → l = A.map encQ
 | [], A, h => by obtain rfl := si h; rfl
 | d :: r, A, h => by
  obtain ⟨a, b, rfl, h1⟩ := ratM_of h
  obtain ⟨l, h2, h3⟩ := obi h1
  obtain rfl := si h3
  rw [decL_eq h2]
  rfl
noncomputable def smulF : TF := fun ds => match ds with
 | [x, y] => (asL x).bind fun a => (asL y).bind fun b => (decL a).bind fun A => (decL b).bind fun B => match Nat.ble A.length 900 && Nat.ble B.length 900 with
  | true => (mixAll A B 0 (if B.length < A.length then B.length else A.length)).bind fun C => rt (encL C)
  | false => none
 | _ => none
theorem cmpNe0 (x : Q2) : cmp .NotEq (encQ x) gR0 = some (.bool (!(isZ x))) := by
 have : PyData.eqv (encQ x) gR0 = isZ x := by
  unfold isZ gR0 encQ
  simp only [PyData.eqv, PyData.eqvAll, Bool.and_true]
 show (aG (noDict (encQ x) && noDict gR0) (some (PyData.eqv (encQ x) gR0))).map (fun z => PyData.bool (!z)) = _
 rw [this]
 rfl
theorem item_enc {A : List Q2} {s : Nat} {x : Q2} (h : A[s]? = some x) (hs : s < 1000) : item (encL A) (.int (Int.ofNat s)) = some (encQ x) := by
 show aG (decide ((0 : Int) ≤ Int.ofNat s) && decide (Int.ofNat s < 1000)) ((A.map encQ)[(Int.ofNat s).toNat]?) = _
 rw [decide_eq_true (show (0 : Int) ≤ Int.ofNat s from Int.natCast_nonneg s), decide_eq_true (show Int.ofNat s < 1000 from Int.ofNat_lt.mpr hs)]
 show (A.map encQ)[s]? = _
 rw [List.getElem?_map, h]
 rfl
noncomputable def mixB (a b at' : D) (t2 : D × D) (d4 : D) (k6 : D × D → MR D) : MR D := (ifR (andR (cmpR .NotEq (subR (rt a) (rt d4)) (rt gR0)) (cmpR .NotEq (subR (rt b) (bopR .Sub (rt at') (rt d4))) (rt gR0))) (bnd (bnd (mR [(rt t2.1), (bnd (mR [(subR (rt a) (rt d4)), (subR (rt b) (bopR .Sub (rt at') (rt d4)))]) rmulF)]) raddF) fun v9 => (k6 (v9, d4))) (k6 (t2.1, d4)))
theorem mix_step {A B : List Q2} {n s : Nat} {x y acc z : Q2} {d : D} {k : D × D → MR D} (hx : A[s]? = some x) (hy : B[n - s]? = some y) (hs : s ≤ n) (hn : n < 1000) (h : accQ acc x y = some z) :
  mixB (encL A) (encL B) (.int (Int.ofNat n)) (encQ acc, d) (.int (Int.ofNat s)) k = k (encQ z, .int (Int.ofNat s)) := by
 have i1 : subR (rt (encL A)) (rt (.int (Int.ofNat s))) = rt (encQ x) := by
  show ofO (item (encL A) (.int (Int.ofNat s))) = _
  rw [item_enc hx (by omega)]
  rfl
 have i2 : subR (rt (encL B)) (bopR .Sub (rt (.int (Int.ofNat n))) (rt (.int (Int.ofNat s)))) = rt (encQ y) := by
  show ofO (item (encL B) (.int (Int.ofNat n - Int.ofNat s))) = _
  have e : Int.ofNat n - Int.ofNat s = Int.ofNat (n - s) := (Int.ofNat_sub hs).symm
  rw [e, item_enc hy (by omega)]
  rfl
 unfold mixB
 rw [i1, i2]
 show ifR (andR (ofO (cmp .NotEq (encQ x) gR0)) (ofO (cmp .NotEq (encQ y) gR0))) _ _ = _
 rw [cmpNe0, cmpNe0]
 unfold accQ at h
 cases hzx : isZ x with
 | true =>
  rw [hzx, Bool.true_or] at h
  cases h
  rfl
 | false =>
  cases hzy : isZ y with
  | true =>
   rw [hzx, hzy] at h
   cases h
   rfl
  | false =>
   rw [hzx, hzy] at h
   have h : (match unQ (rmulF [encQ x, encQ y]) with | some p => unQ (raddF [encQ acc, encQ p]) | none => none) = some z := h
   split at h
   ·rename_i p hp
    have hp := unQ_eq hp
    have hz := unQ_eq h
    show bnd (bnd (mR [rt (encQ acc), rmulF [encQ x, encQ y]]) raddF) _ = _
    rw [hp]
    show bnd (raddF [encQ acc, encQ p]) _ = _
    rw [hz]
    rfl
   ·cases h
theorem mix_loop {A B : List Q2} {n : Nat} (hn : n < 1000) (hA : n < A.length) (hB : n < B.length) (κ : D × D → MR D) : ∀ (m s : Nat) (acc z : Q2) (d : D), s + m = n + 1 → mixGo ((A.take (n + 1)).drop s) ((B.take (n + 1)).reverse.drop s) acc = some z →
  ∃ d', loopG (mixB (encL A) (encL B) (.int (Int.ofNat n))) κ (intsD (upto (Int.ofNat s) m)) (encQ acc, d) = κ (encQ z, d')
 | 0, s, acc, z, d, hs, h => by
  have h1 : (A.take (n + 1)).drop s = [] := List.drop_eq_nil_of_le (by simp; omega)
  rw [h1] at h
  unfold mixGo at h
  cases h
  exact ⟨d, rfl⟩
 | m + 1, s, acc, z, d, hs, h => by
  have hlA : s < (A.take (n + 1)).length := by simp; omega
  have hlB : s < (B.take (n + 1)).reverse.length := by simp; omega
  rw [List.drop_eq_getElem_cons hlA, List.drop_eq_getElem_cons hlB] at h
  unfold mixGo at h
  split at h
  ·rename_i z1 hz1
   have eA : A[s]? = some ((A.take (n + 1))[s]'hlA) := by
    rw [List.getElem_take]
    exact List.getElem?_eq_getElem (by omega)
   have eB : B[n - s]? = some ((B.take (n + 1)).reverse[s]'hlB) := by
    rw [List.getElem_reverse, List.getElem_take]
    have : (B.take (n + 1)).length - 1 - s = n - s := by simp; omega
    rw [List.getElem?_eq_getElem (by omega)]
    congr 1
    simp only [this]
   obtain ⟨d', e⟩ := mix_loop hn hA hB κ m (s + 1) z1 z (.int (Int.ofNat s)) (by omega) h
   refine ⟨d', ?_⟩
   show mixB (encL A) (encL B) (.int (Int.ofNat n)) (encQ acc, d) (.int (Int.ofNat s)) (fun t' => loopG (mixB (encL A) (encL B) (.int (Int.ofNat n))) κ (intsD (upto (Int.ofNat s + 1) m)) t') = _
   rw [mix_step eA eB (by omega) hn hz1]
   exact e
  ·cases h
theorem mixed_ok {A B : List Q2} {n : Nat} {z : Q2} (hn : n < 900) (hA : n < A.length) (hB : n < B.length) (h : mixGo (A.take (n + 1)) (B.take (n + 1)).reverse (0, 1) = some z) : mixedP [encL A, encL B, .int (Int.ofNat n)] = rt (encQ z) := by
 have er : rngR [bopR .Add (rt (.int (Int.ofNat n))) (rt (.int 1))] = rt (intsD (upto 0 (n + 1))) := by
  show ofO (aG (decide (Int.ofNat n + 1 ≤ 1000) && decide ((-1000 : Int) ≤ Int.ofNat n + 1)) (some (intsD (upto 0 (Int.ofNat n + 1 - 0).toNat)))) = _
  have e1 : decide (Int.ofNat n + 1 ≤ 1000) = true := decide_eq_true (by have : Int.ofNat n = (n : Int) := rfl; omega)
  have e2 : decide ((-1000 : Int) ≤ Int.ofNat n + 1) = true := decide_eq_true (by have : Int.ofNat n = (n : Int) := rfl; omega)
  have e3 : (Int.ofNat n + 1 - 0).toNat = n + 1 := by have : Int.ofNat n = (n : Int) := rfl; omega
  rw [e1, e2, e3]
  rfl
 obtain ⟨d', e⟩ := mix_loop (A := A) (B := B) (by omega : n < 1000) hA hB (fun t3 => rt t3.1) (n + 1) 0 (0, 1) z (.int 0) (by omega) h
 show bnd (rngR [bopR .Add (rt (.int (Int.ofNat n))) (rt (.int 1))]) (fun l7 => forL l7 (rt gR0) fun d4 r5 => mixB (encL A) (encL B) (.int (Int.ofNat n)) (gR0, d4) d4 fun t2 => loopG (mixB (encL A) (encL B) (.int (Int.ofNat n))) (fun t3 => rt t3.1) r5 t2) = _
 rw [er]
 have hb : Nat.ble (intsD (upto 0 (n + 1))).length 1000 = true := by
  have len : ∀ (m : Nat) (a : Int), (upto a m).length = m := by
   intro m
   induction m with
   | zero => intro a; rfl
   | succ m ih => intro a; unfold upto; rw [List.length_cons, ih]
  have : (intsD (upto 0 (n + 1))).length = n + 1 := by unfold intsD; rw [List.length_map, len]
  rw [this]
  exact bl (by omega)
 have ef : forL (intsD (upto 0 (n + 1))) (rt gR0) (fun d4 r5 => mixB (encL A) (encL B) (.int (Int.ofNat n)) (gR0, d4) d4 fun t2 => loopG (mixB (encL A) (encL B) (.int (Int.ofNat n))) (fun t3 => rt t3.1) r5 t2) = loopG (mixB (encL A) (encL B) (.int (Int.ofNat n))) (fun t3 => rt t3.1) (intsD (upto 0 (n + 1))) (gR0, .int 0) := by
  show (match Nat.ble (intsD (upto 0 (n + 1))).length 1000 with | true => _ | false => none) = _
  rw [hb]
  rfl
 exact ef.trans e
theorem all_ok {A B : List Q2} : ∀ (m i : Nat) (C : List Q2), i + m ≤ A.length → i + m ≤ B.length → A.length ≤ 900 → mixAll A B i m = some C →
  compR (fun _ => rt true) (fun v1 => (bnd (mR [(bnd (mR [(rt (encL A)), (rt (encL B)), (rt v1)]) mixedP)]) letF)) (intsD (upto (Int.ofNat i) m)) = rt (C.map encQ)
 | 0, i, C, _, _, _, h => by
  unfold mixAll at h
  cases h
  rfl
 | m + 1, i, C, hA, hB, hl, h => by
  unfold mixAll at h
  split at h
  ·rename_i z hz
   split at h
   ·rename_i r hr
    cases h
    unfold mixQ at hz
    split at hz
    ·rename_i z' hz'
     split at hz
     ·rename_i g
      cases hz
      have e := mixed_ok (A := A) (B := B) (n := i) (by omega) (by omega) (by omega) hz'
      have el : letF [encQ z] = rt (encQ z) := by
       show (match sm z.1 && sm z.2 with | true => rt (encQ z) | false => none) = _
       rw [g]
      have ih := all_ok m (i + 1) r (by omega) (by omega) hl hr
      show bnd (bnd (mR [mixedP [encL A, encL B, .int (Int.ofNat i)]]) letF) (fun b => bnd (compR (fun _ => rt true) (fun v1 => (bnd (mR [(bnd (mR [(rt (encL A)), (rt (encL B)), (rt v1)]) mixedP)]) letF)) (intsD (upto (Int.ofNat i + 1) m))) fun bs => rt (b :: bs)) = _
      rw [e]
      show bnd (letF [encQ z]) _ = _
      rw [el]
      have ei : Int.ofNat i + 1 = Int.ofNat (i + 1) := rfl
      rw [ei, ih]
      rfl
     ·cases hz
    ·cases hz
   ·cases h
  ·cases h
theorem smulF_ok : ∀ ds r, smulF ds = some r → runFn (cxT aJ [(nm "let", letF), (nm "mixed", mixedP)]) 2000 40 (fnO (nm "smul")) ds = some r := by
 intro ds r h
 cases ds with
 | nil => exact nn h
 | cons x l => cases l with
  | nil => exact nn h
  | cons y l => cases l with
   | cons z l => exact nn h
   | nil =>
    obtain ⟨a, h1, h2⟩ := obi h
    obtain ⟨b, h3, h4⟩ := obi h2
    obtain ⟨A, hA, h5⟩ := obi h4
    obtain ⟨B, hB, h6⟩ := obi h5
    obtain rfl := asL_eq h1
    obtain rfl := asL_eq h3
    obtain rfl := decL_eq hA
    obtain rfl := decL_eq hB
    cases g : Nat.ble A.length 900 && Nat.ble B.length 900 with
    | false => rw [g] at h6; exact nn h6
    | true =>
     rw [g] at h6
     obtain ⟨g1, g2⟩ := ba g
     have g1 := lb g1
     have g2 := lb g2
     obtain ⟨C, hC, h7⟩ := obi h6
     rw [smul_eq, ← h7]
     unfold smul_R
     have dA : dlen (encL A) = some A.length := by
      show aG (Nat.ble (A.map encQ).length 10000) (some (A.map encQ).length) = _
      rw [List.length_map, bl (by omega)]
      rfl
     have dB : dlen (encL B) = some B.length := by
      show aG (Nat.ble (B.map encQ).length 10000) (some (B.map encQ).length) = _
      rw [List.length_map, bl (by omega)]
      rfl
     have eN : (if Int.ofNat B.length < Int.ofNat A.length then Int.ofNat B.length else Int.ofNat A.length) = Int.ofNat (if B.length < A.length then B.length else A.length) := by
      by_cases q : B.length < A.length
      ·rw [if_pos q]; exact if_pos (Int.ofNat_lt.mpr q)
      ·rw [if_neg q]; exact if_neg (fun z => q (Int.ofNat_lt.mp z))
     generalize hN : (if B.length < A.length then B.length else A.length) = N at hC eN
     have nA : N ≤ A.length := by rw [← hN]; split <;> omega
     have nB : N ≤ B.length := by rw [← hN]; split <;> omega
     have er : rngR [blR minB [lenR (rt (encL A)), lenR (rt (encL B))]] = rt (intsD (upto 0 N)) := by
      show bnd (bnd (bnd (mR [ofO ((dlen (encL A)).map intN), ofO ((dlen (encL B)).map intN)]) fun ds => ofO (minB ds)) fun b => bnd (rt []) fun bs => rt (b :: bs)) (fun ds => ofO (rangeD ds)) = _
      rw [dA, dB]
      show ofO (rangeD [.int (if Int.ofNat B.length < Int.ofNat A.length then Int.ofNat B.length else Int.ofNat A.length)]) = _
      rw [eN]
      show ofO (aG (decide (Int.ofNat N ≤ 1000) && decide ((-1000 : Int) ≤ Int.ofNat N)) (some (intsD (upto 0 (Int.ofNat N - 0).toNat)))) = _
      have e1 : decide (Int.ofNat N ≤ 1000) = true := decide_eq_true (by have : Int.ofNat N = (N : Int) := rfl; omega)
      have e2 : decide ((-1000 : Int) ≤ Int.ofNat N) = true := decide_eq_true (by have : Int.ofNat N = (N : Int) := rfl; omega)
      have e3 : (Int.ofNat N - 0).toNat = N := by have : Int.ofNat N = (N : Int) := rfl; omega
      rw [e1, e2, e3]
      rfl
     rw [er]
     show compF _ _ (intsD (upto 0 N)) = _
     have ha := all_ok (A := A) (B := B) N 0 C (by omega) (by omega) g1 hC
     cases N with
     | zero =>
      unfold mixAll at hC
      cases hC
      rfl
     | succ N =>
      have len : ∀ (m : Nat) (a : Int), (upto a m).length = m := by
       intro m
       induction m with
       | zero => intro a; rfl
       | succ m ih => intro a; unfold upto; rw [List.length_cons, ih]
      have hb : Nat.ble (intsD (upto 0 (N + 1))).length 1000 = true := by
       have : (intsD (upto 0 (N + 1))).length = N + 1 := by unfold intsD; rw [List.length_map, len]
       rw [this]
       exact bl (by omega)
      show (match Nat.ble (intsD (upto 0 (N + 1))).length 1000 with | false => none | true => _) = _
      rw [hb]
      show bnd (compR (fun _ => rt true) (fun v1 => (bnd (mR [(bnd (mR [(rt (encL A)), (rt (encL B)), (rt v1)]) mixedP)]) letF)) (intsD (upto (Int.ofNat 0) (N + 1)))) _ = _
      rw [ha]
      rfl
theorem mixedP_ok : ∀ ds r, mixedP ds = some r → runFn (cxT aJ [(nm "radd", raddF), (nm "rmul", rmulF)]) 2000 40 (fnO (nm "mixed")) ds = some r := fun ds r z => by
 unfold mixedP t3' at z
 split at z
 ·rw [mixed_eq]; exact z
 ·cases z
noncomputable def noF : TF := fun _ => none
noncomputable def t1 (f : D → MR D) : TF := fun ds => match ds with
 | [a] => f a
 | _ => none
noncomputable def t2 (f : D → D → MR D) : TF := fun ds => match ds with
 | [a, b] => f a b
 | _ => none
noncomputable def t3 (f : D → D → D → MR D) : TF := fun ds => match ds with
 | [a, b, c] => f a b c
 | _ => none
noncomputable def t4 (f : D → D → D → D → MR D) : TF := fun ds => match ds with
 | [a, b, c, d] => f a b c d
 | _ => none
noncomputable def t5 (f : D → D → D → D → D → MR D) : TF := fun ds => match ds with
 | [a, b, c, d, e] => f a b c d e
 | _ => none
noncomputable def ginsF : D → D → D → MR D := insR fun fn vs => seqS (exS ⟨callN 6, fun _ _ _ => none, globD⟩ 2000 fn.names 40) fn.body vs
noncomputable def rneg1 : TF := t1 (rneg_R)
noncomputable def rinv1 : TF := t1 (rinv_R ratF)
noncomputable def bits_of1 : TF := t1 (bits_of_R)
noncomputable def rpower1 : TF := t2 (rpower_R rinv1 bits_of1)
noncomputable def rcompare1 : TF := t2 (rcompare_R)
noncomputable def cut1 : TF := t2 (cut_R)
noncomputable def sadd1 : TF := t2 (sadd_R raddF)
noncomputable def sscale1 : TF := t2 (sscale_R rmulF)
noncomputable def sinverse1 : TF := t1 (sinverse_R rsubF letF rmulF rdivF)
noncomputable def sderive1 : TF := t1 (sderive_R rmulF)
noncomputable def sintegrate1 : TF := t1 (sintegrate_R rdivF)
noncomputable def bU : TF := t2 (need_begin_R rcompare1)
noncomputable def sexp1 : TF := t1 (sexp_R bU raddF rmulF letF rdivF)
noncomputable def slog1 : TF := t1 (slog_R bU sintegrate1 smulF sderive1 sinverse1)
noncomputable def ssin_cos1 : TF := t1 (ssin_cos_R bU rmulF raddF rsubF letF rdivF)
noncomputable def ssin1 : TF := t1 (ssin_R ssin_cos1)
noncomputable def spower1 : TF := t2 (spower_R bU rsubF raddF rmulF letF rdivF)
noncomputable def swhole_power1 : TF := t2 (swhole_power_R sinverse1 cut1 smulF)
noncomputable def lplain1 : TF := t2 (lplain_R)
noncomputable def ladd1 : TF := t2 (ladd_R sadd1)
noncomputable def lmul1 : TF := t2 (lmul_R smulF)
noncomputable def ltrim1 : TF := t1 (ltrim_R)
noncomputable def linverse1 : TF := t1 (linverse_R ltrim1 sinverse1)
noncomputable def lpowerN : Nat → TF
 | 0 => noF
 | n + 1 => t2 (lpower_R ltrim1 (lpowerN n) rpower1 sscale1 linverse1 swhole_power1 spower1 rdivF)
noncomputable def root_of1 : TF := callR 5 (nm "root_of")
noncomputable def exact_root1 : TF := t2 (exact_root_R root_of1)
noncomputable def from_zero1 : TF := t2 (from_zero_R ltrim1)
noncomputable def of_root1 : TF := t2 (of_root_R ltrim1 exact_root1 rpower1 rdivF sscale1 spower1)
noncomputable def of_sum1 : TF := t2 (of_sum_R lplain1 ladd1)
noncomputable def of_call1 : TF := t3 (of_call_R ltrim1 from_zero1 lmul1 sexp1 slog1 ssin1 noF (lpowerN 3) noF)
noncomputable def aE : Nat → TF
 | 0 => noF
 | n + 1 => t3 (of_term_R lplain1 (t4 (of_power_R (aE n) of_root1 (lpowerN 3))) of_call1 (aE n) of_sum1 lmul1)
noncomputable def poly_sum1 : TF := t2 (poly_sum_R raddF)
noncomputable def kind_product1 : TF := t2 (kind_product_R poly_sum1 raddF)
noncomputable def gadd1 : TF := t2 (gadd_R ginsF)
noncomputable def gmul1 : TF := t2 (gmul_R ginsF kind_product1 rmulF)
noncomputable def kind_compare1 : TF := t2 (kind_compare_R poly_sum1 rcompare1 rneg1)
noncomputable def fastest1 : TF := t1 (fastest_R kind_compare1)
noncomputable def gpower1 : TF := t2 (gpower_R gmul1 rpower1 bits_of1 rmulF)
noncomputable def gratio_power1 : TF := t2 (gratio_power_R gpower1)
noncomputable def groot1 : TF := t2 (groot_R fastest1 rmulF)
noncomputable def exponent_of1 : TF := t1 (exponent_of_R)
noncomputable def aH : Nat → TF
 | 0 => noF
 | n + 1 => t2 (growth_of_R (t2 (growth_of_other_R (aH n) groot1 gratio_power1 exponent_of1)) (aH n) gadd1 gmul1)
noncomputable def far_limit1 : TF := t1 (far_limit_R kind_compare1 rmulF fastest1 rpower1)
noncomputable def from_begin1 : TF := t2 (from_begin_R ltrim1)
noncomputable def begun_series1 : TF := t2 (begun_series_R ltrim1 (aE 9))
noncomputable def limit_nearN : Nat → TF
 | 0 => noF
 | n + 1 => t4 (limit_near_R from_begin1 (limit_nearN n) begun_series1)
noncomputable def aM : Nat → TF
 | 0 => noF
 | n + 1 => t2 (mirrored_R (aM n))
noncomputable def limit_far1 : TF := t3 (limit_far_R from_begin1 far_limit1 begun_series1 (aH 9) (aM 8))
noncomputable def aK : TF := t4 (limit_R (limit_nearN 2) limit_far1)
noncomputable def aQ : TF := t3 (law_drawn_R)
noncomputable def bD : TF := t2 (law_ratio_R)
noncomputable def law_num1 : TF := t1 (law_num_R)
noncomputable def bG : TF := t3 (law_first_R law_num1)
noncomputable def aP : TF := t5 (law_second_R bD law_num1)
noncomputable def law1 : TF := t1 (law_R bG aP aQ aK law_num1 bD)
noncomputable abbrev sD (x : String) : D := .str (nm x)
noncomputable abbrev rD (a b : Int) : D := .tuple [.int a, .int b]
noncomputable abbrev numT (k : Int) : D := .tuple [sD "num", .int k, .int 1]
noncomputable abbrev symT : D := .tuple [sD "sym", sD "x"]
noncomputable abbrev sum2T (a b : D) : D := .tuple [sD "sum", .tuple [a, b]]
noncomputable abbrev bE (a b : D) : D := .tuple [sD "prod", .tuple [a, b]]
noncomputable abbrev prod3T (a b c : D) : D := .tuple [sD "prod", .tuple [a, b, c]]
noncomputable abbrev powT (a b : D) : D := .tuple [sD "pow", a, b]
noncomputable abbrev callT (f : String) (a : D) : D := .tuple [sD "call", sD f, .tuple [a]]
noncomputable def comp2 (x y : MR D) : MR D := bnd (bnd x fun a => bnd (bnd y fun b => bnd (rt []) fun bs => rt (b :: bs)) fun bs => rt (a :: bs)) fun ds => rt (.list ds)
noncomputable def comp3 (x y z : MR D) : MR D := bnd (bnd x fun a => bnd (bnd y fun b => bnd (bnd z fun c => bnd (rt []) fun bs => rt (c :: bs)) fun bs => rt (b :: bs)) fun bs => rt (a :: bs)) fun ds => rt (.list ds)
noncomputable def prodL (m : D) (v1 : D) : MR D := (bnd (bnd (mR [(rt gR1), (rt m)]) lplain1) fun v3 => (bnd (itR (rt v1)) fun l9 => forL l9 (rt v3) fun d6 r7 => (fun (d6 : D) (k8 : D × D → MR D) => (bnd (bnd (mR [(rt v3), (rt d6)]) lmul1) fun v10 => (k8 (v10, d6)))) d6 fun t4 : D × D => loopG (fun (t4 : D × D) (d6 : D) (k8 : D × D → MR D) => (bnd (bnd (mR [(rt t4.1), (rt d6)]) lmul1) fun v11 => (k8 (v11, d6)))) (fun t5 : D × D => (rt t5.1)) r7 t4))
noncomputable def sum2O (m : D) (x y : MR D) : MR D := bnd (comp2 x y) fun v => of_sum1 [v, m]
noncomputable def prod2O (m : D) (x y : MR D) : MR D := bnd (comp2 x y) (prodL m)
noncomputable def prod3O (m : D) (x y z : MR D) : MR D := bnd (comp3 x y z) (prodL m)
theorem T_num (n : Nat) (k : Int) (m L : D) : aE (n + 1) [numT k, m, L] = lplain1 [rD k 1, m] := by kernel_rfl
theorem T_sum2 (n : Nat) (a b m L : D) : aE (n + 1) [sum2T a b, m, L] = sum2O m (aE n [a, m, L]) (aE n [b, m, L]) := by kernel_rfl
theorem T_prod2 (n : Nat) (a b m L : D) : aE (n + 1) [bE a b, m, L] = prod2O m (aE n [a, m, L]) (aE n [b, m, L]) := by kernel_rfl
theorem T_prod3 (n : Nat) (a b c m L : D) : aE (n + 1) [prod3T a b c, m, L] = prod3O m (aE n [a, m, L]) (aE n [b, m, L]) (aE n [c, m, L]) := by kernel_rfl
noncomputable def callO (f : String) (m : D) (x : MR D) : MR D := bnd (mR [rt (sD f), x, rt m]) of_call1
theorem T_exp (n : Nat) (a m L : D) : aE (n + 1) [callT "exp" a, m, L] = callO "exp" m (aE n [a, m, L]) := by kernel_rfl
theorem T_sin (n : Nat) (a m L : D) : aE (n + 1) [callT "sin" a, m, L] = callO "sin" m (aE n [a, m, L]) := by kernel_rfl
theorem T_log (n : Nat) (a m L : D) : aE (n + 1) [callT "log" a, m, L] = callO "log" m (aE n [a, m, L]) := by kernel_rfl
noncomputable def powO (e : Int) (x : MR D) : MR D := bnd x fun v => lpowerN 3 [v, .int e]
noncomputable abbrev zeroT : D := .tuple [sD "num", .int 0, .int 1]
theorem T_pow (n : Nat) (a m L : D) (e : Int) (h : cmp .Eq a zeroT = some (.bool false)) : aE (n + 1) [powT a (numT e), m, L] = powO e (aE n [a, m, L]) := by
 refine Eq.trans (b := ifR (andR (ofO (cmp .Eq a zeroT)) (rt (.bool false))) (raR (rt (.str (nm "domain"))) (rt (.str (nm "a root that has no series")))) (powO e (aE n [a, m, L]))) (by kernel_rfl) ?_
 rw [h]
 rfl
noncomputable def rootO (x : MR D) : MR D := bnd x fun v => of_root1 [v, rD 1 2]
theorem T_sqrt (n : Nat) (a m L : D) (h : cmp .Eq a zeroT = some (.bool false)) : aE (n + 1) [callT "sqrt" a, m, L] = rootO (aE n [a, m, L]) := by
 refine Eq.trans (b := ifR (andR (ofO (cmp .Eq a zeroT)) (rt (.bool true))) (raR (rt (.str (nm "domain"))) (rt (.str (nm "a root that has no series")))) (rootO (aE n [a, m, L]))) (by kernel_rfl) ?_
 rw [h]
 rfl
noncomputable def tryS (o k : MR D) : MR D := tryR (bnd (mR [o]) ltrim1) (nm "limit") k fun v8 => tryRest (orR (cmpR .Gt (lenR (subR (rt v8) (rt (.int 1)))) (rt (.int 0))) (cmpR .Gt (subR (rt v8) (rt (.int 0))) (rt (.int 0)))) (rt v8) k
noncomputable def searchS (o : Int → MR D) : MR D := tryS (o 1) (tryS (o 5) (tryS (o 7) (tryS (o 11) (tryS (o 19) (tryS (o 35) (tryS (o 67) (raR (rt (.str (nm "limit"))) (rt (.str (nm "too few powers are known")))))))))) 
noncomputable def endS (s : MR D) : MR D := bnd (mR [s, rt (.int 1)]) from_begin1
noncomputable abbrev letN (p q w : Int) : D := .tuple [sD "x", .tuple [.int 0, .list [rD p q, rD w 1]]]
noncomputable abbrev letF' (w : Int) : D := .tuple [sD "x", .tuple [.int (-1), .list [rD w 1]]]
theorem limit_p (t : D) (p q : Int) : aK [t, sD "x", rD p q, .int 1] = endS (searchS fun m => aE 9 [t, .int m, letN p q 1]) := by kernel_rfl
theorem limit_m (t : D) (p q : Int) : aK [t, sD "x", rD p q, .int (-1)] = endS (searchS fun m => aE 9 [t, .int m, letN p q (-1)]) := by kernel_rfl
noncomputable def farS (g s : MR D) : MR D := tryR (bnd (mR [g]) far_limit1) (nm "domain") s fun v => rt v
theorem limit_inf (t : D) (s : Int) : aK [t, sD "x", sD "inf", .int s] = farS (aH 9 [t, sD "x"]) (endS (searchS fun m => aE 9 [t, .int m, letF' 1])) := by kernel_rfl
theorem limit_low (t : D) (s : Int) : aK [t, sD "x", sD "-inf", .int s] = farS (bnd (mR [bnd (mR [rt t, rt (sD "x")]) (aM 8), rt (sD "x")]) (aH 9)) (endS (searchS fun m => aE 9 [t, .int m, letF' (-1)])) := by kernel_rfl
noncomputable def TAIL (v1 v4 v8 v9 v12 v14 v18 v20 v22 v26 v31 v33 : D) (X7 : MR D) : MR D :=
 (ifR (orR (cmpR .NotEq (bnd (mR [(rt v12), (rt (.str (nm "x"))), (rt v9), (rt v1)]) aK) (tupR [(rt v14), (rt (.int 1))])) (cmpR .NotEq (bnd (mR [(rt v26), (rt (.str (nm "x"))), (rt v9), (rt v1)]) aK) (tupR [(rt v31), (rt v33)]))) (rt (.bool false)) (bnd X7 fun v35 => (ifR (cmpR .Eq (rt v35) (rt (.int 0))) (cmpR .Eq (bnd (mR [(tupR [(rt (.str (nm "sum"))), (tupR [(rt v12), (rt v26)])]), (rt (.str (nm "x"))), (rt v9), (rt v1)]) aK) (tupR [(bopR .Add (bopR .Mult (rt v14) (rt v33)) (rt v31)), (rt v33)])) (ifR (cmpR .Eq (rt v35) (rt (.int 1))) (cmpR .Eq (bnd (mR [(tupR [(rt (.str (nm "prod"))), (tupR [(rt v12), (rt v26)])]), (rt (.str (nm "x"))), (rt v9), (rt v1)]) aK) (bnd (mR [(bopR .Mult (rt v14) (rt v31)), (rt v33)]) bD)) (ifR (cmpR .Eq (rt v35) (rt (.int 2))) (bnd (ifR (cmpR .Eq (rt v31) (rt (.int 0))) (ifR (cmpR .Gt (bopR .Mult (bopR .Mult (rt v14) (rt v22)) (rt v1)) (rt (.int 0))) (rt (.str (nm "inf"))) (rt (.str (nm "-inf")))) (bnd (mR [(bopR .Mult (rt v14) (rt v33)), (rt v31)]) bD)) fun v36 => (cmpR .Eq (bnd (mR [(tupR [(rt (.str (nm "prod"))), (tupR [(rt v12), (tupR [(rt (.str (nm "pow"))), (rt v26), (bnd (mR [(negR (rt (.int 1)))]) law_num1)])])]), (rt (.str (nm "x"))), (rt v9), (rt v1)]) aK) (rt v36))) (bnd (subR (bnd (mR [(rt v18), (rt v20), (rt v22), (rt v8), (bopR .Sub (rt (.int 0)) (rt v1))]) aP) (rt (.int 1))) fun v37 => (ifR (cmpR .Is (rt v4) (rt .none)) (cmpR .Eq (bnd (mR [(rt v26), (rt (.str (nm "x"))), (ifR (cmpR .Gt (rt v1) (rt (.int 0))) (rt (.str (nm "-inf"))) (rt (.str (nm "inf")))), (rt v1)]) aK) (rt v37)) (cmpR .Eq (bnd (mR [(rt v26), (rt (.str (nm "x"))), (rt v4), (rt (.int 0))]) aK) (ifR (cmpR .Eq (rt v37) (tupR [(rt v31), (rt v33)])) (rt v37) (rt .none))))))))))
noncomputable def LAWX (X0 X1 X2 X3 X4 X5 X6 X7 : MR D) : MR D :=
 (bnd X1 fun v1 => (bnd (tupR [X0, (tupR [(rt (.str (nm "sym"))), (rt (.str (nm "x")))])]) fun v2 => unT v2 fun l3 => (unC l3 fun v4 l5 => (unC l5 fun v6 l7 => (unE l7 (bnd (ifR (cmpR .Is (rt v4) (rt .none)) (tupR [(rt (.str (nm "pow"))), (rt v6), (bnd (mR [(negR (rt (.int 1)))]) law_num1)]) (tupR [(rt (.str (nm "sum"))), (tupR [(rt v6), (tupR [(rt (.str (nm "num"))), (bopR .Sub (rt (.int 0)) (subR (rt v4) (rt (.int 0)))), (subR (rt v4) (rt (.int 1)))])])])) fun v8 => (bnd (ifR (cmpR .IsNot (rt v4) (rt .none)) (rt v4) (ifR (cmpR .Gt (rt v1) (rt (.int 0))) (rt (.str (nm "inf"))) (rt (.str (nm "-inf"))))) fun v9 => (bnd (bnd (mR [X2, X3, (rt v8)]) bG) fun v10 => unT v10 fun l11 => (unC l11 fun v12 l13 => (unC l13 fun v14 l15 => (unE l15 (bnd (tupR [X5, X4, X6]) fun v16 => unT v16 fun l17 => (unC l17 fun v18 l19 => (unC l19 fun v20 l21 => (unC l21 fun v22 l23 => (unE l23 (bnd (bnd (mR [(rt v18), (rt v20), (rt v22), (rt v8), (rt v1)]) aP) fun v24 => unT v24 fun l25 => (unC l25 fun v26 l27 => (unC l27 fun v28 l29 => unS v28 fun l30 => (unC l30 fun v31 l32 => (unC l32 fun v33 l34 => (unE l34 (unE l29 (TAIL v1 v4 v8 v9 v12 v14 v18 v20 v22 v26 v31 v33 X7))))))))))))))))))))))))
theorem law_X (ds : List D) : law1 [.list ds] = LAWX (subR (lstR [(tupR [(rt (.int 0)), (rt (.int 1))]), (tupR [(rt (.int 2)), (rt (.int 1))]), (tupR [(negR (rt (.int 1))), (rt (.int 1))]), (tupR [(rt (.int 1)), (rt (.int 2))]), (rt .none)]) (aQ [.list ds, .int 0, .int 5])) (subR (lstR [(rt (.int 1)), (negR (rt (.int 1)))]) (aQ [.list ds, .int 1, .int 2])) (aQ [.list ds, .int 2, .int 4]) (subR (lstR [(rt (.int 1)), (rt (.int 2)), (rt (.int 3)), (negR (rt (.int 1))), (negR (rt (.int 2))), (negR (rt (.int 3)))]) (aQ [.list ds, .int 3, .int 6])) (bopR .Sub (aQ [.list ds, .int 4, .int 5]) (rt (.int 2))) (aQ [.list ds, .int 5, .int 3]) (subR (lstR [(rt (.int 1)), (rt (.int 2)), (negR (rt (.int 1)))]) (aQ [.list ds, .int 6, .int 3])) (aQ [.list ds, .int 7, .int 4]) := by kernel_rfl
noncomputable def LAWY (v1 v4 v8 v9 v18 v20 v22 : D) (A B X7 : MR D) : MR D :=
 (bnd A fun v10 => unT v10 fun l11 => (unC l11 fun v12 l13 => (unC l13 fun v14 l15 => (unE l15 (bnd B fun v24 => unT v24 fun l25 => (unC l25 fun v26 l27 => (unC l27 fun v28 l29 => unS v28 fun l30 => (unC l30 fun v31 l32 => (unC l32 fun v33 l34 => (unE l34 (unE l29 (TAIL v1 v4 v8 v9 v12 v14 v18 v20 v22 v26 v31 v33 X7))))))))))))
noncomputable abbrev uN (p q : Int) : D := sum2T symT (.tuple [sD "num", .int (0 - p), .int q])
noncomputable abbrev uF : D := powT symT (numT (-1))
theorem LAWX_n (p q : Int) (F1 K F2 C M : D) (X7 : MR D) : LAWX (rt (rD p q)) (rt (.int 1)) (rt F1) (rt K) (rt C) (rt F2) (rt M) X7 = LAWY (.int 1) (rD p q) (uN p q) (rD p q) F2 C M (bG [F1, K, uN p q]) (aP [F2, C, M, uN p q, .int 1]) X7 := by kernel_rfl
theorem LAWX_m (p q : Int) (F1 K F2 C M : D) (X7 : MR D) : LAWX (rt (rD p q)) (rt (.int (-1))) (rt F1) (rt K) (rt C) (rt F2) (rt M) X7 = LAWY (.int (-1)) (rD p q) (uN p q) (rD p q) F2 C M (bG [F1, K, uN p q]) (aP [F2, C, M, uN p q, .int (-1)]) X7 := by kernel_rfl
theorem LAWX_i (F1 K F2 C M : D) (X7 : MR D) : LAWX (rt .none) (rt (.int 1)) (rt F1) (rt K) (rt C) (rt F2) (rt M) X7 = LAWY (.int 1) .none uF (sD "inf") F2 C M (bG [F1, K, uF]) (aP [F2, C, M, uF, .int 1]) X7 := by kernel_rfl
theorem LAWX_l (F1 K F2 C M : D) (X7 : MR D) : LAWX (rt .none) (rt (.int (-1))) (rt F1) (rt K) (rt C) (rt F2) (rt M) X7 = LAWY (.int (-1)) .none uF (sD "-inf") F2 C M (bG [F1, K, uF]) (aP [F2, C, M, uF, .int (-1)]) X7 := by kernel_rfl
theorem LAWY_t (v1 v4 v8 v9 v18 v20 v22 a b : D) (known top bottom : Int) (A B X7 : MR D) (hA : A = rt (.tuple [a, .int known])) (hB : B = rt (.tuple [b, rD top bottom])) : LAWY v1 v4 v8 v9 v18 v20 v22 A B X7 = TAIL v1 v4 v8 v9 a (.int known) v18 v20 v22 b (.int top) (.int bottom) X7 := by
 rw [hA, hB]
 kernel_rfl
theorem eqv_rat (a b : Int) : PyData.eqv (rD a b) (rD a b) = true := by simp [PyData.eqv, PyData.eqvAll]
theorem cmp_eq_rat (a b : Int) : cmp .Eq (rD a b) (rD a b) = some (.bool true) := by
 show (aG (noDict (rD a b) && noDict (rD a b)) (some (PyData.eqv (rD a b) (rD a b)))).map PyData.bool = _
 rw [eqv_rat]
 rfl
theorem cmp_ne_rat (a b : Int) : cmp .NotEq (rD a b) (rD a b) = some (.bool false) := by
 show (aG (noDict (rD a b) && noDict (rD a b)) (some (PyData.eqv (rD a b) (rD a b)))).map (fun x => PyData.bool (!x)) = _
 rw [eqv_rat]
 rfl
noncomputable def DEED (v1 v4 v8 v9 v12 v14 v18 v20 v22 v26 v31 v33 v35 : D) : MR D :=
 (ifR (cmpR .Eq (rt v35) (rt (.int 0))) (cmpR .Eq (bnd (mR [(tupR [(rt (.str (nm "sum"))), (tupR [(rt v12), (rt v26)])]), (rt (.str (nm "x"))), (rt v9), (rt v1)]) aK) (tupR [(bopR .Add (bopR .Mult (rt v14) (rt v33)) (rt v31)), (rt v33)])) (ifR (cmpR .Eq (rt v35) (rt (.int 1))) (cmpR .Eq (bnd (mR [(tupR [(rt (.str (nm "prod"))), (tupR [(rt v12), (rt v26)])]), (rt (.str (nm "x"))), (rt v9), (rt v1)]) aK) (bnd (mR [(bopR .Mult (rt v14) (rt v31)), (rt v33)]) bD)) (ifR (cmpR .Eq (rt v35) (rt (.int 2))) (bnd (ifR (cmpR .Eq (rt v31) (rt (.int 0))) (ifR (cmpR .Gt (bopR .Mult (bopR .Mult (rt v14) (rt v22)) (rt v1)) (rt (.int 0))) (rt (.str (nm "inf"))) (rt (.str (nm "-inf")))) (bnd (mR [(bopR .Mult (rt v14) (rt v33)), (rt v31)]) bD)) fun v36 => (cmpR .Eq (bnd (mR [(tupR [(rt (.str (nm "prod"))), (tupR [(rt v12), (tupR [(rt (.str (nm "pow"))), (rt v26), (bnd (mR [(negR (rt (.int 1)))]) law_num1)])])]), (rt (.str (nm "x"))), (rt v9), (rt v1)]) aK) (rt v36))) (bnd (subR (bnd (mR [(rt v18), (rt v20), (rt v22), (rt v8), (bopR .Sub (rt (.int 0)) (rt v1))]) aP) (rt (.int 1))) fun v37 => (ifR (cmpR .Is (rt v4) (rt .none)) (cmpR .Eq (bnd (mR [(rt v26), (rt (.str (nm "x"))), (ifR (cmpR .Gt (rt v1) (rt (.int 0))) (rt (.str (nm "-inf"))) (rt (.str (nm "inf")))), (rt v1)]) aK) (rt v37)) (cmpR .Eq (bnd (mR [(rt v26), (rt (.str (nm "x"))), (rt v4), (rt (.int 0))]) aK) (ifR (cmpR .Eq (rt v37) (tupR [(rt v31), (rt v33)])) (rt v37) (rt .none))))))))
theorem TAIL_d (v1 v4 v8 v9 v18 v20 v22 a b : D) (known top bottom : Int) (d : D) (h1 : aK [a, sD "x", v9, v1] = rt (rD known 1)) (h2 : aK [b, sD "x", v9, v1] = rt (rD top bottom)) :
  TAIL v1 v4 v8 v9 a (.int known) v18 v20 v22 b (.int top) (.int bottom) (rt d) = DEED v1 v4 v8 v9 a (.int known) v18 v20 v22 b (.int top) (.int bottom) d := by
 refine Eq.trans (b := ifR (orR (bnd (aK [a, sD "x", v9, v1]) fun x => ofO (cmp .NotEq x (rD known 1))) (bnd (aK [b, sD "x", v9, v1]) fun x => ofO (cmp .NotEq x (rD top bottom)))) (rt (.bool false)) (DEED v1 v4 v8 v9 a (.int known) v18 v20 v22 b (.int top) (.int bottom) d)) (by kernel_rfl) ?_
 rw [h1, h2]
 show ifR (orR (ofO (cmp .NotEq (rD known 1) (rD known 1))) (ofO (cmp .NotEq (rD top bottom) (rD top bottom)))) _ _ = _
 rw [cmp_ne_rat, cmp_ne_rat]
 rfl
theorem DEED_0 (v1 v4 v8 v9 v18 v20 v22 a b : D) (known top bottom : Int) (hk : sm known = true) (h : aK [sum2T a b, sD "x", v9, v1] = rt (rD (known * bottom + top) bottom)) :
  DEED v1 v4 v8 v9 a (.int known) v18 v20 v22 b (.int top) (.int bottom) (.int 0) = rt (.bool true) := by
 refine Eq.trans (b := bnd (aK [sum2T a b, sD "x", v9, v1]) fun x => bnd (tupR [bnd (ofO (binop .Mult (.int known) (.int bottom))) fun y => ofO (binop .Add y (.int top)), rt (.int bottom)]) fun z => ofO (cmp .Eq x z)) (by kernel_rfl) ?_
 rw [h, mulOk hk]
 show ofO (cmp .Eq (rD (known * bottom + top) bottom) (rD (known * bottom + top) bottom)) = _
 rw [cmp_eq_rat]
 rfl
theorem DEED_1 (v1 v4 v8 v9 v18 v20 v22 a b : D) (known top bottom x y : Int) (hk : sm known = true) (h : aK [bE a b, sD "x", v9, v1] = rt (rD x y)) (hr : bD [.int (known * top), .int bottom] = rt (rD x y)) :
  DEED v1 v4 v8 v9 a (.int known) v18 v20 v22 b (.int top) (.int bottom) (.int 1) = rt (.bool true) := by
 refine Eq.trans (b := bnd (aK [bE a b, sD "x", v9, v1]) fun x => bnd (bnd (mR [ofO (binop .Mult (.int known) (.int top)), rt (.int bottom)]) bD) fun z => ofO (cmp .Eq x z)) (by kernel_rfl) ?_
 rw [h, mulOk hk]
 show bnd (bD [.int (known * top), .int bottom]) (fun z => ofO (cmp .Eq (rD x y) z)) = _
 rw [hr]
 show ofO (cmp .Eq (rD x y) (rD x y)) = _
 rw [cmp_eq_rat]
 rfl
noncomputable def shareO (v1 v14 v22 v31 v33 : D) : MR D := (ifR (cmpR .Eq (rt v31) (rt (.int 0))) (ifR (cmpR .Gt (bopR .Mult (bopR .Mult (rt v14) (rt v22)) (rt v1)) (rt (.int 0))) (rt (.str (nm "inf"))) (rt (.str (nm "-inf")))) (bnd (mR [(bopR .Mult (rt v14) (rt v33)), (rt v31)]) bD))
theorem DEED_2 (v1 v4 v8 v9 v18 v20 v22 a b : D) (known top bottom : Int) (r : D) (h : aK [bE a (powT b (numT (-1))), sD "x", v9, v1] = rt r) (hr : shareO v1 (.int known) v22 (.int top) (.int bottom) = rt r) (he : cmp .Eq r r = some (.bool true)) :
  DEED v1 v4 v8 v9 a (.int known) v18 v20 v22 b (.int top) (.int bottom) (.int 2) = rt (.bool true) := by
 refine Eq.trans (b := bnd (shareO v1 (.int known) v22 (.int top) (.int bottom)) fun z => bnd (aK [bE a (powT b (numT (-1))), sD "x", v9, v1]) fun x => ofO (cmp .Eq x z)) (by kernel_rfl) ?_
 rw [h, hr]
 show ofO (cmp .Eq r r) = _
 rw [he]
 rfl
theorem DEED_3n (v1 v8 v9 v18 v20 v22 a b : D) (known top bottom p q t2 b2 : Int) (r : D) (s : Int) (hv : v1 = .int s) (hs : aP [v18, v20, v22, v8, .int (0 - s)] = rt (.tuple [b, rD t2 b2]))
  (h : aK [b, sD "x", rD p q, .int 0] = rt r) (hr : ifR (ofO (cmp .Eq (rD t2 b2) (rD top bottom))) (rt (rD t2 b2)) (rt .none) = rt r) (he : cmp .Eq r r = some (.bool true)) :
  DEED v1 (rD p q) v8 v9 a (.int known) v18 v20 v22 b (.int top) (.int bottom) (.int 3) = rt (.bool true) := by
 subst hv
 refine Eq.trans (b := bnd (bnd (aP [v18, v20, v22, v8, .int (0 - s)]) fun x => ofO (item x (.int 1))) fun v37 => bnd (aK [b, sD "x", rD p q, .int 0]) fun x => bnd (ifR (ofO (cmp .Eq v37 (rD top bottom))) (rt v37) (rt .none)) fun z => ofO (cmp .Eq x z)) (by kernel_rfl) ?_
 rw [hs, h]
 show bnd (ifR (ofO (cmp .Eq (rD t2 b2) (rD top bottom))) (rt (rD t2 b2)) (rt .none)) (fun z => ofO (cmp .Eq r z)) = _
 rw [hr]
 show ofO (cmp .Eq r r) = _
 rw [he]
 rfl
theorem DEED_3f (s : Int) (v8 v9 v18 v20 v22 a b : D) (known top bottom t2 b2 : Int) (hs : aP [v18, v20, v22, v8, .int (0 - s)] = rt (.tuple [b, rD t2 b2]))
  (h : (bnd (ifR (rt (.bool (decide (0 < s)))) (rt (sD "-inf")) (rt (sD "inf"))) fun z => aK [b, sD "x", z, .int s]) = rt (rD t2 b2)) :
  DEED (.int s) .none v8 v9 a (.int known) v18 v20 v22 b (.int top) (.int bottom) (.int 3) = rt (.bool true) := by
 refine Eq.trans (b := bnd (bnd (aP [v18, v20, v22, v8, .int (0 - s)]) fun x => ofO (item x (.int 1))) fun v37 => bnd (bnd (mR [rt b, rt (sD "x"), ifR (rt (.bool (decide (0 < s)))) (rt (sD "-inf")) (rt (sD "inf")), rt (.int s)]) aK) fun x => ofO (cmp .Eq x v37)) (by kernel_rfl) ?_
 have e : bnd (mR [rt b, rt (sD "x"), ifR (rt (.bool (decide (0 < s)))) (rt (sD "-inf")) (rt (sD "inf")), rt (.int s)]) aK = (bnd (ifR (rt (.bool (decide (0 < s)))) (rt (sD "-inf")) (rt (sD "inf"))) fun z => aK [b, sD "x", z, .int s]) := by
  cases decide (0 < s) <;> rfl
 rw [hs, e, h]
 show ofO (cmp .Eq (rD t2 b2) (rD t2 b2)) = _
 rw [cmp_eq_rat]
 rfl
noncomputable def drI (l : List Int) (i : Nat) (m : Int) : Int := (match l[i]? with | some x => x | none => 3 * (Int.ofNat i) + 1).fmod m
theorem mod_op {a m : Int} (h : (m == 0) = false) : binop .Mod (.int a) (.int m) = some (.int (a.fmod m)) := by
 show aG (!(m == 0)) _ = _
 rw [h]
 rfl
theorem drawn (l : List Int) (i : Nat) (m : Int) (hl : l.length ≤ 63) (hi : i < 1000) (hm : (m == 0) = false) (h3 : binop .Mult (.int 3) (.int (Int.ofNat i)) = some (.int (3 * Int.ofNat i))) :
  aQ [.list (l.map .int), .int (Int.ofNat i), .int m] = rt (.int (drI l i m)) := by
 have hlen : dlen (.list (l.map PyData.int)) = some l.length := by
  show aG (Nat.ble (l.map PyData.int).length 10000) (some (l.map PyData.int).length) = _
  rw [List.length_map, bl (by omega : l.length ≤ 10000)]
  rfl
 refine Eq.trans (b := bnd (ifR (bnd (ofO ((dlen (.list (l.map PyData.int))).map intN)) fun b => ofO (cmp .Lt (.int (Int.ofNat i)) b)) (ofO (item (.list (l.map PyData.int)) (.int (Int.ofNat i)))) (bnd (ofO (binop .Mult (.int 3) (.int (Int.ofNat i)))) fun a => ofO (binop .Add a (.int 1)))) fun a => ofO (binop .Mod a (.int m))) (by kernel_rfl) ?_
 rw [hlen, h3]
 show bnd (ifR (rt (.bool (decide (Int.ofNat i < Int.ofNat l.length)))) (ofO (item (.list (l.map PyData.int)) (.int (Int.ofNat i)))) (rt (.int (3 * Int.ofNat i + 1)))) (fun a => ofO (binop .Mod a (.int m))) = _
 unfold drI
 by_cases h : i < l.length
 ·have hd : decide (Int.ofNat i < Int.ofNat l.length) = true := decide_eq_true (Int.ofNat_lt.mpr h)
  have hi0 : item (.list (l.map PyData.int)) (.int (Int.ofNat i)) = some (.int l[i]) := by
   show aG (decide ((0 : Int) ≤ Int.ofNat i) && decide (Int.ofNat i < 1000)) ((l.map PyData.int)[(Int.ofNat i).toNat]?) = _
   rw [decide_eq_true (show (0 : Int) ≤ Int.ofNat i from Int.natCast_nonneg i), decide_eq_true (show Int.ofNat i < 1000 from Int.ofNat_lt.mpr hi)]
   show (l.map PyData.int)[i]? = _
   rw [List.getElem?_map, List.getElem?_eq_getElem h]
   rfl
  rw [hd, hi0, List.getElem?_eq_getElem h]
  show ofO (binop .Mod (.int l[i]) (.int m)) = _
  rw [mod_op hm]
  rfl
 ·have hd : decide (Int.ofNat i < Int.ofNat l.length) = false := decide_eq_false (fun q => h (Int.ofNat_lt.mp q))
  rw [hd, List.getElem?_eq_none (by omega)]
  show ofO (binop .Mod (.int (3 * Int.ofNat i + 1)) (.int m)) = _
  rw [mod_op hm]
  rfl
theorem drI_lt (l : List Int) (i : Nat) {m : Int} (h : 0 < m) : 0 ≤ drI l i m ∧ drI l i m < m := ⟨Int.fmod_nonneg_of_pos _ h, Int.fmod_lt_of_pos _ h⟩
noncomputable def aT : Nat → Int → D → D
 | 0, k, u => bE (sum2T (callT "exp" (bE (numT k) u)) (numT (-1))) (powT u (numT (-1)))
 | 1, k, u => bE (callT "sin" (bE (numT k) u)) (powT u (numT (-1)))
 | 2, k, u => bE (callT "log" (sum2T (numT 1) (bE (numT k) u))) (powT u (numT (-1)))
 | _, k, u => callT "exp" (bE (numT k) u)
noncomputable def knownI : Nat → Int → Int
 | 3, _ => 1
 | _, k => k
theorem first_0 (k : Int) (u : D) : bG [.int 0, .int k, u] = rt (.tuple [aT 0 k u, .int k]) := by kernel_rfl
theorem first_1 (k : Int) (u : D) : bG [.int 1, .int k, u] = rt (.tuple [aT 1 k u, .int k]) := by kernel_rfl
theorem first_2 (k : Int) (u : D) : bG [.int 2, .int k, u] = rt (.tuple [aT 2 k u, .int k]) := by kernel_rfl
theorem first_3 (k : Int) (u : D) : bG [.int 3, .int k, u] = rt (.tuple [aT 3 k u, .int 1]) := by kernel_rfl
noncomputable def bT : Nat → Int → Int → D → D
 | 0, c, m, u => sum2T (numT c) (bE (numT m) u)
 | 1, c, m, u => powT (sum2T (numT c) (bE (numT m) u)) (numT (-1))
 | _, _, m, u => prod3T (numT m) (callT "sqrt" (powT u (numT 2))) (powT u (numT (-1)))
theorem second_0 (c m s : Int) (u : D) : aP [.int 0, .int c, .int m, u, .int s] = rt (.tuple [bT 0 c m u, rD c 1]) := by kernel_rfl
theorem second_2 (c m s : Int) (u : D) (h : sm m = true) : aP [.int 2, .int c, .int m, u, .int s] = rt (.tuple [bT 2 c m u, rD (m * s) 1]) := by
 refine Eq.trans (b := bnd (mR [rt (bT 2 c m u), bnd (mR [ofO (binop .Mult (.int m) (.int s)), rt (.int 1)]) fun ds => ofO (aG (fits ds) (some (.tuple ds)))]) fun ds => ofO (aG (fits ds) (some (.tuple ds)))) (by kernel_rfl) ?_
 rw [mulOk h]
 rfl
noncomputable def c1 (c : Int) : Int := match c with
 | 0 => 3
 | c => c
noncomputable def rbot (c : Int) : Int × Int := match c with
 | -2 => (-1, 2)
 | -1 => (-1, 1)
 | 1 => (1, 1)
 | 2 => (1, 2)
 | _ => (1, 3)
theorem second_1 (m s : Int) (u : D) (c : Int) (h : c = -2 ∨ c = -1 ∨ c = 0 ∨ c = 1 ∨ c = 2) : aP [.int 1, .int c, .int m, u, .int s] = rt (.tuple [bT 1 (c1 c) m u, rD (rbot c).1 (rbot c).2]) := by
 rcases h with rfl | rfl | rfl | rfl | rfl <;> kernel_rfl
noncomputable def turnO (k : Int) (m : D) (x : MR D) : MR D := prod2O m (lplain1 [rD k 1, m]) x
noncomputable def aO : Nat → Int → D → MR D → MR D
 | 0, k, m, x => prod2O m (sum2O m (callO "exp" m (turnO k m x)) (lplain1 [rD (-1) 1, m])) (powO (-1) x)
 | 1, k, m, x => prod2O m (callO "sin" m (turnO k m x)) (powO (-1) x)
 | 2, k, m, x => prod2O m (callO "log" m (sum2O m (lplain1 [rD 1 1, m]) (turnO k m x))) (powO (-1) x)
 | _, k, m, x => callO "exp" m (turnO k m x)
noncomputable def bO : Nat → Int → Int → D → MR D → MR D
 | 0, c, mm, m, x => sum2O m (lplain1 [rD c 1, m]) (turnO mm m x)
 | 1, c, mm, m, x => powO (-1) (sum2O m (lplain1 [rD c 1, m]) (turnO mm m x))
 | _, _, mm, m, x => prod3O m (lplain1 [rD mm 1, m]) (rootO (powO 2 x)) (powO (-1) x)
section
variable {u m L : D} {x : MR D}
theorem OT_turn (n : Nat) (k : Int) (hu : ∀ n, aE (n + 2) [u, m, L] = x) : aE (n + 3) [bE (numT k) u, m, L] = turnO k m x := by
 rw [T_prod2, T_num, hu]
 rfl
theorem OT_a (n : Nat) (f : Nat) (k : Int) (hu : ∀ n, aE (n + 2) [u, m, L] = x) (hz : cmp .Eq u zeroT = some (.bool false)) : aE (n + 6) [aT f k u, m, L] = aO f k m x := by
 match f with
 | 0 => rw [aT, T_prod2, T_sum2, T_exp, OT_turn n k hu, T_num, T_pow _ _ _ _ _ hz, hu]; rfl
 | 1 => rw [aT, T_prod2, T_sin, OT_turn (n + 1) k hu, T_pow _ _ _ _ _ hz, hu]; rfl
 | 2 => rw [aT, T_prod2, T_log, T_sum2, OT_turn n k hu, T_num, T_pow _ _ _ _ _ hz, hu]; rfl
 | f + 3 =>
  show aE (n + 6) [callT "exp" (bE (numT k) u), m, L] = callO "exp" m (turnO k m x)
  rw [T_exp, OT_turn (n + 2) k hu]
theorem OT_b (n : Nat) (f : Nat) (c mm : Int) (hu : ∀ n, aE (n + 2) [u, m, L] = x) (hz : cmp .Eq u zeroT = some (.bool false)) (h2 : cmp .Eq (powT u (numT 2)) zeroT = some (.bool false)) (h3 : cmp .Eq (sum2T (numT c) (bE (numT mm) u)) zeroT = some (.bool false)) : aE (n + 5) [bT f c mm u, m, L] = bO f c mm m x := by
 match f with
 | 0 => rw [bT, T_sum2, T_num, OT_turn (n + 1) mm hu]; rfl
 | 1 => rw [bT, T_pow _ _ _ _ _ h3, T_sum2, T_num, OT_turn n mm hu]; rfl
 | f + 2 =>
  show aE (n + 5) [prod3T (numT mm) (callT "sqrt" (powT u (numT 2))) (powT u (numT (-1))), m, L] = prod3O m (lplain1 [rD mm 1, m]) (rootO (powO 2 x)) (powO (-1) x)
  rw [T_prod3, T_num, T_sqrt _ _ _ _ h2, T_pow _ _ _ _ _ hz, T_pow _ _ _ _ _ hz, hu, hu]
end
def le' (x y : MR D) : Prop := x = none ∨ x = y
theorem le_refl' (x : MR D) : le' x x := .inr rfl
theorem le_none (x : MR D) : le' none x := .inl rfl
theorem tryRest_mono {t w k k' : MR D} (h : le' k k') : le' (tryRest t w k) (tryRest t w k') := by
 unfold tryRest
 split
 ·exact le_refl' _
 ·exact h
 ·exact le_refl' _
theorem tryS_mono {o k k' : MR D} (h : le' k k') : le' (tryS o k) (tryS o k') := by
 unfold tryS tryR
 split
 ·split
  ·exact h
  ·exact le_refl' _
 ·exact tryRest_mono h
 ·exact le_refl' _
theorem endS_mono {s s' : MR D} (h : le' s s') : le' (endS s) (endS s') := by
 rcases h with rfl | rfl
 ·exact .inl rfl
 ·exact le_refl' _
noncomputable def serM {β : Type} (d : D) (k : Int → List D → Option β) : Option β := match d with
 | .tuple [x, y] => intM x fun a => (asL y).bind fun l => k a l
 | _ => none
inductive SerM {β : Type} (d : D) (k : Int → List D → Option β) (r : β) : Prop
 | mk (a l) : d = .tuple [.int a, .list l] → k a l = some r → SerM d k r
theorem serM_of {β : Type} {d : D} {k : Int → List D → Option β} {r : β} (h : serM d k = some r) : SerM d k r := by
 cases d with
 | tuple l =>
  cases l with
  | nil => exact nn h
  | cons x l =>
   cases l with
   | nil => exact nn h
   | cons y l =>
    cases l with
    | cons z l => exact nn h
    | nil =>
     obtain ⟨a, rfl, h1⟩ := intM_of h
     obtain ⟨b, h2, h3⟩ := obi h1
     exact ⟨a, b, by rw [asL_eq h2], h3⟩
 | _ => exact nn h
noncomputable def trimQ : List D → Int → Option (Int × List D)
 | [], low => some (low, [])
 | d :: r, low => ratM d fun a b => match a == 0 && b == 1 with
  | true => trimQ r (low + 1)
  | false => some (low, d :: r)
theorem eqv_rat2 (a b x y : Int) : PyData.eqv (rD a b) (rD x y) = (a == x && b == y) := by simp [PyData.eqv, PyData.eqvAll]
theorem cmp_rat (a b : Int) : cmp .Eq (rD a b) gR0 = some (.bool (a == 0 && b == 1)) := by
 show (aG (noDict (rD a b) && noDict gR0) (some (PyData.eqv (rD a b) (rD 0 1)))).map PyData.bool = _
 rw [eqv_rat2]
 rfl
theorem len_pos {d : D} {r : List D} (h : (d :: r).length ≤ 900) : lenR (rt (.list (d :: r))) = rt (.int (Int.ofNat (r.length + 1))) := by
 show ofO ((aG (Nat.ble (r.length + 1) 10000) (some (r.length + 1))).map intN) = _
 rw [show Nat.ble (r.length + 1) 10000 = true from bl (Nat.le_trans h (by decide))]
 rfl
theorem pos_gt (n : Nat) : cmpR .Gt (rt (.int (Int.ofNat (n + 1)))) (ri 0) = rt (.bool true) := by
 show rt (PyData.bool (decide ((0 : Int) < Int.ofNat (n + 1)))) = _
 rw [show decide ((0 : Int) < Int.ofNat (n + 1)) = true from decide_eq_true (Int.ofNat_lt.mpr (Nat.succ_pos n))]
theorem trim_loop : ∀ {l : List D} {low : Int} {x : Int × List D} (n : Nat), l.length ≤ 900 → l.length ≤ n → trimQ l low = some x → ∀ (u : D) (K : D × D → MR D),
  loopW (fun t => andR (cmpR .Gt (lenR (rt t.2)) (ri 0)) (cmpR .Eq (subR (rt t.2) (ri 0)) (rt gR0))) (fun t k => f48_b3 u t.1 t.2 k) K (n + 1) (.int low, .list l) = K (.int x.1, .list x.2)
 | [], low, x, n, _, _, h, u, K => by
  obtain rfl := si h
  rfl
 | d :: r, low, x, n, h1, h2, h, u, K => by
  obtain ⟨a, b, rfl, h⟩ := ratM_of h
  have et : andR (cmpR .Gt (lenR (rt (.list (rD a b :: r)))) (ri 0)) (cmpR .Eq (subR (rt (.list (rD a b :: r))) (ri 0)) (rt gR0)) = rt (.bool (a == 0 && b == 1)) := by
   rw [len_pos h1, pos_gt]
   show asBool (ofO (cmp .Eq (rD a b) gR0)) = _
   rw [cmp_rat]
   rfl
  show bnd (andR (cmpR .Gt (lenR (rt (.list (rD a b :: r)))) (ri 0)) (cmpR .Eq (subR (rt (.list (rD a b :: r))) (ri 0)) (rt gR0))) _ = _
  rw [et]
  cases hz : a == 0 && b == 1 with
  | false =>
   rw [hz] at h
   obtain rfl := si h
   rfl
  | true =>
   rw [hz] at h
   cases n with
   | zero => exact absurd h2 (Nat.not_succ_le_zero _)
   | succ n =>
    refine Eq.trans ?_ (trim_loop n (Nat.le_of_succ_le h1) (Nat.le_of_succ_le_succ h2) h u K)
    show bnd (tupR [rt (.int (low + 1)), ofO ((aG (decide ((0 : Int) ≤ 1) && Nat.ble 1 (r.length + 1) && fits (rD a b :: r)) (some r)).map .list)]) _ = _
    rw [show fits (rD a b :: r) = true from bl (Nat.le_trans h1 (by decide)), bl (Nat.succ_le_succ (Nat.zero_le r.length))]
    rfl
theorem trim_len : ∀ {l : List D} {low : Int} {x : Int × List D}, trimQ l low = some x → x.2.length ≤ l.length ∧ trimQ x.2 x.1 = some x
 | [], low, x, h => by
  obtain rfl := si h
  exact ⟨Nat.le_refl _, rfl⟩
 | d :: r, low, x, h => by
  have h0 := h
  obtain ⟨a, b, rfl, h⟩ := ratM_of h
  cases hz : a == 0 && b == 1 with
  | false =>
   rw [hz] at h
   obtain rfl := si h
   exact ⟨Nat.le_refl _, h0⟩
  | true =>
   rw [hz] at h
   exact ⟨Nat.le_succ_of_le (trim_len h).1, (trim_len h).2⟩
theorem ltrim_q {l : List D} {low : Int} {x : Int × List D} (h1 : l.length ≤ 900) (h : trimQ l low = some x) : ltrim1 [.tuple [.int low, .list l]] = rt (.tuple [.int x.1, .list x.2]) := by
 refine Eq.trans ?_ ((trim_loop 1999 h1 (Nat.le_trans h1 (by decide)) h (.tuple [.int low, .list l]) fun t => tupR [rt t.1, rt t.2]).trans rfl)
 rfl
noncomputable def endQ (x : Int × List D) (k : MR D) : MR D := match x.2 with
 | [] => match x.1 with
  | .ofNat (_ + 1) => rt gR0
  | _ => k
 | d :: _ => match x.1 with
  | .ofNat 0 => rt d
  | .ofNat (_ + 1) => rt gR0
  | .negSucc _ => ratM d fun a _ => match decide (0 < a) with
   | true => rt gFAR
   | false => rt gLOW
theorem neg_gt (n : Nat) : cmpR .Gt (rt (.int (Int.negSucc n))) (ri 0) = rt (.bool false) := by
 show rt (PyData.bool (decide ((0 : Int) < Int.negSucc n))) = _
 rw [show decide ((0 : Int) < Int.negSucc n) = false from decide_eq_false (by omega)]
theorem cmp_eq1 (z : Int) : cmpR .Eq (rt (.int z)) (ri 1) = rt (.bool (z == 1)) := by
 show ofO ((aG (noDict (.int z) && noDict (.int 1)) (some (PyData.eqv (.int z) (.int 1)))).map PyData.bool) = _
 have : PyData.eqv (.int z) (.int 1) = (z == 1) := by simp [PyData.eqv]
 rw [this]
 rfl
noncomputable def seenR (x : Int × List D) (k : MR D) : MR D := tryRest (orR (cmpR .Gt (lenR (subR (rt (.tuple [.int x.1, .list x.2])) (rt (.int 1)))) (rt (.int 0))) (cmpR .Gt (subR (rt (.tuple [.int x.1, .list x.2])) (rt (.int 0))) (rt (.int 0)))) (rt (.tuple [.int x.1, .list x.2])) k
theorem endQ_ok {x : Int × List D} {k k' : MR D} {r : D} (hk : k = rt r → endS k' = rt r) (h1 : x.2.length ≤ 900) (h : trimQ x.2 x.1 = some x) (e : endQ x k = rt r) : endS (seenR x k') = rt r := by
 obtain ⟨low, l⟩ := x
 cases l with
 | nil =>
  cases low with
  | negSucc m => exact hk e
  | ofNat m =>
   cases m with
   | zero => exact hk e
   | succ m =>
    show endS (tryRest (asBool (cmpR .Gt (rt (.int (Int.ofNat (m + 1)))) (ri 0))) _ _) = _
    rw [pos_gt]
    exact e
 | cons d l =>
  have e1 : cmpR .Gt (lenR (rt (.list (d :: l)))) (ri 0) = rt (.bool true) := by rw [len_pos h1, pos_gt]
  have e2 : cmpR .Eq (lenR (rt (.list (d :: l)))) (ri 0) = rt (.bool false) := by
   rw [len_pos h1]
   show ofO (cmp .Eq (.int (Int.ofNat (l.length + 1))) (.int 0)) = _
   rw [cmp_eq0 (by rfl)]
   rfl
  show endS (tryRest (orR (cmpR .Gt (lenR (rt (.list (d :: l)))) (ri 0)) _) _ _) = _
  rw [e1]
  show bnd (ltrim1 [.tuple [.int low, .list (d :: l)]]) _ = _
  rw [ltrim_q h1 h]
  show ifR (orR (cmpR .Eq (lenR (rt (.list (d :: l)))) (ri 0)) (cmpR .Gt (rt (.int low)) (ri 0))) _ _ = _
  rw [e2]
  cases low with
  | negSucc m =>
   obtain ⟨a, b, rfl, e5⟩ := ratM_of e
   rw [neg_gt]
   show ifR (rt (.bool false)) _ (ifR (cmpR .Eq (rt (.int (Int.negSucc m))) (ri 0)) _ (bnd (cmpR .Eq (bopR .Mod (rt (.int (Int.negSucc m))) (ri 2)) (ri 1)) _)) = _
   rw [show bopR .Mod (rt (.int (Int.negSucc m))) (ri 2) = rt (.int ((Int.negSucc m).fmod 2)) from congrArg ofO (mod_op (a := Int.negSucc m) (m := 2) (by rfl)), show cmpR .Eq (rt (.int (Int.negSucc m))) (ri 0) = rt (.bool false) from congrArg ofO (cmp_eq0 (by rfl)), cmp_eq1]
   generalize ((Int.negSucc m).fmod 2 == 1) = o
   have g : ifR (rt (PyData.bool (decide (0 < a)))) (rt gFAR) (rt gLOW) = rt r := by
    cases hd : decide (0 < a) <;> (rw [hd] at e5; exact e5)
   refine Eq.trans (b := bnd (cmpR .NotEq (rt (PyData.bool (decide (0 < a)))) (rt (PyData.bool false))) fun v => ifR (asBool (rt v)) (rt gFAR) (rt gLOW)) (by cases o <;> kernel_rfl) (Eq.trans ?_ g)
   cases decide (0 < a) <;> kernel_rfl
  | ofNat m =>
   cases m with
   | zero => exact e
   | succ m =>
    show ifR (asBool (cmpR .Gt (rt (.int (Int.ofNat (m + 1)))) (ri 0))) _ _ = _
    rw [pos_gt]
    exact e
noncomputable def tryQ (o k : MR D) : MR D := match o with
 | some (.error e) => match sEq e (nm "limit") with
  | true => k
  | false => none
 | some (.ok d) => serM d fun low l => match Nat.ble l.length 900 with
  | true => (trimQ l low).bind fun x => endQ x k
  | false => none
 | none => none
theorem tryQ_ok {o k k' : MR D} {r : D} (hk : k = rt r → endS k' = rt r) (h : tryQ o k = rt r) : endS (tryS o k') = rt r := by
 cases o with
 | none => exact nn h
 | some z => cases z with
  | error e =>
   cases hs : sEq e (nm "limit") with
   | false =>
    have h : (match sEq e (nm "limit") with | true => k | false => none) = rt r := h
    rw [hs] at h
    exact nn h
   | true =>
    have h : (match sEq e (nm "limit") with | true => k | false => none) = rt r := h
    rw [hs] at h
    show endS (match sEq e (nm "limit") && noDict (.str (nm "limit")) with | true => k' | false => none) = _
    rw [hs, show noDict (.str (nm "limit")) = true by kernel_rfl]
    exact hk h
  | ok d =>
   obtain ⟨low, l, rfl, h5⟩ := serM_of (show serM d (fun low l => match Nat.ble l.length 900 with | true => (trimQ l low).bind fun x => endQ x k | false => none) = some _ from h)
   cases hl : Nat.ble l.length 900 with
   | false => rw [hl] at h5; exact nn h5
   | true =>
    rw [hl] at h5
    obtain ⟨x, h1, h2⟩ := obi h5
    have hl := lb hl
    show endS (tryR (ltrim1 [.tuple [.int low, .list l]]) _ _ _) = _
    rw [ltrim_q hl h1]
    exact endQ_ok hk (Nat.le_trans (trim_len h1).1 hl) (trim_len h1).2 h2
noncomputable def limS (o1 o5 : MR D) : MR D := endS (tryS o1 (tryS o5 none))
noncomputable def lim (o1 o5 : MR D) : MR D := match tryQ o1 (tryQ o5 none) with
 | some r => some r
 | none => limS o1 o5
theorem limS_of {o1 o5 : MR D} {r : D} (h : lim o1 o5 = rt r) : limS o1 o5 = rt r := by
 unfold lim at h
 cases e : tryQ o1 (tryQ o5 none) with
 | none => rw [e] at h; exact h
 | some z =>
  rw [e] at h
  exact tryQ_ok (tryQ_ok nn) (e.trans h)
theorem lim_ok {o : Int → MR D} {o1 o5 : MR D} {r : D} (h1 : o 1 = o1) (h5 : o 5 = o5) (h : lim o1 o5 = rt r) : endS (searchS o) = rt r := by
 subst h1 h5
 have h := limS_of h
 rcases endS_mono (tryS_mono (o := o 1) (tryS_mono (o := o 5) (le_none (tryS (o 7) (tryS (o 11) (tryS (o 19) (tryS (o 35) (tryS (o 67) (raR (rt (.str (nm "limit"))) (rt (.str (nm "too few powers are known")))))))))))) with q | q
 ·have h : endS (tryS (o 1) (tryS (o 5) none)) = rt r := h
  rw [q] at h
  cases h
 ·exact q.symm.trans h
noncomputable def topI : Nat → Int → Int → Int → Int
 | 0, c, _, _ => c
 | 1, c, _, _ => (rbot c).1
 | _, _, m, s => m * s
noncomputable def botI : Nat → Int → Int
 | 1, c => (rbot c).2
 | _, _ => 1
noncomputable def cT : Nat → Int → Int
 | 1, c => c1 c
 | _, c => c
theorem in4 {P : Nat → Prop} : ∀ {f : Nat}, f < 4 → P 0 → P 1 → P 2 → P 3 → P f
 | 0, _, a, _, _, _ => a
 | 1, _, _, b, _, _ => b
 | 2, _, _, _, c, _ => c
 | 3, _, _, _, _, d => d
 | n + 4, h, _, _, _, _ => absurd h (Nat.not_lt_of_le (Nat.le_add_left 4 n))
theorem in3 {P : Nat → Prop} {f : Nat} (h : f < 3) (a : P 0) (b : P 1) (c : P 2) : P f := in4 (P := fun f => f < 3 → P f) (Nat.lt_succ_of_lt h) (fun _ => a) (fun _ => b) (fun _ => c) (fun h => absurd h (by decide)) h
def isK (f : Nat) (k : Int) : Prop := f < 4 ∧ (k = 1 ∨ k = 2 ∨ k = 3 ∨ k = -1 ∨ k = -2 ∨ k = -3)
def isC (f : Nat) (c m : Int) : Prop := f < 3 ∧ (c = -2 ∨ c = -1 ∨ c = 0 ∨ c = 1 ∨ c = 2) ∧ (m = 1 ∨ m = 2 ∨ m = -1)
noncomputable def okR (r : MR D) (x y : Int) : Bool := yes (okM r fun d => ratM d fun a b => some (a == x && b == y))
theorem okR_eq {r : MR D} {x y : Int} (h : okR r x y = true) : r = rt (rD x y) := by
 obtain ⟨d, rfl, h1⟩ := okM_of (yes_ex h)
 obtain ⟨a, b, rfl, h2⟩ := ratM_of h1
 obtain ⟨h3, h4⟩ := ba (si h2)
 rw [bq h3, bq h4]
noncomputable def sameD (d e : D) : Bool := match d with
 | .str a => yes ((asStr e).bind fun b => some (sEq a b && noDict (.str a)))
 | d => yes (ratM d fun a b => ratM e fun x y => some (a == x && b == y))
noncomputable def same (r q : MR D) : Bool := yes (okM r fun d => okM q fun e => some (sameD d e))
theorem cmpEqS {k : SStr} (g : noDict (.str k) = true) : cmp .Eq (.str k) (.str k) = some (.bool true) := by
 have : PyData.eqv (.str k) (.str k) = true := by simp [PyData.eqv]
 show (aG (noDict (.str k) && noDict (.str k)) (some (PyData.eqv (.str k) (.str k)))).bind (fun x => some (PyData.bool x)) = _
 rw [g, this]
 rfl
theorem sameD_eq {d e : D} (h : sameD d e = true) : d = e ∧ cmp .Eq d d = some (.bool true) := by
 cases d with
 | str a =>
  obtain ⟨b, h1, h⟩ := yes_of h
  obtain ⟨h2, h3⟩ := ba h
  rw [asStr_eq h1, aX.mp h2] at *
  exact ⟨rfl, cmpEqS h3⟩
 | tuple l =>
  obtain ⟨a, b, e1, h1⟩ := ratM_of (yes_ex (show yes (ratM (.tuple l) fun a b => ratM e fun x y => some (a == x && b == y)) = true from h))
  obtain ⟨x, y, rfl, h2⟩ := ratM_of h1
  obtain ⟨h3, h4⟩ := ba (si h2)
  rw [e1, bq h3, bq h4]
  exact ⟨rfl, cmp_eq_rat _ _⟩
 | _ => exact ft h
theorem same_eq {r q : MR D} (h : same r q = true) : ∃ d, r = rt d ∧ q = rt d ∧ cmp .Eq d d = some (.bool true) := by
 obtain ⟨d, rfl, h1⟩ := okM_of (yes_ex h)
 obtain ⟨e, rfl, h2⟩ := okM_of h1
 obtain ⟨h3, h4⟩ := sameD_eq (si h2)
 exact ⟨d, rfl, congrArg rt h3.symm, h4⟩
structure Side (u L : D) (LIM : D → MR D) (U1 U5 : MR D) (s : Int) : Prop where
 hu1 : ∀ n, aE (n + 2) [u, .int 1, L] = U1
 hu5 : ∀ n, aE (n + 2) [u, .int 5, L] = U5
 hz : cmp .Eq u zeroT = some (.bool false)
 h2 : cmp .Eq (powT u (numT 2)) zeroT = some (.bool false)
 h3 : ∀ c mm, cmp .Eq (sum2T (numT c) (bE (numT mm) u)) zeroT = some (.bool false)
 hb : ∀ f c mm, cmp .Eq (bT f c mm u) zeroT = some (.bool false)
 limA : ∀ f k, isK f k → LIM (aT f k u) = endS (searchS fun m => aE 9 [aT f k u, .int m, L])
 lim0 : ∀ f k f2 c mm, isK f k → isC f2 c mm → LIM (sum2T (aT f k u) (bT f2 (cT f2 c) mm u)) = endS (searchS fun m => aE 9 [sum2T (aT f k u) (bT f2 (cT f2 c) mm u), .int m, L])
 lim1 : ∀ f k f2 c mm, isK f k → isC f2 c mm → LIM (bE (aT f k u) (bT f2 (cT f2 c) mm u)) = endS (searchS fun m => aE 9 [bE (aT f k u) (bT f2 (cT f2 c) mm u), .int m, L])
 lim2 : ∀ f k f2 c mm, isK f k → isC f2 c mm → LIM (bE (aT f k u) (powT (bT f2 (cT f2 c) mm u) (numT (-1)))) = endS (searchS fun m => aE 9 [bE (aT f k u) (powT (bT f2 (cT f2 c) mm u) (numT (-1))), .int m, L])
 limB : ∀ f c mm, isC f c mm → LIM (bT f (cT f c) mm u) = rt (rD (topI f c mm s) (botI f c))
noncomputable def chkA (U1 U5 : MR D) (f : Nat) (k : Int) : Bool := okR (lim (aO f k (.int 1) U1) (aO f k (.int 5) U5)) (knownI f k) 1
noncomputable def chk0 (A1 A5 B1 B5 : MR D) (f : Nat) (k : Int) (f2 : Nat) (c mm s : Int) : Bool := okR (lim (sum2O (.int 1) A1 B1) (sum2O (.int 5) A5 B5)) (knownI f k * botI f2 c + topI f2 c mm s) (botI f2 c)
noncomputable def chk1 (A1 A5 B1 B5 : MR D) (f : Nat) (k : Int) (f2 : Nat) (c mm s : Int) : Bool := same (lim (prod2O (.int 1) A1 B1) (prod2O (.int 5) A5 B5)) (bD [.int (knownI f k * topI f2 c mm s), .int (botI f2 c)]) && (match bD [.int (knownI f k * topI f2 c mm s), .int (botI f2 c)] with | some (.ok (.tuple [.int _, .int _])) => true | _ => false)
noncomputable def chk2 (A1 A5 P1 P5 : MR D) (f : Nat) (k : Int) (f2 : Nat) (c mm s : Int) : Bool := same (lim (prod2O (.int 1) A1 P1) (prod2O (.int 5) A5 P5)) (shareO (.int s) (.int (knownI f k)) (.int mm) (.int (topI f2 c mm s)) (.int (botI f2 c)))
section
variable {u L : D} {LIM : D → MR D} {U1 U5 : MR D} {s : Int}
theorem side_a (S : Side u L LIM U1 U5 s) {f : Nat} {k : Int} (hk : isK f k) (h : chkA U1 U5 f k = true) : LIM (aT f k u) = rt (rD (knownI f k) 1) := by
 rw [S.limA f k hk]
 exact lim_ok (OT_a 3 f k S.hu1 S.hz) (OT_a 3 f k S.hu5 S.hz) (okR_eq h)
theorem side_0 (S : Side u L LIM U1 U5 s) {f f2 : Nat} {k c mm : Int} {A1 A5 B1 B5 : MR D} (hk : isK f k) (hc : isC f2 c mm) (a1 : aO f k (.int 1) U1 = A1) (a5 : aO f k (.int 5) U5 = A5) (b1 : bO f2 (cT f2 c) mm (.int 1) U1 = B1) (b5 : bO f2 (cT f2 c) mm (.int 5) U5 = B5)
  (h : chk0 A1 A5 B1 B5 f k f2 c mm s = true) : LIM (sum2T (aT f k u) (bT f2 (cT f2 c) mm u)) = rt (rD (knownI f k * botI f2 c + topI f2 c mm s) (botI f2 c)) := by
 rw [S.lim0 f k f2 c mm hk hc]
 refine lim_ok ?_ ?_ (okR_eq h)
 ·rw [T_sum2, OT_a 2 f k S.hu1 S.hz, OT_b 3 f2 _ mm S.hu1 S.hz S.h2 (S.h3 _ _), a1, b1]
 ·rw [T_sum2, OT_a 2 f k S.hu5 S.hz, OT_b 3 f2 _ mm S.hu5 S.hz S.h2 (S.h3 _ _), a5, b5]
theorem side_1 (S : Side u L LIM U1 U5 s) {f f2 : Nat} {k c mm : Int} {A1 A5 B1 B5 : MR D} (hk : isK f k) (hc : isC f2 c mm) (a1 : aO f k (.int 1) U1 = A1) (a5 : aO f k (.int 5) U5 = A5) (b1 : bO f2 (cT f2 c) mm (.int 1) U1 = B1) (b5 : bO f2 (cT f2 c) mm (.int 5) U5 = B5)
  (h : chk1 A1 A5 B1 B5 f k f2 c mm s = true) : ∃ x y, LIM (bE (aT f k u) (bT f2 (cT f2 c) mm u)) = rt (rD x y) ∧ bD [.int (knownI f k * topI f2 c mm s), .int (botI f2 c)] = rt (rD x y) := by
 obtain ⟨h1, h2⟩ := ba h
 obtain ⟨d, e1, e2, _⟩ := same_eq h1
 rw [e2] at h2
 have hd : ∃ x y, d = rD x y := by
  split at h2
  ·rename_i q
   cases q
   exact ⟨_, _, rfl⟩
  ·cases h2
 obtain ⟨x, y, rfl⟩ := hd
 refine ⟨x, y, ?_, e2⟩
 rw [S.lim1 f k f2 c mm hk hc]
 refine lim_ok ?_ ?_ e1
 ·rw [T_prod2, OT_a 2 f k S.hu1 S.hz, OT_b 3 f2 _ mm S.hu1 S.hz S.h2 (S.h3 _ _), a1, b1]
 ·rw [T_prod2, OT_a 2 f k S.hu5 S.hz, OT_b 3 f2 _ mm S.hu5 S.hz S.h2 (S.h3 _ _), a5, b5]
theorem side_2 (S : Side u L LIM U1 U5 s) {f f2 : Nat} {k c mm : Int} {A1 A5 P1 P5 : MR D} (hk : isK f k) (hc : isC f2 c mm) (a1 : aO f k (.int 1) U1 = A1) (a5 : aO f k (.int 5) U5 = A5) (b1 : powO (-1) (bO f2 (cT f2 c) mm (.int 1) U1) = P1) (b5 : powO (-1) (bO f2 (cT f2 c) mm (.int 5) U5) = P5)
  (h : chk2 A1 A5 P1 P5 f k f2 c mm s = true) : ∃ d, LIM (bE (aT f k u) (powT (bT f2 (cT f2 c) mm u) (numT (-1)))) = rt d ∧ shareO (.int s) (.int (knownI f k)) (.int mm) (.int (topI f2 c mm s)) (.int (botI f2 c)) = rt d ∧ cmp .Eq d d = some (.bool true) := by
 obtain ⟨d, e1, e2, e3⟩ := same_eq h
 refine ⟨d, ?_, e2, e3⟩
 rw [S.lim2 f k f2 c mm hk hc]
 refine lim_ok ?_ ?_ e1
 ·rw [T_prod2, OT_a 2 f k S.hu1 S.hz, T_pow _ _ _ _ _ (S.hb _ _ _), OT_b 2 f2 _ mm S.hu1 S.hz S.h2 (S.h3 _ _), a1, b1]
 ·rw [T_prod2, OT_a 2 f k S.hu5 S.hz, T_pow _ _ _ _ _ (S.hb _ _ _), OT_b 2 f2 _ mm S.hu5 S.hz S.h2 (S.h3 _ _), a5, b5]
end
theorem first_all {f : Nat} {k : Int} (h : isK f k) (u : D) : bG [.int (Int.ofNat f), .int k, u] = rt (.tuple [aT f k u, .int (knownI f k)]) :=
 in4 (P := fun f => bG [.int (Int.ofNat f), .int k, u] = rt (.tuple [aT f k u, .int (knownI f k)])) h.1 (first_0 k u) (first_1 k u) (first_2 k u) (first_3 k u)
theorem second_all {f : Nat} {c m : Int} (h : isC f c m) (u : D) (s : Int) : aP [.int (Int.ofNat f), .int c, .int m, u, .int s] = rt (.tuple [bT f (cT f c) m u, rD (topI f c m s) (botI f c)]) :=
 in3 (P := fun f => aP [.int (Int.ofNat f), .int c, .int m, u, .int s] = rt (.tuple [bT f (cT f c) m u, rD (topI f c m s) (botI f c)])) h.1 (second_0 c m s u) (second_1 m s u c h.2.1) (second_2 c m s u (by rcases h.2.2 with rfl | rfl | rfl <;> rfl))
theorem known_sm {f : Nat} {k : Int} (h : isK f k) : sm (knownI f k) = true :=
 in4 (P := fun f => sm (knownI f k) = true) h.1 (by rcases h.2 with rfl | rfl | rfl | rfl | rfl | rfl <;> rfl) (by rcases h.2 with rfl | rfl | rfl | rfl | rfl | rfl <;> rfl) (by rcases h.2 with rfl | rfl | rfl | rfl | rfl | rfl <;> rfl) rfl
structure Checked (U1 U5 : MR D) (s : Int) : Prop where
 a : ∀ f k, isK f k → chkA U1 U5 f k = true
 d0 : ∀ f k f2 c mm, isK f k → isC f2 c mm → chk0 (aO f k (.int 1) U1) (aO f k (.int 5) U5) (bO f2 (cT f2 c) mm (.int 1) U1) (bO f2 (cT f2 c) mm (.int 5) U5) f k f2 c mm s = true
 d1 : ∀ f k f2 c mm, isK f k → isC f2 c mm → chk1 (aO f k (.int 1) U1) (aO f k (.int 5) U5) (bO f2 (cT f2 c) mm (.int 1) U1) (bO f2 (cT f2 c) mm (.int 5) U5) f k f2 c mm s = true
 d2 : ∀ f k f2 c mm, isK f k → isC f2 c mm → chk2 (aO f k (.int 1) U1) (aO f k (.int 5) U5) (powO (-1) (bO f2 (cT f2 c) mm (.int 1) U1)) (powO (-1) (bO f2 (cT f2 c) mm (.int 5) U5)) f k f2 c mm s = true
theorem law_side {u L v4 v9 : D} {U1 U5 : MR D} {s : Int} (S : Side u L (fun t => aK [t, sD "x", v9, .int s]) U1 U5 s) (H : Checked U1 U5 s) {f f2 : Nat} {k c mm : Int} (hk : isK f k) (hc : isC f2 c mm) {d : Int} (hd : d = 0 ∨ d = 1 ∨ d = 2 ∨ d = 3)
  (h3 : DEED (.int s) v4 u v9 (aT f k u) (.int (knownI f k)) (.int (Int.ofNat f2)) (.int c) (.int mm) (bT f2 (cT f2 c) mm u) (.int (topI f2 c mm s)) (.int (botI f2 c)) (.int 3) = rt (.bool true)) :
  LAWY (.int s) v4 u v9 (.int (Int.ofNat f2)) (.int c) (.int mm) (bG [.int (Int.ofNat f), .int k, u]) (aP [.int (Int.ofNat f2), .int c, .int mm, u, .int s]) (rt (.int d)) = rt (.bool true) := by
 rw [LAWY_t _ _ _ _ _ _ _ _ _ _ _ _ _ _ _ (first_all hk u) (second_all hc u s)]
 rw [TAIL_d _ _ _ _ _ _ _ _ _ _ _ _ _ (side_a S hk (H.a f k hk)) (S.limB f2 c mm hc)]
 rcases hd with rfl | rfl | rfl | rfl
 ·exact DEED_0 _ _ _ _ _ _ _ _ _ _ _ _ (known_sm hk) (side_0 S hk hc rfl rfl rfl rfl (H.d0 f k f2 c mm hk hc))
 ·obtain ⟨x, y, e1, e2⟩ := side_1 S hk hc rfl rfl rfl rfl (H.d1 f k f2 c mm hk hc)
  exact DEED_1 _ _ _ _ _ _ _ _ _ _ _ _ x y (known_sm hk) e1 e2
 ·obtain ⟨r, e1, e2, e3⟩ := side_2 S hk hc rfl rfl rfl rfl (H.d2 f k f2 c mm hk hc)
  exact DEED_2 _ _ _ _ _ _ _ _ _ _ _ _ r e1 e2 e3
 ·exact h3
theorem limit_z (t : D) (p q : Int) : aK [t, sD "x", rD p q, .int 0] = bnd (tupR [aK [t, sD "x", rD p q, .int 1], aK [t, sD "x", rD p q, .int (-1)]]) fun v2 => unT v2 fun l3 => unC l3 fun v4 l5 => unC l5 fun v6 l7 => unE l7 (ifR (ofO (cmp .Eq v4 v6)) (rt v4) (rt .none)) := by
 rw [limit_p, limit_m]
 kernel_rfl
theorem pair_z {x y : MR D} {a b : D} (hx : x = rt a) (hy : y = rt b) : (bnd (tupR [x, y]) fun v2 => unT v2 fun l3 => unC l3 fun v4 l5 => unC l5 fun v6 l7 => unE l7 (ifR (ofO (cmp .Eq v4 v6)) (rt v4) (rt .none))) = ifR (ofO (cmp .Eq a b)) (rt a) (rt .none) := by
 rw [hx, hy]
 rfl
theorem top_two {f : Nat} {c m : Int} (h : isC f c m) : (∀ s t, topI f c m s = topI f c m t) ∨ (f = 2 ∧ botI f c = 1) :=
 in3 (P := fun f => (∀ s t, topI f c m s = topI f c m t) ∨ (f = 2 ∧ botI f c = 1)) h.1 (.inl fun _ _ => rfl) (.inl fun _ _ => rfl) (.inr ⟨rfl, rfl⟩)
theorem cmp_off {m s t : Int} (hm : m = 1 ∨ m = 2 ∨ m = -1) (hs : (s = 1 ∧ t = -1) ∨ (s = -1 ∧ t = 1)) : cmp .Eq (rD (m * s) 1) (rD (m * t) 1) = some (.bool false) := by
 rcases hm with rfl | rfl | rfl <;> rcases hs with ⟨rfl, rfl⟩ | ⟨rfl, rfl⟩ <;> kernel_rfl
theorem both_near {f : Nat} {c m : Int} (h : isC f c m) {s t : Int} (hs : (s = 1 ∧ t = -1) ∨ (s = -1 ∧ t = 1)) : ∃ r, ifR (ofO (cmp .Eq (rD (topI f c m 1) (botI f c)) (rD (topI f c m (-1)) (botI f c)))) (rt (rD (topI f c m 1) (botI f c))) (rt .none) = rt r ∧
  ifR (ofO (cmp .Eq (rD (topI f c m t) (botI f c)) (rD (topI f c m s) (botI f c)))) (rt (rD (topI f c m t) (botI f c))) (rt .none) = rt r ∧ cmp .Eq r r = some (.bool true) := by
 rcases top_two h with e | ⟨rfl, e⟩
 ·rw [e (-1) 1, e t 1, e s 1, cmp_eq_rat]
  exact ⟨_, rfl, rfl, cmp_eq_rat _ _⟩
 ·rw [e]
  refine ⟨.none, ?_, ?_, rfl⟩
  ·show ifR (ofO (cmp .Eq (rD (m * 1) 1) (rD (m * (-1)) 1))) _ _ = _
   rw [cmp_off h.2.2 (.inl ⟨rfl, rfl⟩)]
   rfl
  ·show ifR (ofO (cmp .Eq (rD (m * t) 1) (rD (m * s) 1))) _ _ = _
   rw [cmp_off h.2.2 (hs.elim (fun ⟨a, b⟩ => .inr ⟨b, a⟩) fun ⟨a, b⟩ => .inl ⟨b, a⟩)]
   rfl
theorem deed3_near {p q : Int} {u L L' : D} {U1 U5 V1 V5 : MR D} (S : Side u L (fun t => aK [t, sD "x", rD p q, .int 1]) U1 U5 1) (S' : Side u L' (fun t => aK [t, sD "x", rD p q, .int (-1)]) V1 V5 (-1)) {s : Int} (hs : s = 1 ∨ s = -1) {a : D} {k : Int} {f2 : Nat} {c mm : Int} (hc : isC f2 c mm) :
  DEED (.int s) (rD p q) u (rD p q) a (.int k) (.int (Int.ofNat f2)) (.int c) (.int mm) (bT f2 (cT f2 c) mm u) (.int (topI f2 c mm s)) (.int (botI f2 c)) (.int 3) = rt (.bool true) := by
 obtain ⟨r, e1, e2, e3⟩ := both_near hc (s := s) (t := 0 - s) (hs.elim (fun z => .inl ⟨z, by rw [z]; rfl⟩) fun z => .inr ⟨z, by rw [z]; rfl⟩)
 exact DEED_3n _ _ _ _ _ _ _ _ _ _ _ p q _ _ r s rfl (second_all hc u (0 - s)) ((limit_z _ p q).trans ((pair_z (S.limB f2 c mm hc) (S'.limB f2 c mm hc)).trans e1)) e2 e3
theorem deed3_far {u L L' v9 : D} {U1 U5 V1 V5 : MR D} (S : Side u L (fun t => aK [t, sD "x", sD "inf", .int 1]) U1 U5 1) (S' : Side u L' (fun t => aK [t, sD "x", sD "-inf", .int (-1)]) V1 V5 (-1)) {s : Int} (hs : s = 1 ∨ s = -1) {a : D} {k : Int} {f2 : Nat} {c mm : Int} (hc : isC f2 c mm) :
  DEED (.int s) .none u v9 a (.int k) (.int (Int.ofNat f2)) (.int c) (.int mm) (bT f2 (cT f2 c) mm u) (.int (topI f2 c mm s)) (.int (botI f2 c)) (.int 3) = rt (.bool true) := by
 refine DEED_3f s _ _ _ _ _ _ _ _ _ _ _ _ (second_all hc u (0 - s)) ?_
 rcases hs with rfl | rfl
 ·show aK [bT f2 (cT f2 c) mm u, sD "x", sD "-inf", .int 1] = _
  exact ((limit_low _ 1).trans (limit_low _ (-1)).symm).trans (S'.limB f2 c mm hc)
 ·show aK [bT f2 (cT f2 c) mm u, sD "x", sD "inf", .int (-1)] = _
  exact ((limit_inf _ (-1)).trans (limit_inf _ 1).symm).trans (S.limB f2 c mm hc)
structure Near (p q : Int) (U1 U5 V1 V5 : MR D) : Prop where
 S : Side (uN p q) (letN p q 1) (fun t => aK [t, sD "x", rD p q, .int 1]) U1 U5 1
 S' : Side (uN p q) (letN p q (-1)) (fun t => aK [t, sD "x", rD p q, .int (-1)]) V1 V5 (-1)
structure Far (U1 U5 V1 V5 : MR D) : Prop where
 S : Side uF (letF' 1) (fun t => aK [t, sD "x", sD "inf", .int 1]) U1 U5 1
 S' : Side uF (letF' (-1)) (fun t => aK [t, sD "x", sD "-inf", .int (-1)]) V1 V5 (-1)
theorem law_near {p q : Int} {U1 U5 V1 V5 : MR D} (N : Near p q U1 U5 V1 V5) (H : Checked U1 U5 1) (H' : Checked V1 V5 (-1)) {f f2 : Nat} {k c mm : Int} (hk : isK f k) (hc : isC f2 c mm) {d s : Int} (hd : d = 0 ∨ d = 1 ∨ d = 2 ∨ d = 3) (hs : s = 1 ∨ s = -1) :
  LAWX (rt (rD p q)) (rt (.int s)) (rt (.int (Int.ofNat f))) (rt (.int k)) (rt (.int c)) (rt (.int (Int.ofNat f2))) (rt (.int mm)) (rt (.int d)) = rt (.bool true) := by
 rcases hs with rfl | rfl
 ·rw [LAWX_n]
  exact law_side N.S H hk hc hd (deed3_near N.S N.S' (.inl rfl) hc)
 ·rw [LAWX_m]
  exact law_side N.S' H' hk hc hd (deed3_near N.S N.S' (.inr rfl) hc)
theorem law_far {U1 U5 V1 V5 : MR D} (N : Far U1 U5 V1 V5) (H : Checked U1 U5 1) (H' : Checked V1 V5 (-1)) {f f2 : Nat} {k c mm : Int} (hk : isK f k) (hc : isC f2 c mm) {d s : Int} (hd : d = 0 ∨ d = 1 ∨ d = 2 ∨ d = 3) (hs : s = 1 ∨ s = -1) :
  LAWX (rt .none) (rt (.int s)) (rt (.int (Int.ofNat f))) (rt (.int k)) (rt (.int c)) (rt (.int (Int.ofNat f2))) (rt (.int mm)) (rt (.int d)) = rt (.bool true) := by
 rcases hs with rfl | rfl
 ·rw [LAWX_i]
  exact law_side N.S H hk hc hd (deed3_far N.S N.S' (.inl rfl) hc)
 ·rw [LAWX_l]
  exact law_side N.S' H' hk hc hd (deed3_far N.S N.S' (.inr rfl) hc)
theorem int_lt {d : Int} {m : Nat} (h : 0 ≤ d ∧ d < Int.ofNat m) : ∃ n : Nat, n < m ∧ d = Int.ofNat n := by
 obtain ⟨n, rfl⟩ := Int.eq_ofNat_of_zero_le h.1
 exact ⟨n, Int.ofNat_lt.mp h.2, rfl⟩
theorem law_true {U1 U5 V1 V5 W1 W5 Z1 Z5 : MR D} (n0 : Near 0 1 U1 U5 V1 V5) (n1 : Near 2 1 U1 U5 V1 V5) (n2 : Near (-1) 1 U1 U5 V1 V5) (n3 : Near 1 2 U1 U5 V1 V5) (nf : Far W1 W5 Z1 Z5) (H1 : Checked U1 U5 1) (H2 : Checked V1 V5 (-1)) (H3 : Checked W1 W5 1) (H4 : Checked Z1 Z5 (-1))
  (l : List Int) (hl : l.length ≤ 63) : law1 [.list (l.map .int)] = rt (.bool true) := by
 have dr : ∀ (i : Nat) (m : Int), i < 1000 → (m == 0) = false → binop .Mult (.int 3) (.int (Int.ofNat i)) = some (.int (3 * Int.ofNat i)) → aQ [.list (l.map .int), .int (Int.ofNat i), .int m] = rt (.int (drI l i m)) := fun i m hi hm h3 => drawn l i m hl hi hm h3
 rw [law_X]
 have e0 := dr 0 5 (by decide) (by decide) (by kernel_rfl)
 have e1 := dr 1 2 (by decide) (by decide) (by kernel_rfl)
 have e2 := dr 2 4 (by decide) (by decide) (by kernel_rfl)
 have e3 := dr 3 6 (by decide) (by decide) (by kernel_rfl)
 have e4 := dr 4 5 (by decide) (by decide) (by kernel_rfl)
 have e5 := dr 5 3 (by decide) (by decide) (by kernel_rfl)
 have e6 := dr 6 3 (by decide) (by decide) (by kernel_rfl)
 have e7 := dr 7 4 (by decide) (by decide) (by kernel_rfl)
 obtain ⟨a0, l0, q0⟩ := int_lt (m := 5) (drI_lt l 0 (m := 5) (by decide))
 obtain ⟨a1, l1, q1⟩ := int_lt (m := 2) (drI_lt l 1 (m := 2) (by decide))
 obtain ⟨a2, l2, q2⟩ := int_lt (m := 4) (drI_lt l 2 (m := 4) (by decide))
 obtain ⟨a3, l3, q3⟩ := int_lt (m := 6) (drI_lt l 3 (m := 6) (by decide))
 obtain ⟨a4, l4, q4⟩ := int_lt (m := 5) (drI_lt l 4 (m := 5) (by decide))
 obtain ⟨a5, l5, q5⟩ := int_lt (m := 3) (drI_lt l 5 (m := 3) (by decide))
 obtain ⟨a6, l6, q6⟩ := int_lt (m := 3) (drI_lt l 6 (m := 3) (by decide))
 obtain ⟨a7, l7, q7⟩ := int_lt (m := 4) (drI_lt l 7 (m := 4) (by decide))
 have e0 : aQ [.list (l.map .int), .int 0, .int 5] = rt (.int (Int.ofNat a0)) := q0 ▸ e0
 have e1 : aQ [.list (l.map .int), .int 1, .int 2] = rt (.int (Int.ofNat a1)) := q1 ▸ e1
 have e2 : aQ [.list (l.map .int), .int 2, .int 4] = rt (.int (Int.ofNat a2)) := q2 ▸ e2
 have e3 : aQ [.list (l.map .int), .int 3, .int 6] = rt (.int (Int.ofNat a3)) := q3 ▸ e3
 have e4 : aQ [.list (l.map .int), .int 4, .int 5] = rt (.int (Int.ofNat a4)) := q4 ▸ e4
 have e5 : aQ [.list (l.map .int), .int 5, .int 3] = rt (.int (Int.ofNat a5)) := q5 ▸ e5
 have e6 : aQ [.list (l.map .int), .int 6, .int 3] = rt (.int (Int.ofNat a6)) := q6 ▸ e6
 have e7 : aQ [.list (l.map .int), .int 7, .int 4] = rt (.int (Int.ofNat a7)) := q7 ▸ e7
 rw [e0, e1, e2, e3, e4, e5, e6, e7]
 have x1 : ∃ s : Int, (s = 1 ∨ s = -1) ∧ subR (lstR [rt (.int 1), negR (rt (.int 1))]) (rt (.int (Int.ofNat a1))) = rt (.int s) := by
  match a1, l1 with
  | 0, _ => exact ⟨1, .inl rfl, rfl⟩
  | 1, _ => exact ⟨-1, .inr rfl, rfl⟩
 have x3 : ∃ k : Int, (k = 1 ∨ k = 2 ∨ k = 3 ∨ k = -1 ∨ k = -2 ∨ k = -3) ∧ subR (lstR [rt (.int 1), rt (.int 2), rt (.int 3), negR (rt (.int 1)), negR (rt (.int 2)), negR (rt (.int 3))]) (rt (.int (Int.ofNat a3))) = rt (.int k) := by
  match a3, l3 with
  | 0, _ => exact ⟨1, by decide, rfl⟩
  | 1, _ => exact ⟨2, by decide, rfl⟩
  | 2, _ => exact ⟨3, by decide, rfl⟩
  | 3, _ => exact ⟨-1, by decide, rfl⟩
  | 4, _ => exact ⟨-2, by decide, rfl⟩
  | 5, _ => exact ⟨-3, by decide, rfl⟩
 have x4 : ∃ c : Int, (c = -2 ∨ c = -1 ∨ c = 0 ∨ c = 1 ∨ c = 2) ∧ bopR .Sub (rt (.int (Int.ofNat a4))) (rt (.int 2)) = rt (.int c) := by
  match a4, l4 with
  | 0, _ => exact ⟨-2, by decide, rfl⟩
  | 1, _ => exact ⟨-1, by decide, rfl⟩
  | 2, _ => exact ⟨0, by decide, rfl⟩
  | 3, _ => exact ⟨1, by decide, rfl⟩
  | 4, _ => exact ⟨2, by decide, rfl⟩
 have x6 : ∃ m : Int, (m = 1 ∨ m = 2 ∨ m = -1) ∧ subR (lstR [rt (.int 1), rt (.int 2), negR (rt (.int 1))]) (rt (.int (Int.ofNat a6))) = rt (.int m) := by
  match a6, l6 with
  | 0, _ => exact ⟨1, by decide, rfl⟩
  | 1, _ => exact ⟨2, by decide, rfl⟩
  | 2, _ => exact ⟨-1, by decide, rfl⟩
 have x7 : (Int.ofNat a7) = 0 ∨ (Int.ofNat a7) = 1 ∨ (Int.ofNat a7) = 2 ∨ (Int.ofNat a7) = 3 := by
  match a7, l7 with
  | 0, _ => exact .inl rfl
  | 1, _ => exact .inr (.inl rfl)
  | 2, _ => exact .inr (.inr (.inl rfl))
  | 3, _ => exact .inr (.inr (.inr rfl))
 obtain ⟨s, hs, x1⟩ := x1
 obtain ⟨k, hk, x3⟩ := x3
 obtain ⟨c, hc, x4⟩ := x4
 obtain ⟨m, hm, x6⟩ := x6
 rw [x1, x3, x4, x6]
 have K : isK a2 k := ⟨l2, hk⟩
 have C : isC a5 c m := ⟨l5, hc, hm⟩
 match a0, l0 with
 | 0, _ => exact law_near n0 H1 H2 K C x7 hs
 | 1, _ => exact law_near n1 H1 H2 K C x7 hs
 | 2, _ => exact law_near n2 H1 H2 K C x7 hs
 | 3, _ => exact law_near n3 H1 H2 K C x7 hs
 | 4, _ => exact law_far nf H3 H4 K C x7 hs
noncomputable def uN1 : MR D := rt (.tuple [.int 0, .list [rD 0 1]])
noncomputable def uN5 (w : Int) : MR D := rt (.tuple [.int 0, .list [rD 0 1, rD w 1, rD 0 1, rD 0 1, rD 0 1]])
noncomputable def chkB (U1 U5 : MR D) (f : Nat) (c mm s : Int) : Bool := okR (lim (bO f (cT f c) mm (.int 1) U1) (bO f (cT f c) mm (.int 5) U5)) (topI f c mm s) (botI f c)
theorem hb_of {u : D} (h0 : ∀ c mm, cmp .Eq (bT 0 c mm u) zeroT = some (.bool false)) (h1 : ∀ c mm, cmp .Eq (bT 1 c mm u) zeroT = some (.bool false)) (h2 : ∀ c mm, cmp .Eq (bT 2 c mm u) zeroT = some (.bool false)) : ∀ f c mm, cmp .Eq (bT f c mm u) zeroT = some (.bool false)
 | 0 => h0
 | 1 => h1
 | _ + 2 => h2
theorem side_p (p q : Int) (h1 : ∀ n, aE (n + 2) [uN p q, .int 1, letN p q 1] = uN1) (h5 : ∀ n, aE (n + 2) [uN p q, .int 5, letN p q 1] = uN5 1) (hz : cmp .Eq (uN p q) zeroT = some (.bool false)) (h2 : cmp .Eq (powT (uN p q) (numT 2)) zeroT = some (.bool false)) (h3 : ∀ c mm, cmp .Eq (sum2T (numT c) (bE (numT mm) (uN p q))) zeroT = some (.bool false))
  (hb : ∀ f c mm, cmp .Eq (bT f c mm (uN p q)) zeroT = some (.bool false)) (H : ∀ f c mm, isC f c mm → chkB uN1 (uN5 1) f c mm 1 = true) : Side (uN p q) (letN p q 1) (fun t => aK [t, sD "x", rD p q, .int 1]) uN1 (uN5 1) 1 where
 hu1 := h1
 hu5 := h5
 hz := hz
 h2 := h2
 h3 := h3
 hb := hb
 limA := fun _ _ _ => limit_p _ p q
 lim0 := fun _ _ _ _ _ _ _ => limit_p _ p q
 lim1 := fun _ _ _ _ _ _ _ => limit_p _ p q
 lim2 := fun _ _ _ _ _ _ _ => limit_p _ p q
 limB := fun f c mm hc => (limit_p _ p q).trans (lim_ok (OT_b 4 f _ mm h1 hz h2 (h3 _ _)) (OT_b 4 f _ mm h5 hz h2 (h3 _ _)) (okR_eq (H f c mm hc)))
theorem side_m (p q : Int) (h1 : ∀ n, aE (n + 2) [uN p q, .int 1, letN p q (-1)] = uN1) (h5 : ∀ n, aE (n + 2) [uN p q, .int 5, letN p q (-1)] = uN5 (-1)) (hz : cmp .Eq (uN p q) zeroT = some (.bool false)) (h2 : cmp .Eq (powT (uN p q) (numT 2)) zeroT = some (.bool false)) (h3 : ∀ c mm, cmp .Eq (sum2T (numT c) (bE (numT mm) (uN p q))) zeroT = some (.bool false))
  (hb : ∀ f c mm, cmp .Eq (bT f c mm (uN p q)) zeroT = some (.bool false)) (H : ∀ f c mm, isC f c mm → chkB uN1 (uN5 (-1)) f c mm (-1) = true) : Side (uN p q) (letN p q (-1)) (fun t => aK [t, sD "x", rD p q, .int (-1)]) uN1 (uN5 (-1)) (-1) where
 hu1 := h1
 hu5 := h5
 hz := hz
 h2 := h2
 h3 := h3
 hb := hb
 limA := fun _ _ _ => limit_m _ p q
 lim0 := fun _ _ _ _ _ _ _ => limit_m _ p q
 lim1 := fun _ _ _ _ _ _ _ => limit_m _ p q
 lim2 := fun _ _ _ _ _ _ _ => limit_m _ p q
 limB := fun f c mm hc => (limit_m _ p q).trans (lim_ok (OT_b 4 f _ mm h1 hz h2 (h3 _ _)) (OT_b 4 f _ mm h5 hz h2 (h3 _ _)) (okR_eq (H f c mm hc)))
def NearB : Prop := (∀ f c mm, isC f c mm → chkB uN1 (uN5 1) f c mm 1 = true) ∧ (∀ f c mm, isC f c mm → chkB uN1 (uN5 (-1)) f c mm (-1) = true)
theorem near_0 (H : NearB) : Near 0 1 uN1 (uN5 1) uN1 (uN5 (-1)) :=
 ⟨side_p 0 1 (fun n => by kernel_rfl) (fun n => by kernel_rfl) (by kernel_rfl) (by kernel_rfl) (fun c mm => by kernel_rfl) (hb_of (fun c mm => by kernel_rfl) (fun c mm => by kernel_rfl) fun c mm => by kernel_rfl) H.1,
  side_m 0 1 (fun n => by kernel_rfl) (fun n => by kernel_rfl) (by kernel_rfl) (by kernel_rfl) (fun c mm => by kernel_rfl) (hb_of (fun c mm => by kernel_rfl) (fun c mm => by kernel_rfl) fun c mm => by kernel_rfl) H.2⟩
theorem near_1 (H : NearB) : Near 2 1 uN1 (uN5 1) uN1 (uN5 (-1)) :=
 ⟨side_p 2 1 (fun n => by kernel_rfl) (fun n => by kernel_rfl) (by kernel_rfl) (by kernel_rfl) (fun c mm => by kernel_rfl) (hb_of (fun c mm => by kernel_rfl) (fun c mm => by kernel_rfl) fun c mm => by kernel_rfl) H.1,
  side_m 2 1 (fun n => by kernel_rfl) (fun n => by kernel_rfl) (by kernel_rfl) (by kernel_rfl) (fun c mm => by kernel_rfl) (hb_of (fun c mm => by kernel_rfl) (fun c mm => by kernel_rfl) fun c mm => by kernel_rfl) H.2⟩
theorem near_2 (H : NearB) : Near (-1) 1 uN1 (uN5 1) uN1 (uN5 (-1)) :=
 ⟨side_p (-1) 1 (fun n => by kernel_rfl) (fun n => by kernel_rfl) (by kernel_rfl) (by kernel_rfl) (fun c mm => by kernel_rfl) (hb_of (fun c mm => by kernel_rfl) (fun c mm => by kernel_rfl) fun c mm => by kernel_rfl) H.1,
  side_m (-1) 1 (fun n => by kernel_rfl) (fun n => by kernel_rfl) (by kernel_rfl) (by kernel_rfl) (fun c mm => by kernel_rfl) (hb_of (fun c mm => by kernel_rfl) (fun c mm => by kernel_rfl) fun c mm => by kernel_rfl) H.2⟩
theorem near_3 (H : NearB) : Near 1 2 uN1 (uN5 1) uN1 (uN5 (-1)) :=
 ⟨side_p 1 2 (fun n => by kernel_rfl) (fun n => by kernel_rfl) (by kernel_rfl) (by kernel_rfl) (fun c mm => by kernel_rfl) (hb_of (fun c mm => by kernel_rfl) (fun c mm => by kernel_rfl) fun c mm => by kernel_rfl) H.1,
  side_m 1 2 (fun n => by kernel_rfl) (fun n => by kernel_rfl) (by kernel_rfl) (by kernel_rfl) (fun c mm => by kernel_rfl) (hb_of (fun c mm => by kernel_rfl) (fun c mm => by kernel_rfl) fun c mm => by kernel_rfl) H.2⟩
noncomputable def uF1 (w : Int) : MR D := rt (.tuple [.int 1, .list [rD w 1]])
noncomputable def uF5 (w : Int) : MR D := rt (.tuple [.int 1, .list [rD w 1, rD 0 1, rD 0 1, rD 0 1, rD 0 1]])
noncomputable abbrev dom : Except SStr D := .error (nm "domain")
noncomputable def v1s : D := .tuple [.dict [], .dict [(gSTILL, gR1)]]
noncomputable def v1p : D := .tuple [.dict [(gSTILL, gR1)], .dict [(gSTILL, gR1)]]
theorem G_sum (n : Nat) (a b x : D) : aH (n + 1) [sum2T a b, x] = bnd (aH n [a, x]) fun v8 => (bnd (tupR [(bnd (mR [(bnd (mR [(subR (rt v1s) (rt (.int 0))), (subR (rt v8) (rt (.int 1)))]) gmul1), (bnd (mR [(subR (rt v8) (rt (.int 0))), (subR (rt v1s) (rt (.int 1)))]) gmul1)]) gadd1), (bnd (mR [(subR (rt v1s) (rt (.int 1))), (subR (rt v8) (rt (.int 1)))]) gmul1)]) fun v9 => loopG (fun (t2 : D × D × D) (d4 : D) (k6 : D × D × D → MR D) => (bnd (bnd (mR [(rt d4), (rt x)]) (aH n)) fun v10 => (bnd (tupR [(bnd (mR [(bnd (mR [(subR (rt t2.1) (rt (.int 0))), (subR (rt v10) (rt (.int 1)))]) gmul1), (bnd (mR [(subR (rt v10) (rt (.int 0))), (subR (rt t2.1) (rt (.int 1)))]) gmul1)]) gadd1), (bnd (mR [(subR (rt t2.1) (rt (.int 1))), (subR (rt v10) (rt (.int 1)))]) gmul1)]) fun v11 => (k6 (v11, d4, v10))))) (fun t3 : D × D × D => (rt t3.1)) [b] (v9, a, v8)) := by kernel_rfl
theorem G_prod (n : Nat) (a b x : D) : aH (n + 1) [bE a b, x] = bnd (aH n [a, x]) fun v19 => (bnd (tupR [(bnd (mR [(subR (rt v1p) (rt (.int 0))), (subR (rt v19) (rt (.int 0)))]) gmul1), (bnd (mR [(subR (rt v1p) (rt (.int 1))), (subR (rt v19) (rt (.int 1)))]) gmul1)]) fun v20 => loopG (fun (t13 : D × D × D) (d15 : D) (k17 : D × D × D → MR D) => (bnd (bnd (mR [(rt d15), (rt x)]) (aH n)) fun v21 => (bnd (tupR [(bnd (mR [(subR (rt t13.1) (rt (.int 0))), (subR (rt v21) (rt (.int 0)))]) gmul1), (bnd (mR [(subR (rt t13.1) (rt (.int 1))), (subR (rt v21) (rt (.int 1)))]) gmul1)]) fun v22 => (k17 (v22, d15, v21))))) (fun t14 : D × D × D => (rt t14.1)) [b] (v20, a, v19)) := by kernel_rfl
theorem G_sum_e {n : Nat} {a b x : D} (h : aH n [a, x] = some dom) : aH (n + 1) [sum2T a b, x] = some dom := by
 rw [G_sum, h]
 rfl
theorem G_prod_e {n : Nat} {a b x : D} (h : aH n [a, x] = some dom) : aH (n + 1) [bE a b, x] = some dom := by
 rw [G_prod, h]
 rfl
theorem farS_e {s : MR D} : farS (some dom) s = s := by kernel_rfl
noncomputable def uM : D := powT (bE (numT (-1)) symT) (numT (-1))
structure NoGrowth (u : D) : Prop where
 e : ∀ n k, (k = 1 ∨ k = 2 ∨ k = 3 ∨ k = -1 ∨ k = -2 ∨ k = -3) → aH (n + 6) [callT "exp" (bE (numT k) u), sD "x"] = some dom
 l : ∀ n k, (k = 1 ∨ k = 2 ∨ k = 3 ∨ k = -1 ∨ k = -2 ∨ k = -3) → aH (n + 7) [callT "log" (sum2T (numT 1) (bE (numT k) u)), sD "x"] = some dom
theorem no_sin (n : Nat) (t : D) : aH (n + 1) [callT "sin" t, sD "x"] = some dom := by kernel_rfl
theorem grow_a {u : D} (N : NoGrowth u) {f : Nat} {k : Int} (h : isK f k) (n : Nat) : aH (n + 8) [aT f k u, sD "x"] = some dom :=
 in4 (P := fun f => aH (n + 8) [aT f k u, sD "x"] = some dom) h.1 (G_prod_e (G_sum_e (N.e n k h.2))) (G_prod_e (no_sin (n + 6) _)) (G_prod_e (N.l n k h.2)) (N.e (n + 2) k h.2)
theorem far_i {t : D} (h : aH 9 [t, sD "x"] = some dom) : aK [t, sD "x", sD "inf", .int 1] = endS (searchS fun m => aE 9 [t, .int m, letF' 1]) := by
 rw [limit_inf, h, farS_e]
theorem far_l {t t' : D} (hm : aM 8 [t, sD "x"] = rt t') (h : aH 9 [t', sD "x"] = some dom) : aK [t, sD "x", sD "-inf", .int (-1)] = endS (searchS fun m => aE 9 [t, .int m, letF' (-1)]) := by
 rw [limit_low]
 have e : bnd (mR [bnd (mR [rt t, rt (sD "x")]) (aM 8), rt (sD "x")]) (aH 9) = some dom := by
  refine Eq.trans (b := bnd (mR [aM 8 [t, sD "x"], rt (sD "x")]) (aH 9)) rfl ?_
  rw [hm]
  exact h
 rw [e, farS_e]
theorem mir_a (f : Nat) (k : Int) : aM 8 [aT f k uF, sD "x"] = rt (aT f k uM) := by
 match f with
 | 0 => kernel_rfl
 | 1 => kernel_rfl
 | 2 => kernel_rfl
 | f + 3 => exact (by kernel_rfl : aM 8 [callT "exp" (bE (numT k) uF), sD "x"] = rt (callT "exp" (bE (numT k) uM)))
theorem mir7_a (f : Nat) (k : Int) : aM 7 [aT f k uF, sD "x"] = rt (aT f k uM) := by
 match f with
 | 0 => kernel_rfl
 | 1 => kernel_rfl
 | 2 => kernel_rfl
 | f + 3 => exact (by kernel_rfl : aM 7 [callT "exp" (bE (numT k) uF), sD "x"] = rt (callT "exp" (bE (numT k) uM)))
theorem mir7_b (f : Nat) (c m : Int) : ∃ t, aM 7 [bT f c m uF, sD "x"] = rt t ∧ aM 7 [powT (bT f c m uF) (numT (-1)), sD "x"] = rt (powT t (numT (-1))) := by
 match f with
 | 0 => exact ⟨bT 0 c m uM, by kernel_rfl, by kernel_rfl⟩
 | 1 => exact ⟨bT 1 c m uM, by kernel_rfl, by kernel_rfl⟩
 | f + 2 => exact ⟨bT 2 c m uM, (by kernel_rfl : aM 7 [bT 2 c m uF, sD "x"] = rt (bT 2 c m uM)), (by kernel_rfl : aM 7 [powT (bT 2 c m uF) (numT (-1)), sD "x"] = rt (powT (bT 2 c m uM) (numT (-1))))⟩
noncomputable def pairT (x y : MR D) : MR D := bnd (bnd x fun a => bnd (bnd y fun b => bnd (rt []) fun bs => rt (b :: bs)) fun bs => rt (a :: bs)) fun ds => rt (.list ds)
theorem M_sum (n : Nat) (a b : D) : aM (n + 1) [sum2T a b, sD "x"] = tupR [rt (sD "sum"), bnd (mR [pairT (aM n [a, sD "x"]) (aM n [b, sD "x"])]) fun ds => ofO (tupleB ds)] := by kernel_rfl
theorem M_prod (n : Nat) (a b : D) : aM (n + 1) [bE a b, sD "x"] = tupR [rt (sD "prod"), bnd (mR [pairT (aM n [a, sD "x"]) (aM n [b, sD "x"])]) fun ds => ofO (tupleB ds)] := by kernel_rfl
theorem M_sum_ok {n : Nat} {a b a' b' : D} (ha : aM n [a, sD "x"] = rt a') (hb : aM n [b, sD "x"] = rt b') : aM (n + 1) [sum2T a b, sD "x"] = rt (sum2T a' b') := by
 rw [M_sum, ha, hb]
 rfl
theorem M_prod_ok {n : Nat} {a b a' b' : D} (ha : aM n [a, sD "x"] = rt a') (hb : aM n [b, sD "x"] = rt b') : aM (n + 1) [bE a b, sD "x"] = rt (bE a' b') := by
 rw [M_prod, ha, hb]
 rfl
theorem ng_F : NoGrowth uF where
 e := fun n k h => by rcases h with rfl | rfl | rfl | rfl | rfl | rfl <;> kernel_rfl
 l := fun n k h => by rcases h with rfl | rfl | rfl | rfl | rfl | rfl <;> kernel_rfl
theorem ng_M : NoGrowth uM where
 e := fun n k h => by rcases h with rfl | rfl | rfl | rfl | rfl | rfl <;> kernel_rfl
 l := fun n k h => by rcases h with rfl | rfl | rfl | rfl | rfl | rfl <;> kernel_rfl
theorem far_of (H1 : ∀ f c mm, isC f c mm → aK [bT f (cT f c) mm uF, sD "x", sD "inf", .int 1] = rt (rD (topI f c mm 1) (botI f c))) (H2 : ∀ f c mm, isC f c mm → aK [bT f (cT f c) mm uF, sD "x", sD "-inf", .int (-1)] = rt (rD (topI f c mm (-1)) (botI f c))) : Far (uF1 1) (uF5 1) (uF1 (-1)) (uF5 (-1)) where
 S := {
  hu1 := fun n => by kernel_rfl
  hu5 := fun n => by kernel_rfl
  hz := by kernel_rfl
  h2 := by kernel_rfl
  h3 := fun c mm => by kernel_rfl
  hb := hb_of (fun c mm => by kernel_rfl) (fun c mm => by kernel_rfl) fun c mm => by kernel_rfl
  limA := fun f k hk => far_i (grow_a ng_F hk 1)
  lim0 := fun f k f2 c mm hk _ => far_i (G_sum_e (grow_a ng_F hk 0))
  lim1 := fun f k f2 c mm hk _ => far_i (G_prod_e (grow_a ng_F hk 0))
  lim2 := fun f k f2 c mm hk _ => far_i (G_prod_e (grow_a ng_F hk 0))
  limB := H1 }
 S' := {
  hu1 := fun n => by kernel_rfl
  hu5 := fun n => by kernel_rfl
  hz := by kernel_rfl
  h2 := by kernel_rfl
  h3 := fun c mm => by kernel_rfl
  hb := hb_of (fun c mm => by kernel_rfl) (fun c mm => by kernel_rfl) fun c mm => by kernel_rfl
  limA := fun f k hk => far_l (mir_a f k) (grow_a ng_M hk 1)
  lim0 := fun f k f2 c mm hk _ => let ⟨_, h1, _⟩ := mir7_b f2 (cT f2 c) mm; far_l (M_sum_ok (mir7_a f k) h1) (G_sum_e (grow_a ng_M hk 0))
  lim1 := fun f k f2 c mm hk _ => let ⟨_, h1, _⟩ := mir7_b f2 (cT f2 c) mm; far_l (M_prod_ok (mir7_a f k) h1) (G_prod_e (grow_a ng_M hk 0))
  lim2 := fun f k f2 c mm hk _ => let ⟨_, _, h2⟩ := mir7_b f2 (cT f2 c) mm; far_l (M_prod_ok (mir7_a f k) h2) (G_prod_e (grow_a ng_M hk 0))
  limB := H2 }
noncomputable def eqRs : List D → List D → Bool
 | [], m => isNil m
 | d :: l, m => match m with
  | [] => false
  | e :: m => yes (ratM d fun a b => ratM e fun x y => some (a == x && b == y && eqRs l m))
noncomputable def errIs (y : MR D) (a : SStr) : Bool := match y with
 | some (.error b) => sEq a b
 | _ => false
noncomputable def eqL (x y : MR D) : Bool := match x with
 | some (.error a) => errIs y a
 | x => yes (okM x fun d => okM y fun e => serM d fun a l => serM e fun b m => some (a == b && eqRs l m))
theorem eqRs_eq : ∀ {l m : List D}, eqRs l m = true → l = m
 | [], m, h => (aZ h).symm
 | d :: l, m, h => by
  cases m with
  | nil => exact ft h
  | cons e m =>
   obtain ⟨a, b, rfl, h1⟩ := ratM_of (yes_ex h)
   obtain ⟨x, y, rfl, h2⟩ := ratM_of h1
   obtain ⟨g, h3⟩ := ba (si h2)
   obtain ⟨g1, g2⟩ := ba g
   rw [bq g1, bq g2, eqRs_eq h3]
theorem eqOk {x y : MR D} (h : yes (okM x fun d => okM y fun e => serM d fun a l => serM e fun b m => some (a == b && eqRs l m)) = true) : x = y := by
 obtain ⟨d, rfl, h1⟩ := okM_of (yes_ex h)
 obtain ⟨e, rfl, h2⟩ := okM_of h1
 obtain ⟨a, l, rfl, h3⟩ := serM_of h2
 obtain ⟨b, m, rfl, h4⟩ := serM_of h3
 obtain ⟨g1, g2⟩ := ba (si h4)
 rw [bq g1, eqRs_eq g2]
theorem eqL_eq {x y : MR D} (h : eqL x y = true) : x = y := by
 cases x with
 | none => exact eqOk h
 | some r => cases r with
  | ok d => exact eqOk h
  | error a =>
   cases y with
   | none => exact ft h
   | some q => cases q with
    | ok d => exact ft h
    | error b => rw [aX.mp (show sEq a b = true from h)]
structure Row where
 f : Nat
 c : Int
 m : Int
 b1 : MR D
 b5 : MR D
 p1 : MR D
 p5 : MR D
noncomputable def er : MR D := some (.error (nm "limit"))
noncomputable def lv (low : Int) (l : List (Int × Int)) : MR D := rt (.tuple [.int low, .list (l.map fun x => rD x.1 x.2)])
noncomputable def bRow (U1 U5 : MR D) (r : Row) : Bool := eqL (bO r.f (cT r.f r.c) r.m (.int 1) U1) r.b1 && eqL (bO r.f (cT r.f r.c) r.m (.int 5) U5) r.b5 && eqL (powO (-1) r.b1) r.p1 && eqL (powO (-1) r.b5) r.p5
noncomputable def nRow (s : Int) (r : Row) : Bool := okR (lim r.b1 r.b5) (topI r.f r.c r.m s) (botI r.f r.c)
noncomputable def aRow (U1 U5 : MR D) (s : Int) (rows : List Row) (f : Nat) (k : Int) (A1 A5 : MR D) : Bool := eqL (aO f k (.int 1) U1) A1 && eqL (aO f k (.int 5) U5) A5 && okR (lim A1 A5) (knownI f k) 1 &&
 rows.all fun r => chk0 A1 A5 r.b1 r.b5 f k r.f r.c r.m s && chk1 A1 A5 r.b1 r.b5 f k r.f r.c r.m s && chk2 A1 A5 r.p1 r.p5 f k r.f r.c r.m s
noncomputable def cN (f : Nat) (c : Int) : Int := match f with
 | 0 => c
 | 1 => c
 | _ => 0
noncomputable def keyed (rows : List Row) (f : Nat) (c m : Int) : Bool := rows.any fun r => r.f == f && r.c == c && r.m == m
noncomputable def keysAll (rows : List Row) : Bool := ([-2, -1, 0, 1, 2] : List Int).all fun c => ([1, 2, -1] : List Int).all fun m => keyed rows 0 c m && keyed rows 1 c m && keyed rows 2 0 m
theorem keyed_of {rows : List Row} (h : keysAll rows = true) {f : Nat} {c m : Int} (hc : isC f c m) : ∃ r ∈ rows, r.f = f ∧ r.c = cN f c ∧ r.m = m := by
 have k : keyed rows f (cN f c) m = true := by
  have h1 := la h c (by rcases hc.2.1 with rfl | rfl | rfl | rfl | rfl <;> decide)
  have h2 := la h1 m (by rcases hc.2.2 with rfl | rfl | rfl <;> decide)
  obtain ⟨h3, h4⟩ := ba h2
  obtain ⟨h5, h6⟩ := ba h3
  exact in3 (P := fun f => keyed rows f (cN f c) m = true) hc.1 h5 h6 h4
 obtain ⟨r, hr, q⟩ := List.any_eq_true.mp k
 obtain ⟨q, q3⟩ := ba q
 obtain ⟨q1, q2⟩ := ba q
 exact ⟨r, hr, bq q1, bq q2, bq q3⟩
theorem top_cN {f : Nat} (c m s : Int) (h : f < 3) : topI f (cN f c) m s = topI f c m s ∧ botI f (cN f c) = botI f c ∧ ∀ mm x, bO f (cT f (cN f c)) m mm x = bO f (cT f c) m mm x := by
 exact in3 (P := fun f => topI f (cN f c) m s = topI f c m s ∧ botI f (cN f c) = botI f c ∧ ∀ mm x, bO f (cT f (cN f c)) m mm x = bO f (cT f c) m mm x) h ⟨rfl, rfl, fun _ _ => rfl⟩ ⟨rfl, rfl, fun _ _ => rfl⟩ ⟨rfl, rfl, fun _ _ => rfl⟩
theorem row_of {U1 U5 : MR D} {s : Int} {rows : List Row} (hk : keysAll rows = true) (hb : (rows.all (bRow U1 U5)) = true) {f : Nat} {c m : Int} (hc : isC f c m) :
  ∃ r ∈ rows, bO f (cT f c) m (.int 1) U1 = r.b1 ∧ bO f (cT f c) m (.int 5) U5 = r.b5 ∧ powO (-1) r.b1 = r.p1 ∧ powO (-1) r.b5 = r.p5 ∧ r.f = f ∧ r.m = m ∧ topI f r.c m s = topI f c m s ∧ botI f r.c = botI f c := by
 obtain ⟨r, hr, h1, h2, h3⟩ := keyed_of hk hc
 have hq := la hb r hr
 unfold bRow at hq
 obtain ⟨hq, q4⟩ := ba hq
 obtain ⟨hq, q3⟩ := ba hq
 obtain ⟨q1, q2⟩ := ba hq
 obtain ⟨e1, e2, e3⟩ := top_cN c m s hc.1
 have q1 := eqL_eq q1
 have q2 := eqL_eq q2
 rw [h1, h2, h3, e3] at q1 q2
 exact ⟨r, hr, q1, q2, eqL_eq q3, eqL_eq q4, h1, h3, by rw [h2]; exact e1, by rw [h2]; exact e2⟩
theorem checked_of {U1 U5 : MR D} {s : Int} {rows : List Row} (hk : keysAll rows = true) (hb : (rows.all (bRow U1 U5)) = true) (ha : ∀ f k, isK f k → ∃ A1 A5, aRow U1 U5 s rows f k A1 A5 = true) : Checked U1 U5 s := by
 have key : ∀ f k, isK f k → ∃ A1 A5, aO f k (.int 1) U1 = A1 ∧ aO f k (.int 5) U5 = A5 ∧ okR (lim A1 A5) (knownI f k) 1 = true ∧ ∀ r ∈ rows, chk0 A1 A5 r.b1 r.b5 f k r.f r.c r.m s = true ∧ chk1 A1 A5 r.b1 r.b5 f k r.f r.c r.m s = true ∧ chk2 A1 A5 r.p1 r.p5 f k r.f r.c r.m s = true := by
  intro f k h
  obtain ⟨A1, A5, q⟩ := ha f k h
  unfold aRow at q
  obtain ⟨q, q4⟩ := ba q
  obtain ⟨q, q3⟩ := ba q
  obtain ⟨q1, q2⟩ := ba q
  refine ⟨A1, A5, eqL_eq q1, eqL_eq q2, q3, fun r hr => ?_⟩
  have := la q4 r hr
  obtain ⟨z, z3⟩ := ba this
  obtain ⟨z1, z2⟩ := ba z
  exact ⟨z1, z2, z3⟩
 refine ⟨fun f k h => ?_, fun f k f2 c mm h hc => ?_, fun f k f2 c mm h hc => ?_, fun f k f2 c mm h hc => ?_⟩
 ·obtain ⟨A1, A5, e1, e5, q, _⟩ := key f k h
  unfold chkA
  rw [e1, e5]
  exact q
 ·obtain ⟨A1, A5, e1, e5, _, q⟩ := key f k h
  obtain ⟨r, hr, b1, b5, _, _, g1, g2, g3, g4⟩ := row_of (s := s) hk hb hc
  have := (q r hr).1
  unfold chk0 at this ⊢
  rw [g1, g2, g3, g4] at this
  rw [e1, e5, b1, b5]
  exact this
 ·obtain ⟨A1, A5, e1, e5, _, q⟩ := key f k h
  obtain ⟨r, hr, b1, b5, _, _, g1, g2, g3, g4⟩ := row_of (s := s) hk hb hc
  have := (q r hr).2.1
  unfold chk1 at this ⊢
  rw [g1, g2, g3, g4] at this
  rw [e1, e5, b1, b5]
  exact this
 ·obtain ⟨A1, A5, e1, e5, _, q⟩ := key f k h
  obtain ⟨r, hr, b1, b5, p1, p5, g1, g2, g3, g4⟩ := row_of (s := s) hk hb hc
  have := (q r hr).2.2
  unfold chk2 at this ⊢
  rw [g1, g2, g3, g4] at this
  rw [e1, e5, b1, b5, p1, p5]
  exact this
theorem nearB_of {U1 U5 : MR D} {s : Int} {rows : List Row} (hk : keysAll rows = true) (hb : (rows.all (bRow U1 U5)) = true) (hn : (rows.all (nRow s)) = true) : ∀ f c mm, isC f c mm → chkB U1 U5 f c mm s = true := by
 intro f c mm hc
 obtain ⟨r, hr, b1, b5, _, _, g1, g2, g3, g4⟩ := row_of (s := s) hk hb hc
 have := la hn r hr
 unfold nRow at this
 unfold chkB
 rw [g1, g2, g3, g4] at this
 rw [b1, b5]
 exact this
noncomputable def prs : List Int → List (Int × Int)
 | a :: b :: r => (a, b) :: prs r
 | _ => []
noncomputable def l5 (low : Int) (l : List Int) : MR D := lv low (prs l)
noncomputable def ro (f : Nat) (c m : Int) (b p : List Int) : Row := ⟨f, c, m, l5 0 (b.take 2), l5 0 b, l5 0 (p.take 2), l5 0 p⟩
noncomputable abbrev K6 (k : Int) : Prop := k = 1 ∨ k = 2 ∨ k = 3 ∨ k = -1 ∨ k = -2 ∨ k = -3
noncomputable abbrev RowAt (U1 U5 : MR D) (s : Int) (rows : List Row) (f : Nat) (k : Int) : Prop := ∃ A1 A5, aRow U1 U5 s rows f k A1 A5 = true
theorem rows6 {U1 U5 : MR D} {s : Int} {rows : List Row} {f : Nat} {k : Int} (h : K6 k) (a : RowAt U1 U5 s rows f 1) (b : RowAt U1 U5 s rows f 2) (c : RowAt U1 U5 s rows f 3) (d : RowAt U1 U5 s rows f (-1)) (e : RowAt U1 U5 s rows f (-2)) (g : RowAt U1 U5 s rows f (-3)) : RowAt U1 U5 s rows f k := by
 rcases h with rfl | rfl | rfl | rfl | rfl | rfl <;> assumption
theorem rows4 {U1 U5 : MR D} {s : Int} {rows : List Row} (a : ∀ {k}, K6 k → RowAt U1 U5 s rows 0 k) (b : ∀ {k}, K6 k → RowAt U1 U5 s rows 1 k) (c : ∀ {k}, K6 k → RowAt U1 U5 s rows 2 k) (d : ∀ {k}, K6 k → RowAt U1 U5 s rows 3 k) : ∀ f k, isK f k → RowAt U1 U5 s rows f k :=
 fun f k h => in4 (P := fun f => RowAt U1 U5 s rows f k) h.1 (a h.2) (b h.2) (c h.2) (d h.2)
noncomputable def rows_np : List Row := [
 ro 0 (-2) 1 [-2, 1, 1, 1, 0, 1, 0, 1, 0, 1] [-1, 2, -1, 4, -1, 8, -1, 16, -1, 32],
 ro 0 (-2) 2 [-2, 1, 2, 1, 0, 1, 0, 1, 0, 1] [-1, 2, -1, 2, -1, 2, -1, 2, -1, 2],
 ro 0 (-2) (-1) [-2, 1, -1, 1, 0, 1, 0, 1, 0, 1] [-1, 2, 1, 4, -1, 8, 1, 16, -1, 32],
 ro 0 (-1) 1 [-1, 1, 1, 1, 0, 1, 0, 1, 0, 1] [-1, 1, -1, 1, -1, 1, -1, 1, -1, 1],
 ro 0 (-1) 2 [-1, 1, 2, 1, 0, 1, 0, 1, 0, 1] [-1, 1, -2, 1, -4, 1, -8, 1, -16, 1],
 ro 0 (-1) (-1) [-1, 1, -1, 1, 0, 1, 0, 1, 0, 1] [-1, 1, 1, 1, -1, 1, 1, 1, -1, 1],
 ⟨0, 0, 1, (l5 0 [0, 1]), (l5 0 [0, 1, 1, 1, 0, 1, 0, 1, 0, 1]), er, (l5 (-1) [1, 1, 0, 1, 0, 1, 0, 1])⟩,
 ⟨0, 0, 2, (l5 0 [0, 1]), (l5 0 [0, 1, 2, 1, 0, 1, 0, 1, 0, 1]), er, (l5 (-1) [1, 2, 0, 1, 0, 1, 0, 1])⟩,
 ⟨0, 0, -1, (l5 0 [0, 1]), (l5 0 [0, 1, -1, 1, 0, 1, 0, 1, 0, 1]), er, (l5 (-1) [-1, 1, 0, 1, 0, 1, 0, 1])⟩,
 ro 0 1 1 [1, 1, 1, 1, 0, 1, 0, 1, 0, 1] [1, 1, -1, 1, 1, 1, -1, 1, 1, 1],
 ro 0 1 2 [1, 1, 2, 1, 0, 1, 0, 1, 0, 1] [1, 1, -2, 1, 4, 1, -8, 1, 16, 1],
 ro 0 1 (-1) [1, 1, -1, 1, 0, 1, 0, 1, 0, 1] [1, 1, 1, 1, 1, 1, 1, 1, 1, 1],
 ro 0 2 1 [2, 1, 1, 1, 0, 1, 0, 1, 0, 1] [1, 2, -1, 4, 1, 8, -1, 16, 1, 32],
 ro 0 2 2 [2, 1, 2, 1, 0, 1, 0, 1, 0, 1] [1, 2, -1, 2, 1, 2, -1, 2, 1, 2],
 ro 0 2 (-1) [2, 1, -1, 1, 0, 1, 0, 1, 0, 1] [1, 2, 1, 4, 1, 8, 1, 16, 1, 32],
 ro 1 (-2) 1 [-1, 2, -1, 4, -1, 8, -1, 16, -1, 32] [-2, 1, 1, 1, 0, 1, 0, 1, 0, 1],
 ro 1 (-2) 2 [-1, 2, -1, 2, -1, 2, -1, 2, -1, 2] [-2, 1, 2, 1, 0, 1, 0, 1, 0, 1],
 ro 1 (-2) (-1) [-1, 2, 1, 4, -1, 8, 1, 16, -1, 32] [-2, 1, -1, 1, 0, 1, 0, 1, 0, 1],
 ro 1 (-1) 1 [-1, 1, -1, 1, -1, 1, -1, 1, -1, 1] [-1, 1, 1, 1, 0, 1, 0, 1, 0, 1],
 ro 1 (-1) 2 [-1, 1, -2, 1, -4, 1, -8, 1, -16, 1] [-1, 1, 2, 1, 0, 1, 0, 1, 0, 1],
 ro 1 (-1) (-1) [-1, 1, 1, 1, -1, 1, 1, 1, -1, 1] [-1, 1, -1, 1, 0, 1, 0, 1, 0, 1],
 ro 1 0 1 [1, 3, -1, 9, 1, 27, -1, 81, 1, 243] [3, 1, 1, 1, 0, 1, 0, 1, 0, 1],
 ro 1 0 2 [1, 3, -2, 9, 4, 27, -8, 81, 16, 243] [3, 1, 2, 1, 0, 1, 0, 1, 0, 1],
 ro 1 0 (-1) [1, 3, 1, 9, 1, 27, 1, 81, 1, 243] [3, 1, -1, 1, 0, 1, 0, 1, 0, 1],
 ro 1 1 1 [1, 1, -1, 1, 1, 1, -1, 1, 1, 1] [1, 1, 1, 1, 0, 1, 0, 1, 0, 1],
 ro 1 1 2 [1, 1, -2, 1, 4, 1, -8, 1, 16, 1] [1, 1, 2, 1, 0, 1, 0, 1, 0, 1],
 ro 1 1 (-1) [1, 1, 1, 1, 1, 1, 1, 1, 1, 1] [1, 1, -1, 1, 0, 1, 0, 1, 0, 1],
 ro 1 2 1 [1, 2, -1, 4, 1, 8, -1, 16, 1, 32] [2, 1, 1, 1, 0, 1, 0, 1, 0, 1],
 ro 1 2 2 [1, 2, -1, 2, 1, 2, -1, 2, 1, 2] [2, 1, 2, 1, 0, 1, 0, 1, 0, 1],
 ro 1 2 (-1) [1, 2, 1, 4, 1, 8, 1, 16, 1, 32] [2, 1, -1, 1, 0, 1, 0, 1, 0, 1],
 ⟨2, 0, 1, er, (l5 0 [1, 1, 0, 1, 0, 1, 0, 1]), er, (l5 0 [1, 1, 0, 1, 0, 1, 0, 1])⟩,
 ⟨2, 0, 2, er, (l5 0 [2, 1, 0, 1, 0, 1, 0, 1]), er, (l5 0 [1, 2, 0, 1, 0, 1, 0, 1])⟩,
 ⟨2, 0, -1, er, (l5 0 [-1, 1, 0, 1, 0, 1, 0, 1]), er, (l5 0 [-1, 1, 0, 1, 0, 1, 0, 1])⟩]
noncomputable def rows_nm : List Row := [
 ro 0 (-2) 1 [-2, 1, -1, 1, 0, 1, 0, 1, 0, 1] [-1, 2, 1, 4, -1, 8, 1, 16, -1, 32],
 ro 0 (-2) 2 [-2, 1, -2, 1, 0, 1, 0, 1, 0, 1] [-1, 2, 1, 2, -1, 2, 1, 2, -1, 2],
 ro 0 (-2) (-1) [-2, 1, 1, 1, 0, 1, 0, 1, 0, 1] [-1, 2, -1, 4, -1, 8, -1, 16, -1, 32],
 ro 0 (-1) 1 [-1, 1, -1, 1, 0, 1, 0, 1, 0, 1] [-1, 1, 1, 1, -1, 1, 1, 1, -1, 1],
 ro 0 (-1) 2 [-1, 1, -2, 1, 0, 1, 0, 1, 0, 1] [-1, 1, 2, 1, -4, 1, 8, 1, -16, 1],
 ro 0 (-1) (-1) [-1, 1, 1, 1, 0, 1, 0, 1, 0, 1] [-1, 1, -1, 1, -1, 1, -1, 1, -1, 1],
 ⟨0, 0, 1, (l5 0 [0, 1]), (l5 0 [0, 1, -1, 1, 0, 1, 0, 1, 0, 1]), er, (l5 (-1) [-1, 1, 0, 1, 0, 1, 0, 1])⟩,
 ⟨0, 0, 2, (l5 0 [0, 1]), (l5 0 [0, 1, -2, 1, 0, 1, 0, 1, 0, 1]), er, (l5 (-1) [-1, 2, 0, 1, 0, 1, 0, 1])⟩,
 ⟨0, 0, -1, (l5 0 [0, 1]), (l5 0 [0, 1, 1, 1, 0, 1, 0, 1, 0, 1]), er, (l5 (-1) [1, 1, 0, 1, 0, 1, 0, 1])⟩,
 ro 0 1 1 [1, 1, -1, 1, 0, 1, 0, 1, 0, 1] [1, 1, 1, 1, 1, 1, 1, 1, 1, 1],
 ro 0 1 2 [1, 1, -2, 1, 0, 1, 0, 1, 0, 1] [1, 1, 2, 1, 4, 1, 8, 1, 16, 1],
 ro 0 1 (-1) [1, 1, 1, 1, 0, 1, 0, 1, 0, 1] [1, 1, -1, 1, 1, 1, -1, 1, 1, 1],
 ro 0 2 1 [2, 1, -1, 1, 0, 1, 0, 1, 0, 1] [1, 2, 1, 4, 1, 8, 1, 16, 1, 32],
 ro 0 2 2 [2, 1, -2, 1, 0, 1, 0, 1, 0, 1] [1, 2, 1, 2, 1, 2, 1, 2, 1, 2],
 ro 0 2 (-1) [2, 1, 1, 1, 0, 1, 0, 1, 0, 1] [1, 2, -1, 4, 1, 8, -1, 16, 1, 32],
 ro 1 (-2) 1 [-1, 2, 1, 4, -1, 8, 1, 16, -1, 32] [-2, 1, -1, 1, 0, 1, 0, 1, 0, 1],
 ro 1 (-2) 2 [-1, 2, 1, 2, -1, 2, 1, 2, -1, 2] [-2, 1, -2, 1, 0, 1, 0, 1, 0, 1],
 ro 1 (-2) (-1) [-1, 2, -1, 4, -1, 8, -1, 16, -1, 32] [-2, 1, 1, 1, 0, 1, 0, 1, 0, 1],
 ro 1 (-1) 1 [-1, 1, 1, 1, -1, 1, 1, 1, -1, 1] [-1, 1, -1, 1, 0, 1, 0, 1, 0, 1],
 ro 1 (-1) 2 [-1, 1, 2, 1, -4, 1, 8, 1, -16, 1] [-1, 1, -2, 1, 0, 1, 0, 1, 0, 1],
 ro 1 (-1) (-1) [-1, 1, -1, 1, -1, 1, -1, 1, -1, 1] [-1, 1, 1, 1, 0, 1, 0, 1, 0, 1],
 ro 1 0 1 [1, 3, 1, 9, 1, 27, 1, 81, 1, 243] [3, 1, -1, 1, 0, 1, 0, 1, 0, 1],
 ro 1 0 2 [1, 3, 2, 9, 4, 27, 8, 81, 16, 243] [3, 1, -2, 1, 0, 1, 0, 1, 0, 1],
 ro 1 0 (-1) [1, 3, -1, 9, 1, 27, -1, 81, 1, 243] [3, 1, 1, 1, 0, 1, 0, 1, 0, 1],
 ro 1 1 1 [1, 1, 1, 1, 1, 1, 1, 1, 1, 1] [1, 1, -1, 1, 0, 1, 0, 1, 0, 1],
 ro 1 1 2 [1, 1, 2, 1, 4, 1, 8, 1, 16, 1] [1, 1, -2, 1, 0, 1, 0, 1, 0, 1],
 ro 1 1 (-1) [1, 1, -1, 1, 1, 1, -1, 1, 1, 1] [1, 1, 1, 1, 0, 1, 0, 1, 0, 1],
 ro 1 2 1 [1, 2, 1, 4, 1, 8, 1, 16, 1, 32] [2, 1, -1, 1, 0, 1, 0, 1, 0, 1],
 ro 1 2 2 [1, 2, 1, 2, 1, 2, 1, 2, 1, 2] [2, 1, -2, 1, 0, 1, 0, 1, 0, 1],
 ro 1 2 (-1) [1, 2, -1, 4, 1, 8, -1, 16, 1, 32] [2, 1, 1, 1, 0, 1, 0, 1, 0, 1],
 ⟨2, 0, 1, er, (l5 0 [-1, 1, 0, 1, 0, 1, 0, 1]), er, (l5 0 [-1, 1, 0, 1, 0, 1, 0, 1])⟩,
 ⟨2, 0, 2, er, (l5 0 [-2, 1, 0, 1, 0, 1, 0, 1]), er, (l5 0 [-1, 2, 0, 1, 0, 1, 0, 1])⟩,
 ⟨2, 0, -1, er, (l5 0 [1, 1, 0, 1, 0, 1, 0, 1]), er, (l5 0 [1, 1, 0, 1, 0, 1, 0, 1])⟩]
noncomputable def rows_fp : List Row := [
 ro 0 (-2) 1 [-2, 1, 1, 1, 0, 1, 0, 1, 0, 1] [-1, 2, -1, 4, -1, 8, -1, 16, -1, 32],
 ro 0 (-2) 2 [-2, 1, 2, 1, 0, 1, 0, 1, 0, 1] [-1, 2, -1, 2, -1, 2, -1, 2, -1, 2],
 ro 0 (-2) (-1) [-2, 1, -1, 1, 0, 1, 0, 1, 0, 1] [-1, 2, 1, 4, -1, 8, 1, 16, -1, 32],
 ro 0 (-1) 1 [-1, 1, 1, 1, 0, 1, 0, 1, 0, 1] [-1, 1, -1, 1, -1, 1, -1, 1, -1, 1],
 ro 0 (-1) 2 [-1, 1, 2, 1, 0, 1, 0, 1, 0, 1] [-1, 1, -2, 1, -4, 1, -8, 1, -16, 1],
 ro 0 (-1) (-1) [-1, 1, -1, 1, 0, 1, 0, 1, 0, 1] [-1, 1, 1, 1, -1, 1, 1, 1, -1, 1],
 ⟨0, 0, 1, (l5 0 [0, 1]), (l5 0 [0, 1, 1, 1, 0, 1, 0, 1, 0, 1]), er, (l5 (-1) [1, 1, 0, 1, 0, 1, 0, 1])⟩,
 ⟨0, 0, 2, (l5 0 [0, 1]), (l5 0 [0, 1, 2, 1, 0, 1, 0, 1, 0, 1]), er, (l5 (-1) [1, 2, 0, 1, 0, 1, 0, 1])⟩,
 ⟨0, 0, -1, (l5 0 [0, 1]), (l5 0 [0, 1, -1, 1, 0, 1, 0, 1, 0, 1]), er, (l5 (-1) [-1, 1, 0, 1, 0, 1, 0, 1])⟩,
 ro 0 1 1 [1, 1, 1, 1, 0, 1, 0, 1, 0, 1] [1, 1, -1, 1, 1, 1, -1, 1, 1, 1],
 ro 0 1 2 [1, 1, 2, 1, 0, 1, 0, 1, 0, 1] [1, 1, -2, 1, 4, 1, -8, 1, 16, 1],
 ro 0 1 (-1) [1, 1, -1, 1, 0, 1, 0, 1, 0, 1] [1, 1, 1, 1, 1, 1, 1, 1, 1, 1],
 ro 0 2 1 [2, 1, 1, 1, 0, 1, 0, 1, 0, 1] [1, 2, -1, 4, 1, 8, -1, 16, 1, 32],
 ro 0 2 2 [2, 1, 2, 1, 0, 1, 0, 1, 0, 1] [1, 2, -1, 2, 1, 2, -1, 2, 1, 2],
 ro 0 2 (-1) [2, 1, -1, 1, 0, 1, 0, 1, 0, 1] [1, 2, 1, 4, 1, 8, 1, 16, 1, 32],
 ro 1 (-2) 1 [-1, 2, -1, 4, -1, 8, -1, 16, -1, 32] [-2, 1, 1, 1, 0, 1, 0, 1, 0, 1],
 ro 1 (-2) 2 [-1, 2, -1, 2, -1, 2, -1, 2, -1, 2] [-2, 1, 2, 1, 0, 1, 0, 1, 0, 1],
 ro 1 (-2) (-1) [-1, 2, 1, 4, -1, 8, 1, 16, -1, 32] [-2, 1, -1, 1, 0, 1, 0, 1, 0, 1],
 ro 1 (-1) 1 [-1, 1, -1, 1, -1, 1, -1, 1, -1, 1] [-1, 1, 1, 1, 0, 1, 0, 1, 0, 1],
 ro 1 (-1) 2 [-1, 1, -2, 1, -4, 1, -8, 1, -16, 1] [-1, 1, 2, 1, 0, 1, 0, 1, 0, 1],
 ro 1 (-1) (-1) [-1, 1, 1, 1, -1, 1, 1, 1, -1, 1] [-1, 1, -1, 1, 0, 1, 0, 1, 0, 1],
 ro 1 0 1 [1, 3, -1, 9, 1, 27, -1, 81, 1, 243] [3, 1, 1, 1, 0, 1, 0, 1, 0, 1],
 ro 1 0 2 [1, 3, -2, 9, 4, 27, -8, 81, 16, 243] [3, 1, 2, 1, 0, 1, 0, 1, 0, 1],
 ro 1 0 (-1) [1, 3, 1, 9, 1, 27, 1, 81, 1, 243] [3, 1, -1, 1, 0, 1, 0, 1, 0, 1],
 ro 1 1 1 [1, 1, -1, 1, 1, 1, -1, 1, 1, 1] [1, 1, 1, 1, 0, 1, 0, 1, 0, 1],
 ro 1 1 2 [1, 1, -2, 1, 4, 1, -8, 1, 16, 1] [1, 1, 2, 1, 0, 1, 0, 1, 0, 1],
 ro 1 1 (-1) [1, 1, 1, 1, 1, 1, 1, 1, 1, 1] [1, 1, -1, 1, 0, 1, 0, 1, 0, 1],
 ro 1 2 1 [1, 2, -1, 4, 1, 8, -1, 16, 1, 32] [2, 1, 1, 1, 0, 1, 0, 1, 0, 1],
 ro 1 2 2 [1, 2, -1, 2, 1, 2, -1, 2, 1, 2] [2, 1, 2, 1, 0, 1, 0, 1, 0, 1],
 ro 1 2 (-1) [1, 2, 1, 4, 1, 8, 1, 16, 1, 32] [2, 1, -1, 1, 0, 1, 0, 1, 0, 1],
 ro 2 0 1 [1, 1, 0, 1, 0, 1, 0, 1, 0, 1] [1, 1, 0, 1, 0, 1, 0, 1, 0, 1],
 ro 2 0 2 [2, 1, 0, 1, 0, 1, 0, 1, 0, 1] [1, 2, 0, 1, 0, 1, 0, 1, 0, 1],
 ro 2 0 (-1) [-1, 1, 0, 1, 0, 1, 0, 1, 0, 1] [-1, 1, 0, 1, 0, 1, 0, 1, 0, 1]]
noncomputable def rows_fm : List Row := [
 ro 0 (-2) 1 [-2, 1, -1, 1, 0, 1, 0, 1, 0, 1] [-1, 2, 1, 4, -1, 8, 1, 16, -1, 32],
 ro 0 (-2) 2 [-2, 1, -2, 1, 0, 1, 0, 1, 0, 1] [-1, 2, 1, 2, -1, 2, 1, 2, -1, 2],
 ro 0 (-2) (-1) [-2, 1, 1, 1, 0, 1, 0, 1, 0, 1] [-1, 2, -1, 4, -1, 8, -1, 16, -1, 32],
 ro 0 (-1) 1 [-1, 1, -1, 1, 0, 1, 0, 1, 0, 1] [-1, 1, 1, 1, -1, 1, 1, 1, -1, 1],
 ro 0 (-1) 2 [-1, 1, -2, 1, 0, 1, 0, 1, 0, 1] [-1, 1, 2, 1, -4, 1, 8, 1, -16, 1],
 ro 0 (-1) (-1) [-1, 1, 1, 1, 0, 1, 0, 1, 0, 1] [-1, 1, -1, 1, -1, 1, -1, 1, -1, 1],
 ⟨0, 0, 1, (l5 0 [0, 1]), (l5 0 [0, 1, -1, 1, 0, 1, 0, 1, 0, 1]), er, (l5 (-1) [-1, 1, 0, 1, 0, 1, 0, 1])⟩,
 ⟨0, 0, 2, (l5 0 [0, 1]), (l5 0 [0, 1, -2, 1, 0, 1, 0, 1, 0, 1]), er, (l5 (-1) [-1, 2, 0, 1, 0, 1, 0, 1])⟩,
 ⟨0, 0, -1, (l5 0 [0, 1]), (l5 0 [0, 1, 1, 1, 0, 1, 0, 1, 0, 1]), er, (l5 (-1) [1, 1, 0, 1, 0, 1, 0, 1])⟩,
 ro 0 1 1 [1, 1, -1, 1, 0, 1, 0, 1, 0, 1] [1, 1, 1, 1, 1, 1, 1, 1, 1, 1],
 ro 0 1 2 [1, 1, -2, 1, 0, 1, 0, 1, 0, 1] [1, 1, 2, 1, 4, 1, 8, 1, 16, 1],
 ro 0 1 (-1) [1, 1, 1, 1, 0, 1, 0, 1, 0, 1] [1, 1, -1, 1, 1, 1, -1, 1, 1, 1],
 ro 0 2 1 [2, 1, -1, 1, 0, 1, 0, 1, 0, 1] [1, 2, 1, 4, 1, 8, 1, 16, 1, 32],
 ro 0 2 2 [2, 1, -2, 1, 0, 1, 0, 1, 0, 1] [1, 2, 1, 2, 1, 2, 1, 2, 1, 2],
 ro 0 2 (-1) [2, 1, 1, 1, 0, 1, 0, 1, 0, 1] [1, 2, -1, 4, 1, 8, -1, 16, 1, 32],
 ro 1 (-2) 1 [-1, 2, 1, 4, -1, 8, 1, 16, -1, 32] [-2, 1, -1, 1, 0, 1, 0, 1, 0, 1],
 ro 1 (-2) 2 [-1, 2, 1, 2, -1, 2, 1, 2, -1, 2] [-2, 1, -2, 1, 0, 1, 0, 1, 0, 1],
 ro 1 (-2) (-1) [-1, 2, -1, 4, -1, 8, -1, 16, -1, 32] [-2, 1, 1, 1, 0, 1, 0, 1, 0, 1],
 ro 1 (-1) 1 [-1, 1, 1, 1, -1, 1, 1, 1, -1, 1] [-1, 1, -1, 1, 0, 1, 0, 1, 0, 1],
 ro 1 (-1) 2 [-1, 1, 2, 1, -4, 1, 8, 1, -16, 1] [-1, 1, -2, 1, 0, 1, 0, 1, 0, 1],
 ro 1 (-1) (-1) [-1, 1, -1, 1, -1, 1, -1, 1, -1, 1] [-1, 1, 1, 1, 0, 1, 0, 1, 0, 1],
 ro 1 0 1 [1, 3, 1, 9, 1, 27, 1, 81, 1, 243] [3, 1, -1, 1, 0, 1, 0, 1, 0, 1],
 ro 1 0 2 [1, 3, 2, 9, 4, 27, 8, 81, 16, 243] [3, 1, -2, 1, 0, 1, 0, 1, 0, 1],
 ro 1 0 (-1) [1, 3, -1, 9, 1, 27, -1, 81, 1, 243] [3, 1, 1, 1, 0, 1, 0, 1, 0, 1],
 ro 1 1 1 [1, 1, 1, 1, 1, 1, 1, 1, 1, 1] [1, 1, -1, 1, 0, 1, 0, 1, 0, 1],
 ro 1 1 2 [1, 1, 2, 1, 4, 1, 8, 1, 16, 1] [1, 1, -2, 1, 0, 1, 0, 1, 0, 1],
 ro 1 1 (-1) [1, 1, -1, 1, 1, 1, -1, 1, 1, 1] [1, 1, 1, 1, 0, 1, 0, 1, 0, 1],
 ro 1 2 1 [1, 2, 1, 4, 1, 8, 1, 16, 1, 32] [2, 1, -1, 1, 0, 1, 0, 1, 0, 1],
 ro 1 2 2 [1, 2, 1, 2, 1, 2, 1, 2, 1, 2] [2, 1, -2, 1, 0, 1, 0, 1, 0, 1],
 ro 1 2 (-1) [1, 2, -1, 4, 1, 8, -1, 16, 1, 32] [2, 1, 1, 1, 0, 1, 0, 1, 0, 1],
 ro 2 0 1 [-1, 1, 0, 1, 0, 1, 0, 1, 0, 1] [-1, 1, 0, 1, 0, 1, 0, 1, 0, 1],
 ro 2 0 2 [-2, 1, 0, 1, 0, 1, 0, 1, 0, 1] [-1, 2, 0, 1, 0, 1, 0, 1, 0, 1],
 ro 2 0 (-1) [1, 1, 0, 1, 0, 1, 0, 1, 0, 1] [1, 1, 0, 1, 0, 1, 0, 1, 0, 1]]
end Mine
open PyProof.Rows PySem.Spec
namespace Mine
noncomputable abbrev frs (l : List Env) : List Addr := l.filterMap (·.frame)
def Kept (F : List Addr) (h' : Heap) (b : Addr) (o : Obj) : Prop := h'.get? b = some o ∨ (b ∈ F ∧ ∃ sl, h'.get? b = some { o with slots := sl })
def Up (F : List Addr) (h h' : Heap) : Prop := ∀ b o, h.get? b = some o → Kept F h' b o
def Off (W F : List Addr) (h h' : Heap) : Prop := ∀ b o, h.get? b = some o → (b ∈ W ∧ ∃ o', h'.get? b = some o') ∨ Kept F h' b o
theorem Kept.isSome {F : List Addr} {h' : Heap} {b : Addr} {o : Obj} (x : Kept F h' b o) : ∃ o', h'.get? b = some o' := by
 rcases x with e | ⟨_, _, e⟩ <;> exact ⟨_, e⟩
theorem Kept.next {F : List Addr} {h h' : Heap} {b : Addr} {o : Obj} (x : Kept F h b o) (y : Up F h h') : Kept F h' b o := by
 rcases x with e | ⟨hF, sl, e⟩
 ·exact y b o e
 ·rcases y b _ e with e' | ⟨_, sl', e'⟩
  ·exact .inr ⟨hF, sl, e'⟩
  ·exact .inr ⟨hF, sl', e'⟩
theorem Up.refl (F : List Addr) (h : Heap) : Up F h h := fun _ _ e => .inl e
theorem Up.trans {F : List Addr} {a b c : Heap} (x : Up F a b) (y : Up F b c) : Up F a c := fun p o e => (x p o e).next y
theorem Up.of_keep {F : List Addr} {h h' : Heap} (k : ∀ b o, h.get? b = some o → h'.get? b = some o) : Up F h h' := fun b o e => .inl (k b o e)
theorem Up.push {F : List Addr} (h : Heap) (o : Obj) : Up F h (h.push o) := .of_keep fun _ _ e => Heap.get?_push_of_some o e
theorem Up.ex {F : List Addr} {h h' : Heap} (x : Up F h h') {b : Addr} {o : Obj} (e : h.get? b = some o) : ∃ o', h'.get? b = some o' := (x b o e).isSome
theorem Up.gone {F : List Addr} {h h' : Heap} (x : Up F h h') {b : Addr} (e : h'.get? b = none) : h.get? b = none := by
 cases q : h.get? b with
 | none => rfl
 | some o => obtain ⟨o', e'⟩ := x.ex q; exact nox e e'
theorem Up.at {F : List Addr} {h h' : Heap} (x : Up F h h') {b : Addr} {o : Obj} (e : h.get? b = some o) (n : b ∉ F) : h'.get? b = some o := (x b o e).elim id fun ⟨m, _⟩ => absurd m n
theorem Up.slots {F : List Addr} {h h' : Heap} (x : Up F h h') {b : Addr} {o : Obj} (e : h.get? b = some o) : ∃ sl, h'.get? b = some { o with slots := sl } := (x b o e).elim (fun e => ⟨o.slots, e⟩) fun ⟨_, r⟩ => r
theorem Up.ns {F : List Addr} {h h' : Heap} (x : Up F h h') {a : Addr} {m : NM} (n : h.Ns a m) : h'.Ns a m := by
 obtain ⟨o, es, ep, e, d, r⟩ := n
 obtain ⟨sl, e'⟩ := x.slots e
 exact ⟨_, es, ep, e', d, r⟩
theorem Up.cell {F : List Addr} {h h' : Heap} (x : Up F h h') {c : Addr} {v : Option Value} (n : h.IsCell c v) : h'.IsCell c v := by
 obtain ⟨o, e, d⟩ := n
 obtain ⟨sl, e'⟩ := x.slots e
 exact ⟨_, e', d⟩
theorem Up.off {W F : List Addr} {h h' : Heap} (x : Up F h h') : Off W F h h' := fun b o e => .inr (x b o e)
theorem Off.refl (W F : List Addr) (h : Heap) : Off W F h h := (Up.refl F h).off
theorem Off.ex {W F : List Addr} {h h' : Heap} (x : Off W F h h') {b : Addr} {o : Obj} (e : h.get? b = some o) : ∃ o', h'.get? b = some o' := (x b o e).elim (fun ⟨_, r⟩ => r) Kept.isSome
theorem Off.gone {W F : List Addr} {h h' : Heap} (x : Off W F h h') {b : Addr} (e : h'.get? b = none) : h.get? b = none := by
 cases q : h.get? b with
 | none => rfl
 | some o => obtain ⟨o', e'⟩ := x.ex q; exact nox e e'
theorem Off.at {W F : List Addr} {h h' : Heap} (x : Off W F h h') {b : Addr} {o : Obj} (e : h.get? b = some o) (w : b ∉ W) (n : b ∉ F) : h'.get? b = some o := by
 rcases x b o e with ⟨m, _⟩ | e | ⟨m, _⟩
 ·exact absurd m w
 ·exact e
 ·exact absurd m n
theorem Off.trans {W W' F : List Addr} {a b c : Heap} (x : Off W F a b) (y : Off W' F b c) (k : ∀ p, p ∈ W' → p ∈ W ∨ a.get? p = none) : Off W F a c := by
 intro p o e
 rcases x p o e with ⟨m, o', e'⟩ | e'
 ·exact .inl ⟨m, y.ex e'⟩
 ·rcases e' with e' | ⟨hF, sl, e'⟩
  ·rcases y p _ e' with ⟨m, r⟩ | q
   ·rcases k p m with w | n
    ·exact .inl ⟨w, r⟩
    ·exact nox n e
   ·exact .inr q
  ·rcases y p _ e' with ⟨m, r⟩ | q
   ·rcases k p m with w | n
    ·exact .inl ⟨w, r⟩
    ·exact nox n e
   ·rcases q with q | ⟨_, sl', q⟩
    ·exact .inr (.inr ⟨hF, sl, q⟩)
    ·exact .inr (.inr ⟨hF, sl', q⟩)
noncomputable abbrev Frs (hb : Heap) (l : List Env) (h : Heap) : Prop := h.FunFrames hb l
theorem Frs.up {hb : Heap} {l : List Env} {F : List Addr} {h h' : Heap} (x : Frs hb l h) (u : Up F h h') : Frs hb l h' :=
 Heap.FunFrames.of_keeps (fun b o e _ => by obtain ⟨sl, e'⟩ := u.slots e; exact ⟨_, e', rfl⟩) x
inductive WlAt (hb h : Heap) (a : Addr) : Prop
 | mk (n : hb.get? a = none) (o) (e : h.get? a = some o) : WlAt hb h a
theorem WlAt.of {hb h : Heap} {a : Addr} (n : hb.get? a = none) (x : ∃ o, h.get? a = some o) : WlAt hb h a := let ⟨o, e⟩ := x; ⟨n, o, e⟩
theorem WlAt.n {hb h : Heap} {a : Addr} (x : WlAt hb h a) : hb.get? a = none := let ⟨n, _, _⟩ := x; n
theorem WlAt.ex {hb h : Heap} {a : Addr} (x : WlAt hb h a) : ∃ o, h.get? a = some o := let ⟨_, o, e⟩ := x; ⟨o, e⟩
theorem Frs.ex {hb : Heap} {l : List Env} {h : Heap} (x : Frs hb l h) {b : Addr} (m : b ∈ frs l) : WlAt hb h b := by
 obtain ⟨n, o, e, _⟩ := Heap.FunFrames.mem x m
 exact ⟨n, o, e⟩
theorem stays_up {hb h h' : Heap} {l : List Env} (fr : Frs hb l h) (s : hb.StaysIn h) (u : Up (frs l) h h') : hb.StaysIn h' := fun b o e => by
 rcases u b o (s b o e) with q | ⟨m, _⟩
 ·exact q
 ·rw [(fr.ex m).n] at e; exact nn e
inductive isKy (h : Heap) (k : Int × Int × Int) (a : Addr) : Prop
 | mk (o n e r t oe ne orr nr t1 t2) : h.get? a = some o → o.cls = .type "tuple" → o.data = .seq #[.ref e, .ref r, .int k.2.2 t] n →
  h.get? e = some oe → oe.cls = .type "tuple" → oe.data = .seq #[] ne →
  h.get? r = some orr → orr.cls = .type "tuple" → orr.data = .seq #[.int k.1 t1, .int k.2.1 t2] nr → isKy h k a
theorem isKy_inj {h : Heap} {a : Addr} {x y : Int × Int × Int} (hx : isKy h x a) (hy : isKy h y a) : x = y := by
 obtain ⟨o, n, e, r, t, oe, ne, orr, nr, t1, t2, h1, _, h2, _, _, _, h3, _, h4⟩ := hx
 obtain ⟨o', n', e', r', t', oe', ne', orr', nr', t1', t2', k1, _, k2, _, _, _, k3, _, k4⟩ := hy
 obtain rfl : o = o' := si (h1.symm.trans k1)
 rw [h2] at k2
 simp only [Data.seq.injEq, Array.mk.injEq, List.cons.injEq, Value.ref.injEq, Value.int.injEq] at k2
 obtain ⟨⟨_, rfl, ⟨q, _⟩, _⟩, _⟩ := k2
 obtain rfl : orr = orr' := si (h3.symm.trans k3)
 rw [h4] at k4
 simp only [Data.seq.injEq, Array.mk.injEq, List.cons.injEq, Value.int.injEq] at k4
 obtain ⟨⟨⟨p, _⟩, ⟨p', _⟩, _⟩, _⟩ := k4
 exact Prod.ext p (Prod.ext p' q)
theorem isKy_keep {h h' : Heap} {k : Int × Int × Int} {a : Addr} (x : isKy h k a) (K : ∀ b o vs n, h.get? b = some o → o.cls = .type "tuple" → o.data = .seq vs n → h'.get? b = some o) : isKy h' k a := by
 obtain ⟨o, n, e, r, t, oe, ne, orr, nr, t1, t2, h1, c1, d1, h2, c2, d2, h3, c3, d3⟩ := x
 exact ⟨o, n, e, r, t, oe, ne, orr, nr, t1, t2, K _ _ _ _ h1 c1 d1, c1, d1, K _ _ _ _ h2 c2 d2, c2, d2, K _ _ _ _ h3 c3 d3, c3, d3⟩
section
variable {prog : Program} {w : World} {A : Around} {E : VQ} {s : Shared}
theorem tupleHash_go {a : Addr} {Q : Int → Shared → Prop} {o : Obj} {items : Array Value} {n : Nat} (hs : List Int) (ds : List Nat)
  (hu : A.units < cLine) (ho : s.heap.get? a = some o) (hc : o.cls = .type "tuple") (hd : o.data = .seq items n)
  (hl1 : hs.length = items.size) (hl2 : ds.length = items.size)
  (hone : ∀ (i : Nat) (v : Value) (x : Int) (d : Nat), items.toList[i]? = some v → hs[i]? = some x → ds[i]? = some d → ∀ (tk : Nat) (Q' : Int → Shared → Prop), Q' x { s with toks := tk + d } → wpAny (model prog w) A.in1 (pyHash v) Q' (fun _ _ => False) { s with toks := tk })
  (h : Q (reduceHash (Builtin.Tuple.tupleHashOf hs)) { s with toks := s.toks + (ds.sum + 1) }) :
  wpAny (model prog w) A (pyHash (.ref a)) Q E s := by
 have hT : s.TypeIs (.ref a) "tuple" := ⟨_, ho, hc⟩
 unfold pyHash
 unfold pyHashByItsType
 refine wB (wpAny_cRoomFor_or (.inr hu) ?_)
 refine wB (wpAny_specialOf hT F.slot_tuple_hash.lookup ?_)
 show wpAny _ _ (if (some (Value.builtin "tuple.__hash__") == some Value.none) = true then _ else _) Q E s
 rw [if_neg (by rw [beq_builtin_none]; exact Bool.false_ne_true)]
 refine wB (wpAny_specialOf hT F.slot_tuple_hash.lookup ?_)
 show wpAny _ _ (callSpecialIfBoundUnlessNone? (.ref a) "__hash__" _ >>= _) Q E s
 refine wB (wpAny_callSpecialIfBoundUnlessNone?_slot hT F.slot_tuple_hash (wpAny_call_entry F.slot_tuple_hash hT F.entry_tuple_hash ?_ (F.args_tuple_hash_1 _)))
 show wpAny _ _ (Builtin.Tuple.tupleItemsOf (.ref a) >>= _) _ _ s
 refine wB (wpAny_tupleItemsOf ho hd ?_)
 refine wB ?_
 rw [← Array.forIn_toList]
 refine wpAny_forIn_list _
  (fun rest (b : Array Int) s' => ∃ k, rest = items.toList.drop k ∧ k ≤ items.size ∧ b.toList = hs.take k ∧ s' = { s with toks := s.toks + (ds.take k).sum })
  _ ?_ ?_ _ _ ⟨0, by simp, Nat.zero_le _, by simp, by simp⟩
 ·rintro x rest b s' ⟨k, hr, hk, hb, rfl⟩
  have hk' : k < items.size := by
   rcases Nat.lt_or_ge k items.size with q | q
   ·exact q
   ·rw [List.drop_eq_nil_of_le (by simpa using q)] at hr; cases hr
  rw [List.drop_eq_getElem_cons (by simpa using hk')] at hr
  obtain ⟨rfl, rfl⟩ := List.cons.inj hr
  have e1 : items.toList[k]'(by simpa using hk') = items[k] := by simp
  rw [e1]
  refine wB (wpAny_mono (hone k _ _ _ (by simp [hk']) (List.getElem?_eq_getElem (hl1 ▸ hk')) (List.getElem?_eq_getElem (hl2 ▸ hk')) _ (fun v s'' => v = hs[k]'(hl1 ▸ hk') ∧ s'' = { s with toks := s.toks + (ds.take k).sum + ds[k]'(hl2 ▸ hk') }) ⟨rfl, rfl⟩) (fun v s'' hv => ?_) fun _ _ f => f.elim)
  obtain ⟨rfl, rfl⟩ := hv
  refine wP ⟨k + 1, rfl, hk', ?_, ?_⟩
  ·rw [Array.toList_push, hb, List.take_succ_eq_append_getElem (hl1 ▸ hk')]
  ·rw [List.take_succ_eq_append_getElem (hl2 ▸ hk'), List.sum_append]; simp [Nat.add_assoc]
 ·rintro b s' ⟨k, hr, hk, hb, rfl⟩
  have hk' : items.size ≤ k := by
   rcases Nat.lt_or_ge k items.size with q | q
   ·rw [List.drop_eq_getElem_cons (by simpa using q)] at hr; cases hr
   ·exact q
  obtain rfl : k = items.size := Nat.le_antisymm hk hk'
  rw [List.take_of_length_le (by omega)] at hb
  rw [List.take_of_length_le (by omega)]
  show wpAny _ _ (retInt (Builtin.Tuple.tupleHashOf b.toList)) _ _ _
  rw [hb]
  refine wpAny_ret_mkInt ?_
  show wpAny _ _ (if (decide (-(2 : Int) ^ 63 ≤ Builtin.Tuple.tupleHashOf hs) && decide (Builtin.Tuple.tupleHashOf hs < 2 ^ 63)) = true then _ else _) Q E _
  unfold reduceHash at h
  by_cases hr : (decide (-(2 : Int) ^ 63 ≤ Builtin.Tuple.tupleHashOf hs) && decide (Builtin.Tuple.tupleHashOf hs < 2 ^ 63)) = true
  ·rw [if_pos hr]
   rw [if_pos hr] at h
   exact wP (by simpa [Nat.add_assoc] using h)
  ·rw [if_neg hr]
   rw [if_neg hr] at h
   exact wB (wpAny_rule (wP (by simpa [Nat.add_assoc] using h)))
theorem kyHash_ok {k : Int × Int × Int} {a : Addr} {Q : Int → Shared → Prop} (hu : A.units + 4 < cLine) (hk : isKy s.heap k a) (h : Q (kyHash k) { s with toks := s.toks + 6 }) :
  wpAny (model prog w) A (pyHash (.ref a)) Q E s := by
 obtain ⟨o, n, e, r, t, oe, ne, orr, nr, t1, t2, h1, c1, d1, h2, c2, d2, h3, c3, d3⟩ := hk
 have e0 : ∀ (tk : Nat) (Q' : Int → Shared → Prop), Q' (reduceHash (Builtin.Tuple.tupleHashOf [])) { s with toks := tk + 1 } → wpAny (model prog w) A.in1 (pyHash (.ref e)) Q' (fun _ _ => False) { s with toks := tk } := fun tk Q' hQ' =>
  tupleHash_go (s := { s with toks := tk }) [] [] (Nat.lt_of_le_of_lt (Nat.add_le_add_left (by decide : 1 ≤ 4) A.units) hu) h2 c2 d2 rfl rfl (fun i v x d hv => by simp at hv) hQ'
 have e1 : ∀ (tk : Nat) (Q' : Int → Shared → Prop), Q' (reduceHash (Builtin.Tuple.tupleHashOf [hashInt k.1, hashInt k.2.1])) { s with toks := tk + 3 } → wpAny (model prog w) A.in1 (pyHash (.ref r)) Q' (fun _ _ => False) { s with toks := tk } := fun tk Q' hQ' => by
  refine tupleHash_go (s := { s with toks := tk }) [hashInt k.1, hashInt k.2.1] [1, 1] (Nat.lt_of_le_of_lt (Nat.add_le_add_left (by decide : 1 ≤ 4) A.units) hu) h3 c3 d3 rfl rfl ?_ hQ'
  intro i v x d hv hx hd tk' Q'' hQ''
  match i with
  | 0 =>
   obtain rfl := si hv; obtain rfl := si hx; obtain rfl := si hd
   exact wpAny_pyHash_int (s := { s with toks := tk' }) hQ''
  | 1 =>
   obtain rfl := si hv; obtain rfl := si hx; obtain rfl := si hd
   exact wpAny_pyHash_int (s := { s with toks := tk' }) hQ''
  | n + 2 => simp at hv
 unfold kyHash at h
 refine tupleHash_go _ [1, 3, 1] (Nat.lt_of_le_of_lt (Nat.le_add_right _ 4) hu) h1 c1 d1 rfl rfl ?_ h
 intro i v x d hv hx hd tk Q' hQ'
 match i with
 | 0 =>
  obtain rfl := si hv; obtain rfl := si hx; obtain rfl := si hd
  exact e0 tk Q' hQ'
 | 1 =>
  obtain rfl := si hv; obtain rfl := si hx; obtain rfl := si hd
  exact e1 tk Q' hQ'
 | 2 =>
  obtain rfl := si hv; obtain rfl := si hx; obtain rfl := si hd
  exact wpAny_pyHash_int (s := { s with toks := tk }) hQ'
 | n + 3 => simp at hv
theorem reads_ky {h : Heap} {k : Int × Int × Int} {a : Addr} (hk : isKy h k a) : ∃ as, Reads h (.ref a) (kyD k) as := by
 obtain ⟨o, n, e, r, t, oe, ne, orr, nr, t1, t2, h1, c1, d1, h2, c2, d2, h3, c3, d3⟩ := hk
 exact ⟨_, .tuple h1 c1 d1 (.cons (.tuple h2 c2 d2 .nil) (.cons (.tuple h3 c3 d3 (.cons (.int _ _) (.cons (.int _ _) .nil))) (.cons (.int _ _) .nil)))⟩
theorem eqv_ky (x y : Int × Int × Int) : PyData.eqv (kyD x) (kyD y) = decide (x = y) := by
 obtain ⟨a, b, c⟩ := x
 obtain ⟨p, q, r⟩ := y
 simp only [kyD, PyData.eqv, PyData.eqvAll, Bool.and_true, Bool.true_and, Prod.mk.injEq]
 by_cases h1 : a = p <;> by_cases h2 : b = q <;> by_cases h3 : c = r <;> simp [h1, h2, h3]
theorem quiet_go {a : Addr} {Q : Bool → Shared → Prop} {o : Obj} {items : Array Value} {n : Nat} (d : Nat) (ho : s.heap.get? a = some o) (hc : o.cls = .type "tuple") (hd : o.data = .seq items n)
  (hone : ∀ v ∈ items.toList, ∀ Q' : Bool → Shared → Prop, Q' true s → wpAny (model prog w) A (eqIsQuiet d v) Q' (fun _ _ => False) s) (h : Q true s) : wpAny (model prog w) A (eqIsQuiet (d + 1) (.ref a)) Q E s := by
 have hT : s.TypeIs (.ref a) "tuple" := ⟨_, ho, hc⟩
 unfold eqIsQuiet
 refine wB (wpAny_specialOf hT F.slot_tuple_eq.lookup ?_)
 show wpAny _ _ (isInstance (.ref a) (.type "tuple") >>= _) _ _ s
 refine wB (wpAny_isInstance hT isSubtype_tuple_tuple ?_)
 simp only [Bool.not_true, Bool.false_eq_true, if_false]
 refine wB (wpAny_seqItems ho hd ?_)
 refine wB ?_
 show wpAny _ _ (forIn items _ _) _ _ s
 rw [← Array.forIn_toList]
 refine wpAny_forIn_list _ (fun rest r s' => r.1 = none ∧ s' = s ∧ ∀ v ∈ rest, v ∈ items.toList) _ ?_ ?_ _ _ ⟨rfl, rfl, fun _ m => m⟩
 ·rintro v rest r s' ⟨hr, rfl, hall⟩
  refine wB (wpAny_mono (hone v (hall v mz) (fun b s'' => b = true ∧ s'' = s') ⟨rfl, rfl⟩) (fun b s'' hb => ?_) fun _ _ f => f.elim)
  obtain ⟨rfl, rfl⟩ := hb
  simp only [Bool.not_true, Bool.false_eq_true, if_false]
  exact wP ⟨rfl, rfl, fun u hu' => hall u (mc _ hu')⟩
 ·rintro ⟨r1, r2⟩ s' ⟨hr, rfl, _⟩
  simp only at hr
  subst hr
  exact wP h
theorem quiet_ky {k : Int × Int × Int} {a : Addr} {Q : Bool → Shared → Prop} (hk : isKy s.heap k a) (h : Q true s) : wpAny (model prog w) A (eqIsQuiet 8 (.ref a)) Q E s := by
 obtain ⟨o, n, e, r, t, oe, ne, orr, nr, t1, t2, h1, c1, d1, h2, c2, d2, h3, c3, d3⟩ := hk
 refine quiet_go 7 h1 c1 d1 ?_ h
 intro v hv Q' hQ'
 simp only [List.mem_cons, n0, or_false] at hv
 rcases hv with rfl | rfl | rfl
 ·exact quiet_go 6 h2 c2 d2 (fun v hv => by simp at hv) hQ'
 ·refine quiet_go 6 h3 c3 d3 (fun v hv => ?_) hQ'
  intro Q'' hQ''
  simp only [List.mem_cons, n0, or_false] at hv
  rcases hv with rfl | rfl <;> (rw [eqIsQuiet_byValue _ rfl]; exact wP hQ'')
 ·rw [eqIsQuiet_byValue _ rfl]; exact wP hQ'
end
noncomputable def bK (prog : Program) (w : World) : HeapKind prog w (Int × Int × Int) where
 is := isKy
 hash := kyHash
 draws := fun _ => 6
 room := fun A => A.units + 10 < cLine
 inj := isKy_inj
 keeps := fun {h h' k a d o es ep} x ho hd hs => isKy_keep x fun b o' vs n e _ hd' => by
  refine (hs.2 b ?_).trans e
  rintro rfl
  obtain rfl : o' = o := si (e.symm.trans ho)
  rw [hd] at hd'; cases hd'
 pyHash := fun hu hk h => kyHash_ok (by omega) hk h
 eqBool := fun {A E s x y a b Q} hu hx hy h => by
  obtain ⟨as, ra⟩ := reads_ky hx
  obtain ⟨bs, rb⟩ := reads_ky hy
  refine PySem.SeqAt.eqBoolOverData prog w A E s (.ref a) (.ref b) (kyD x) (kyD y) as bs Q ra rb rfl rfl ?_ (by rw [eqv_ky]; exact h)
  show A.units + min 2 2 < cLine
  have : A.units + 10 < cLine := hu
  omega
 quiet := fun hk h => quiet_ky hk h
noncomputable abbrev Ky := Int × Int × Int
mutual
inductive Rd (prog : Program) (w : World) (h : Heap) : Value → D → List Addr → Prop
 | none : Rd prog w h .none .none []
 | bool (b) : Rd prog w h (.bool b) (.bool b) []
 | int (i t) : Rd prog w h (.int i t) (.int i) []
 | str (x t) : Rd prog w h (.str x t) (.str x) []
 | list {a o vs n xs as} : h.get? a = some o → o.dict = none → o.cls = .type "list" → o.data = .seq vs n → RdAll prog w h vs.toList xs as → Rd prog w h (.ref a) (.list xs) (a :: as)
 | tuple {a o vs n xs as} : h.get? a = some o → o.cls = .type "tuple" → o.data = .seq vs n → RdAll prog w h vs.toList xs as → Rd prog w h (.ref a) (.tuple xs) (a :: as)
 | dict {a xs kvs as} : (a == sysModules) = false → h.DictOfH (bK prog w) a xs → RdKv prog w h xs kvs as → Rd prog w h (.ref a) (.dict kvs) (a :: as)
inductive RdAll (prog : Program) (w : World) (h : Heap) : List Value → List D → List Addr → Prop
 | nil : RdAll prog w h [] [] []
 | cons {v vs d ds as bs} : Rd prog w h v d as → RdAll prog w h vs ds bs → RdAll prog w h (v :: vs) (d :: ds) (as ++ bs)
inductive RdKv (prog : Program) (w : World) (h : Heap) : List (Ky × Addr × Value) → List (D × D) → List Addr → Prop
 | nil : RdKv prog w h [] [] []
 | cons {k a v d xs kvs as bs cs} : Rd prog w h (.ref a) (kyD k) as → Rd prog w h v d bs → RdKv prog w h xs kvs cs → RdKv prog w h ((k, a, v) :: xs) ((kyD k, d) :: kvs) (as ++ bs ++ cs)
end
section
variable {prog : Program} {w : World} {h h' : Heap}
inductive RdSeq (prog : Program) (w : World) (h : Heap) (T : String) (v : Value) (xs : List D) (as : List Addr) : Prop
 | mk (a o vs n bs) : v = .ref a → as = a :: bs → h.get? a = some o → o.cls = .type T → o.data = .seq vs n → RdAll prog w h vs.toList xs bs → RdSeq prog w h T v xs as
inductive RdList (prog : Program) (w : World) (h : Heap) (v : Value) (xs : List D) (as : List Addr) : Prop
 | mk (a o vs n bs) : v = .ref a → as = a :: bs → h.get? a = some o → o.cls = .type "list" → o.dict = none → o.data = .seq vs n → RdAll prog w h vs.toList xs bs → RdList prog w h v xs as
inductive RdDict (prog : Program) (w : World) (h : Heap) (v : Value) (kvs : List (D × D)) (as : List Addr) : Prop
 | mk (a xs bs) : v = .ref a → as = a :: bs → (a == sysModules) = false → h.DictOfH (bK prog w) a xs → RdKv prog w h xs kvs bs → RdDict prog w h v kvs as
noncomputable def RdInv (prog : Program) (w : World) (h : Heap) (v : Value) (as : List Addr) : D → Prop
 | .none => v = .none ∧ as = []
 | .bool i => v = .bool i ∧ as = []
 | .int i => ∃ t, v = .int i t ∧ as = []
 | .str i => ∃ t, v = .str i t ∧ as = []
 | .list xs => RdList prog w h v xs as
 | .tuple xs => RdSeq prog w h "tuple" v xs as
 | .dict kvs => RdDict prog w h v kvs as
theorem rd_inv {v : Value} {d : D} {as : List Addr} (x : Rd prog w h v d as) : RdInv prog w h v as d := by
 cases x with
 | none => exact ⟨rfl, rfl⟩
 | bool b => exact ⟨rfl, rfl⟩
 | int i t => exact ⟨t, rfl, rfl⟩
 | str i t => exact ⟨t, rfl, rfl⟩
 | list h1 h2 h3 h4 h5 => exact ⟨_, _, _, _, _, rfl, rfl, h1, h3, h2, h4, h5⟩
 | tuple h1 h3 h4 h5 => exact ⟨_, _, _, _, _, rfl, rfl, h1, h3, h4, h5⟩
 | dict h1 h2 h3 => exact ⟨_, _, _, rfl, rfl, h1, h2, h3⟩
theorem rd_int {v : Value} {i : Int} {as : List Addr} (x : Rd prog w h v (.int i) as) : ∃ t, v = .int i t ∧ as = [] := rd_inv x
theorem rd_str {v : Value} {i : SStr} {as : List Addr} (x : Rd prog w h v (.str i) as) : ∃ t, v = .str i t ∧ as = [] := rd_inv x
theorem rd_bool {v : Value} {i : Bool} {as : List Addr} (x : Rd prog w h v (.bool i) as) : v = .bool i ∧ as = [] := rd_inv x
theorem rd_none {v : Value} {as : List Addr} (x : Rd prog w h v .none as) : v = .none ∧ as = [] := rd_inv x
theorem rd_list' {v : Value} {xs : List D} {as : List Addr} (x : Rd prog w h v (.list xs) as) : RdList prog w h v xs as := rd_inv x
theorem rd_list {v : Value} {xs : List D} {as : List Addr} (x : Rd prog w h v (.list xs) as) : RdSeq prog w h "list" v xs as := by
 obtain ⟨a, o, vs, n, bs, h0, h1, h2, h3, _, h4, h5⟩ := rd_list' x
 exact ⟨a, o, vs, n, bs, h0, h1, h2, h3, h4, h5⟩
theorem rd_tuple {v : Value} {xs : List D} {as : List Addr} (x : Rd prog w h v (.tuple xs) as) : RdSeq prog w h "tuple" v xs as := rd_inv x
theorem rd_dict {v : Value} {kvs : List (D × D)} {as : List Addr} (x : Rd prog w h v (.dict kvs) as) : RdDict prog w h v kvs as := rd_inv x
inductive RdCons (prog : Program) (w : World) (h : Heap) (vs : List Value) (d : D) (ds : List D) (as : List Addr) : Prop
 | mk (v r bs cs) : vs = v :: r → as = bs ++ cs → Rd prog w h v d bs → RdAll prog w h r ds cs → RdCons prog w h vs d ds as
noncomputable def RdAllInv (prog : Program) (w : World) (h : Heap) (vs : List Value) (as : List Addr) : List D → Prop
 | [] => vs = [] ∧ as = []
 | d :: ds => RdCons prog w h vs d ds as
theorem rdAll_inv {vs : List Value} {ds : List D} {as : List Addr} (x : RdAll prog w h vs ds as) : RdAllInv prog w h vs as ds := by
 cases x with
 | nil => exact ⟨rfl, rfl⟩
 | cons h1 h2 => exact ⟨_, _, _, _, rfl, rfl, h1, h2⟩
theorem rdAll_nil {vs : List Value} {as : List Addr} (x : RdAll prog w h vs [] as) : vs = [] ∧ as = [] := rdAll_inv x
theorem bB {vs : List Value} {d : D} {ds : List D} {as : List Addr} (x : RdAll prog w h vs (d :: ds) as) : RdCons prog w h vs d ds as := rdAll_inv x
theorem aN : ∀ {vs : List Value} {ds : List D} {as : List Addr}, RdAll prog w h vs ds as → vs.length = ds.length
 | _, [], _, x => by obtain ⟨rfl, _⟩ := rdAll_nil x; rfl
 | _, d :: ds, _, x => by
  obtain ⟨v, r, bs, cs, rfl, _, _, y⟩ := bB x
  simp [aN y]
theorem rdAll_get : ∀ {vs : List Value} {ds : List D} {as : List Addr} {i : Nat} {d : D}, RdAll prog w h vs ds as → ds[i]? = some d →
  ∃ v bs, vs[i]? = some v ∧ Rd prog w h v d bs ∧ ∀ a ∈ bs, a ∈ as
 | _, [], _, i, d, x, e => by simp at e
 | _, d₀ :: ds, _, i, d, x, e => by
  obtain ⟨v, r, bs, cs, rfl, rfl, x1, y⟩ := bB x
  cases i with
  | zero => obtain rfl := si e; exact ⟨v, bs, rfl, x1, fun a m => ml _ m⟩
  | succ i =>
   obtain ⟨u, ds', e1, e2, e3⟩ := rdAll_get (i := i) y (by simpa using e)
   exact ⟨u, ds', by simpa using e1, e2, fun a m => mr _ (e3 a m)⟩
theorem rdAll_append : ∀ {vs us : List Value} {ds es : List D} {as bs : List Addr}, RdAll prog w h vs ds as → RdAll prog w h us es bs → RdAll prog w h (vs ++ us) (ds ++ es) (as ++ bs)
 | _, _, [], _, _, _, x, y => by obtain ⟨rfl, rfl⟩ := rdAll_nil x; exact y
 | _, _, d :: ds, _, _, _, x, y => by
  obtain ⟨v, r, bs, cs, rfl, rfl, x1, z⟩ := bB x
  rw [List.append_assoc]
  exact .cons x1 (rdAll_append z y)
theorem rdAll_take : ∀ {vs : List Value} {ds : List D} {as : List Addr} (n : Nat), RdAll prog w h vs ds as → ∃ bs, RdAll prog w h (vs.take n) (ds.take n) bs ∧ ∀ a ∈ bs, a ∈ as
 | _, [], _, n, x => by obtain ⟨rfl, rfl⟩ := rdAll_nil x; exact ⟨[], by simpa using RdAll.nil, fun _ m => m⟩
 | _, d :: ds, _, n, x => by
  obtain ⟨v, r, bs, cs, rfl, rfl, x1, y⟩ := bB x
  cases n with
  | zero => exact ⟨[], by simpa using RdAll.nil, fun _ m => nomatch m⟩
  | succ n =>
   obtain ⟨es, y1, y2⟩ := rdAll_take n y
   exact ⟨bs ++ es, by simpa using RdAll.cons x1 y1, fun a m => (mq m).elim (ml _) fun m => mr _ (y2 a m)⟩
theorem rdAll_drop : ∀ {vs : List Value} {ds : List D} {as : List Addr} (n : Nat), RdAll prog w h vs ds as → ∃ bs, RdAll prog w h (vs.drop n) (ds.drop n) bs ∧ ∀ a ∈ bs, a ∈ as
 | _, [], _, n, x => by obtain ⟨rfl, rfl⟩ := rdAll_nil x; exact ⟨[], by simpa using RdAll.nil, fun _ m => m⟩
 | _, d :: ds, _, n, x => by
  cases n with
  | zero => exact ⟨_, by simpa using x, fun _ m => m⟩
  | succ n =>
   obtain ⟨v, r, bs, cs, rfl, rfl, x1, y⟩ := bB x
   obtain ⟨es, y1, y2⟩ := rdAll_drop n y
   exact ⟨es, by simpa using y1, fun a m => mr _ (y2 a m)⟩
end
section
variable {prog : Program} {w : World} {h h' : Heap}
def KeepAt (h h' : Heap) (as : List Addr) : Prop := ∀ a ∈ as, ∀ o, h.get? a = some o → h'.get? a = some o
theorem KeepAt.tail {a : Addr} {as : List Addr} (k : KeepAt h h' (a :: as)) : KeepAt h h' as := fun a m => k a (mc _ m)
theorem KeepAt.left {as bs : List Addr} (k : KeepAt h h' (as ++ bs)) : KeepAt h h' as := fun a m => k a (ml _ m)
theorem KeepAt.right {as bs : List Addr} (k : KeepAt h h' (as ++ bs)) : KeepAt h h' bs := fun a m => k a (mr _ m)
theorem ky_of {k : Ky} {a : Addr} {as : List Addr} (y1 : Rd prog w h (.ref a) (kyD k) as) : isKy h k a := by
 obtain ⟨a, o, ⟨vs⟩, n, bs, e, _, g1, g2, g3, r⟩ := rd_tuple y1
 cases e
 obtain ⟨v1, r1, _, _, e1, _, q1, x1⟩ := bB r
 obtain ⟨v2, r2, _, _, rfl, _, q2, x2⟩ := bB x1
 obtain ⟨v3, r3, _, _, rfl, _, q3, x3⟩ := bB x2
 obtain ⟨rfl, _⟩ := rdAll_nil x3
 obtain ⟨b1, o1, ⟨w1⟩, n1, _, rfl, _, f1, f2, f3, z1⟩ := rd_tuple q1
 obtain ⟨b2, o2, ⟨w2⟩, n2, _, rfl, _, f4, f5, f6, z2⟩ := rd_tuple q2
 obtain ⟨t3, rfl, _⟩ := rd_int q3
 obtain ⟨z1, _⟩ := rdAll_nil z1
 obtain ⟨u1, s1, _, _, z2, _, p1, z3⟩ := bB z2
 obtain ⟨u2, s2, _, _, rfl, _, p2, z4⟩ := bB z3
 obtain ⟨rfl, _⟩ := rdAll_nil z4
 obtain ⟨t1, rfl, _⟩ := rd_int p1
 obtain ⟨t2, rfl, _⟩ := rd_int p2
 dsimp only at e1 z1 z2
 subst e1 z1 z2
 exact ⟨o, n, b1, b2, t3, o1, n1, o2, n2, t1, t2, g1, g2, g3, f1, f2, f3, f4, f5, f6⟩
theorem Rd.ky {k : Ky} {a : Addr} {as : List Addr} (x : Rd prog w h (.ref a) (kyD k) as) : isKy h k a := ky_of x
theorem dictOf_keep {a : Addr} {xs : List (Ky × Addr × Value)} (k : ∀ o, h.get? a = some o → h'.get? a = some o) (y : ∀ x ∈ xs, isKy h' x.1 x.2.1) (h1 : h.DictOfH (bK prog w) a xs) : h'.DictOfH (bK prog w) a xs := by
 obtain ⟨o, es, ep, e, r1, r2, r3, r4, r5⟩ := h1
 exact ⟨o, es, ep, k _ e, r1, r2, r3, y, r5⟩
noncomputable abbrev Keep1 (prog : Program) (w : World) (h h' : Heap) (v : Value) (d : D) (as : List Addr) (_ : Rd prog w h v d as) : Prop := KeepAt h h' as → Rd prog w h' v d as
noncomputable abbrev Keep2 (prog : Program) (w : World) (h h' : Heap) (v : List Value) (d : List D) (as : List Addr) (_ : RdAll prog w h v d as) : Prop := KeepAt h h' as → RdAll prog w h' v d as
noncomputable abbrev Keep3 (prog : Program) (w : World) (h h' : Heap) (xs : List (Ky × Addr × Value)) (kvs : List (D × D)) (as : List Addr) (_ : RdKv prog w h xs kvs as) : Prop := KeepAt h h' as → RdKv prog w h' xs kvs as ∧ ∀ x ∈ xs, isKy h' x.1 x.2.1
theorem keep_kv {k : Ky} {a : Addr} {v : Value} {d : D} {xs : List (Ky × Addr × Value)} {kvs : List (D × D)} {as bs cs : List Addr} (y1 : Rd prog w h' (.ref a) (kyD k) as) (y2 : Rd prog w h' v d bs) (y3 : RdKv prog w h' xs kvs cs ∧ ∀ x ∈ xs, isKy h' x.1 x.2.1) :
  RdKv prog w h' ((k, a, v) :: xs) ((kyD k, d) :: kvs) (as ++ bs ++ cs) ∧ ∀ x ∈ (k, a, v) :: xs, isKy h' x.1 x.2.1 :=
 ⟨.cons y1 y2 y3.1, List.forall_mem_cons.mpr ⟨ky_of y1, y3.2⟩⟩
theorem Rd.keep {v : Value} {d : D} {as : List Addr} (k : ∀ a ∈ as, ∀ o, h.get? a = some o → h'.get? a = some o) (x : Rd prog w h v d as) : Rd prog w h' v d as :=
 Rd.rec (motive_1 := Keep1 prog w h h') (motive_2 := Keep2 prog w h h') (motive_3 := Keep3 prog w h h') (fun _ => .none) (fun b _ => .bool b) (fun i t _ => .int i t) (fun x t _ => .str x t)
  (fun h1 h0 h2 h3 _ ih k => .list (k _ mz _ h1) h0 h2 h3 (ih k.tail)) (fun h1 h2 h3 _ ih k => .tuple (k _ mz _ h1) h2 h3 (ih k.tail))
  (fun h0 h1 _ ih k => .dict h0 (dictOf_keep (k _ mz) (ih k.tail).2 h1) (ih k.tail).1) (fun _ => .nil) (fun _ _ i1 i2 k => .cons (i1 k.left) (i2 k.right))
  (fun _ => ⟨.nil, fun _ m => nomatch m⟩) (fun _ _ _ i1 i2 i3 k => keep_kv (i1 k.left.left) (i2 k.left.right) (i3 k.right)) x k
theorem RdAll.keep {vs : List Value} {ds : List D} {as : List Addr} (k : ∀ a ∈ as, ∀ o, h.get? a = some o → h'.get? a = some o) (x : RdAll prog w h vs ds as) : RdAll prog w h' vs ds as :=
 RdAll.rec (motive_1 := Keep1 prog w h h') (motive_2 := Keep2 prog w h h') (motive_3 := fun _ _ _ _ => True) (fun _ => .none) (fun b _ => .bool b) (fun i t _ => .int i t) (fun x t _ => .str x t)
  (fun h1 h0 h2 h3 _ ih k => .list (k _ mz _ h1) h0 h2 h3 (ih k.tail)) (fun h1 h2 h3 _ ih k => .tuple (k _ mz _ h1) h2 h3 (ih k.tail))
  (fun h0 h1 h2 _ k => Rd.keep k (.dict h0 h1 h2)) (fun _ => .nil) (fun _ _ i1 i2 k => .cons (i1 k.left) (i2 k.right)) trivial (fun _ _ _ _ _ _ => trivial) x k
theorem RdKv.keep : ∀ {xs : List (Ky × Addr × Value)} {kvs : List (D × D)} {as : List Addr}, (∀ a ∈ as, ∀ o, h.get? a = some o → h'.get? a = some o) → RdKv prog w h xs kvs as → RdKv prog w h' xs kvs as ∧ ∀ x ∈ xs, isKy h' x.1 x.2.1 := fun {xs kvs as} k x =>
 RdKv.rec (motive_1 := fun _ _ _ _ => True) (motive_2 := fun _ _ _ _ => True) (motive_3 := Keep3 prog w h h') trivial (fun _ => trivial) (fun _ _ => trivial) (fun _ _ => trivial) (fun _ _ _ _ _ _ => trivial) (fun _ _ _ _ _ => trivial) (fun _ _ _ _ => trivial) trivial (fun _ _ _ _ => trivial)
  (fun _ => ⟨.nil, fun _ m => nomatch m⟩) (fun x1 x2 _ _ _ i3 k => keep_kv (Rd.keep k.left.left x1) (Rd.keep k.left.right x2) (i3 k.right)) x k
def Alive (h : Heap) (as : List Addr) : Prop := ∀ a ∈ as, ∃ o, h.get? a = some o
theorem Alive.cons {a : Addr} {o : Obj} {as : List Addr} (e : h.get? a = some o) (x : Alive h as) : Alive h (a :: as) := List.forall_mem_cons.mpr ⟨⟨o, e⟩, x⟩
theorem Alive.append {as bs : List Addr} (x : Alive h as) (y : Alive h bs) : Alive h (as ++ bs) := fun a m => (mq m).elim (x a) (y a)
theorem dict_alive {a : Addr} {xs : List (Ky × Addr × Value)} (h1 : h.DictOfH (bK prog w) a xs) : ∃ o, h.get? a = some o := by
 obtain ⟨o, _, _, e, _⟩ := h1; exact ⟨o, e⟩
theorem Rd.alive {v : Value} {d : D} {as : List Addr} (x : Rd prog w h v d as) : ∀ a ∈ as, ∃ o, h.get? a = some o :=
 Rd.rec (motive_1 := fun _ _ as _ => Alive h as) (motive_2 := fun _ _ as _ => Alive h as) (motive_3 := fun _ _ as _ => Alive h as) (fun _ m => nomatch m) (fun _ _ m => nomatch m) (fun _ _ _ m => nomatch m) (fun _ _ _ m => nomatch m)
  (fun h1 _ _ _ _ ih => .cons h1 ih) (fun h1 _ _ _ ih => .cons h1 ih) (fun _ h1 _ ih => List.forall_mem_cons.mpr ⟨dict_alive h1, ih⟩) (fun _ m => nomatch m) (fun _ _ i1 i2 => i1.append i2) (fun _ m => nomatch m) (fun _ _ _ i1 i2 i3 => (i1.append i2).append i3) x
theorem RdKv.alive {xs : List (Ky × Addr × Value)} {kvs : List (D × D)} {as : List Addr} (x : RdKv prog w h xs kvs as) : ∀ a ∈ as, ∃ o, h.get? a = some o :=
 RdKv.rec (motive_1 := fun _ _ _ _ => True) (motive_2 := fun _ _ _ _ => True) (motive_3 := fun _ _ as _ => Alive h as) trivial (fun _ => trivial) (fun _ _ => trivial) (fun _ _ => trivial) (fun _ _ _ _ _ _ => trivial) (fun _ _ _ _ _ => trivial) (fun _ _ _ _ => trivial) trivial (fun _ _ _ _ => trivial)
  (fun _ m => nomatch m) (fun x1 x2 _ _ _ i3 => .append (.append (Rd.alive x1) (Rd.alive x2)) i3) x
theorem Rd.reads {v : Value} {d : D} {as : List Addr} (x : Rd prog w h v d as) : d.canLay0 = true → ∃ bs, Reads h v d bs :=
 Rd.rec (motive_1 := fun v d _ _ => d.canLay0 = true → ∃ bs, Reads h v d bs) (motive_2 := fun vs ds _ _ => PyData.canLayAll0 ds = true → ∃ bs, ReadsAll h vs ds bs) (motive_3 := fun _ _ _ _ => True) (fun _ => ⟨_, .none⟩) (fun b _ => ⟨_, .bool b⟩) (fun i t _ => ⟨_, .int i t⟩) (fun i t _ => ⟨_, .str i t⟩)
  (fun h1 _ h2 h3 _ ih c => (ih (by simpa only [PyData.canLay0] using c)).elim fun _ y => ⟨_, .list h1 h2 h3 y⟩) (fun h1 h2 h3 _ ih c => (ih (by simpa only [PyData.canLay0] using c)).elim fun _ y => ⟨_, .tuple h1 h2 h3 y⟩)
  (fun _ _ _ _ c => by simp [PyData.canLay0] at c) (fun _ => ⟨_, .nil⟩)
  (fun _ _ i1 i2 c => by
   have c' := ba (by simpa only [PyData.canLayAll0] using c)
   obtain ⟨_, y1⟩ := i1 c'.1
   obtain ⟨_, y2⟩ := i2 c'.2
   exact ⟨_, .cons y1 y2⟩) trivial (fun _ _ _ _ _ _ => trivial) x
end
inductive TopFrame (env : Env) (l : List Env) : Prop
 | mk (e₀ r L) : l = e₀ :: r → e₀.frame = some L → env.frame = some L → TopFrame env l
structure Room (A : Around) (env : Env) (l : List Env) (n : Nat) : Prop where
 hh : A.handled = none
 fr : A.frames = some l
 ef : TopFrame env l
 dp : A.depth + n < recursionLimit
 un : A.units + 16 * n + 100 < cLine
 kd : env.scope.kind = .function
 gl : env.globals = mainGlobals
 bl : env.builtins = builtinsNs
def UpOn (h0 : Heap) (F : List Addr) (h h' : Heap) : Prop := ∀ b o o0, h0.get? b = some o0 → h.get? b = some o → Kept F h' b o
theorem UpOn.up {h0 : Heap} {F : List Addr} {h h' : Heap} (x : Up F h0 h) (y : UpOn h0 F h h') : Up F h0 h' := fun b o e => by
 rcases x b o e with q | ⟨m, sl, q⟩
 ·exact y b o o e q
 ·rcases y b _ o e q with z | ⟨_, sl', z⟩
  ·exact .inr ⟨m, sl, z⟩
  ·exact .inr ⟨m, sl', z⟩
theorem Up.on {h0 : Heap} {F : List Addr} {h h' : Heap} (y : Up F h h') : UpOn h0 F h h' := fun b o _ _ e => y b o e
theorem UpOn.trans {h0 : Heap} {F : List Addr} {a b c : Heap} (x : UpOn h0 F a b) (y : UpOn h0 F b c) : UpOn h0 F a c := fun p o o0 e0 e => by
 rcases x p o o0 e0 e with q | ⟨m, sl, q⟩
 ·exact y p o o0 e0 q
 ·rcases y p _ o0 e0 q with z | ⟨_, sl', z⟩
  ·exact .inr ⟨m, sl, z⟩
  ·exact .inr ⟨m, sl', z⟩
inductive TbAt (hb h0 h' : Heap) (e : Addr) (fs : Array Value) : Prop
 | mk (T oT ts fl) : fs[1]? = some (.ref T) → T ≠ e → h0.get? T = none → hb.get? T = none → h'.get? T = some oT → oT.data = .fields ts → ts[3]? = some fl → TbAt hb h0 h' e fs
inductive KindAt (h' : Heap) (dd : Addr) (k : SStr) : Prop
 | mk (m t) : h'.Ns dd m → m (nm "kind") = some (.str k t) → KindAt h' dd k
inductive ExcObj (hb h0 h' : Heap) (C e : Addr) (k : SStr) (tb : Bool) : Prop
 | mk (oe fs dd) : h'.get? e = some oe → oe.cls = .ref C → oe.data = .fields fs → (oe.dict = some dd ∧ h0.get? dd = none) → KindAt h' dd k → ((tb = false ∧ fs[1]? = some .none) ∨ TbAt hb h0 h' e fs) → ExcObj hb h0 h' C e k tb
structure ExcAt (hb h0 h' : Heap) (C e : Addr) (k : SStr) (tb : Bool) : Prop where
 new : h0.get? e = none ∧ hb.get? e = none
 obj : ExcObj hb h0 h' C e k tb
theorem ExcAt.older {hb h0 h1 h' : Heap} {C e : Addr} {k : SStr} {tb : Bool} (x : ExcAt hb h1 h' C e k tb) (g : ∀ b, h1.get? b = none → h0.get? b = none) : ExcAt hb h0 h' C e k tb := by
 obtain ⟨⟨n1, n2⟩, oe, fs, dd, e1, e2, e3, e4, e5, e6⟩ := x
 refine ⟨⟨g _ n1, n2⟩, oe, fs, dd, e1, e2, e3, ⟨e4.1, g _ e4.2⟩, e5, ?_⟩
 rcases e6 with q | ⟨T, oT, ts, fl, q1, q2, q3, q4, q5, q6, q7⟩
 ·exact .inl q
 ·exact .inr ⟨T, oT, ts, fl, q1, q2, g _ q3, q4, q5, q6, q7⟩
section
variable {prog : Program} {w : World} {A : Around} {s : Shared} {env : Env} {l : List Env} {n : Nat} {hb h0 : Heap} {C e : Addr} {k : SStr} {tb : Bool} {Q : Unit → Shared → Prop} {E : VQ}
theorem frameOf_ok {Q : VQ} (R : Room A env l n) (fr : Frs hb l s.heap) (hQ : ∀ L h', env.frame = some L → L ∈ frs l → Up (frs l) s.heap h' → Q (.ref L) { s with heap := h' }) :
  wpAny (model prog w) A (frameOf env) Q E s := by
 obtain ⟨e₀, r, L, rfl, f0, f1⟩ := R.ef
 unfold PySem.frameOf
 refine wB (wpAny_frameEnvs R.fr ?_)
 have hdw : ((e₀ :: r).dropWhile fun x => x.frame != env.frame) = e₀ :: r := by simp [List.dropWhile, f0, f1]
 rw [hdw]
 unfold frameObject
 refine wB (wB (wpAny_readyFrames_fun fr fun h₁ hs₁ => wP ?_))
 rw [f0]
 refine wP (hQ L h₁ f1 (by simp [frs, f0]) fun b o e => ?_)
 by_cases m : b ∈ frs (e₀ :: r)
 ·obtain ⟨sl, q⟩ := hs₁.2.2 b o e
  exact .inr ⟨m, sl, q⟩
 ·exact .inl ((hs₁.2.1 b m).trans e)
theorem upd_fields {h : Heap} {a : Addr} {o : Obj} {vs : Array Value} {f : Array Value → Array Value} (e : h.get? a = some o) (d : o.data = .fields vs) :
  ∃ o', (h.update a (Obj.mapFields f)).get? a = some o' ∧ o'.cls = o.cls ∧ o'.dict = o.dict ∧ o'.data = .fields (f vs) := by
 obtain ⟨c, dd, dt, sl⟩ := o
 dsimp only at d
 subst d
 exact ⟨⟨c, dd, .fields (f vs), sl⟩, Heap.get?_update_self _ e rfl, rfl, rfl, rfl⟩
theorem ns_not_fields {h : Heap} {a : Addr} {m : NM} {o : Obj} {vs : Array Value} (n : h.Ns a m) (e : h.get? a = some o) (d : o.data = .fields vs) : False := by
 obtain ⟨o', es, ep, e', d', _⟩ := n
 obtain rfl : o' = o := si (e'.symm.trans e)
 rw [d] at d'; cases d'
theorem ns_upd {h : Heap} {a b : Addr} {m : NM} {o : Obj} {vs : Array Value} {f : Array Value → Array Value} (n : h.Ns b m) (e : h.get? a = some o) (d : o.data = .fields vs) : (h.update a (Obj.mapFields f)).Ns b m := by
 have hne : b ≠ a := by rintro rfl; exact ns_not_fields n e d
 obtain ⟨o', es, ep, e', r⟩ := n
 exact ⟨o', es, ep, (Heap.get?_update_other h _ (Ne.symm hne)).trans e', r⟩
theorem setFlight_ok (fl : Option Addr) (x : ExcAt hb h0 s.heap C e k tb) (hQ : ∀ h', UpOn h0 [] s.heap h' → (∀ l, Frs hb l s.heap → Frs hb l h') → (hb.StaysIn s.heap → hb.StaysIn h') → ExcAt hb h0 h' C e k tb → Q () { s with heap := h' }) :
  wpAny (model prog w) A (setFlight (.ref e) fl) Q E s := by
 obtain ⟨new, oe, fs, dd, e1, e2, e3, e4, ⟨m, t, e5, e5'⟩, e6⟩ := id x
 unfold setFlight
 rcases e6 with ⟨q, q'⟩ | ⟨T, oT, ts, fl', q1, q2, q3, q4, q5, q6, q7⟩
 ·refine wB (wpAny_field e1 e3 q' ?_)
  rw [if_neg (by decide)]
  exact wP (hQ s.heap (Up.refl _ _).on (fun _ x => x) id x)
 ·refine wB (wpAny_field e1 e3 q1 ?_)
  rw [if_pos (show (Value.ref T != Value.none) = true from by simp)]
  have sz : 3 < ts.size := (Array.getElem?_eq_some_iff.mp q7).1
  refine wpAny_setField q5 q6 sz ?_
  obtain ⟨o', g1, g2, g3, g4⟩ := upd_fields (f := (·.setIfInBounds 3 (fl.elim Value.none fun f => rawInt f))) q5 q6
  have other : ∀ b, b ≠ T → (s.heap.update T (Obj.mapFields (·.setIfInBounds 3 (fl.elim Value.none fun f => rawInt f)))).get? b = s.heap.get? b := fun b hb => Heap.get?_update_other _ _ (Ne.symm hb)
  refine hQ _ (fun b o o0 i0 i => .inl ((other b ?_).trans i)) (fun l fr => ?_) (fun st b o i => (other b ?_).trans (st b o i)) ⟨new, oe, fs, dd, (other e (Ne.symm q2)).trans e1, e2, e3, e4, ⟨m, t, ns_upd e5 q5 q6, e5'⟩, .inr ⟨T, o', _, fl.elim Value.none fun f => rawInt f, q1, q2, q3, q4, g1, g4, by simp [sz]⟩⟩
  ·rintro rfl; exact nox q3 i0
  ·refine Heap.FunFrames.of_keeps (fun b o i hn => ⟨o, (other b ?_).trans i, rfl⟩) fr
   rintro rfl
   obtain rfl : o = oT := si (i.symm.trans q5)
   exact hn _ q6
  ·rintro rfl; exact nox q4 i
theorem noteFrame_ok (R : Room A env l n) (fr : Frs hb l s.heap) (st : hb.StaysIn s.heap) (old : ∀ b o, h0.get? b = some o → ∃ o', s.heap.get? b = some o') (x : ExcAt hb h0 s.heap C e k tb)
  (hQ : ∀ h', UpOn h0 (frs l) s.heap h' → Frs hb l h' → hb.StaysIn h' → ExcAt hb h0 h' C e k true → Q () { s with heap := h' }) :
  wpAny (model prog w) A (noteFrame (.ref e) env) Q E s := by
 have entry : ∀ (s : Shared) (head : Value) (hadNext : Bool) (L : Addr), env.frame = some L → Frs hb l s.heap → hb.StaysIn s.heap → (∀ b o, h0.get? b = some o → ∃ o', s.heap.get? b = some o') →
   (∃ oe fs dd, s.heap.get? e = some oe ∧ oe.cls = .ref C ∧ oe.data = .fields fs ∧ 1 < fs.size ∧ (oe.dict = some dd ∧ h0.get? dd = none) ∧ (∃ m t, s.heap.Ns dd m ∧ m (nm "kind") = some (.str k t))) →
   (∀ h', UpOn h0 (frs l) s.heap h' → Frs hb l h' → hb.StaysIn h' → ExcAt hb h0 h' C e k true → Q () { s with heap := h' }) →
   wpAny (model prog w) A (do setField (.ref e) 1 (← EntryCells.newEntry head (← frameOf env) .none (rawInt L) .none (← entryPlaceOf L hadNext))) Q E s := by
  intro s head hadNext L hf fr st old ⟨oe, fs, dd, e1, e2, e3, sz, e4, m, t, e5, e5'⟩ hQ
  refine wB (frameOf_ok R fr fun L' h₁ hf' mL u₁ => ?_)
  refine wB (wpAny_entryPlaceOf fun pl hpl => ?_)
  unfold EntryCells.newEntry newFields
  refine wB (wpAny_newObj_type ?_ (hpl.sizeOk5 _ _ _ _ _))
  have ne : e ∉ frs l := fun q => by
   obtain ⟨_, o, ho, hnf⟩ := Heap.FunFrames.mem fr q
   obtain rfl : o = oe := si (ho.symm.trans e1)
   exact hnf _ e3
  have e1' : h₁.get? e = some oe := u₁.at e1 ne
  generalize hT : ({ cls := .type "traceback", dict := none, data := .fields ([head, .ref L', .none, rawInt L, .none] ++ (if pl.isEmpty then List.replicate 6 Value.none else pl)).toArray } : Obj) = oT
  have e1'' := Heap.get?_push_of_some oT e1'
  refine wpAny_setField e1'' e3 sz ?_
  obtain ⟨o', g1, g2, g3, g4⟩ := upd_fields (f := (·.setIfInBounds 1 (Value.ref h₁.objs.size))) e1'' e3
  have other : ∀ b, b ≠ e → ((h₁.push oT).update e (Obj.mapFields (·.setIfInBounds 1 (Value.ref h₁.objs.size)))).get? b = (h₁.push oT).get? b := fun b hb => Heap.get?_update_other _ _ (Ne.symm hb)
  have hTe : h₁.objs.size ≠ e := Nat.ne_of_gt (Heap.lt_size e1')
  have fT : oT.isFreed = false := by rw [← hT]; rfl
  have none₁ : h₁.get? h₁.objs.size = none := by
   cases q : h₁.get? h₁.objs.size with
   | none => rfl
   | some o => exact absurd (Heap.lt_size q) (Nat.lt_irrefl _)
  have noneS : s.heap.get? h₁.objs.size = none := u₁.gone none₁
  have st₁ : hb.StaysIn h₁ := stays_up fr st u₁
  have nb : hb.get? h₁.objs.size = none := by
   cases q : hb.get? h₁.objs.size with
   | none => rfl
   | some o => have := st₁ _ _ q; exact nox none₁ this
  have n0 : h0.get? h₁.objs.size = none := by
   cases q : h0.get? h₁.objs.size with
   | none => rfl
   | some o => obtain ⟨o', q'⟩ := old _ _ q; exact nox noneS q'
  have n5 : ((h₁.push oT).update e (Obj.mapFields (·.setIfInBounds 1 (Value.ref h₁.objs.size)))).Ns dd m := ns_upd ((u₁.ns e5).push oT) e1'' e3
  refine hQ _ (fun b o o0 i0 i => ?_) ?_ (fun b o i => (other b ?_).trans (Heap.get?_push_of_some _ (st₁ b o i))) ⟨x.new, o', _, dd, g1, g2.trans e2, g4, ⟨g3.trans e4.1, e4.2⟩, ⟨m, t, n5, e5'⟩, .inr ⟨h₁.objs.size, oT, ([head, .ref L', .none, rawInt L, .none] ++ (if pl.isEmpty then List.replicate 6 Value.none else pl)).toArray, rawInt L, by simp [sz], hTe, n0, nb, (other _ hTe).trans (Heap.get?_push_size h₁ fT), by rw [← hT], by simp⟩⟩
  ·have hbe : b ≠ e := by rintro rfl; rw [x.new.1] at i0; exact nn i0
   rcases u₁ b o i with q | ⟨mF, sl, q⟩
   ·exact .inl ((other b hbe).trans (Heap.get?_push_of_some _ q))
   ·exact .inr ⟨mF, sl, (other b hbe).trans (Heap.get?_push_of_some _ q)⟩
  ·refine Heap.FunFrames.of_keeps (fun b o i hn => ⟨o, (other b ?_).trans (Heap.get?_push_of_some _ i), rfl⟩) (Frs.up fr u₁)
   rintro rfl
   obtain rfl : o = oe := si (i.symm.trans e1')
   exact hn _ e3
  ·rintro rfl; rw [x.new.2] at i; exact nn i
 obtain ⟨e₀, r, L, hl, f0, f1⟩ := R.ef
 obtain ⟨new, oe, fs, dd, e1, e2, e3, e4, ⟨m, t, e5, e5'⟩, e6⟩ := id x
 unfold noteFrame
 simp only [f1]
 rcases e6 with ⟨q, q'⟩ | ⟨T, oT, ts, fl', q1, q2, q3, q4, q5, q6, q7⟩
 ·refine wB (wpAny_field e1 e3 q' ?_)
  rw [if_neg (by decide)]
  exact entry s _ _ L f1 fr st old ⟨oe, fs, dd, e1, e2, e3, (Array.getElem?_eq_some_iff.mp q').1, e4, m, t, e5, e5'⟩ hQ
 ·refine wB (wpAny_field e1 e3 q1 ?_)
  rw [if_pos (show (Value.ref T != Value.none) = true from by simp)]
  refine wB (wpAny_field q5 q6 q7 ?_)
  by_cases hfl : (fl' == rawInt L) = true
  ·rw [if_pos hfl]
   exact wP (hQ s.heap (Up.refl _ _).on fr st ⟨new, oe, fs, dd, e1, e2, e3, e4, ⟨m, t, e5, e5'⟩, .inr ⟨T, oT, ts, fl', q1, q2, q3, q4, q5, q6, q7⟩⟩)
  ·rw [if_neg hfl]
   have sz : 3 < ts.size := (Array.getElem?_eq_some_iff.mp q7).1
   refine wB (wpAny_setField q5 q6 sz ?_)
   have other : ∀ b, b ≠ T → (s.heap.update T (Obj.mapFields (·.setIfInBounds 3 Value.none))).get? b = s.heap.get? b := fun b hb => Heap.get?_update_other _ _ (Ne.symm hb)
   have back : ∀ b o, s.heap.get? b = some o → ∃ o', (s.heap.update T (Obj.mapFields (·.setIfInBounds 3 Value.none))).get? b = some o' := fun b o i => by
    by_cases hbT : b = T
    ·subst hbT
     obtain ⟨o', g1, _⟩ := upd_fields (f := (·.setIfInBounds 3 Value.none)) q5 q6
     exact ⟨o', g1⟩
    ·exact ⟨o, (other b hbT).trans i⟩
   refine entry { s with heap := s.heap.update T (Obj.mapFields (·.setIfInBounds 3 Value.none)) } _ _ L f1 ?_ (fun b o i => (other b ?_).trans (st b o i)) (fun b o i => let ⟨o', i'⟩ := old b o i; back b o' i')
    ⟨oe, fs, dd, (other e (Ne.symm q2)).trans e1, e2, e3, (Array.getElem?_eq_some_iff.mp q1).1, e4, m, t, ns_upd e5 q5 q6, e5'⟩ fun h' u' => hQ h' (UpOn.trans (fun b o o0 i0 i => .inl ((other b ?_).trans i)) u')
   ·refine Heap.FunFrames.of_keeps (fun b o i hn => ⟨o, (other b ?_).trans i, rfl⟩) fr
    rintro rfl
    obtain rfl : o = oT := si (i.symm.trans q5)
    exact hn _ q6
   ·rintro rfl; exact nox q4 i
   ·rintro rfl; exact nox q3 i0
theorem leaving_ok (R : Room A env l n) (fr : Frs hb l s.heap) (st : hb.StaysIn s.heap) (old : ∀ b o, h0.get? b = some o → ∃ o', s.heap.get? b = some o') (x : ExcAt hb h0 s.heap C e k tb)
  (hQ : ∀ h', UpOn h0 (frs l) s.heap h' → Frs hb l h' → hb.StaysIn h' → ExcAt hb h0 h' C e k true → Q () { s with heap := h' }) :
  wpAny (model prog w) A (leaving env (.ref e)) Q E s := by
 unfold leaving
 refine wB (noteFrame_ok R fr st old x fun h₁ u₁ fr₁ st₁ x₁ => ?_)
 refine setFlight_ok (s := { s with heap := h₁ }) none x₁ fun h₂ u₂ fr₂ st₂ x₂ => ?_
 exact hQ h₂ (u₁.trans fun b o o0 i0 i => (u₂ b o o0 i0 i).elim .inl fun ⟨m, _⟩ => nomatch m) (fr₂ l fr₁) (st₂ st₁) x₂
theorem tb_ne {hb h0 h' : Heap} (x : ExcAt hb h0 h' C e k true) : ∃ oe fs T, h'.get? e = some oe ∧ oe.data = .fields fs ∧ fs[1]? = some (.ref T) := by
 obtain ⟨new, oe, fs, dd, e1, e2, e3, e4, e5, e6⟩ := x
 rcases e6 with ⟨q, _⟩ | ⟨T, oT, ts, fl', q1, _⟩
 ·exact tf q
 ·exact ⟨oe, fs, T, e1, e3, q1⟩
theorem passOn_ok {α : Type} {Q : α → Shared → Prop} {what : String} (x : ExcAt hb h0 s.heap C e k true)
  (hE : ∀ h', UpOn h0 [] s.heap h' → (∀ l, Frs hb l s.heap → Frs hb l h') → (hb.StaysIn s.heap → hb.StaysIn h') → ExcAt hb h0 h' C e k true → E (.ref e) { s with heap := h' }) :
  wpAny (model prog w) A (PySem.passOn what (.ref e) env : Sem α) Q E s := by
 obtain ⟨oe, fs, T, e1, e2, e3⟩ := tb_ne x
 unfold PySem.passOn
 refine wB (wpAny_field e1 e2 e3 ?_)
 rw [if_neg (show ¬ ((Value.ref T == Value.none) = true) from by simp)]
 refine wB (setFlight_ok env.frame x fun h₂ u₂ fr₂ st₂ x₂ => ?_)
 exact wpAny_throw (hE h₂ u₂ fr₂ st₂ x₂)
theorem cameBack_ok (x : ExcAt hb h0 s.heap C e k true)
  (hE : ∀ h', UpOn h0 [] s.heap h' → (∀ l, Frs hb l s.heap → Frs hb l h') → (hb.StaysIn s.heap → hb.StaysIn h') → ExcAt hb h0 h' C e k true → E (.ref e) { s with heap := h' }) :
  cameBackBy (model prog w) A env E (.ref e) s := by
 obtain ⟨oe, fs, T, e1, e2, e3⟩ := tb_ne x
 unfold cameBackBy
 refine wB (wpAny_field e1 e2 e3 ?_)
 rw [if_neg (show ¬ ((Value.ref T == Value.none) = true) from by simp)]
 exact setFlight_ok env.frame x fun h₂ u₂ fr₂ st₂ x₂ => hE h₂ u₂ fr₂ st₂ x₂
end
theorem lk_upd : ∀ (vs : Vars) (x y : SStr) (b : Bd), lk (upd vs x b) y = if x = y then some b else lk vs y
 | [], x, y, b => by
  unfold upd lk
  by_cases h : x = y
  ·subst h; simp [sEq_refl]
  ·have : sEq x y = false := by cases q : sEq x y with | false => rfl | true => exact absurd (aX.mp q) h
   simp [this, h, lk]
 | (z, c) :: r, x, y, b => by
  unfold upd
  cases hz : sEq z x with
  | true =>
   obtain rfl := aX.mp hz
   unfold lk
   by_cases h : z = y
   ·subst h; simp [sEq_refl]
   ·have : sEq z y = false := by cases q : sEq z y with | false => rfl | true => exact absurd (aX.mp q) h
    simp [this, h]
  | false =>
   have hzx : z ≠ x := fun q => by rw [aX.mpr q] at hz; exact tf hz
   show lk ((z, c) :: upd r x b) y = _
   unfold lk
   by_cases h : z = y
   ·subst h
    rw [sEq_refl]
    simp [Ne.symm hzx]
   ·have : sEq z y = false := by cases q : sEq z y with | false => rfl | true => exact absurd (aX.mp q) h
    simp only [this]
    exact lk_upd r x y b
theorem lk_frz (vs : Vars) (x y : SStr) : lk (frz vs x) y = match lk vs x with
  | some (.own d) => if x = y then some (.imm d) else lk vs y
  | _ => lk vs y := by
 unfold frz
 cases lk vs x with
 | none => rfl
 | some b => cases b with
  | imm d => rfl
  | own d => exact lk_upd _ _ _ _
theorem lk_allImm : ∀ (vs : Vars) (y : SStr), lk (allImm vs) y = (lk vs y).map fun b => match b with | .imm d => .imm d | .own d => .imm d
 | [], y => rfl
 | (x, .imm d) :: r, y => by
  unfold allImm lk
  cases sEq x y with
  | true => rfl
  | false => exact lk_allImm r y
 | (x, .own d) :: r, y => by
  unfold allImm lk
  cases sEq x y with
  | true => rfl
  | false => exact lk_allImm r y
noncomputable def dbg : SStr := nm "__debug__"
noncomputable def cdn : SStr := nm "__classdict__"
inductive CellAt (env : Env) (h : Heap) (x : SStr) (v : Value) : Prop
 | mk (q : env.kindOf x = some .cell ∨ env.kindOf x = some .free) (c) : env.cells.lookup x = some c → h.IsCell c (some v) → CellAt env h x v
inductive Bound (env : Env) (h : Heap) (m : NM) (x : SStr) (v : Value) : Prop
 | inl (p : env.kindOf x = some .local ∧ m x = some v) : Bound env h m x v
 | inr (p : CellAt env h x v) : Bound env h m x v
def Okk (S : Addr → Prop) (W F : List Addr) (a : Addr) : Prop := S a ∧ a ∉ W ∧ a ∉ F
inductive Rep (prog : Program) (w : World) (S : Addr → Prop) (W F : List Addr) (h : Heap) (v : Value) (d : D) : Prop
 | mk (as) : Rd prog w h v d as → (∀ a ∈ as, Okk S W F a) → Rep prog w S W F h v d
inductive OwnAt (prog : Program) (w : World) (S : Addr → Prop) (W F : List Addr) (h : Heap) (a : Addr) (d : D) : Prop
 | mk (as) : Rd prog w h (.ref a) d (a :: as) → (∀ b ∈ as, Okk S W F b) → OwnAt prog w S W F h a d
inductive ImmB (prog : Program) (w : World) (S : Addr → Prop) (l : List Env) (env : Env) (W : List Addr) (h : Heap) (m : NM) (x : SStr) (d : D) : Prop
 | mk (v) : Bound env h m x v → Rep prog w S W (frs l) h v d → ImmB prog w S l env W h m x d
inductive OwnB (prog : Program) (w : World) (S : Addr → Prop) (l : List Env) (env : Env) (W : List Addr) (h : Heap) (m : NM) (x : SStr) (a : Addr) (d : D) : Prop
 | mk : Bound env h m x (.ref a) → a ∈ W → a ≠ env.locals → (∀ y c, env.cells.lookup y = some c → a ≠ c) → a ∉ frs l → S a → OwnAt prog w S W (frs l) h a d → OwnB prog w S l env W h m x a d
inductive NsAt (prog : Program) (w : World) (S : Addr → Prop) (l : List Env) (env : Env) (W : List Addr) (h : Heap) (vs : Vars) : Prop
 | mk (m) (hn : h.Ns env.locals m) (pl : SStr → Addr) : (∀ x d, lk vs x = some (.imm d) → ImmB prog w S l env W h m x d) → (∀ x d, lk vs x = some (.own d) → OwnB prog w S l env W h m x (pl x) d) → (∀ x y d d', lk vs x = some (.own d) → lk vs y = some (.own d') → pl x = pl y → x = y) → NsAt prog w S l env W h vs
inductive CelOk (env : Env) (W : List Addr) (h : Heap) (c : Addr) : Prop
 | mk (q1 : c ∈ W) (q2 : c ≠ env.locals) (v) (q3 : h.IsCell c v) : CelOk env W h c
theorem CelOk.w {env : Env} {W : List Addr} {h : Heap} {c : Addr} (x : CelOk env W h c) : c ∈ W := let ⟨q, _, _, _⟩ := x; q
theorem CelOk.ne {env : Env} {W : List Addr} {h : Heap} {c : Addr} (x : CelOk env W h c) : c ≠ env.locals := let ⟨_, q, _, _⟩ := x; q
structure Inv (prog : Program) (w : World) (hb : Heap) (S : Addr → Prop) (l : List Env) (env : Env) (W : List Addr) (h : Heap) (vs : Vars) : Prop where
 stay : hb.StaysIn h
 fr : Frs hb l h
 wl : ∀ a ∈ W, WlAt hb h a
 loc : env.locals ∈ W
 cel : ∀ x c, env.cells.lookup x = some c → CelOk env W h c
 cl : ∀ x, env.kindOf x = some .cell → ∃ c, env.cells.lookup x = some c
 cap : ∀ x y c, env.cells.lookup x = some c → env.cells.lookup y = some c → x = y
 nd : env.kindOf dbg = none ∧ env.kindOf cdn = none
 fresh : ∀ a, h.get? a = none → S a
 base : ∀ a o, hb.get? a = some o → S a
 ns : NsAt prog w S l env W h vs
section
variable {prog : Program} {w : World} {hb : Heap} {S : Addr → Prop} {l : List Env} {env : Env} {W : List Addr} {h h' : Heap} {vs : Vars}
theorem Okk.mono {F : List Addr} {W W' : List Addr} {a : Addr} (x : Okk S W F a) (k : a ∈ W' → a ∈ W) : Okk S W' F a := ⟨x.1, fun m => x.2.1 (k m), x.2.2⟩
theorem Rep.up {F : List Addr} {v : Value} {d : D} (x : Rep prog w S W F h v d) (u : Up F h h') : Rep prog w S W F h' v d :=
 let ⟨as, r, k⟩ := x
 ⟨as, Rd.keep (fun a m o e => u.at e (k a m).2.2) r, k⟩
theorem Rep.off {F W' : List Addr} {v : Value} {d : D} (x : Rep prog w S W F h v d) (u : Off W F h h') (k' : ∀ b, b ∈ W' → b ∈ W ∨ h.get? b = none) : Rep prog w S W' F h' v d := by
 obtain ⟨as, r, k⟩ := x
 refine ⟨as, Rd.keep (fun a m o e => u.at e (k a m).2.1 (k a m).2.2) r, fun a m => (k a m).mono fun q => ?_⟩
 rcases k' a q with q | q
 ·exact q
 ·obtain ⟨o, e⟩ := Rd.alive r a m
  exact nox q e
def KeepOkk (S S' : Addr → Prop) (W W' F : List Addr) (h h' : Heap) : Prop := ∀ a o, Okk S W F a → h.get? a = some o → Okk S' W' F a ∧ h'.get? a = some o
theorem Rd.to {S' : Addr → Prop} {W' F : List Addr} {v : Value} {d : D} {as : List Addr} (r : Rd prog w h v d as) (k : ∀ a ∈ as, Okk S W F a) (K : KeepOkk S S' W W' F h h') : Rd prog w h' v d as ∧ ∀ a ∈ as, Okk S' W' F a :=
 ⟨Rd.keep (fun a m o e => (K a o (k a m) e).2) r, fun a m => let ⟨o, e⟩ := Rd.alive r a m; (K a o (k a m) e).1⟩
theorem ImmB.to {S' : Addr → Prop} {W' : List Addr} {m m' : NM} {y : SStr} {d : D} (x : ImmB prog w S l env W h m y d) (kb : ∀ v, Bound env h m y v → Bound env h' m' y v) (K : KeepOkk S S' W W' (frs l) h h') : ImmB prog w S' l env W' h' m' y d := by
 obtain ⟨v, b, as, r, k⟩ := x
 obtain ⟨r, k⟩ := r.to k K
 exact ⟨v, kb v b, as, r, k⟩
theorem OwnB.to {S' : Addr → Prop} {W' : List Addr} {m m' : NM} {y : SStr} {a : Addr} {d : D} (x : OwnB prog w S l env W h m y a d) (kb : ∀ v, Bound env h m y v → Bound env h' m' y v) (inW : a ∈ W → a ∈ W') (sub : S a → S' a) (ka : ∀ o, h.get? a = some o → h'.get? a = some o) (K : KeepOkk S S' W W' (frs l) h h') : OwnB prog w S' l env W' h' m' y a d := by
 obtain ⟨b, q1, q2, q3, q4, q5, as, r, k⟩ := x
 refine ⟨kb _ b, inW q1, q2, q3, q4, sub q5, as, Rd.keep (fun b m o e => ?_) r, fun b m => let ⟨o, e⟩ := Rd.alive r b (mc _ m); (K b o (k b m) e).1⟩
 rcases mp m with rfl | m
 ·exact ka o e
 ·exact (K b o (k b m) e).2
theorem OwnB.notLoc {m : NM} {y : SStr} {a : Addr} {d : D} (x : OwnB prog w S l env W h m y a d) : a ≠ env.locals := let ⟨_, _, q, _, _, _, _⟩ := x; q
theorem OwnB.notCel {m : NM} {y z : SStr} {a c : Addr} {d : D} (x : OwnB prog w S l env W h m y a d) (hc : env.cells.lookup z = some c) : a ≠ c := let ⟨_, _, _, q, _, _, _⟩ := x; q z c hc
theorem OwnB.notFr {m : NM} {y : SStr} {a : Addr} {d : D} (x : OwnB prog w S l env W h m y a d) : a ∉ frs l := let ⟨_, _, _, _, q, _, _⟩ := x; q
theorem OwnB.inS {m : NM} {y : SStr} {a : Addr} {d : D} (x : OwnB prog w S l env W h m y a d) : S a := let ⟨_, _, _, _, _, q, _⟩ := x; q
theorem OwnB.inW {m : NM} {y : SStr} {a : Addr} {d : D} (x : OwnB prog w S l env W h m y a d) : a ∈ W := let ⟨_, q, _, _, _, _, _⟩ := x; q
theorem OwnB.ex {m : NM} {y : SStr} {a : Addr} {d : D} (x : OwnB prog w S l env W h m y a d) : ∃ o, h.get? a = some o := let ⟨_, _, _, _, _, _, _, r, _⟩ := x; Rd.alive r a mz
theorem Bound.up {F : List Addr} {m : NM} {x : SStr} {v : Value} (b : Bound env h m x v) (u : Up F h h') : Bound env h' m x v := by
 rcases b with q | ⟨q, c, e, z⟩
 ·exact .inl q
 ·exact .inr ⟨q, c, e, u.cell z⟩
theorem CelOk.up {F : List Addr} {c : Addr} (x : CelOk env W h c) (u : Up F h h') : CelOk env W h' c := let ⟨q1, q2, v, q3⟩ := x; ⟨q1, q2, v, u.cell q3⟩
theorem WlAt.up {F : List Addr} {a : Addr} (x : WlAt hb h a) (u : Up F h h') : WlAt hb h' a := let ⟨n, _, e⟩ := x; let ⟨o, e⟩ := u.ex e; ⟨n, o, e⟩
theorem KeepOkk.up {F : List Addr} (u : Up F h h') : KeepOkk S S W W F h h' := fun _ _ k e => ⟨k, u.at e k.2.2⟩
theorem Inv.up (I : Inv prog w hb S l env W h vs) (u : Up (frs l) h h') : Inv prog w hb S l env W h' vs :=
 let ⟨m, n, pl, h1, h2, h3⟩ := I.ns
 ⟨stays_up I.fr I.stay u, Frs.up I.fr u, fun a q => (I.wl a q).up u, I.loc, fun x c e => (I.cel x c e).up u, I.cl, I.cap, I.nd, fun a q => I.fresh a (u.gone q), I.base, m, u.ns n, pl, fun x d e => (h1 x d e).to (fun _ b => b.up u) (.up u),
  fun x d e => (h2 x d e).to (fun _ b => b.up u) id id (fun _ z => u.at z (h2 x d e).notFr) (.up u), h3⟩
theorem Inv.not_dbg (I : Inv prog w hb S l env W h vs) {x : SStr} {b : Bd} (e : lk vs x = some b) : (x == dbg) = false ∧ (x == cdn) = false := by
 obtain ⟨m, n, pl, h1, h2, h3⟩ := I.ns
 have key : env.kindOf x ≠ none := by
  cases b with
  | imm d => obtain ⟨v, q | ⟨q | q, _⟩, _⟩ := h1 x d e <;> (first | rw [q.1] | rw [q]) <;> simp
  | own d => obtain ⟨q | ⟨q | q, _⟩, _⟩ := h2 x d e <;> (first | rw [q.1] | rw [q]) <;> simp
 constructor
 ·cases q : x == dbg with
  | false => rfl
  | true => rw [bq q] at key; exact absurd I.nd.1 key
 ·cases q : x == cdn with
  | false => rfl
  | true => rw [bq q] at key; exact absurd I.nd.2 key
end
section
variable {prog : Program} {w : World} {A : Around} {s : Shared} {env : Env} {l : List Env} {n : Nat} {hb : Heap} {S : Addr → Prop} {W : List Addr} {vs : Vars} {E : VQ}
theorem name_bound {x : SStr} {pos : Pos} {m : NM} {v : Value} {Q : VQ} (hk : env.scope.kind = .function) (hn : s.heap.Ns env.locals m) (b : Bound env s.heap m x v) (h1 : (x == dbg) = false) (h2 : (x == cdn) = false) (hQ : Q v s) :
  wpAny (model prog w) A (eval (.Name x pos) env) Q E s := by
 rcases b with ⟨q, e⟩ | ⟨q | q, c, e, z⟩
 ·exact wpAny_Name (wpAny_loadName_local hk q hn e hQ) h1
 ·exact wpAny_Name (wpAny_loadName_cell hk q e z hQ) h1
 ·exact wpAny_Name (wpAny_loadName_free hk q e z hQ h2) h1
theorem name_imm {x : SStr} {pos : Pos} {d : D} {Q : VQ} (R : Room A env l n) (I : Inv prog w hb S l env W s.heap vs) (e : lk vs x = some (.imm d)) (hQ : ∀ v, Rep prog w S W (frs l) s.heap v d → Q v s) :
  wpAny (model prog w) A (eval (.Name x pos) env) Q E s := by
 obtain ⟨nd1, nd2⟩ := I.not_dbg e
 obtain ⟨m, hn, pl, h1, h2, h3⟩ := I.ns
 obtain ⟨v, b, r⟩ := h1 x d e
 exact name_bound R.kd hn b nd1 nd2 (hQ v r)
theorem name_own {x : SStr} {pos : Pos} {d : D} {Q : VQ} (R : Room A env l n) (I : Inv prog w hb S l env W s.heap vs) (e : lk vs x = some (.own d))
  (hQ : ∀ a, OwnAt prog w S W (frs l) s.heap a d → a ∉ frs l → a ∈ W → Q (.ref a) s) :
  wpAny (model prog w) A (eval (.Name x pos) env) Q E s := by
 obtain ⟨nd1, nd2⟩ := I.not_dbg e
 obtain ⟨m, hn, pl, h1, h2, h3⟩ := I.ns
 obtain ⟨b, q1, q2, q3, q4, q5, r⟩ := h2 x d e
 exact name_bound R.kd hn b nd1 nd2 (hQ _ r q4 q1)
end
theorem Frs.of {hb : Heap} {h h' : Heap} (k : ∀ b o, h.get? b = some o → (∀ vs, o.data ≠ .fields vs) → ∃ o', h'.get? b = some o' ∧ ∀ vs, o'.data ≠ .fields vs) : ∀ {l : List Env}, Frs hb l h → Frs hb l h'
 | [], _ => trivial
 | _ :: _, ⟨hk, ⟨L, o, hf, hn, ho, hd⟩, hr⟩ => by
  obtain ⟨o', ho', hd'⟩ := k L o ho hd
  exact ⟨hk, ⟨L, o', hf, hn, ho', hd'⟩, Frs.of k hr⟩
theorem Frs.one {hb h h' : Heap} {a : Addr} {l : List Env} (x : Frs hb l h) (k : Heap.SameBut a h h') (n : ∃ o, h'.get? a = some o ∧ ∀ vs, o.data ≠ .fields vs) : Frs hb l h' := by
 refine Frs.of (fun b o e hn => ?_) x
 by_cases q : b = a
 ·subst q; exact n
 ·exact ⟨o, (k.2 b q).trans e, hn⟩
section
variable {prog : Program} {w : World} {A : Around} {s : Shared} {env : Env} {l : List Env} {n : Nat} {hb : Heap} {S : Addr → Prop} {W : List Addr} {vs : Vars} {E : VQ} {h h' : Heap}
theorem stays_one {a : Addr} (st : hb.StaysIn h) (na : hb.get? a = none) (k : Heap.SameBut a h h') : hb.StaysIn h' := fun b o e => by
 refine (k.2 b ?_).trans (st b o e)
 rintro rfl
 exact nox na e
theorem off_one {a : Addr} {F : List Addr} (m : a ∈ W) (k : Heap.SameBut a h h') (n : ∃ o, h'.get? a = some o) : Off W F h h' := fun b o e => by
 by_cases q : b = a
 ·subst q; exact .inl ⟨m, n⟩
 ·exact .inr (.inl ((k.2 b q).trans e))
inductive OneOk (hb : Heap) (S : Addr → Prop) (l : List Env) (env : Env) (W : List Addr) (h h' : Heap) : Prop
 | mk : hb.StaysIn h' → Frs hb l h' → (∀ a ∈ W, WlAt hb h' a) → (∀ x c, env.cells.lookup x = some c → CelOk env W h' c) → (∀ a, h'.get? a = none → S a) → Off W (frs l) h h' → OneOk hb S l env W h h'
theorem Inv.one {a : Addr} (I : Inv prog w hb S l env W h vs) (m : a ∈ W) (k : Heap.SameBut a h h') (n : ∃ o, h'.get? a = some o ∧ ∀ vs, o.data ≠ .fields vs) (cc : ∀ x, env.cells.lookup x = some a → ∃ v, h'.IsCell a v) :
  OneOk hb S l env W h h' := by
 have off : Off W (frs l) h h' := off_one m k (n.imp fun _ q => q.1)
 refine ⟨stays_one I.stay (I.wl a m).n k, I.fr.one k n, fun b q => ?_, fun x c e => ?_, fun b q => I.fresh b (off.gone q), off⟩
 ·obtain ⟨n, o, e⟩ := I.wl b q
  obtain ⟨o', e⟩ := off.ex e
  exact ⟨n, o', e⟩
 ·obtain ⟨q1, q2, v, q3⟩ := I.cel x c e
  by_cases q : c = a
  ·subst q; obtain ⟨v, z⟩ := cc x e; exact ⟨q1, q2, v, z⟩
  ·exact ⟨q1, q2, v, q3.sameBut k q⟩
theorem ns_nf {a : Addr} {m : NM} (n : h.Ns a m) : ∃ o, h.get? a = some o ∧ ∀ vs, o.data ≠ .fields vs := by
 obtain ⟨o, es, ep, e, d, _⟩ := n
 exact ⟨o, e, fun vs q => nomatch d.symm.trans q⟩
theorem cell_nf {a : Addr} {v : Option Value} (n : h.IsCell a v) : ∃ o, h.get? a = some o ∧ ∀ vs, o.data ≠ .fields vs := by
 obtain ⟨o, e, d⟩ := n
 exact ⟨o, e, fun vs q => nomatch d.symm.trans q⟩
theorem ns_ex {a : Addr} {m : NM} (n : h.Ns a m) : ∃ o, h.get? a = some o := (ns_nf n).imp fun _ q => q.1
theorem cell_ex {a : Addr} {v : Option Value} (n : h.IsCell a v) : ∃ o, h.get? a = some o := (cell_nf n).imp fun _ q => q.1
theorem bnd_loc {x : SStr} {v : Value} {m : NM} (I : Inv prog w hb S l env W h vs) (sb : Heap.SameBut env.locals h h') : ∀ y u, y ≠ x → Bound env h m y u → Bound env h' (fun z => if z = x then some v else m z) y u := fun y u ne b => by
 rcases b with ⟨q, e⟩ | ⟨q, c, e, z⟩
 ·exact .inl ⟨q, (if_neg ne).trans e⟩
 ·exact .inr ⟨q, c, e, z.sameBut sb (I.cel y c e).ne⟩
theorem bnd_cel {x : SStr} {c : Addr} {m : NM} (I : Inv prog w hb S l env W h vs) (hc : env.cells.lookup x = some c) (sb : Heap.SameBut c h h') : ∀ y u, y ≠ x → Bound env h m y u → Bound env h' m y u := fun y u ne b => by
 rcases b with q | ⟨q, c', e, z⟩
 ·exact .inl q
 ·exact .inr ⟨q, c', e, z.sameBut sb fun w => ne (I.cap y x _ e (w ▸ hc))⟩
theorem ImmB.ch {m m' : NM} {y : SStr} {d : D} (x : ImmB prog w S l env W h m y d) (k : ∀ v, Bound env h m y v → Bound env h' m' y v) (off : Off W (frs l) h h') : ImmB prog w S l env W h' m' y d :=
 x.to k fun _ _ k e => ⟨k, off.at e k.2.1 k.2.2⟩
theorem OwnB.ch {m m' : NM} {y : SStr} {a c : Addr} {d : D} (x : OwnB prog w S l env W h m y a d) (k : ∀ v, Bound env h m y v → Bound env h' m' y v) (cW : c ∈ W) (sb : Heap.SameBut c h h') (ne : a ≠ c) : OwnB prog w S l env W h' m' y a d :=
 x.to k id id (fun _ e => (sb.2 a ne).trans e) fun b _ k e => ⟨k, (sb.2 b fun z => k.2.1 (z ▸ cW)).trans e⟩
theorem lk_imm {x y : SStr} {d d' : D} (e : lk (upd vs x (.imm d)) y = some (.imm d')) : (x = y ∧ d = d') ∨ (y ≠ x ∧ lk vs y = some (.imm d')) := by
 rw [lk_upd] at e
 by_cases q : x = y
 ·rw [if_pos q] at e; exact .inl ⟨q, ii e⟩
 ·rw [if_neg q] at e; exact .inr ⟨Ne.symm q, e⟩
theorem lk_imm' {x y : SStr} {d d' : D} (e : lk (upd vs x (.imm d)) y = some (.own d')) : y ≠ x ∧ lk vs y = some (.own d') := by
 rw [lk_upd] at e
 by_cases q : x = y
 ·rw [if_pos q] at e; exact io e
 ·rw [if_neg q] at e; exact ⟨Ne.symm q, e⟩
theorem lk_own {x y : SStr} {d d' : D} (e : lk (upd vs x (.own d)) y = some (.own d')) : (x = y ∧ d = d') ∨ (y ≠ x ∧ lk vs y = some (.own d')) := by
 rw [lk_upd] at e
 by_cases q : x = y
 ·rw [if_pos q] at e; exact .inl ⟨q, oo e⟩
 ·rw [if_neg q] at e; exact .inr ⟨Ne.symm q, e⟩
theorem lk_own' {x y : SStr} {d d' : D} (e : lk (upd vs x (.own d)) y = some (.imm d')) : y ≠ x ∧ lk vs y = some (.imm d') := by
 rw [lk_upd] at e
 by_cases q : x = y
 ·rw [if_pos q] at e; exact oi e
 ·rw [if_neg q] at e; exact ⟨Ne.symm q, e⟩
theorem Inv.put {x : SStr} {v : Value} {d : D} {c : Addr} {m m' : NM} {pl : SStr → Addr} (I : Inv prog w hb S l env W h vs) (h1 : ∀ x d, lk vs x = some (.imm d) → ImmB prog w S l env W h m x d) (h2 : ∀ x d, lk vs x = some (.own d) → OwnB prog w S l env W h m x (pl x) d)
  (h3 : ∀ x y d d', lk vs x = some (.own d) → lk vs y = some (.own d') → pl x = pl y → x = y) (cW : c ∈ W) (sb : Heap.SameBut c h h') (nf : ∃ o, h'.get? c = some o ∧ ∀ vs, o.data ≠ .fields vs) (cc : ∀ y, env.cells.lookup y = some c → ∃ v, h'.IsCell c v) (hn' : h'.Ns env.locals m')
  (bx : Bound env h' m' x v) (bnd : ∀ y u, y ≠ x → Bound env h m y u → Bound env h' m' y u) (pc : ∀ y d, lk vs y = some (.own d) → pl y ≠ c) (r : Rep prog w S W (frs l) h v d) : Inv prog w hb S l env W h' (upd vs x (.imm d)) := by
 obtain ⟨z1, z2, z3, z4, z5, off⟩ := I.one cW sb nf cc
 refine ⟨z1, z2, z3, I.loc, z4, I.cl, I.cap, I.nd, z5, I.base, m', hn', pl, fun y d' e => ?_, fun y d' e => ?_, fun y z d1 d2 e1 e2 => h3 y z d1 d2 (lk_imm' e1).2 (lk_imm' e2).2⟩
 ·rcases lk_imm e with ⟨rfl, rfl⟩ | ⟨q, e⟩
  ·exact ⟨v, bx, r.off off fun _ m => .inl m⟩
  ·exact (h1 y d' e).ch (fun u => bnd y u q) off
 ·obtain ⟨q, e⟩ := lk_imm' e
  exact (h2 y d' e).ch (fun u => bnd y u q) cW sb (pc y d' e)
theorem store_local {x : SStr} {v : Value} {d : D} {Q : Unit → Shared → Prop} (R : Room A env l n) (I : Inv prog w hb S l env W s.heap vs) (hk : env.kindOf x = some .local)
  (r : Rep prog w S W (frs l) s.heap v d) (hQ : ∀ h' tk, Inv prog w hb S l env W h' (upd vs x (.imm d)) → Heap.SameBut env.locals s.heap h' → Q () { s with heap := h', toks := tk }) :
  wpAny (model prog w) A (storeName env x v) Q E s := by
 obtain ⟨m, hn, pl, h1, h2, h3⟩ := I.ns
 exact wpAny_storeName_local hk hn (fun h' hn' sb => hQ h' _ (I.put h1 h2 h3 I.loc sb (ns_nf hn') (fun y e => absurd rfl (I.cel y _ e).ne) hn' (.inl ⟨hk, if_pos rfl⟩) (bnd_loc I sb) (fun y d e => (h2 y d e).notLoc) r) sb) (by rw [R.kd]; rfl)
theorem store_imm {x : SStr} {v : Value} {d : D} {Q : Unit → Shared → Prop} (R : Room A env l n) (I : Inv prog w hb S l env W s.heap vs) (hk : env.kindOf x = some .local ∨ env.kindOf x = some .cell)
  (r : Rep prog w S W (frs l) s.heap v d) (hQ : ∀ h' tk, Inv prog w hb S l env W h' (upd vs x (.imm d)) → Off W (frs l) s.heap h' → Q () { s with heap := h', toks := tk }) :
  wpAny (model prog w) A (storeName env x v) Q E s := by
 rcases hk with hk | hk
 ·exact store_local R I hk r fun h' tk I' sb => hQ h' tk I' (off_one I.loc sb (I'.wl _ I.loc).ex)
 ·obtain ⟨m, hn, pl, h1, h2, h3⟩ := I.ns
  obtain ⟨c, hc⟩ := I.cl x hk
  obtain ⟨cW, cL, v₀, hv₀⟩ := I.cel x c hc
  exact wpAny_storeName_cell R.kd hk hc hv₀ fun h' hc' sb => hQ h' _ (I.put h1 h2 h3 cW sb (cell_nf hc') (fun y e => ⟨_, hc'⟩) (hn.sameBut sb (Ne.symm cL)) (.inr ⟨.inl hk, c, hc, hc'⟩) (bnd_cel I hc sb) (fun y d e => (h2 y d e).notCel hc) r) (off_one cW sb (cell_ex hc'))
theorem frzd {vs' : Vars} {x y : SStr} {d d' : D} (hl : ∀ y, lk vs' y = if x = y then some (.imm d) else lk vs y) (e : lk vs' y = some (.own d')) : x ≠ y ∧ lk vs y = some (.own d') := by
 rw [hl] at e
 by_cases q : x = y
 ·rw [if_pos q] at e; exact io e
 ·rw [if_neg q] at e; exact ⟨q, e⟩
theorem Inv.freeze (I : Inv prog w hb S l env W h vs) (x : SStr) : ∃ W', Inv prog w hb S l env W' h (frz vs x) ∧ ∀ b, b ∈ W' → b ∈ W := by
 cases q : lk vs x with
 | none => exact ⟨W, by unfold frz; rw [q]; exact I, fun _ m => m⟩
 | some b => cases b with
  | imm d => exact ⟨W, by unfold frz; rw [q]; exact I, fun _ m => m⟩
  | own d =>
   obtain ⟨m, hn, pl, h1, h2, h3⟩ := I.ns
   obtain ⟨b, q1, q2, q3, q4, q5, as, ra, ka⟩ := h2 x d q
   have sub : ∀ b, b ∈ W.filter (fun b => b != pl x) → b ∈ W := fun b m => (List.mem_filter.mp m).1
   have inn : ∀ b, b ∈ W → b ≠ pl x → b ∈ W.filter (fun b => b != pl x) := fun b m ne => List.mem_filter.mpr ⟨m, by simpa using ne⟩
   refine ⟨W.filter fun b => b != pl x, ?_, sub⟩
   have hl : ∀ y, lk (frz vs x) y = if x = y then some (.imm d) else lk vs y := fun y => by rw [lk_frz, q]
   have K : KeepOkk S S W (W.filter fun b => b != pl x) (frs l) h h := fun a o k e => ⟨k.mono (sub a), e⟩
   refine ⟨I.stay, I.fr, fun a m => I.wl a (sub a m), inn _ I.loc (Ne.symm q2), fun y c e => let ⟨w, n, v, z⟩ := I.cel y c e; ⟨inn _ w (Ne.symm (q3 y c e)), n, v, z⟩, I.cl, I.cap, I.nd, I.fresh, I.base, m, hn, pl, fun y d' e => ?_, fun y d' e => ?_, fun y z d1 d2 e1 e2 q => ?_⟩
   ·rw [hl] at e
    by_cases q : x = y
    ·subst q
     rw [if_pos rfl] at e
     obtain rfl := ii e
     refine ⟨_, b, pl x :: as, ra, fun a m => ?_⟩
     rcases mp m with rfl | m
     ·exact ⟨q5, fun m => by simpa using (List.mem_filter.mp m).2, q4⟩
     ·exact (ka a m).mono (sub a)
    ·rw [if_neg q] at e
     exact (h1 y d' e).to (fun _ b => b) K
   ·obtain ⟨q, e⟩ := frzd hl e
    exact (h2 y d' e).to (fun _ b => b) (fun m => inn _ m fun z => q (h3 x y _ _ ‹_› e z.symm)) id (fun _ z => z) K
   ·exact h3 y z d1 d2 (frzd hl e1).2 (frzd hl e2).2 q
theorem Inv.freezes : ∀ (xs : List SStr) {W : List Addr} {vs : Vars}, Inv prog w hb S l env W h vs → ∃ W', Inv prog w hb S l env W' h (aA vs xs) ∧ ∀ b, b ∈ W' → b ∈ W
 | [], W, _, I => ⟨W, I, fun _ m => m⟩
 | x :: xs, _, _, I => by
  obtain ⟨W1, I1, k1⟩ := I.freeze x
  obtain ⟨W2, I2, k2⟩ := Inv.freezes xs I1
  exact ⟨W2, I2, fun b m => k1 b (k2 b m)⟩
theorem Inv.congr {vs' : Vars} (I : Inv prog w hb S l env W h vs) (k : ∀ x, lk vs' x = lk vs x) : Inv prog w hb S l env W h vs' := by
 obtain ⟨m, hn, pl, h1, h2, h3⟩ := I.ns
 exact ⟨I.stay, I.fr, I.wl, I.loc, I.cel, I.cl, I.cap, I.nd, I.fresh, I.base, m, hn, pl, fun x d e => h1 x d (k x ▸ e), fun x d e => h2 x d (k x ▸ e), fun x y d d' e e' => h3 x y d d' (k x ▸ e) (k y ▸ e')⟩
theorem lk_mem : ∀ {vs : Vars} {x : SStr} {b : Bd}, lk vs x = some b → x ∈ vs.map (·.1)
 | [], _, _, e => by exact nn e
 | (y, c) :: r, x, b, e => by
  unfold lk at e
  cases q : sEq y x with
  | true => rw [aX.mp q]; exact mz
  | false => rw [q] at e; exact mc _ (lk_mem e)
theorem lk_frzAll : ∀ (xs : List SStr) (vs : Vars) (y : SStr), lk (aA vs xs) y = match lk vs y with
  | some (.own d) => if y ∈ xs then some (.imm d) else some (.own d)
  | b => b
 | [], vs, y => by cases q : lk vs y with | none => simpa [aA] using q | some b => cases b <;> simpa [aA] using q
 | x :: xs, vs, y => by
  show lk (aA (frz vs x) xs) y = _
  rw [lk_frzAll xs, lk_frz]
  by_cases hxy : x = y
  ·subst hxy
   cases q : lk vs x with
   | none => simp
   | some b => cases b with
    | imm d => simp
    | own d => simp
  ·have hyx : ¬ y = x := fun q => hxy q.symm
   cases q : lk vs x with
   | none => cases q' : lk vs y with | none => rfl | some b => cases b <;> simp [hyx]
   | some b => cases b with
    | imm d => cases q' : lk vs y with | none => rfl | some b => cases b <;> simp [hyx]
    | own d => cases q' : lk vs y with | none => simp [hxy, q'] | some b => cases b <;> simp [hxy, hyx, q']
theorem Inv.allImm (I : Inv prog w hb S l env W h vs) : ∃ W', Inv prog w hb S l env W' h (allImm vs) ∧ ∀ b, b ∈ W' → b ∈ W := by
 obtain ⟨W1, I1, k1⟩ := I.freezes (vs.map (·.1))
 refine ⟨W1, I1.congr fun x => ?_, k1⟩
 rw [lk_allImm, lk_frzAll]
 cases q : lk vs x with
 | none => rfl
 | some b => cases b with
  | imm d => rfl
  | own d => simp [lk_mem q]
end
section
variable {prog : Program} {w : World} {A : Around} {s : Shared} {env : Env} {l : List Env} {n : Nat} {hb : Heap} {S : Addr → Prop} {W : List Addr} {vs : Vars} {E : VQ} {h h' : Heap}
theorem Inv.alive (I : Inv prog w hb S l env W h vs) {a : Addr} (m : a ∈ frs l) : ∃ o, h.get? a = some o := (I.fr.ex m).ex
noncomputable def plx (pl : SStr → Addr) (x : SStr) (a : Addr) : SStr → Addr := fun y => if y = x then a else pl y
theorem plx_self {pl : SStr → Addr} {x : SStr} {a : Addr} : plx pl x a x = a := if_pos rfl
theorem plx_ne {pl : SStr → Addr} {x y : SStr} {a : Addr} (h : y ≠ x) : plx pl x a y = pl y := if_neg h
theorem KeepOkk.more {a : Addr} (u : Up (frs l) h h') (n : h.get? a = none) : KeepOkk S S W (a :: W) (frs l) h h' := fun b o k e => ⟨k.mono fun q => (mp q).elim (fun z => nox n (z ▸ e)) id, u.at e k.2.2⟩
theorem ImmB.more {a : Addr} {m : NM} {y : SStr} {d : D} (x : ImmB prog w S l env W h m y d) (u : Up (frs l) h h') (n : h.get? a = none) : ImmB prog w S l env (a :: W) h' m y d := x.to (fun _ b => b.up u) (.more u n)
theorem OwnB.more {a p : Addr} {m : NM} {y : SStr} {d : D} (x : OwnB prog w S l env W h m y p d) (u : Up (frs l) h h') (n : h.get? a = none) : OwnB prog w S l env (a :: W) h' m y p d :=
 x.to (fun _ b => b.up u) (mc _) id (fun _ e => u.at e x.notFr) (.more u n)
theorem CelOk.more {a c : Addr} (x : CelOk env W h c) (u : Up (frs l) h h') : CelOk env (a :: W) h' c := by
 obtain ⟨q1, q2, v, q3⟩ := x
 exact ⟨mc _ q1, q2, v, u.cell q3⟩
theorem wl_more {a : Addr} (wl : ∀ b ∈ W, WlAt hb h b) (x : WlAt hb h a) : ∀ b ∈ a :: W, WlAt hb h b := List.forall_mem_cons.mpr ⟨x, wl⟩
theorem Inv.new (I : Inv prog w hb S l env W h vs) {a : Addr} (n : h.get? a = none) : hb.get? a = none := by
 cases q : hb.get? a with
 | none => rfl
 | some o => exact nox n (I.stay a o q)
theorem Inv.more {a : Addr} (I : Inv prog w hb S l env W h vs) (u : Up (frs l) h h') (n : h.get? a = none) (e : ∃ o, h'.get? a = some o) : Inv prog w hb S l env (a :: W) h' vs := by
 have I' := I.up u
 obtain ⟨o, e⟩ := e
 obtain ⟨m, hn, pl, h1, h2, h3⟩ := I.ns
 exact ⟨I'.stay, I'.fr, wl_more I'.wl ⟨I.new n, o, e⟩, mc _ I.loc, fun x c ec => (I.cel x c ec).more u, I.cl, I.cap, I.nd, I'.fresh, I.base, m, u.ns hn, pl, fun x d ex => (h1 x d ex).more u n, fun x d ex => (h2 x d ex).more u n, h3⟩
theorem Inv.putOwn {x : SStr} {a c : Addr} {d : D} {m m' : NM} {pl : SStr → Addr} (J : Inv prog w hb S l env (a :: W) h vs) (h1 : ∀ x d, lk vs x = some (.imm d) → ImmB prog w S l env (a :: W) h m x d) (h2 : ∀ x d, lk vs x = some (.own d) → OwnB prog w S l env (a :: W) h m x (pl x) d)
  (h3 : ∀ x y d d', lk vs x = some (.own d) → lk vs y = some (.own d') → pl x = pl y → x = y) (pa : ∀ y d, lk vs y = some (.own d) → pl y ≠ a) (aL : a ≠ env.locals) (aC : ∀ y c, env.cells.lookup y = some c → a ≠ c) (aF : a ∉ frs l) (Sa : S a) (r : OwnAt prog w S (a :: W) (frs l) h a d)
  (cW : c ∈ a :: W) (ca : a ≠ c) (sb : Heap.SameBut c h h') (nf : ∃ o, h'.get? c = some o ∧ ∀ vs, o.data ≠ .fields vs) (cc : ∀ y, env.cells.lookup y = some c → ∃ v, h'.IsCell c v) (hn' : h'.Ns env.locals m')
  (bx : Bound env h' m' x (.ref a)) (bnd : ∀ y u, y ≠ x → Bound env h m y u → Bound env h' m' y u) (pc : ∀ y d, lk vs y = some (.own d) → pl y ≠ c) : Inv prog w hb S l env (a :: W) h' (upd vs x (.own d)) := by
 obtain ⟨z1, z2, z3, z4, z5, off⟩ := J.one cW sb nf cc
 refine ⟨z1, z2, z3, J.loc, z4, J.cl, J.cap, J.nd, z5, J.base, m', hn', plx pl x a, fun y d' e => ?_, fun y d' e => ?_, fun y z d1 d2 e1 e2 q => ?_⟩
 ·obtain ⟨q, e⟩ := lk_own' e
  exact (h1 y d' e).ch (fun u => bnd y u q) off
 ·rcases lk_own e with ⟨rfl, rfl⟩ | ⟨q, e⟩
  ·obtain ⟨as, ra, ka⟩ := r
   rw [plx_self]
   refine ⟨bx, mz, aL, aC, aF, Sa, as, Rd.keep (fun b m o e => (sb.2 b ?_).trans e) ra, ka⟩
   rcases mp m with rfl | m
   ·exact ca
   ·exact fun z => (ka _ m).2.1 (z ▸ cW)
  ·rw [plx_ne q]
   exact (h2 y d' e).ch (fun u => bnd y u q) cW sb (pc y d' e)
 ·rcases lk_own e1 with ⟨q1, _⟩ | ⟨q1, e1⟩
  ·rcases lk_own e2 with ⟨q2, _⟩ | ⟨q2, e2⟩
   ·exact q1.symm.trans q2
   ·rw [← q1, plx_self, plx_ne q2] at q
    exact absurd q.symm (pa z d2 e2)
  ·rw [plx_ne q1] at q
   rcases lk_own e2 with ⟨q2, _⟩ | ⟨q2, e2⟩
   ·rw [← q2, plx_self] at q
    exact absurd q (pa y d1 e1)
   ·rw [plx_ne q2] at q
    exact h3 y z d1 d2 e1 e2 q
theorem storeNew {x : SStr} {a : Addr} {d : D} {m : NM} {pl : SStr → Addr} {Q : Unit → Shared → Prop} (R : Room A env l n) (J : Inv prog w hb S l env (a :: W) s.heap vs) (hn : s.heap.Ns env.locals m) (h1 : ∀ x d, lk vs x = some (.imm d) → ImmB prog w S l env (a :: W) s.heap m x d)
  (h2 : ∀ x d, lk vs x = some (.own d) → OwnB prog w S l env (a :: W) s.heap m x (pl x) d) (h3 : ∀ x y d d', lk vs x = some (.own d) → lk vs y = some (.own d') → pl x = pl y → x = y) (pa : ∀ y d, lk vs y = some (.own d) → pl y ≠ a) (aL : a ≠ env.locals) (aC : ∀ y c, env.cells.lookup y = some c → a ≠ c) (aF : a ∉ frs l) (Sa : S a)
  (r : OwnAt prog w S (a :: W) (frs l) s.heap a d) (hk : env.kindOf x = some .local ∨ env.kindOf x = some .cell)
  (hQ : ∀ h' tk, Inv prog w hb S l env (a :: W) h' (upd vs x (.own d)) → Off W (frs l) s.heap h' → Q () { s with heap := h', toks := tk }) : wpAny (model prog w) A (storeName env x (.ref a)) Q E s := by
 have inW : ∀ {c}, c ∈ a :: W → a ≠ c → c ∈ W := fun m n => (mp m).elim (fun z => absurd z.symm n) id
 rcases hk with hk | hk
 ·exact wpAny_storeName_local hk hn (fun h' hn' sb => hQ h' _ (J.putOwn h1 h2 h3 pa aL aC aF Sa r J.loc aL sb (ns_nf hn') (fun y e => absurd rfl (J.cel y _ e).ne) hn' (.inl ⟨hk, if_pos rfl⟩) (bnd_loc J sb) fun y d e => (h2 y d e).notLoc) (off_one (inW J.loc aL) sb (ns_ex hn'))) (by rw [R.kd]; rfl)
 ·obtain ⟨c, hc⟩ := J.cl x hk
  obtain ⟨cW, cL, v₀, hv₀⟩ := J.cel x c hc
  exact wpAny_storeName_cell R.kd hk hc hv₀ fun h' hc' sb => hQ h' _ (J.putOwn h1 h2 h3 pa aL aC aF Sa r cW (aC x c hc) sb (cell_nf hc') (fun y e => ⟨_, hc'⟩) (hn.sameBut sb (Ne.symm cL)) (.inr ⟨.inl hk, c, hc, hc'⟩) (bnd_cel J hc sb) fun y d e => (h2 y d e).notCel hc) (off_one (inW cW (aC x c hc)) sb (cell_ex hc'))
theorem store_own {x : SStr} {a : Addr} {d : D} {hp : Heap} {Q : Unit → Shared → Prop} (R : Room A env l n) (I : Inv prog w hb S l env W hp vs) (u : Up (frs l) hp s.heap) (na : hp.get? a = none)
  (hk : env.kindOf x = some .local ∨ env.kindOf x = some .cell) (r : OwnAt prog w S (a :: W) (frs l) s.heap a d)
  (hQ : ∀ h' tk, Inv prog w hb S l env (a :: W) h' (upd vs x (.own d)) → Off W (frs l) hp h' → Q () { s with heap := h', toks := tk }) :
  wpAny (model prog w) A (storeName env x (.ref a)) Q E s := by
 have ea : ∃ o, s.heap.get? a = some o := let ⟨_, ra, _⟩ := r; Rd.alive ra a mz
 have aW : a ∉ W := fun m => let ⟨_, e⟩ := (I.wl a m).ex; nox na e
 obtain ⟨m0, hn0, pl, k1, k2, k3⟩ := I.ns
 exact storeNew (W := W) R (I.more u na ea) (u.ns hn0) (fun y d e => (k1 y d e).more u na) (fun y d e => (k2 y d e).more u na) k3 (fun y d e q => aW (q ▸ (k2 y d e).inW)) (fun q => aW (q ▸ I.loc)) (fun y c e q => aW (q ▸ (I.cel y c e).w)) (fun m => let ⟨_, e⟩ := I.alive m; nox na e) (I.fresh a na) r hk
  fun h' tk I' o => hQ h' tk I' (Off.trans u.off o fun p m => .inl m)
end
def PlaceOf (env : Env) (h : Heap) (x : SStr) (a : Addr) : Prop := ∃ m, h.Ns env.locals m ∧ Bound env h m x (.ref a)
theorem PlaceOf.up {env : Env} {h h' : Heap} {x : SStr} {a : Addr} {F : List Addr} (p : PlaceOf env h x a) (u : Up F h h') : PlaceOf env h' x a := let ⟨m, n, b⟩ := p; ⟨m, u.ns n, b.up u⟩
theorem ns_same {h : Heap} {a : Addr} {m m' : NM} (n : h.Ns a m) (n' : h.Ns a m') (x : SStr) : m x = m' x := by
 obtain ⟨o, es, ep, e1, e2, _, e4⟩ := n
 obtain ⟨o', es', ep', e1', e2', _, e4'⟩ := n'
 obtain rfl : o = o' := si (e1.symm.trans e1')
 obtain ⟨rfl, _⟩ : es = es' ∧ ep = ep' := by simpa using e2.symm.trans e2'
 exact (e4 x).symm.trans (e4' x)
theorem cell_same {h : Heap} {a : Addr} {v v' : Option Value} (n : h.IsCell a v) (n' : h.IsCell a v') : v = v' := by
 obtain ⟨o, z1, z2⟩ := n
 obtain ⟨o', z1', z2'⟩ := n'
 obtain rfl : o = o' := si (z1.symm.trans z1')
 simpa using z2.symm.trans z2'
theorem bound_one {env : Env} {h : Heap} {m m' : NM} {x : SStr} {v v' : Value} (n : h.Ns env.locals m) (n' : h.Ns env.locals m') (b : Bound env h m x v) (b' : Bound env h m' x v') : v = v' := by
 rcases b with ⟨q, e⟩ | ⟨q, c, e, z⟩
 ·rcases b' with ⟨q', e'⟩ | ⟨q', _⟩
  ·exact si (e.symm.trans ((ns_same n n' x).trans e'))
  ·rcases q' with q' | q' <;> exact nomatch q.symm.trans q'
 ·rcases b' with ⟨q', e'⟩ | ⟨q', c', e', z'⟩
  ·rcases q with q | q <;> exact nomatch q.symm.trans q'
  ·obtain rfl : c = c' := si (e.symm.trans e')
   exact si (cell_same z z')
section
variable {prog : Program} {w : World} {A : Around} {s : Shared} {env : Env} {l : List Env} {n : Nat} {hb : Heap} {S : Addr → Prop} {W : List Addr} {vs : Vars} {E : VQ} {h h' : Heap}
theorem name_place {x : SStr} {pos : Pos} {d : D} {Q : VQ} (R : Room A env l n) (I : Inv prog w hb S l env W s.heap vs) (e : lk vs x = some (.own d))
  (hQ : ∀ a, PlaceOf env s.heap x a → Q (.ref a) s) : wpAny (model prog w) A (eval (.Name x pos) env) Q E s := by
 obtain ⟨nd1, nd2⟩ := I.not_dbg e
 obtain ⟨m, hn, pl, h1, h2, h3⟩ := I.ns
 obtain ⟨b, q1, q2, q3, q4, q5, r⟩ := h2 x d e
 exact name_bound R.kd hn b nd1 nd2 (hQ _ ⟨m, hn, b⟩)
inductive MutOk (prog : Program) (w : World) (hb : Heap) (S : Addr → Prop) (l : List Env) (env : Env) (W : List Addr) (h : Heap) (vs : Vars) (x : SStr) (a : Addr) (d : D) : Prop
 | mk : OwnAt prog w S W (frs l) h a d → a ∉ frs l → a ∈ W → (∀ h' d', Heap.SameBut a h h' → OwnAt prog w S W (frs l) h' a d' → (∃ o, h'.get? a = some o ∧ ∀ vs, o.data ≠ .fields vs) →
   Inv prog w hb S l env W h' (upd vs x (.own d')) ∧ Off W (frs l) h h') → MutOk prog w hb S l env W h vs x a d
theorem lk_was {vs : Vars} {x y : SStr} {d d' d1 : D} (e : lk vs x = some (.own d)) (z : lk (upd vs x (.own d')) y = some (.own d1)) : ∃ d, lk vs y = some (.own d) := by
 rcases lk_own z with ⟨rfl, _⟩ | ⟨_, z⟩ <;> exact ⟨_, ‹_›⟩
theorem Inv.mutate {x : SStr} {d : D} {a : Addr} (I : Inv prog w hb S l env W h vs) (e : lk vs x = some (.own d)) (p : PlaceOf env h x a) : MutOk prog w hb S l env W h vs x a d := by
 obtain ⟨m, hn, pl, h1, h2, h3⟩ := I.ns
 obtain ⟨m', hn', b'⟩ := p
 obtain ⟨b, q1, q2, q3, q4, q5, r⟩ := h2 x d e
 have za : pl x = a := by have := bound_one hn hn' b b'; cases this; rfl
 rw [za] at b q1 q2 q3 q4 q5 r
 refine ⟨r, q4, q1, fun h' d' sb r' nf => ?_⟩
 obtain ⟨z1, z2, z3, z4, z5, off⟩ := I.one q1 sb nf (fun y e => absurd rfl (q3 y _ e))
 have bnd : ∀ y u, Bound env h m y u → Bound env h' m y u := fun y u b => by
  rcases b with q | ⟨q, c, e, z⟩
  ·exact .inl q
  ·exact .inr ⟨q, c, e, z.sameBut sb (Ne.symm (q3 y c e))⟩
 refine ⟨⟨z1, z2, z3, I.loc, z4, I.cl, I.cap, I.nd, z5, I.base, m, hn.sameBut sb (Ne.symm q2), pl, fun y d'' e' => (h1 y d'' (lk_own' e').2).ch (bnd y) off, fun y d'' e' => ?_, fun y z d1 d2 e1 e2 q => ?_⟩, off⟩
 ·rcases lk_own e' with ⟨rfl, rfl⟩ | ⟨q, e'⟩
  ·rw [za]
   exact ⟨bnd _ _ b, q1, q2, q3, q4, q5, r'⟩
  ·exact (h2 y d'' e').ch (bnd y) q1 sb fun z => q (h3 y x d'' d e' e (z.trans za.symm))
 ·obtain ⟨d3, o1⟩ := lk_was e e1
  obtain ⟨d4, o2⟩ := lk_was e e2
  exact h3 y z d3 d4 o1 o2 q
def PostE (prog : Program) (w : World) (hb : Heap) (C : Addr) (S : Addr → Prop) (l : List Env) (W : List Addr) (s : Shared) (r : XD) (Q : VQ) (E : VQ) : Prop :=
 match r with
 | .ok d => ∀ h' tk v, Up (frs l) s.heap h' → Rep prog w S W (frs l) h' v d → Q v { s with heap := h', toks := tk }
 | .error k => ∀ h' tk e tb, Up (frs l) s.heap h' → Frs hb l h' → hb.StaysIn h' → ExcAt hb s.heap h' C e k tb → E (.ref e) { s with heap := h', toks := tk }
end
structure Ct where
 prog : Program
 w : World
 A : Around
 env : Env
 l : List Env
 n : Nat
 hb : Heap
 C : Addr
 S : Addr → Prop
 W : List Addr
 vs : Vars
namespace Ct
noncomputable abbrev M (c : Ct) : Model := model c.prog c.w
noncomputable abbrev F (c : Ct) : List Addr := frs c.l
noncomputable abbrev I (c : Ct) (h : Heap) : Prop := Inv c.prog c.w c.hb c.S c.l c.env c.W h c.vs
noncomputable abbrev Rp (c : Ct) (h : Heap) (v : Value) (d : D) : Prop := Rep c.prog c.w c.S c.W (frs c.l) h v d
noncomputable abbrev P (c : Ct) (s : Shared) (r : XD) (Q : VQ) (E : VQ) : Prop := PostE c.prog c.w c.hb c.C c.S c.l c.W s r Q E
def Tr (c : Ct) (t : Sem Value) (r : XD) : Prop := ∀ (s : Shared) (Q : VQ) (E : VQ), c.I s.heap → c.P s r Q E → wpAny c.M c.A t Q E s
def Ts (c : Ct) (t : Sem Bool) (r : XD) : Prop := ∀ (s : Shared) (Q : Bool → Shared → Prop) (E : VQ), c.I s.heap → c.P s r (fun v s' => ∀ b, v = .bool b → Q b s') E → wpAny c.M c.A t Q E s
end Ct
section
variable {c : Ct} {s : Shared} {E : VQ} {Q : VQ} {h h' : Heap}
theorem P_later {r : XD} {h1 : Heap} {tk : Nat} (p : c.P s r Q E) (u : Up (frs c.l) s.heap h1) : c.P { s with heap := h1, toks := tk } r Q E := by
 cases r with
 | ok d => exact fun h' tk' v u' r' => p h' tk' v (u.trans u') r'
 | error k => exact fun h' tk' e tb u' f' st x => p h' tk' e tb (u.trans u') f' st (x.older fun b e => u.gone e)
theorem P_mono {r : XD} {Q' : VQ} (p : c.P s r Q E) (k : ∀ d, r = .ok d → ∀ h' tk v, Up (frs c.l) s.heap h' → c.Rp h' v d → Q v { s with heap := h', toks := tk } → Q' v { s with heap := h', toks := tk }) : c.P s r Q' E := by
 cases r with
 | ok d => exact fun h' tk v u r => k d rfl h' tk v u r (p h' tk v u r)
 | error e => exact p
theorem aR (h : Heap) : h.get? h.objs.size = none := by
 cases q : h.get? h.objs.size with
 | none => rfl
 | some o => exact absurd (Heap.lt_size q) (Nat.lt_irrefl _)
theorem new_ok {h0 h : Heap} (I : c.I h0) (u : Up (frs c.l) h0 h) {a : Addr} (n : h.get? a = none) : Okk c.S c.W (frs c.l) a := by
 have I' := I.up u
 refine ⟨I'.fresh a n, fun m => ?_, fun m => ?_⟩
 ·obtain ⟨_, o, e⟩ := I'.wl a m; exact nox n e
 ·obtain ⟨o, e⟩ := I'.alive m; exact nox n e
theorem bindE {t : Sem Value} {x : MR D} {f : D → MR D} {r : XD} {Q' : VQ} (hx : ∀ r, x = some r → c.Tr t r) (hr : bnd x f = some r) (I : c.I s.heap) (p : c.P s r Q E)
  (hQ : ∀ d v h1 tk, f d = some r → c.I h1 → Up (frs c.l) s.heap h1 → c.Rp h1 v d → c.P { s with heap := h1, toks := tk } r Q E → Q' v { s with heap := h1, toks := tk }) : wpAny c.M c.A t Q' E s := by
 cases x with
 | none => exact nn hr
 | some y =>
  cases y with
  | error k =>
   cases hr
   exact hx _ rfl s Q' E I p
  | ok d =>
   refine hx _ rfl s Q' E I fun h' tk v u rv => ?_
   exact hQ d v h' tk hr (I.up u) u rv (P_later p u)
theorem bindT {t : Sem Bool} {x : MR D} {f : D → MR D} {r : XD} {Q' : Bool → Shared → Prop} (hx : ∀ r, x = some r → c.Ts t r) (hr : bnd x f = some r) (I : c.I s.heap) (p : c.P s r Q E)
  (hQ : ∀ d b h1 tk, f d = some r → c.I h1 → Up (frs c.l) s.heap h1 → d = .bool b → c.P { s with heap := h1, toks := tk } r Q E → Q' b { s with heap := h1, toks := tk })
  (hb : ∀ d, f d = some r → ∃ b, d = .bool b) : wpAny c.M c.A t Q' E s := by
 cases x with
 | none => exact nn hr
 | some y =>
  cases y with
  | error k =>
   cases hr
   exact hx _ rfl s Q' E I p
  | ok d =>
   obtain ⟨b, rfl⟩ := hb d hr
   refine hx _ rfl s Q' E I fun h' tk v u rv => ?_
   intro b' e
   subst e
   obtain ⟨as, rv, _⟩ := rv
   have := (rd_bool rv).1
   cases this
   exact hQ _ b h' tk hr (I.up u) u rfl (P_later p u)
theorem rp_int (i : Int) (t : Tok) : c.Rp h (.int i t) (.int i) := ⟨[], .int i t, fun _ m => nomatch m⟩
theorem rp_str (i : SStr) (t : Tok) : c.Rp h (.str i t) (.str i) := ⟨[], .str i t, fun _ m => nomatch m⟩
theorem rp_bool (b : Bool) : c.Rp h (.bool b) (.bool b) := ⟨[], .bool b, fun _ m => nomatch m⟩
theorem rp_none : c.Rp h .none .none := ⟨[], .none, fun _ m => nomatch m⟩
theorem aS {v : Value} {i : Int} (r : c.Rp h v (.int i)) : ∃ t, v = .int i t := let ⟨_, r, _⟩ := r; let ⟨t, e, _⟩ := rd_int r; ⟨t, e⟩
theorem rp_str_inv {v : Value} {i : SStr} (r : c.Rp h v (.str i)) : ∃ t, v = .str i t := let ⟨_, r, _⟩ := r; let ⟨t, e, _⟩ := rd_str r; ⟨t, e⟩
theorem bQ {v : Value} {i : Bool} (r : c.Rp h v (.bool i)) : v = .bool i := let ⟨_, r, _⟩ := r; (rd_bool r).1
theorem rp_none_inv {v : Value} (r : c.Rp h v .none) : v = .none := let ⟨_, r, _⟩ := r; (rd_none r).1
def Ct.Op (c : Ct) (s : Shared) (m : Sem Value) (d : D) : Prop := ∀ (Q : VQ) (E : VQ), (∀ h' tk v, Up (frs c.l) s.heap h' → c.Rp h' v d → Q v { s with heap := h', toks := tk }) → wpAny c.M c.A m Q E s
theorem rp_push {T : String} {vs : Array Value} {as : List Addr} {h0 : Heap} {ds : List D} (I : c.I h0) (u : Up (frs c.l) h0 h) (r : RdAll c.prog c.w h vs.toList ds as) (k : ∀ a ∈ as, Okk c.S c.W (frs c.l) a) (o : Obj) (ho : o.cls = .type T ∧ o.data = .seq vs 0 ∧ o.isFreed = false ∧ o.dict = none) :
  (T = "list" → c.Rp (h.push o) (.ref h.objs.size) (.list ds)) ∧ (T = "tuple" → c.Rp (h.push o) (.ref h.objs.size) (.tuple ds)) := by
 have r' := RdAll.keep (h' := h.push o) (fun a m o' e => Heap.get?_push_of_some _ e) r
 have e := Heap.get?_push_size h ho.2.2.1
 have al : ∀ a ∈ h.objs.size :: as, Okk c.S c.W (frs c.l) a := fun a m => by
  rcases mp m with rfl | m
  ·exact new_ok I u (aR h)
  ·exact k a m
 exact ⟨fun q => ⟨_, .list e ho.2.2.2 (by rw [ho.1, q]) ho.2.1 r', al⟩, fun q => ⟨_, .tuple e (by rw [ho.1, q]) ho.2.1 r', al⟩⟩
theorem rdAll_rep {vs : List Value} {ds : List D} {as : List Addr} (r : RdAll c.prog c.w h vs ds as) : ∀ n, ∃ bs, RdAll c.prog c.w h (List.replicate n vs).flatten (repL ds n) bs ∧ ∀ a ∈ bs, a ∈ as
 | 0 => ⟨[], .nil, fun _ m => nomatch m⟩
 | n + 1 => by
  obtain ⟨bs, r2, k⟩ := rdAll_rep r n
  refine ⟨as ++ bs, ?_, fun a m => (mq m).elim id (k a)⟩
  rw [List.replicate_succ, List.flatten_cons]
  exact rdAll_append r r2
noncomputable abbrev Ct.Ops (c : Ct) (s : Shared) (op : Operator) (v u : Value) (d : D) : Prop := c.Op s (binaryOp op v u) d
theorem add_int_ok {v u : Value} {a b : Int} (ra : c.Rp s.heap v (.int a)) (rb : c.Rp s.heap u (.int b)) : c.Ops s .Add v u (.int (a + b)) := fun Q E hQ => by
 obtain ⟨t, rfl⟩ := aS ra
 obtain ⟨t', rfl⟩ := aS rb
 exact PyProof.Rows.add_int (hQ _ _ _ (Up.refl _ _) (rp_int _ _))
theorem add_list_ok {v u : Value} {a b : List D} (g : Nat.ble (a.length + b.length) 1000 = true) (I : c.I s.heap) (ra : c.Rp s.heap v (.list a)) (rb : c.Rp s.heap u (.list b)) : c.Ops s .Add v u (.list (a ++ b)) := fun Q E hQ => by
 obtain ⟨as, ra, ka⟩ := ra
 obtain ⟨bs, rb, kb⟩ := rb
 obtain ⟨l1, ⟨cls, dd, data, sl⟩, vs1, n1, cs1, rfl, rfl, h1, c1, d1, r1⟩ := rd_list ra
 obtain ⟨l2, ⟨cls2, dd2, data2, sl2⟩, vs2, n2, cs2, rfl, rfl, h2, c2, d2, r2⟩ := rd_list rb
 dsimp only at c1 d1 c2 d2
 subst c1 d1 c2 d2
 have sz1 := aN r1
 have sz2 := aN r2
 have g := lb g
 simp only [Array.length_toList] at sz1 sz2
 refine concat_meets ⟨_, h1, rfl⟩ ⟨_, h2, rfl⟩ noFill_list_add seq_list_add PySem.F.slot_list_add PySem.F.entry_list_add (PySem.F.args_list_add_2 _ _) (list_addW l1 l2 vs1 vs2 n1 n2 dd dd2 sl sl2 (by simp only [sizeLine]; omega)) ⟨h1, h2, ?_⟩
 refine hQ _ _ _ (Up.push _ _) ((rp_push (T := "list") (as := cs1 ++ cs2) I (Up.refl _ _) (by simpa using rdAll_append r1 r2) (fun a m => ?_) _ ⟨rfl, rfl, rfl, rfl⟩).1 rfl)
 exact (mq m).elim (fun m => ka a (mc _ m)) fun m => kb a (mc _ m)
theorem add_str_ok {v u : Value} {a b : SStr} (g : Nat.ble (a.length + b.length) 1000 = true) (ra : c.Rp s.heap v (.str a)) (rb : c.Rp s.heap u (.str b)) : c.Ops s .Add v u (.str (a ++ b)) := fun Q E hQ => by
 obtain ⟨t, rfl⟩ := rp_str_inv ra
 obtain ⟨t', rfl⟩ := rp_str_inv rb
 have g := lb g
 exact PyProof.Rows.add_str (fun t' tk => hQ _ _ _ (Up.refl _ _) (rp_str _ _)) (by simp only [sizeLine]; omega)
theorem add_ok {a b d : D} {v u : Value} (e : bAdd a b = some d) (I : c.I s.heap) (ra : c.Rp s.heap v a) (rb : c.Rp s.heap u b) : c.Ops s .Add v u d := by
 cases a with
 | int a =>
  obtain ⟨b', hb, e⟩ := obi e
  obtain rfl := bA hb
  obtain rfl := si e
  exact add_int_ok ra rb
 | list a =>
  obtain ⟨b', hb, e⟩ := obi e
  obtain rfl := asL_eq hb
  obtain ⟨g, e⟩ := aB e
  obtain rfl := si e
  exact add_list_ok g I ra rb
 | str a =>
  obtain ⟨b', hb, e⟩ := obi e
  obtain rfl := asStr_eq hb
  obtain ⟨g, e⟩ := aB e
  obtain rfl := si e
  exact add_str_ok g ra rb
 | _ => exact nn e
theorem sub_ok {a b d : D} {v u : Value} (e : bSub a b = some d) (ra : c.Rp s.heap v a) (rb : c.Rp s.heap u b) : c.Ops s .Sub v u d := by
 intro Q E hQ
 cases a with
 | int a =>
  obtain ⟨b', hb, e⟩ := obi e
  obtain rfl := bA hb
  obtain rfl := si e
  obtain ⟨t, rfl⟩ := aS ra
  obtain ⟨t', rfl⟩ := aS rb
  exact PyProof.Rows.sub_int (hQ _ _ _ (Up.refl _ _) (rp_int _ _))
 | bool p =>
  obtain ⟨q, hb, e⟩ := obi e
  obtain rfl := asBoo_eq hb
  obtain rfl := si e
  obtain rfl := bQ ra
  obtain rfl := bQ rb
  refine PyProof.Rows.sub_bool ?_
  have e : b2i p - b2i q = b2 p - b2 q := by cases p <;> cases q <;> rfl
  rw [e]
  exact hQ _ _ _ (Up.refl _ _) (rp_int _ _)
 | _ => exact nn e
theorem mul_list_ok {v u : Value} {xs : List D} {x : Int} (g : (Nat.ble (xs.length * x.toNat) 1000 && (decide (x < 1000) && decide (-1000 < x))) = true) (I : c.I s.heap) (ra : c.Rp s.heap v (.list xs)) (rb : c.Rp s.heap u (.int x)) : c.Ops s .Mult v u (.list (repL xs x.toNat)) := fun Q E hQ => by
 obtain ⟨g1, g2⟩ := ba g
 have g1 := lb g1
 obtain ⟨g2, g3⟩ := ba g2
 have g2 := of_decide_eq_true g2
 have g3 := of_decide_eq_true g3
 obtain ⟨as, ra, ka⟩ := ra
 obtain ⟨t', rfl⟩ := aS rb
 obtain ⟨l1, ⟨cls, dd, data, sl⟩, vs1, n1, cs1, rfl, rfl, h1, c1, d1, r1⟩ := rd_list ra
 dsimp only at c1 d1
 subst c1 d1
 have sz1 := aN r1
 simp only [Array.length_toList] at sz1
 have hsz' : vs1.size * x.toNat ≤ 2 ^ 24 := by rw [sz1]; omega
 refine wpAny_binaryOp_repeat_ref (T := "list") (U := "int") (by decide) ⟨_, h1, rfl⟩ (fun s' => typeIs_int s' x t') noFill_list_mul F.fills_int_mul F.slot_int_rmul repeat_list F.slot_int_index.lookup
  (call_meets F.slot_int_rmul (typeIs_int s x t') F.entry_int_rmul (F.args_int_rmul_2 _ _) (lm_int_rmul_list_any x t' l1 vs1 n1 dd sl)
   ⟨h1, rfl, ⟨_, h1, rfl⟩, call_meets F.slot_list_mul ⟨_, h1, rfl⟩ F.entry_list_mul (F.args_list_mul_2 _ _)
    (lm_list_mul_any l1 vs1 n1 dd sl x t' (by simp [Builtin.List.listFitsIndex]; omega) (by omega) (by simp [Builtin.List.listTooLong, sizeLine]; omega))
    ⟨h1, ?_⟩⟩)
 obtain ⟨bs, r2, k2⟩ := rdAll_rep r1 x.toNat
 refine hQ _ _ _ (Up.push _ _) ((rp_push (T := "list") (as := bs) I (Up.refl _ _) ?_ (fun a m => ka a (mc _ (k2 a m))) _ ⟨rfl, rfl, rfl, rfl⟩).1 rfl)
 obtain ⟨vl⟩ := vs1
 rw [listMul_foldl_if]
 simpa using r2
theorem mul_ok {a b d : D} {v u : Value} (e : bMul a b = some d) (I : c.I s.heap) (ra : c.Rp s.heap v a) (rb : c.Rp s.heap u b) : c.Ops s .Mult v u d := by
 cases a with
 | int a =>
  obtain ⟨b', hb, e⟩ := obi e
  obtain rfl := bA hb
  obtain ⟨g, e⟩ := aB e
  obtain rfl := si e
  intro Q E hQ
  obtain ⟨t, rfl⟩ := aS ra
  obtain ⟨t', rfl⟩ := aS rb
  have g := lb g
  refine PyProof.Rows.mul_int (hQ _ _ _ (Up.refl _ _) (rp_int _ _)) (.of_left (intBits_le_64 ?_ ?_)) <;> omega
 | list a =>
  obtain ⟨b', hb, e⟩ := obi e
  obtain rfl := bA hb
  obtain ⟨g, e⟩ := aB e
  obtain rfl := si e
  exact mul_list_ok g I ra rb
 | _ => exact nn e
theorem ints_ok {op : Operator} {a b d : D} {v u : Value} {f : Int → Int → Option D} (e : bInt a b f = some d) (ra : c.Rp s.heap v a) (rb : c.Rp s.heap u b) (k : ∀ (x y : Int) (t t' : Tok), f x y = some d → c.Ops s op (.int x t) (.int y t') d) : c.Ops s op v u d := by
 obtain ⟨x, ha, e⟩ := obi e
 obtain ⟨y, hb, e⟩ := obi e
 obtain rfl := bA ha
 obtain rfl := bA hb
 obtain ⟨t, rfl⟩ := aS ra
 obtain ⟨t', rfl⟩ := aS rb
 exact k x y t t' e
theorem binop_ok {op : Operator} {a b d : D} {v u : Value} (e : binop op a b = some d) (I : c.I s.heap) (ra : c.Rp s.heap v a) (rb : c.Rp s.heap u b) : c.Op s (binaryOp op v u) d := by
 cases op with
 | Add => exact add_ok e I ra rb
 | Sub => exact sub_ok e ra rb
 | Mult => exact mul_ok e I ra rb
 | FloorDiv =>
  refine ints_ok e ra rb fun x y t t' e Q E hQ => ?_
  obtain ⟨g, e⟩ := aB e
  obtain rfl := si e
  obtain ⟨g1, g2⟩ := ba g
  exact PyProof.Rows.floordiv_int (by simpa using g2) (hQ _ _ _ (Up.refl _ _) (rp_int _ _)) (.inl (PyProof.noPylong_small (Nat.lt_of_succ_le (lb g1))))
 | Mod =>
  refine ints_ok e ra rb fun x y t t' e Q E hQ => ?_
  obtain ⟨g, e⟩ := aB e
  obtain rfl := si e
  exact PyProof.Rows.mod_int' (by simpa using g) (hQ _ _ _ (Up.refl _ _) (rp_int _ _))
 | Pow =>
  refine ints_ok e ra rb fun x y t t' e Q E hQ => ?_
  obtain ⟨g, e⟩ := aB e
  obtain rfl := si e
  obtain ⟨g12, g3⟩ := ba g
  obtain ⟨g1, g2⟩ := ba g12
  have g1 := of_decide_eq_true g1
  have g2 := of_decide_eq_true g2
  have g3 := lb g3
  exact PyProof.Rows.pow_int_small g1 (by omega) (by omega) (hQ _ _ _ (Up.refl _ _) (rp_int _ _))
 | _ => exact nn e
end
theorem bH {d : D} (e : noDict d = true) : SeqAt.shaped d = true := by
 obtain ⟨a, b⟩ := ba e
 exact Bool.and_eq_true_iff.mpr ⟨a, decide_eq_true (lb b)⟩
theorem rat_noDict {d : D} (e : isRat d = true) : ∃ p q, d = .tuple [.int p, .int q] := by
 obtain ⟨k, e⟩ := ie e
 obtain ⟨l, h1, e⟩ := obi e
 obtain ⟨y, h2, e⟩ := obi e
 obtain ⟨p, h3, e⟩ := obi e
 obtain ⟨q, h4, e⟩ := obi e
 exact ⟨p, q, by rw [asT_eq h1, two_eq h2, bA h3, bA h4]⟩
theorem key_inv {d : D} (e : isKey d = true) : ∃ k, d = kyD k ∧ kyOf d = some k := by
 obtain ⟨k, q⟩ := ie e
 refine ⟨k, ?_, q⟩
 obtain ⟨l, h1, e⟩ := obi q
 obtain ⟨x, h2, e⟩ := obi e
 obtain ⟨n, h3, e⟩ := obi e
 cases n with
 | cons => exact nn e
 | nil =>
  obtain ⟨r, h4, e⟩ := obi e
  obtain ⟨y, h5, e⟩ := obi e
  obtain ⟨p, h6, e⟩ := obi e
  obtain ⟨q, h7, e⟩ := obi e
  obtain ⟨l, h8, e⟩ := obi e
  obtain rfl := si e
  rw [asT_eq h1, three_eq h2, asT_eq h3, asT_eq h4, two_eq h5, bA h6, bA h7, bA h8]
  rfl
theorem kyOf_kyD (k : Ky) : kyOf (kyD k) = some k := rfl
theorem tEq_iff (a b : Ky) : tEq a b = decide (a = b) := by
 obtain ⟨a1, a2, a3⟩ := a
 obtain ⟨b1, b2, b3⟩ := b
 by_cases h1 : a1 = b1 <;> by_cases h2 : a2 = b2 <;> by_cases h3 : a3 = b3 <;> simp [tEq, h1, h2, h3]
theorem kEq_kyD (a b : Ky) : kEq (kyD a) (kyD b) = decide (a = b) := by
 show (match kyOf (kyD a), kyOf (kyD b) with | some x, some y => tEq x y | _, _ => false) = _
 rw [kyOf_kyD, kyOf_kyD]
 exact tEq_iff a b
inductive RdKvCons (prog : Program) (w : World) (h : Heap) (xs : List (Ky × Addr × Value)) (k d : D) (kvs : List (D × D)) (as : List Addr) : Prop
 | mk (ky a v r bs cs ds) : k = kyD ky → xs = (ky, a, v) :: r → as = bs ++ cs ++ ds → Rd prog w h (.ref a) (kyD ky) bs → Rd prog w h v d cs → RdKv prog w h r kvs ds → RdKvCons prog w h xs k d kvs as
noncomputable def RdKvInv (prog : Program) (w : World) (h : Heap) (xs : List (Ky × Addr × Value)) (as : List Addr) : List (D × D) → Prop
 | [] => xs = [] ∧ as = []
 | (k, d) :: kvs => RdKvCons prog w h xs k d kvs as
theorem rdKv_inv {prog : Program} {w : World} {h : Heap} {xs : List (Ky × Addr × Value)} {kvs : List (D × D)} {as : List Addr} (x : RdKv prog w h xs kvs as) : RdKvInv prog w h xs as kvs := by
 cases x with
 | nil => exact ⟨rfl, rfl⟩
 | cons h1 h2 h3 => exact ⟨_, _, _, _, _, _, _, rfl, rfl, rfl, h1, h2, h3⟩
theorem rdKv_nil {prog : Program} {w : World} {h : Heap} {xs : List (Ky × Addr × Value)} {as : List Addr} (x : RdKv prog w h xs [] as) : xs = [] ∧ as = [] := rdKv_inv x
theorem rdKv_cons {prog : Program} {w : World} {h : Heap} {xs : List (Ky × Addr × Value)} {k d : D} {kvs : List (D × D)} {as : List Addr} (x : RdKv prog w h xs ((k, d) :: kvs) as) : RdKvCons prog w h xs k d kvs as := rdKv_inv x
theorem bX {prog : Program} {w : World} {h : Heap} : ∀ {xs : List (Ky × Addr × Value)} {kvs : List (D × D)} {as : List Addr}, RdKv prog w h xs kvs as → xs.length = kvs.length
 | _, [], _, x => by obtain ⟨rfl, _⟩ := rdKv_nil x; rfl
 | _, (k, d) :: kvs, _, x => by
  obtain ⟨ky, a, v, r, bs, cs, ds, rfl, rfl, rfl, _, _, y⟩ := rdKv_cons x
  simp [bX y]
section
variable {prog : Program} {w : World} {A : Around} {E : VQ} {s : Shared} {Q : Bool → Shared → Prop} {a b : Addr} {xs ys : List (Ky × Addr × Value)} {nm : String}
theorem samePairs_len (na : (a == sysModules) = false) (nb : (b == sysModules) = false) (ha : s.heap.DictOfH (bK prog w) a xs) (hb : s.heap.DictOfH (bK prog w) b ys) (hl : xs.length ≠ ys.length) (h : Q false s) :
  wpAny (model prog w) A (Builtin.Dict.samePairs nm a b) Q E s := by
 obtain ⟨oa, esa, epa, hoa, _, hda, hea, _, _⟩ := ha
 obtain ⟨ob, esb, epb, hob, _, hdb, heb, _, _⟩ := hb
 have sa : esa.size = xs.length := size_of_entries hea
 have sb : esb.size = ys.length := size_of_entries heb
 unfold Builtin.Dict.samePairs Builtin.Dict.showsAll
 rw [if_neg (by rw [na]; exact Bool.false_ne_true), if_neg (by rw [nb]; exact Bool.false_ne_true)]
 refine wB (wP (wB (wP ?_)))
 refine wB (wpAny_dictEntries hoa hda ?_)
 refine wB (wpAny_dictEntries hob hdb ?_)
 rw [if_pos (by rw [sa, sb]; simpa using hl)]
 exact wB (wpAny_rule (wP h))
theorem samePairs_one {k1 k2 : Ky} {a1 a2 : Addr} {v1 v2 : Value} {d1 d2 : D} {as bs : List Addr} (hu : A.units + 20 < cLine) (na : (a == sysModules) = false) (nb : (b == sysModules) = false)
  (ha : s.heap.DictOfH (bK prog w) a [(k1, a1, v1)]) (hb : s.heap.DictOfH (bK prog w) b [(k2, a2, v2)]) (r1 : Reads s.heap v1 d1 as) (r2 : Reads s.heap v2 d2 bs) (c1 : isRat d1 = true) (c2 : isRat d2 = true)
  (h : Q (match decide (k1 = k2) with | true => PyData.eqv d1 d2 | false => false) s) : wpAny (model prog w) A (Builtin.Dict.samePairs nm a b) Q E s := by
 obtain ⟨p1, q1, rfl⟩ := rat_noDict c1
 obtain ⟨p2, q2, rfl⟩ := rat_noDict c2
 obtain ⟨oa, esa, epa, hoa, _, hda, hea, hka, _⟩ := ha
 obtain ⟨ob, esb, epb, hob, _, hdb, heb, hkb, hnb⟩ := id hb
 have sa : esa.size = 1 := size_of_entries hea
 have sb : esb.size = 1 := size_of_entries heb
 have ga : esa[0]? = some ⟨kyHash k1, .ref a1, v1⟩ := (entry_at hea 0).trans rfl
 have gb : esb[0]? = some ⟨kyHash k2, .ref a2, v2⟩ := (entry_at heb 0).trans rfl
 unfold Builtin.Dict.samePairs Builtin.Dict.showsAll
 rw [if_neg (by rw [na]; exact Bool.false_ne_true), if_neg (by rw [nb]; exact Bool.false_ne_true)]
 refine wB (wP (wB (wP ?_)))
 refine wB (wpAny_dictEntries hoa hda ?_)
 refine wB (wpAny_dictEntries hob hdb ?_)
 rw [if_neg (by rw [sa, sb]; decide)]
 refine wB (wpAny_dictEpoch hoa hda ?_)
 refine wB ?_
 rw [Std.Legacy.Range.forIn_eq_forIn_range']
 simp only [Std.Legacy.Range.size, Nat.sub_zero, Nat.add_sub_cancel, Nat.div_one, sa]
 show wpAny _ _ (forIn [0] _ _) _ _ _
 rw [List.forIn_cons]
 refine wB (wB (wpAny_dictEntries hoa hda ?_))
 rw [ga]
 dsimp only
 have k1s : isKy s.heap k1 a1 := hka _ mz
 refine wB (wpAny_holding ?_)
 refine wB (wpAny_dictFind_heap (knd := bK prog w) (k := k1) (show A.units + 10 < cLine by omega) k1s hob hdb heb hkb hnb (fun hno => ?_) fun j p hj => ?_)
 ·have ne : ¬ k1 = k2 := by rintro rfl; exact hno 0 _ rfl
  rw [decide_eq_false ne] at h
  refine wP ?_
  simp only [Bool.not_false, if_true]
  exact wP (wP (wP h))
 ·match j, hj with
  | 0, hj =>
   cases hj
   rw [decide_eq_true rfl] at h
   dsimp only at h ⊢
   refine wB (wpAny_dictEntries hob hdb ?_)
   rw [gb]
   dsimp only
   refine wpAny_holding (PySem.SeqAt.eqBoolOverData prog w A E s v1 v2 _ _ as bs _ r1 r2 rfl rfl ?_ ?_)
   ·show A.units + min 1 1 < cLine
    omega
   ·cases he : PyData.eqv (.tuple [.int p1, .int q1]) (.tuple [.int p2, .int q2]) with
    | false =>
     rw [he] at h
     simp only [Bool.not_false, if_true]
     exact wP (wP (wP h))
    | true =>
     rw [he] at h
     simp only [Bool.not_true, Bool.false_eq_true, if_false]
     refine wB (wpAny_dictEpoch hoa hda ?_)
     rw [if_neg (by simp)]
     refine wP ?_
     dsimp only
     rw [List.forIn_nil]
     exact wP (wP h)
  | j + 1, hj => simp at hj
def PairsTo (prog : Program) (w : World) (s : Shared) (u : Nat) (a b : Addr) (r : Bool) : Prop :=
 ∀ (nm : String) (A' : Around) (E' : VQ) (Q : Bool → Shared → Prop), A'.units + 20 < u → Q r s → wpAny (model prog w) A' (Builtin.Dict.samePairs nm a b) Q E' s
theorem dictEq_rich {r : Bool} {Q : VQ} (hu : A.units + 30 < cLine) (hp : PairsTo prog w s cLine a b r) (ta : s.TypeIs (.ref a) "dict") (tb : s.TypeIs (.ref b) "dict") (h : Q (.bool r) s) :
  wpAny (model prog w) A (richCompare .Eq (.ref a) (.ref b)) Q E s := by
 refine wpAny_richCompare_same_room (op := .Eq) ta tb F.slot_dict_eq (wpAny_call_entry F.slot_dict_eq ta F.entry_dict_eq ?_ (F.args_dict_eq_2 _ _)) (by omega)
 show wpAny _ _ (Builtin.Dict.dictSlotArgs "__eq__" ⟨[.ref a, .ref b], []⟩ >>= _) _ _ s
 refine wB ?_
 unfold Builtin.Dict.dictSlotArgs
 refine wB (wpAny_notOrdered_dict ta ?_)
 refine wP ?_
 show wpAny _ _ (isInstance (.ref b) (.type "dict") >>= _) _ _ s
 refine wB (wpAny_isInstance tb isSubtype_dict_dict ?_)
 simp only [Bool.not_true, Bool.false_eq_true, if_false]
 show wpAny _ _ (Builtin.Dict.samePairs _ a b >>= _) _ _ s
 refine wB (hp _ _ _ _ (show A.units + 1 + 20 < cLine by omega) (wP ⟨_, rfl, (fun e => nomatch e), ?_⟩))
 rw [beq_true]
 exact h
theorem dictNe_rich {r : Bool} {Q : VQ} (hu : A.units + 30 < cLine) (hp : PairsTo prog w s cLine a b r) (ta : s.TypeIs (.ref a) "dict") (tb : s.TypeIs (.ref b) "dict") (h : Q (.bool (!r)) s) :
  wpAny (model prog w) A (richCompare .NotEq (.ref a) (.ref b)) Q E s := by
 refine wpAny_richCompare_same_room (op := .NotEq) ta tb F.slot_dict_ne (wpAny_call_entry F.slot_dict_ne ta F.entry_dict_ne ?_ (F.args_dict_ne_2 _ _)) (by omega)
 show wpAny _ _ (Builtin.Dict.dictSlotArgs "__ne__" ⟨[.ref a, .ref b], []⟩ >>= _) _ _ s
 refine wB ?_
 unfold Builtin.Dict.dictSlotArgs
 refine wB (wpAny_notOrdered_dict ta ?_)
 refine wP ?_
 show wpAny _ _ (isInstance (.ref b) (.type "dict") >>= _) _ _ s
 refine wB (wpAny_isInstance tb isSubtype_dict_dict ?_)
 simp only [Bool.not_true, Bool.false_eq_true, if_false]
 show wpAny _ _ (Builtin.Dict.samePairs _ a b >>= _) _ _ s
 refine wB (hp _ _ _ _ (show A.units + 1 + 20 < cLine by omega) (wP ⟨_, rfl, (fun e => nomatch e), ?_⟩))
 rw [beq_false]
 exact h
theorem tupEq_dict {xs ys : List Value} {t u : Addr} {o1 o2 : Obj} {n1 n2 : Nat} {Q : VQ} (hu : A.units + 40 < cLine) (hab : a ≠ b) (hp : PairsTo prog w s cLine a b false) (ta : s.TypeIs (.ref a) "dict") (tb : s.TypeIs (.ref b) "dict")
  (h1 : s.heap.get? t = some o1) (c1 : o1.cls = .type "tuple") (d1 : o1.data = .seq (.ref a :: xs).toArray n1) (h2 : s.heap.get? u = some o2) (c2 : o2.cls = .type "tuple") (d2 : o2.data = .seq (.ref b :: ys).toArray n2) (h : Q (.bool false) s) :
  wpAny (model prog w) A (richCompare .Eq (.ref t) (.ref u)) Q E s := by
 have tt : s.TypeIs (.ref t) "tuple" := ⟨_, h1, c1⟩
 have tu : s.TypeIs (.ref u) "tuple" := ⟨_, h2, c2⟩
 refine wpAny_richCompare_same_room (op := .Eq) tt tu F.slot_tuple_eq (wpAny_call_entry F.slot_tuple_eq tt F.entry_tuple_eq ?_ (F.args_tuple_eq_2 _ _)) (by omega)
 show wpAny _ _ (isInstance (.ref u) (.type "tuple") >>= _) _ _ s
 refine wB (wpAny_isInstance tu isSubtype_tuple_tuple ?_)
 simp only [Bool.not_true, Bool.false_eq_true, if_false]
 refine wB (wpAny_tupleItemsOf h1 d1 ?_)
 refine wB (wpAny_tupleItemsOf h2 d2 ?_)
 refine wB ?_
 simp only [List.zip_cons_cons]
 rw [List.forIn_cons]
 refine wB (wB ?_)
 unfold eqBool
 refine wpAny_holding ?_
 rw [if_neg (by simpa using hab)]
 refine wB (dictEq_rich (show A.units + 1 + 30 < cLine by omega) hp ta tb ?_)
 refine wpAny_truthy_bool ?_
 simp only [Bool.not_false, if_true]
 exact wB (wP (wP (wP (wP ⟨_, rfl, (fun e => nomatch e), h⟩))))
end
section
variable {c : Ct} {s : Shared} {h : Heap}
theorem rp_reads {v : Value} {d : D} (r : c.Rp h v d) (k : noDict d = true) : ∃ as, Reads h v d as := by
 obtain ⟨as, r, _⟩ := r
 exact Rd.reads r (ba k).1
theorem pairs_len {a b : Addr} {xs ys : List (Ky × Addr × Value)} (na : (a == sysModules) = false) (nb : (b == sysModules) = false) (ha : s.heap.DictOfH (bK c.prog c.w) a xs) (hb : s.heap.DictOfH (bK c.prog c.w) b ys) (hl : xs.length ≠ ys.length) : PairsTo c.prog c.w s cLine a b false :=
 fun _ _ _ _ _ h => samePairs_len na nb ha hb hl h
inductive PairsR (l m : List (D × D)) (r : Bool) : Prop
 | one (a b x y) : l = [(a, b)] → m = [(x, y)] → isRat b = true → isRat y = true → r = (match kEq a x with | true => PyData.eqv b y | false => false) → PairsR l m r
 | len : l.length ≠ m.length → r = false → PairsR l m r
inductive PairsOk (prog : Program) (w : World) (s : Shared) (v u : Value) (l m : List (D × D)) (r : Bool) : Prop
 | mk (a b) : v = .ref a → u = .ref b → s.TypeIs (.ref a) "dict" → s.TypeIs (.ref b) "dict" → PairsTo prog w s cLine a b r → (l.length ≠ m.length → a ≠ b) → PairsOk prog w s v u l m r
theorem dictOf_len {prog : Program} {w : World} {h : Heap} {a : Addr} {xs ys : List (Ky × Addr × Value)} (ha : h.DictOfH (bK prog w) a xs) (hb : h.DictOfH (bK prog w) a ys) : xs.length = ys.length := by
 obtain ⟨o, es, ep, e1, _, e3, e4, _⟩ := ha
 obtain ⟨o', es', ep', e1', _, e3', e4', _⟩ := hb
 obtain rfl : o = o' := si (e1.symm.trans e1')
 obtain ⟨rfl, _⟩ : es = es' ∧ ep = ep' := by simpa using e3.symm.trans e3'
 have := congrArg List.length (e4.symm.trans e4')
 simpa only [List.length_map] using this
theorem pairs_one {a b : Addr} {na : (a == sysModules) = false} {nb : (b == sysModules) = false} {xs ys : List (Ky × Addr × Value)} {k1 b1 k2 b2 : D} {cs ds : List Addr} (ha : s.heap.DictOfH (bK c.prog c.w) a xs) (hb : s.heap.DictOfH (bK c.prog c.w) b ys)
  (kv : RdKv c.prog c.w s.heap xs [(k1, b1)] cs) (ku : RdKv c.prog c.w s.heap ys [(k2, b2)] ds) (q1 : isRat b1 = true) (q2 : isRat b2 = true) : PairsTo c.prog c.w s cLine a b (match kEq k1 k2 with | true => PyData.eqv b1 b2 | false => false) := by
 obtain ⟨y1, a1, v1, r1, _, _, _, rfl, rfl, _, _, p1, z1⟩ := rdKv_cons kv
 obtain ⟨rfl, _⟩ := rdKv_nil z1
 obtain ⟨y2, a2, v2, r2, _, _, _, rfl, rfl, _, _, p2, z2⟩ := rdKv_cons ku
 obtain ⟨rfl, _⟩ := rdKv_nil z2
 obtain ⟨s1, t1, rfl⟩ := rat_noDict q1
 obtain ⟨s2, t2, rfl⟩ := rat_noDict q2
 obtain ⟨_, p1⟩ := Rd.reads p1 rfl
 obtain ⟨_, p2⟩ := Rd.reads p2 rfl
 rw [kEq_kyD]
 exact fun nm A' E' Q hu h => samePairs_one hu na nb ha hb p1 p2 rfl rfl h
theorem dict_pairs {v u : Value} {l m : List (D × D)} {r : Bool} (rv : c.Rp s.heap v (.dict l)) (ru : c.Rp s.heap u (.dict m)) (e : PairsR l m r) : PairsOk c.prog c.w s v u l m r := by
 obtain ⟨as, rv, _⟩ := rv
 obtain ⟨bs, ru, _⟩ := ru
 obtain ⟨a, xs, cs, rfl, _, na, ha, kv⟩ := rd_dict rv
 obtain ⟨b, ys, ds, rfl, _, nb, hb, ku⟩ := rd_dict ru
 have l1 := bX kv
 have l2 := bX ku
 refine ⟨a, b, rfl, rfl, ha.typeIs, hb.typeIs, ?_, fun hl hab => hl (l1.symm.trans ((dictOf_len ha (hab ▸ hb)).trans l2))⟩
 cases e with
 | one k1 b1 k2 b2 z1 z2 q1 q2 z3 =>
  subst z1 z2 z3
  exact pairs_one (na := na) (nb := nb) ha hb kv ku q1 q2
 | len hl z => exact z ▸ pairs_len na nb ha hb (by rw [l1, l2]; exact hl)
theorem both_eq {α : Type} {x y : Option α} {p : α × α} (h : both x y = some p) : x = some p.1 ∧ y = some p.2 := by
 obtain ⟨a, h1, h⟩ := obi h
 obtain ⟨b, h2, h⟩ := obi h
 obtain rfl := si h
 exact ⟨h1, h2⟩
theorem dict1_eq {d : D} {p : D × D} (h : dict1 d = some p) : d = .dict [p] := by
 obtain ⟨l, h1, h⟩ := obi h
 rw [asD_eq h1, one_eq h]
theorem dictHd_eq {d : D} {l : List (D × D)} (h : dictHd d = some l) : ∃ r, d = .tuple (.dict l :: r) := by
 obtain ⟨x, h1, h⟩ := obi h
 cases x with
 | nil => exact nn h
 | cons a r => exact ⟨r, by rw [asT_eq h1, asD_eq h]⟩
structure EqSays (c : Ct) (s : Shared) (v u : Value) (r : Bool) (ne : Prop) (E : VQ) : Prop where
 eq : ∀ Q : Value → Shared → Prop, Q (.bool r) s → wpAny c.M c.A (compareOp .Eq v u) Q E s
 ne : ne → ∀ Q : Value → Shared → Prop, Q (.bool (!r)) s → wpAny c.M c.A (compareOp .NotEq v u) Q E s
theorem eq_dicts {p q : D × D} {v u : Value} {E : VQ} {ne : Prop} (hu : c.A.units + 100 < cLine) (g : (isKey p.1 && isKey q.1 && isRat p.2 && isRat q.2) = true) (ra : c.Rp s.heap v (.dict [p])) (rb : c.Rp s.heap u (.dict [q])) : EqSays c s v u (match kEq p.1 q.1 with | true => PyData.eqv p.2 q.2 | false => false) ne E := by
 obtain ⟨g, q2⟩ := ba g
 obtain ⟨g, q1⟩ := ba g
 obtain ⟨x, y, rfl, rfl, tx, ty, hp, _⟩ := dict_pairs ra rb (.one _ _ _ _ rfl rfl q1 q2 rfl)
 exact ⟨fun Q h => dictEq_rich (by omega) hp tx ty h, fun _ Q h => dictNe_rich (by omega) hp tx ty h⟩
theorem eq_tuples {l m : List (D × D)} {l2 m2 : List D} {v u : Value} {E : VQ} (hu : c.A.units + 100 < cLine) (g : l.length ≠ m.length) (ra : c.Rp s.heap v (.tuple (.dict l :: l2))) (rb : c.Rp s.heap u (.tuple (.dict m :: m2))) {Q : VQ} (h : Q (.bool false) s) : wpAny c.M c.A (compareOp .Eq v u) Q E s := by
 obtain ⟨as, ra, ka⟩ := ra
 obtain ⟨bs, rb, kb⟩ := rb
 obtain ⟨t, o1, ⟨vs1⟩, n1, _, rfl, rfl, h1, c1, d1, r1⟩ := rd_tuple ra
 obtain ⟨t', o2, ⟨vs2⟩, n2, _, rfl, rfl, h2, c2, d2, r2⟩ := rd_tuple rb
 obtain ⟨v1, w1, _, _, q1, rfl, p1, _⟩ := bB r1
 obtain ⟨v2, w2, _, _, q2, rfl, p2, _⟩ := bB r2
 dsimp only at q1 q2
 subst q1 q2
 obtain ⟨x, y, rfl, rfl, tx, ty, hp, hab⟩ := dict_pairs (c := c) ⟨_, p1, fun a m => ka a (mc _ (ml _ m))⟩ ⟨_, p2, fun a m => kb a (mc _ (ml _ m))⟩ (.len g rfl)
 exact tupEq_dict (by omega) (hab g) hp tx ty h1 c1 d1 h2 c2 d2 h
theorem eqD_ok {a b : D} {r : Bool} {v u : Value} (hu : c.A.units + 100 < cLine) (e : eqD a b = some r) (ra : c.Rp s.heap v a) (rb : c.Rp s.heap u b) (E : VQ) : EqSays c s v u r (dictHd a = none) E := by
 unfold eqD at e
 cases q : both (dict1 a) (dict1 b) with
 | some p =>
  rw [q] at e
  obtain ⟨q1, q2⟩ := both_eq q
  obtain ⟨g, e⟩ := aB e
  obtain rfl := si e
  exact eq_dicts hu g (dict1_eq q1 ▸ ra) (dict1_eq q2 ▸ rb)
 | none =>
  rw [q] at e
  dsimp only at e
  cases q : both (dictHd a) (dictHd b) with
  | some p =>
   rw [q] at e
   obtain ⟨q1, q2⟩ := both_eq q
   obtain ⟨g, e⟩ := aB e
   obtain rfl := si e
   obtain ⟨_, e1⟩ := dictHd_eq q1
   obtain ⟨_, e2⟩ := dictHd_eq q2
   have g : p.1.length ≠ p.2.length := fun z => by simp [z] at g
   exact ⟨fun Q h => eq_tuples hu g (e1 ▸ ra) (e2 ▸ rb) h, fun k => sn (q1.symm.trans k)⟩
  | none =>
   rw [q] at e
   obtain ⟨g, e⟩ := aB e
   obtain rfl := si e
   obtain ⟨g1, g2⟩ := ba g
   obtain ⟨as, r1⟩ := rp_reads ra g1
   obtain ⟨bs, r2⟩ := rp_reads rb g2
   exact ⟨fun Q h => eq_dataH r1 r2 (bH g1) (bH g2) (by omega) h, fun _ Q h => ne_dataH r1 r2 (bH g1) (bH g2) (by omega) h⟩
inductive CmpSays (c : Ct) (s : Shared) (op : CmpOp) (v u : Value) (d : D) : Prop
 | mk (q) : d = .bool q → (∀ (Q : VQ) (E : VQ), Q (.bool q) s → wpAny c.M c.A (compareOp op v u) Q E s) → CmpSays c s op v u d
theorem cInt_ok {op : CmpOp} {a b d : D} {v u : Value} {f : Int → Int → Bool} (e : cInt a b f = some d) (ra : c.Rp s.heap v a) (rb : c.Rp s.heap u b)
  (k : ∀ (x y : Int) (t t' : Tok) (Q : VQ) (E : VQ), Q (.bool (f x y)) s → wpAny c.M c.A (compareOp op (.int x t) (.int y t')) Q E s) : CmpSays c s op v u d := by
 obtain ⟨x, ha, e⟩ := obi e
 obtain ⟨y, hb, e⟩ := obi e
 obtain rfl := bA ha
 obtain rfl := bA hb
 obtain rfl := si e
 obtain ⟨t, rfl⟩ := aS ra
 obtain ⟨t', rfl⟩ := aS rb
 exact ⟨_, rfl, fun Q E h => k x y t t' Q E h⟩
theorem isNone_rp {v : Value} {d : D} (r : c.Rp s.heap v d) : (v == .none) = isNone d := by
 obtain ⟨as, r, _⟩ := r
 cases r <;> rfl
theorem cIs_ok {op : CmpOp} {a b d : D} {v u : Value} {f : Bool → Bool} (e : cIs a b f = some d) (ra : c.Rp s.heap v a) (rb : c.Rp s.heap u b)
  (k : ∀ (Q : VQ) (E : VQ), Q (.bool (f (v == .none))) s → wpAny c.M c.A (compareOp op v .none) Q E s) : CmpSays c s op v u d := by
 unfold cIs at e
 cases b with
 | none =>
  obtain rfl := si e
  obtain rfl := rp_none_inv rb
  exact ⟨_, rfl, fun Q E h => k Q E (isNone_rp ra ▸ h)⟩
 | _ => exact nn e
theorem cIn_ok {op : CmpOp} {a b d : D} {v u : Value} {f : Bool → Bool} (e : cIn a b f = some d) (ra : c.Rp s.heap v a) (rb : c.Rp s.heap u b)
  (k : ∀ (x : SStr) (l : List D) (as bs : List Addr) (Q : VQ) (E : VQ), noDict (.tuple l) = true → noDict (.str x) = true → Reads s.heap v (.str x) as → Reads s.heap u (.tuple l) bs → Q (.bool (f (l.any fun y => PyData.eqv y (.str x)))) s → wpAny c.M c.A (compareOp op v u) Q E s) : CmpSays c s op v u d := by
 obtain ⟨x, ha, e⟩ := obi e
 obtain ⟨l, hb, e⟩ := obi e
 obtain rfl := asStr_eq ha
 obtain rfl := asT_eq hb
 obtain ⟨g, e⟩ := aB e
 obtain rfl := si e
 obtain ⟨g, g'⟩ := ba g
 obtain ⟨as, r1⟩ := rp_reads ra g'
 obtain ⟨bs, r2⟩ := rp_reads rb g
 exact ⟨_, rfl, fun Q E h => k x l as bs Q E g g' r1 r2 h⟩
theorem cmp_ok {op : CmpOp} {a b d : D} {v u : Value} (hu : c.A.units + 100 < cLine) (e : cmp op a b = some d) (ra : c.Rp s.heap v a) (rb : c.Rp s.heap u b) : CmpSays c s op v u d := by
 cases op with
 | Eq =>
  obtain ⟨r, e1, e⟩ := obi e
  obtain rfl := si e
  exact ⟨_, rfl, fun Q E h => (eqD_ok hu e1 ra rb E).eq Q h⟩
 | NotEq =>
  replace e : (match dictHd a with | some _ => none | none => (eqD a b).bind fun x => some (.bool (!x))) = some d := e
  cases q : dictHd a with
  | some l => rw [q] at e; exact nn e
  | none =>
   rw [q] at e
   obtain ⟨r, e1, e⟩ := obi e
   obtain rfl := si e
   exact ⟨_, rfl, fun Q E h => (eqD_ok hu e1 ra rb E).ne q Q h⟩
 | Lt => exact cInt_ok e ra rb fun _ _ _ _ _ _ h => PyProof.Rows.lt_int h
 | Gt => exact cInt_ok e ra rb fun _ _ _ _ _ _ h => PyProof.Rows.gt_int h
 | LtE => exact cInt_ok e ra rb fun _ _ _ _ _ _ h => PyProof.Rows.le_int h
 | GtE => exact cInt_ok e ra rb fun _ _ _ _ _ _ h => PyProof.Rows.ge_int h
 | Is => exact cIs_ok e ra rb fun _ _ h => is_none h
 | IsNot => exact cIs_ok e ra rb fun _ _ h => isNot_none h
 | In => exact cIn_ok e ra rb fun _ _ _ _ _ _ g g' r1 r2 h => SeqAt.in_tuple_reads r2 r1 (SeqAt.canLay_of_shaped (bH g)) (SeqAt.canLay_of_shaped (bH g')) (room_in_shaped (bH g') (by omega)) h
 | NotIn => exact cIn_ok e ra rb fun _ _ _ _ _ _ g g' r1 r2 h => SeqAt.notIn_tuple_reads r2 r1 (SeqAt.canLay_of_shaped (bH g)) (SeqAt.canLay_of_shaped (bH g')) (room_in_shaped (bH g') (by omega)) h
end
section
variable {prog : Program} {w : World} {h : Heap}
inductive DgetI (prog : Program) (w : World) (h : Heap) (xs : List (Ky × Addr × Value)) (as : List Addr) (k : Ky) (d : D) : Prop
 | mk (a v bs) : atKey xs k = some (a, v) → Rd prog w h v d bs → (∀ b ∈ bs, b ∈ as) → DgetI prog w h xs as k d
theorem dget_some : ∀ {xs : List (Ky × Addr × Value)} {kvs : List (D × D)} {as : List Addr} {k : Ky} {d : D}, RdKv prog w h xs kvs as → dget kvs (kyD k) = some d →
  DgetI prog w h xs as k d
 | _, [], _, k, d, x, e => by exact nn e
 | _, (a, b) :: r, _, k, d, x, e => by
  obtain ⟨ky, a', v, rs, bs, cs, ds, rfl, rfl, rfl, _, p, y⟩ := rdKv_cons x
  unfold dget at e
  rw [kEq_kyD] at e
  by_cases q : ky = k
  ·rw [decide_eq_true q] at e
   obtain rfl := si e
   exact ⟨a', v, cs, by simp [atKey, q], p, fun b m => ml _ (mr _ m)⟩
  ·rw [decide_eq_false q] at e
   obtain ⟨a2, v2, es, h1, h2, h3⟩ := dget_some y e
   exact ⟨a2, v2, es, by simpa [atKey, q] using h1, h2, fun b m => mr _ (h3 b m)⟩
theorem dget_none : ∀ {xs : List (Ky × Addr × Value)} {kvs : List (D × D)} {as : List Addr} {k : Ky}, RdKv prog w h xs kvs as → dget kvs (kyD k) = none → atKey xs k = none
 | _, [], _, k, x, e => by obtain ⟨rfl, _⟩ := rdKv_nil x; rfl
 | _, (a, b) :: r, _, k, x, e => by
  obtain ⟨ky, a', v, rs, bs, cs, ds, rfl, rfl, rfl, _, p, y⟩ := rdKv_cons x
  unfold dget at e
  rw [kEq_kyD] at e
  by_cases q : ky = k
  ·rw [decide_eq_true q] at e; exact sn e
  ·rw [decide_eq_false q] at e
   simpa [atKey, q] using dget_none y e
theorem rd_ky_ref {v : Value} {k : Ky} {as : List Addr} (x : Rd prog w h v (kyD k) as) : ∃ a, v = .ref a ∧ isKy h k a := by
 obtain ⟨a, o, vs, n, bs, rfl, _⟩ := rd_tuple x
 exact ⟨a, rfl, x.ky⟩
end
section
variable {c : Ct} {s : Shared} {E : VQ} {h : Heap}
inductive Ct.Half (c : Ct) (h : Heap) (v : Value) (d : D) : Prop
 | mk (a as) : v = .ref a → Rd c.prog c.w h (.ref a) d (a :: as) → a ∉ frs c.l → (∀ b ∈ as, Okk c.S c.W (frs c.l) b) → c.Half h v d
noncomputable def isBox : D → Bool
 | .list _ => true
 | .tuple _ => true
 | .dict _ => true
 | _ => false
theorem half_of {v : Value} {d : D} (r : c.Rp h v d) (e : isBox d = true) : c.Half h v d := by
 obtain ⟨as, r, k⟩ := r
 have fin : ∀ {a bs}, v = .ref a → as = a :: bs → c.Half h v d := fun {a bs} e1 e2 => by
  subst e1 e2
  exact ⟨a, bs, rfl, r, (k a mz).2.2, fun b m => k b (mc _ m)⟩
 cases d with
 | list l => obtain ⟨a, o, vs, n, bs, e1, e2, _⟩ := rd_list r; exact fin e1 e2
 | tuple l => obtain ⟨a, o, vs, n, bs, e1, e2, _⟩ := rd_tuple r; exact fin e1 e2
 | dict l => obtain ⟨a, xs, bs, e1, e2, _⟩ := rd_dict r; exact fin e1 e2
 | _ => exact ft e
theorem half_own {a : Addr} {d : D} (r : OwnAt c.prog c.w c.S c.W (frs c.l) h a d) (n : a ∉ frs c.l) : c.Half h (.ref a) d := let ⟨as, r, k⟩ := r; ⟨a, as, rfl, r, n, k⟩
theorem half_up {v : Value} {d : D} {h' : Heap} (x : c.Half h v d) (u : Up (frs c.l) h h') : c.Half h' v d := let ⟨a, as, e, r, n, k⟩ := x; ⟨a, as, e, Rd.keep (fun b m o e => u.at e (by
 rcases mp m with rfl | m
 ·exact n
 ·exact (k b m).2.2)) r, n, k⟩
theorem subscripted_of (slice : Expr) (o i : Value) : ∃ ops, subscripted slice false o i = operate ops (getItem o i) := by
 cases slice with
 | Slice a b x p => cases x <;> exact ⟨_, rfl⟩
 | _ => exact ⟨_, rfl⟩
theorem tail_of {value slice : Expr} {o i : Value} {T id : String} {Q : VQ} {A : Around} {prog : Program} {w : World} (hT : s.TypeIs o T)
  (hl : typeLookup (.type T) "__getitem__" = pure (some (.builtin id))) (hg : wpAny (model prog w) A (getItem o i) Q E s) : wpAny (model prog w) A (subscriptTail value slice o i) Q E s :=
 let ⟨_, e⟩ := subscripted_of slice o i
 tail_any hT hl hg e
theorem idx_ok {i : Int} (g : (decide (0 ≤ i) && decide (i < 1000)) = true) : ∃ j : Nat, i = j ∧ j < 1000 := by
 obtain ⟨g1, g2⟩ := ba g
 have g1 := of_decide_eq_true g1
 have g2 := of_decide_eq_true g2
 obtain ⟨j, rfl⟩ := Int.eq_ofNat_of_zero_le g1
 exact ⟨j, rfl, by omega⟩
theorem item_list {k r : D} {l : List D} {v u : Value} {value slice : Expr} (e : item (.list l) k = some r) (hv : c.Half s.heap v (.list l)) (hk : c.Rp s.heap u k) : c.Op s (subscriptTail value slice v u) r := fun Q E hQ => by
 obtain ⟨i, hi, e⟩ := obi e
 obtain rfl := bA hi
 obtain ⟨g, e⟩ := aB e
 obtain ⟨a, as, rfl, rd, _, ka⟩ := hv
 obtain ⟨j, rfl, g⟩ := idx_ok g
 obtain ⟨t, rfl⟩ := aS hk
 obtain ⟨_, o, vs, n, bs, e1, e2, h1, c1, d1, r1⟩ := rd_list rd
 cases e1
 cases e2
 obtain ⟨x, cs, q1, q2, q3⟩ := rdAll_get r1 e
 have hl : s.heap.IsList a vs := ⟨o, h1, c1, n, d1⟩
 exact tail_of hl.typeIs slot_list_getitem.lookup (wpAny_getItem_list hl (Int.natCast_nonneg j) (by omega) (x := x) (by simpa using q1) (hQ _ _ _ (Up.refl _ _) ⟨cs, q2, fun b m => ka b (q3 b m)⟩))
theorem item_tuple {k r : D} {l : List D} {v u : Value} {value slice : Expr} (e : item (.tuple l) k = some r) (hv : c.Half s.heap v (.tuple l)) (hk : c.Rp s.heap u k) : c.Op s (subscriptTail value slice v u) r := fun Q E hQ => by
 obtain ⟨i, hi, e⟩ := obi e
 obtain rfl := bA hi
 obtain ⟨g, e⟩ := aB e
 obtain ⟨a, as, rfl, rd, _, ka⟩ := hv
 obtain ⟨j, rfl, g⟩ := idx_ok g
 obtain ⟨t, rfl⟩ := aS hk
 obtain ⟨_, o, vs, n, bs, e1, e2, h1, c1, d1, r1⟩ := rd_tuple rd
 cases e1
 cases e2
 obtain ⟨x, cs, q1, q2, q3⟩ := rdAll_get r1 e
 have hl : IsTup s.heap a vs := ⟨o, h1, c1, n, d1⟩
 have hx : vs[j]? = some x := by simpa using q1
 have hj : seqIndex? (j : Int) vs.size = some j := by
  unfold seqIndex?
  have sz := (Array.getElem?_eq_some_iff.mp hx).1
  have e1 : ¬ ((j : Int) < 0) := by omega
  simp [e1, sz]
 exact tail_of hl.typeIs slot_tuple_getitem.lookup (PyProof.Rows.getItem_tuple hl (by omega) (by omega) hj hx (hQ _ _ _ (Up.refl _ _) ⟨cs, q2, fun b m => ka b (q3 b m)⟩))
theorem item_dict {k r : D} {l : List (D × D)} {v u : Value} {value slice : Expr} (hu : c.A.units + 100 < cLine) (e : item (.dict l) k = some r) (hv : c.Half s.heap v (.dict l)) (hk : c.Rp s.heap u k) : c.Op s (subscriptTail value slice v u) r := fun Q E hQ => by
 obtain ⟨g, e⟩ := aB e
 obtain ⟨a, as, rfl, rd, _, ka⟩ := hv
 obtain ⟨ky, rfl, _⟩ := key_inv g
 obtain ⟨_, xs, bs, e1, e2, na, hd, kv⟩ := rd_dict rd
 cases e1
 cases e2
 obtain ⟨ks, rk, _⟩ := hk
 obtain ⟨b, rfl, hky⟩ := rd_ky_ref rk
 obtain ⟨a1, x, cs, q1, q2, q3⟩ := dget_some kv e
 exact tail_of hd.typeIs slot_dict_getitem.lookup (wpAny_getItem_heap (knd := bK c.prog c.w) (show c.A.units + 1 + 10 < cLine by omega) hky hd q1 (hQ _ _ _ (Up.refl _ _) ⟨cs, q2, fun b m => ka b (q3 b m)⟩))
theorem item_ok {d k r : D} {v u : Value} {value slice : Expr} (hu : c.A.units + 100 < cLine) (e : item d k = some r) (hv : c.Half s.heap v d) (hk : c.Rp s.heap u k) : c.Op s (subscriptTail value slice v u) r := by
 cases d with
 | list l => exact item_list e hv hk
 | tuple l => exact item_tuple e hv hk
 | dict l => exact item_dict hu e hv hk
 | _ => exact nn e
theorem pick_upto (items : Array Value) (b : Nat) : slicePick items none (some b) none = (items.toList.take b).toArray := by
 by_cases hb : b ≤ items.size
 ·exact slicePick_upto items b hb
 ·have e : sliceBounds none (some (b : Int)) none items.size = sliceBounds none none none items.size := by
   simp only [sliceBounds, Option.getD_none]
   have h2 : ¬ ((b : Int) < 0) := by omega
   simp only [h2, if_false, show (1 : Int) > 0 by decide, if_true]
   congr 1
   congr 1
   omega
  have : slicePick items none (some b) none = slicePick items none none none := by
   unfold slicePick
   rw [e]
  rw [this, slicePick_all, List.take_of_length_le (by simp; omega)]
theorem upto_ok {l r : List D} {d : D} {v u : Value} {value slice : Expr} {sl : Addr} (e : cutL l false d = some r) (I : c.I s.heap) (hv : c.Rp s.heap v (.list l)) (hu : c.Rp s.heap u d) (hs : s.heap.IsSliceOf sl .none u .none) : c.Op s (subscriptTail value slice v (.ref sl)) (.list r) := fun Q E hQ => by
 obtain ⟨i, hi, e⟩ := obi e
 obtain rfl := bA hi
 obtain ⟨g, e⟩ := aB e
 obtain rfl := si e
 obtain ⟨as, rv, kv⟩ := hv
 obtain ⟨a, o, vs, n, bs, rfl, rfl, h1, c1, d1, r1⟩ := rd_list rv
 have hl : s.heap.IsList a vs := ⟨o, h1, c1, n, d1⟩
 have len := aN r1
 obtain ⟨g12, g3⟩ := ba g
 obtain ⟨j, rfl, _⟩ := idx_ok g12
 have g3 := lb g3
 obtain ⟨t, rfl⟩ := aS hu
 obtain ⟨cs, r2, k2⟩ := rdAll_take j r1
 refine tail_of hl.typeIs slot_list_getitem.lookup (wpAny_getItem_list_slice hl hs .none (.int _ t) .none (by simp) ?_ (by simp only [sizeLine]; simp at len; omega))
 refine hQ _ _ _ (Up.push _ _) ((rp_push (T := "list") (as := cs) I (Up.refl _ _) ?_ (fun b m => kv b (mc _ (k2 b m))) _ ⟨rfl, rfl, rfl, rfl⟩).1 rfl)
 rw [pick_upto]
 simpa using r2
theorem from_ok {l r : List D} {d : D} {v u : Value} {value slice : Expr} {sl : Addr} (e : cutL l true d = some r) (I : c.I s.heap) (hv : c.Rp s.heap v (.list l)) (hu : c.Rp s.heap u d) (hs : s.heap.IsSliceOf sl u .none .none) : c.Op s (subscriptTail value slice v (.ref sl)) (.list r) := fun Q E hQ => by
 obtain ⟨i, hi, e⟩ := obi e
 obtain rfl := bA hi
 obtain ⟨g, e⟩ := aB e
 obtain rfl := si e
 obtain ⟨as, rv, kv⟩ := hv
 obtain ⟨a, o, vs, n, bs, rfl, rfl, h1, c1, d1, r1⟩ := rd_list rv
 have hl : s.heap.IsList a vs := ⟨o, h1, c1, n, d1⟩
 have len := aN r1
 obtain ⟨g12, g3⟩ := ba g
 obtain ⟨g1, g2⟩ := ba g12
 obtain ⟨j, rfl⟩ := Int.eq_ofNat_of_zero_le (of_decide_eq_true g1)
 have g2 := lb g2
 have g3 := lb g3
 obtain ⟨t, rfl⟩ := aS hu
 obtain ⟨cs, r2, k2⟩ := rdAll_drop j r1
 refine tail_of hl.typeIs slot_list_getitem.lookup (wpAny_getItem_list_slice hl hs (.int _ t) .none .none (by simp) ?_ (by simp only [sizeLine]; simp at len; omega))
 refine hQ _ _ _ (Up.push _ _) ((rp_push (T := "list") (as := cs) I (Up.refl _ _) ?_ (fun b m => kv b (mc _ (k2 b m))) _ ⟨rfl, rfl, rfl, rfl⟩).1 rfl)
 simp at g2
 rw [slicePick_from _ _ (by simp at len; omega)]
 simpa using r2
theorem len_list {l : List D} {n : Nat} {v : Value} (hn : dlen (.list l) = some n) (hv : c.Half s.heap v (.list l)) : c.Op s (call (.builtin "len") [v]) (.int n) := fun Q E hQ => by
 obtain ⟨a, as, rfl, rd, _, ka⟩ := hv
 obtain ⟨g, hn⟩ := aB hn
 obtain rfl := si hn
 have g := lb g
 obtain ⟨_, o, vs, m, bs, e1, e2, h1, c1, d1, r1⟩ := rd_list rd
 cases e1
 have len := aN r1
 rw [Array.length_toList] at len
 refine Calls.call_len_list (items := vs) ⟨o, h1, c1, m, d1⟩ (by omega) ?_
 rw [len]
 exact hQ _ _ _ (Up.refl _ _) (rp_int _ _)
theorem len_tup {l : List D} {n : Nat} {v : Value} (hn : dlen (.tuple l) = some n) (hv : c.Half s.heap v (.tuple l)) : c.Op s (call (.builtin "len") [v]) (.int n) := fun Q E hQ => by
 obtain ⟨a, as, rfl, rd, _, ka⟩ := hv
 obtain ⟨g, hn⟩ := aB hn
 obtain rfl := si hn
 have g := lb g
 obtain ⟨_, o, vs, m, bs, e1, e2, h1, c1, d1, r1⟩ := rd_tuple rd
 cases e1
 have len := aN r1
 rw [Array.length_toList] at len
 refine PyProof.Rows.len_tuple (items := vs) ⟨o, h1, c1, m, d1⟩ (by omega) ?_
 rw [len]
 exact hQ _ _ _ (Up.refl _ _) (rp_int _ _)
theorem len_dict {l : List (D × D)} {n : Nat} {v : Value} (hn : dlen (.dict l) = some n) (hv : c.Half s.heap v (.dict l)) : c.Op s (call (.builtin "len") [v]) (.int n) := fun Q E hQ => by
 obtain ⟨a, as, rfl, rd, _, ka⟩ := hv
 obtain ⟨g, hn⟩ := aB hn
 obtain rfl := si hn
 have g := lb g
 obtain ⟨_, xs, bs, e1, e2, na, hd, kv⟩ := rd_dict rd
 cases e1
 have len := bX kv
 obtain ⟨o, es, ep, ho, hx, hdd, he, _⟩ := id hd
 have sz : es.size = xs.length := size_of_entries he
 refine call_len_slot (T := "dict") (id := "dict.__len__") hd.typeIs F.slot_dict_len (n := (xs.length : Int)) (fun Q' hQ' => wpAny_call_entry F.slot_dict_len hd.typeIs F.entry_dict_len ?_ (F.args_dict_len_1 _)) (by omega) (by omega) (len ▸ hQ _ _ _ (Up.refl _ _) (rp_int _ _))
 show wpAny _ _ (dictSize a >>= _) _ _ s
 unfold dictSize
 refine wB (wB (wpAny_dictEntries ho hdd (wP ?_)))
 show wpAny _ _ (Builtin.Dict.pendingCount a >>= _) _ _ s
 refine wB (wpAny_pendingCount_other na (wpAny_ret_mkInt ?_))
 rw [sz]
 simpa using hQ'
theorem len_ok {d : D} {n : Nat} {v : Value} (hn : dlen d = some n) (hv : c.Half s.heap v d) : c.Op s (call (.builtin "len") [v]) (.int n) := by
 cases d with
 | list l => exact len_list hn hv
 | tuple l => exact len_tup hn hv
 | dict l => exact len_dict hn hv
 | _ => exact nn hn
end
theorem Frs.ofM {hb : Heap} {h h' : Heap} : ∀ {l : List Env}, (∀ b ∈ frs l, ∀ o, h.get? b = some o → (∀ vs, o.data ≠ .fields vs) → ∃ o', h'.get? b = some o' ∧ ∀ vs, o'.data ≠ .fields vs) → Frs hb l h → Frs hb l h'
 | [], _, _ => trivial
 | e :: l, k, ⟨hk, ⟨L, o, hf, hn, ho, hd⟩, hr⟩ => by
  obtain ⟨o', ho', hd'⟩ := k L (by simp [frs, hf]) o ho hd
  refine ⟨hk, ⟨L, o', hf, hn, ho', hd'⟩, Frs.ofM (fun b m => k b ?_) hr⟩
  simp only [frs, List.filterMap_cons, hf] at m ⊢
  exact mc _ m
theorem Kept.data {F : List Addr} {h' : Heap} {b : Addr} {o : Obj} (k : Kept F h' b o) : ∃ sl, h'.get? b = some { o with slots := sl } := k.elim (fun e => ⟨o.slots, e⟩) fun ⟨_, r⟩ => r
theorem Kept.at {F : List Addr} {h' : Heap} {b : Addr} {o : Obj} (k : Kept F h' b o) (n : b ∉ F) : h'.get? b = some o := k.elim id fun ⟨m, _⟩ => absurd m n
section
variable {prog : Program} {w : World} {hb : Heap} {S S' : Addr → Prop} {l : List Env} {env : Env} {W : List Addr} {h h' : Heap} {vs : Vars}
inductive NoLook (hb : Heap) (S : Addr → Prop) (W F : List Addr) (a : Addr) : Prop
 | mk : ¬ S a → a ∉ W → a ∉ F → hb.get? a = none → NoLook hb S W F a
theorem NoLook.ns {F : List Addr} {a : Addr} (x : NoLook hb S W F a) : ¬ S a := let ⟨q, _, _, _⟩ := x; q
theorem NoLook.nw {F : List Addr} {a : Addr} (x : NoLook hb S W F a) : a ∉ W := let ⟨_, q, _, _⟩ := x; q
theorem NoLook.nf {F : List Addr} {a : Addr} (x : NoLook hb S W F a) : a ∉ F := let ⟨_, _, q, _⟩ := x; q
theorem NoLook.nb {F : List Addr} {a : Addr} (x : NoLook hb S W F a) : hb.get? a = none := let ⟨_, _, _, q⟩ := x; q
theorem Kept.ns {F : List Addr} {a : Addr} {m : NM} (n : h.Ns a m) (k : ∀ o, h.get? a = some o → Kept F h' a o) : h'.Ns a m := by
 obtain ⟨o, es, ep, e, d, r⟩ := n
 obtain ⟨sl, e'⟩ := (k o e).data
 exact ⟨_, es, ep, e', d, r⟩
theorem Kept.cell {F : List Addr} {a : Addr} {v : Option Value} (n : h.IsCell a v) (k : ∀ o, h.get? a = some o → Kept F h' a o) : h'.IsCell a v := by
 obtain ⟨o, e, d⟩ := n
 obtain ⟨sl, e'⟩ := (k o e).data
 exact ⟨_, e', d⟩
theorem CelOk.kept {F : List Addr} {c : Addr} (x : CelOk env W h c) (k : ∀ o, h.get? c = some o → Kept F h' c o) : CelOk env W h' c := let ⟨q1, q2, v, q3⟩ := x; ⟨q1, q2, v, Kept.cell q3 k⟩
theorem WlAt.kept {F : List Addr} {a : Addr} (x : WlAt hb h a) (k : ∀ o, h.get? a = some o → Kept F h' a o) : WlAt hb h' a := let ⟨n, o, e⟩ := x; let ⟨o, e⟩ := (k o e).isSome; ⟨n, o, e⟩
theorem Inv.move {X : Addr → Prop} (J : Inv prog w hb S l env W h vs) (nX : ∀ a, X a → NoLook hb S W (frs l) a) (keep : ∀ b o, ¬ X b → h.get? b = some o → Kept (frs l) h' b o)
  (sub : ∀ a, S a → S' a) (fr : ∀ a, h'.get? a = none → S' a) : Inv prog w hb S' l env W h' vs := by
 have nW : ∀ a ∈ W, ¬ X a := fun a m x => (nX a x).nw m
 have nF : ∀ a ∈ frs l, ¬ X a := fun a m x => (nX a x).nf m
 have nS : ∀ a, S a → ¬ X a := fun a m x => (nX a x).ns m
 have kb : ∀ {m : NM} {x v}, Bound env h m x v → Bound env h' m x v := fun {m x v} b => by
  rcases b with q | ⟨q, c, e, z⟩
  ·exact .inl q
  ·exact .inr ⟨q, c, e, Kept.cell z fun o => keep c o (nW _ (J.cel x c e).w)⟩
 have K : KeepOkk S S' W W (frs l) h h' := fun a o k e => ⟨⟨sub _ k.1, k.2⟩, (keep a o (nS a k.1) e).at k.2.2⟩
 obtain ⟨m, n, pl, h1, h2, h3⟩ := J.ns
 refine ⟨fun b o e => (keep b o (fun x => nox (nX b x).nb e) (J.stay b o e)).at fun m => nox (J.fr.ex m).n e, Frs.ofM (fun b m o e hn => ?_) J.fr, fun a q => (J.wl a q).kept fun o => keep a o (nW a q), J.loc, fun x c e => (J.cel x c e).kept fun o => keep c o (nW c (J.cel x c e).w), J.cl, J.cap, J.nd, fr, fun a o e => sub a (J.base a o e), m,
  Kept.ns n fun o => keep _ o (nW _ J.loc), pl, fun x d e => (h1 x d e).to (fun _ => kb) K, fun x d e => (h2 x d e).to (fun _ => kb) id (sub _) (fun o z => (keep _ o (nS _ (h2 x d e).inS) z).at (h2 x d e).notFr) K, h3⟩
 obtain ⟨sl, e'⟩ := (keep b o (nF b m) e).data
 exact ⟨_, e', hn⟩
theorem Inv.apart {X : Addr → Prop} (J : Inv prog w hb S l env W h vs) (n : ∀ a, X a → h.get? a = none) (u : Up (frs l) h h') (al : ∀ a, X a → ∃ o, h'.get? a = some o) : Inv prog w hb (fun a => S a ∧ ¬ X a) l env W h' vs := by
 have J' := J.up u
 have K : KeepOkk S (fun a => S a ∧ ¬ X a) W W (frs l) h h' := fun a o k e => ⟨⟨⟨k.1, fun x => nox (n a x) e⟩, k.2⟩, u.at e k.2.2⟩
 obtain ⟨m, hn, pl, h1, h2, h3⟩ := J.ns
 exact ⟨J'.stay, J'.fr, J'.wl, J'.loc, J'.cel, J'.cl, J'.cap, J'.nd, fun a e => ⟨J'.fresh a e, fun x => let ⟨_, z⟩ := al a x; nox e z⟩, fun a o e => ⟨J.base a o e, fun x => nox (n a x) (J.stay a o e)⟩, m, u.ns hn, pl, fun x d e => (h1 x d e).to (fun _ b => b.up u) K,
  fun x d e => (h2 x d e).to (fun _ b => b.up u) id (fun s => ⟨s, fun x' => let ⟨_, z⟩ := (h2 x d e).ex; nox (n _ x') z⟩) (fun o z => u.at z (h2 x d e).notFr) K, h3⟩
theorem Rep.sub {F : List Addr} {v : Value} {d : D} (x : Rep prog w S W F h v d) (k : ∀ a, S a → S' a) : Rep prog w S' W F h v d := let ⟨as, r, q⟩ := x; ⟨as, r, fun a m => ⟨k a (q a m).1, (q a m).2⟩⟩
end
structure Walk (prog : Program) (w : World) (A : Around) (I : Addr) (fp : List Addr) (vals : List Value) (St : Nat → Heap → Prop) : Prop where
 frame : ∀ i h h', St i h → (∀ b, b = I ∨ b ∈ fp → ∀ o, h.get? b = some o → h'.get? b = some o) → St i h'
 live : ∀ i h, St i h → ∃ o, h.get? I = some o
 item : ∀ i v (s : Shared) (Q : Option Value → Shared → Prop) (E : VQ), vals[i]? = some v → St i s.heap →
  (∀ u h' tk, (u = v ∨ ∃ x t t', v = .int x t ∧ u = .int x t') → St (i + 1) h' → (∀ b o, b ≠ I → s.heap.get? b = some o → h'.get? b = some o) → Q (some u) { s with heap := h', toks := tk }) → wpAny (model prog w) A (pyNext (.ref I)) Q E s
 done : ∀ (s : Shared) (Q : Option Value → Shared → Prop) (E : VQ), St vals.length s.heap →
  (∀ h' tk, (∀ b o, b ≠ I → s.heap.get? b = some o → h'.get? b = some o) → Q none { s with heap := h', toks := tk }) → wpAny (model prog w) A (pyNext (.ref I)) Q E s
 self : ∀ i (s : Shared) (Q : VQ) (E : VQ), St i s.heap → Q (.ref I) s → wpAny (model prog w) A (pyIter (.ref I)) Q E s
theorem Walk.list {prog : Program} {w : World} {A : Around} (hh : A.handled = none) (I ax : Addr) (hne : ax ≠ I) (items : Array Value) :
  Walk prog w A I [ax] items.toList (fun i h => h.IsListIter I ax i ∧ h.IsList ax items) := by
 have W := Walks.list (prog := prog) (w := w) hh I ax hne items
 refine ⟨fun i h h' st k => W.frame i h h' st fun b m => k b (by simpa using m), fun i h st => ?_, fun i v s Q E e st hQ => ?_, fun s Q E st hQ => ?_, W.self⟩
 ·obtain ⟨⟨o, e, _⟩, _⟩ := st; exact ⟨o, e⟩
 ·have e' : items[i]? = some v := by simpa using e
  refine W.item i s Q E (Array.getElem?_eq_some_iff.mp e').1 st fun u h' tk p st' k => hQ u h' tk (.inl ?_) st' fun b o n => k b o (by simpa using n)
  rw [e'] at p; exact (si p).symm
 ·exact W.done s Q E (by simpa using st) fun h' tk k => hQ h' tk fun b o n => k b o (by simpa using n)
theorem Walk.tuple {prog : Program} {w : World} {A : Around} (hh : A.handled = none) (I ax : Addr) (hne : ax ≠ I) (items : Array Value) :
  Walk prog w A I [ax] items.toList (fun i h => h.IsTupleIter I ax i ∧ h.IsTuple ax items) := by
 have W := Walks.tuple (prog := prog) (w := w) hh I ax hne items
 refine ⟨fun i h h' st k => W.frame i h h' st fun b m => k b (by simpa using m), fun i h st => ?_, fun i v s Q E e st hQ => ?_, fun s Q E st hQ => ?_, W.self⟩
 ·obtain ⟨⟨o, e, _⟩, _⟩ := st; exact ⟨o, e⟩
 ·have e' : items[i]? = some v := by simpa using e
  refine W.item i s Q E (Array.getElem?_eq_some_iff.mp e').1 st fun u h' tk p st' k => hQ u h' tk (.inl ?_) st' fun b o n => k b o (by simpa using n)
  rw [e'] at p; exact (si p).symm
 ·exact W.done s Q E (by simpa using st) fun h' tk k => hQ h' tk fun b o n => k b o (by simpa using n)
theorem upto_get : ∀ (n : Nat) (a : Int) (i : Nat), i < n → (upto a n)[i]? = some (a + i)
 | n + 1, a, 0, _ => by simp [upto]
 | n + 1, a, i + 1, h => by
  have := upto_get n (a + 1) i (by omega)
  simp only [upto, List.getElem?_cons_succ, this]
  congr 1
  push_cast
  omega
theorem upto_length : ∀ (n : Nat) (a : Int), (upto a n).length = n
 | 0, _ => rfl
 | n + 1, a => by simp [upto, upto_length n]
theorem Walk.range {prog : Program} {w : World} {A : Around} (hh : A.handled = none) (I : Addr) (a : Int) (n : Nat) :
  Walk prog w A I [] ((upto a n).map fun x => .int x 0) (fun i h => IsRangeIter h I (a + (i : Nat) * 1) ((n : Int) - (i : Nat)) 1) := by
 have W := Walks.range (prog := prog) (w := w) hh I a 1 n
 refine ⟨fun i h h' st k => W.frame i h h' st fun b m => k b (by simpa using m), fun i h st => ⟨_, st⟩, fun i v s Q E e st hQ => ?_, fun s Q E st hQ => ?_, W.self⟩
 ·have hi : i < n := by
   have := (List.getElem?_eq_some_iff.mp e).1
   simpa [upto_length] using this
  refine W.item i s Q E hi st fun u h' tk p st' k => hQ u h' tk (.inr ?_) st' fun b o m => k b o (by simpa using m)
  obtain ⟨t, rfl⟩ := p
  rw [List.getElem?_map, upto_get n a i hi] at e
  obtain rfl := si e
  exact ⟨_, _, t, rfl, by simp⟩
 ·exact W.done s Q E (by simpa [upto_length] using st) fun h' tk k => hQ h' tk fun b o m => k b o (by simpa using m)
def DictEs (h : Heap) (d : Addr) (es : Array DictEntry) (ep : Nat) : Prop := ∃ o, h.get? d = some o ∧ o.ExactDict ∧ o.data = .dict es ep
theorem DictEs.ext {h h' : Heap} {d b : Addr} {es : Array DictEntry} {ep : Nat} (x : DictEs h d es ep) (k : Heap.ExtBut b h h') (n : d ≠ b) : DictEs h' d es ep := let ⟨o, e, r⟩ := x; ⟨o, k d o n e, r⟩
theorem DictEs.at {h h' : Heap} {d : Addr} {es : Array DictEntry} {ep : Nat} (x : DictEs h d es ep) (k : ∀ o, h.get? d = some o → h'.get? d = some o) : DictEs h' d es ep := let ⟨o, e, r⟩ := x; ⟨o, k o e, r⟩
theorem DictEs.typeIs {s : Shared} {d : Addr} {es : Array DictEntry} {ep : Nat} (x : DictEs s.heap d es ep) : s.TypeIs (.ref d) "dict" := let ⟨o, e, r, _⟩ := x; ⟨o, e, r.1⟩
section
variable {prog : Program} {w : World} {A : Around} {E : VQ} {s : Shared} {it d : Addr} {i ep : Nat} {es : Array DictEntry}
theorem pyIter_es {Q : VQ} (nd : (d == sysModules) = false) (hm : DictEs s.heap d es ep)
  (hQ : Q (.ref s.heap.objs.size) { s with heap := s.heap.push { cls := .type "dict_keyiterator", data := .fields #[.ref d, .int 0 0, .int es.size 0, .int ep 0] } }) :
  wpAny (model prog w) A (pyIter (.ref d)) Q E s := by
 have hT := hm.typeIs
 obtain ⟨o, ho, hc, hdat⟩ := hm
 refine wpAny_pyIter_slot hT F.slot_dict_iter (wpAny_call_entry F.slot_dict_iter hT F.entry_dict_iter ?_ (F.args_dict_iter_1 _))
 unfold Builtin.«dict.__iter__»
 refine wB ?_
 unfold Builtin.Dict.dictSlotNone
 refine wB (wpAny_notOrdered_dict hT (wP ?_))
 show wpAny _ _ (Builtin.Dict.showsAll d >>= _) _ _ s
 unfold Builtin.Dict.showsAll
 rw [if_neg (by rw [nd]; exact Bool.false_ne_true)]
 refine wB (wP (wB (wpAny_dictEntries ho hdat (wB (wpAny_dictEpoch ho hdat ?_)))))
 exact wB (wpAny_newObj_type (wP ⟨_, rfl, "dict_keyiterator", _, ⟨_, Heap.get?_push_size _ rfl, rfl⟩, F.slot_dict_keyiterator_next.lookup, by simpa [rawInt] using hQ⟩))
theorem next_key {e : DictEntry} {Q : Option Value → Shared → Prop} (hit : s.heap.IsKeyIter it d i es.size ep) (hm : DictEs s.heap d es ep) (hx : es[i]? = some e)
  (hQ : ∀ h', h'.IsKeyIter it d (i + 1) es.size ep → Heap.SameBut it s.heap h' → Q (some e.key) { s with heap := h' }) : wpAny (model prog w) A (pyNext (.ref it)) Q E s := by
 obtain ⟨o, ho, hc, hd⟩ := id hit
 obtain ⟨od, hod, hcd, hdd⟩ := id hm
 unfold pyNext
 refine wB (wpAny_attempt (wpAny_callSpecial?_slot (name := Str.ofString "__next__") hit.typeIs F.slot_dict_keyiterator_next
  (wpAny_call_entry F.slot_dict_keyiterator_next hit.typeIs F.entry_dict_keyiterator_next ?_ (F.args_dict_keyiterator_next_1 _))))
 refine wB (wP ?_)
 refine wB ?_
 refine wB ?_
 refine wB (wpAny_typeNameOfWhole_keyiter hit.typeIs (wP ?_))
 refine wB (wpAny_fieldsOf ho hd ?_)
 have hown : Builtin.Dict_items.ownsTuple "dict_keyiterator" = false := by decide
 simp only [hown, Bool.false_eq_true, if_false]
 show wpAny _ _ (if (Value.ref d == Value.none) = true then _ else _) _ _ s
 rw [if_neg (show ¬ ((Value.ref d == Value.none) = true) from Bool.false_ne_true)]
 refine wB (wP ?_)
 refine wB (wpAny_dictEntries hod hdd ?_)
 rw [if_neg (by simp)]
 refine wB (wP ?_)
 refine wB (wpAny_dictEpoch hod hdd ?_)
 rw [if_neg (by simp)]
 refine wP ?_
 simp only [show ¬ ((i : Int) < 0) from by omega, if_false, Int.toNat_natCast, hx]
 refine wB ?_
 refine wB (wpAny_typeNameOfWhole_keyiter hit.typeIs (wP ?_))
 refine wB (wpAny_isOneOf_keyiter hit.typeIs ?_)
 show wpAny _ _ (setField (.ref it) 1 (rawInt ((i : Int) + 1)) >>= _) _ _ s
 refine wB (wpAny_setField ho hd (by simp) ?_)
 have hit' : (s.heap.update it (Obj.mapFields (·.setIfInBounds 1 (rawInt ((i : Int) + 1))))).IsKeyIter it d (i + 1) es.size ep :=
  ⟨_, Heap.get?_update_self _ ho (Obj.isFreed_of_fields (Obj.data_mapFields hd _)), (Obj.cls_mapFields ..).trans hc, by rw [Obj.data_mapFields hd]; simp [rawInt]⟩
 refine wB (wpAny_holding ?_)
 refine wB (wpAny_isOneOf_keyiter (s := { s with heap := s.heap.update it (Obj.mapFields (·.setIfInBounds 1 (rawInt ((i : Int) + 1)))) }) hit'.typeIs ?_)
 show wpAny _ _ (pure e.key) _ _ _
 exact wP (wP ⟨_, rfl, wP (hQ _ hit' (Heap.SameBut.update ..))⟩)
theorem next_key_end {Q : Option Value → Shared → Prop} (hh : A.handled = none) (hit : s.heap.IsKeyIter it d i es.size ep) (hm : DictEs s.heap d es ep) (hx : es[i]? = none)
  (hQ : ∀ h', Heap.ExtBut it s.heap h' → Q none { s with heap := h' }) : wpAny (model prog w) A (pyNext (.ref it)) Q E s := by
 obtain ⟨o, ho, hc, hd⟩ := id hit
 obtain ⟨od, hod, hcd, hdd⟩ := id hm
 unfold pyNext
 refine wB (wpAny_attempt (wpAny_callSpecial?_slot (name := Str.ofString "__next__") hit.typeIs F.slot_dict_keyiterator_next
  (wpAny_call_entry F.slot_dict_keyiterator_next hit.typeIs F.entry_dict_keyiterator_next ?_ (F.args_dict_keyiterator_next_1 _))))
 refine wB (wP ?_)
 refine wB ?_
 refine wB ?_
 refine wB (wpAny_typeNameOfWhole_keyiter hit.typeIs (wP ?_))
 refine wB (wpAny_fieldsOf ho hd ?_)
 have hown : Builtin.Dict_items.ownsTuple "dict_keyiterator" = false := by decide
 simp only [hown, Bool.false_eq_true, if_false]
 show wpAny _ _ (if (Value.ref d == Value.none) = true then _ else _) _ _ s
 rw [if_neg (show ¬ ((Value.ref d == Value.none) = true) from Bool.false_ne_true)]
 refine wB (wP ?_)
 refine wB (wpAny_dictEntries hod hdd ?_)
 rw [if_neg (by simp)]
 refine wB (wP ?_)
 refine wB (wpAny_dictEpoch hod hdd ?_)
 rw [if_neg (by simp)]
 refine wP ?_
 simp only [show ¬ ((i : Int) < 0) from by omega, if_false, Int.toNat_natCast, hx]
 refine wB ?_
 refine wB (wpAny_typeNameOfWhole_keyiter hit.typeIs (wP ?_))
 show wpAny _ _ (setField (.ref it) 0 .none >>= _) _ _ s
 refine wB (wpAny_setField ho hd (by simp) ?_)
 show wpAny _ _ (newExc (.type "StopIteration") [] >>= _) _ _ _
 refine wB ?_
 simp only [newExc, newTuple]
 refine wB (wpAny_newObj_type ?_ (by size_fits))
 refine wB (m := firstArgMember _ _) (wpAny_of_eq (a := Value.none) (by first | rfl | (simp only [firstArgMember]; rfl)) ?_)
 refine wpAny_newObj_type ?_ (by size_fits)
 simp only [raiseNew]
 refine wB (wpAny_handled ?_)
 rw [show A.in1.handled = none from hh]
 refine wB (wP (wpAny_throw ?_))
 refine wB (wpAny_isInstance (T := "StopIteration") (b := true) ⟨_, Heap.get?_push_size _ rfl, rfl⟩ isSubtype_stop ?_)
 exact wP (hQ _ (((Heap.SameBut.update ..).extBut.push _).push _))
theorem iter_values {v : Addr} {Q : VQ} (hv : s.heap.IsValuesView v d) (hm : DictEs s.heap d es ep)
  (hQ : Q (.ref s.heap.objs.size) { s with heap := s.heap.push { cls := .type "dict_valueiterator", data := .fields #[.ref d, .int 0 0, .int es.size 0, .int ep 0] } }) :
  wpAny (model prog w) A (pyIter (.ref v)) Q E s := by
 obtain ⟨ov, hov, hcv, hdv⟩ := id hv
 obtain ⟨o, ho, hc, hdat⟩ := hm
 refine wpAny_pyIter_slot hv.typeIs F.slot_dict_values_iter (wpAny_call_entry F.slot_dict_values_iter hv.typeIs F.entry_dict_values_iter ?_ (F.args_dict_values_iter_1 _))
 unfold Builtin.«dict_values.__iter__»
 refine wB (wP ?_)
 refine wB ?_
 unfold Builtin.Dict_items.dictOf
 refine wB (wpAny_field hov hdv (x := .ref d) rfl (wP ?_))
 refine wB ?_
 unfold Builtin.Dict_items.newIterator
 refine wB (wpAny_dictEntries ho hdat ?_)
 refine wB (wpAny_dictEpoch ho hdat ?_)
 have hown : Builtin.Dict_items.ownsTuple "dict_valueiterator" = false := by decide
 simp only [hown, Bool.false_eq_true, if_false]
 refine wpAny_newObj_type (wP ⟨_, rfl, "dict_valueiterator", _, ⟨_, Heap.get?_push_size _ rfl, rfl⟩, F.slot_dict_valueiterator_next.lookup, ?_⟩)
 simpa [rawInt] using hQ
theorem next_val {e : DictEntry} {Q : Option Value → Shared → Prop} (hit : s.heap.IsValIter it d i es.size ep) (hm : DictEs s.heap d es ep) (hx : es[i]? = some e)
  (hQ : ∀ h', h'.IsValIter it d (i + 1) es.size ep → Heap.SameBut it s.heap h' → Q (some e.val) { s with heap := h' }) : wpAny (model prog w) A (pyNext (.ref it)) Q E s := by
 obtain ⟨o, ho, hc, hd⟩ := id hit
 obtain ⟨od, hod, hcd, hdd⟩ := id hm
 unfold pyNext
 refine wB (wpAny_attempt (wpAny_callSpecial?_slot (name := Str.ofString "__next__") hit.typeIs F.slot_dict_valueiterator_next
  (wpAny_call_entry F.slot_dict_valueiterator_next hit.typeIs F.entry_dict_valueiterator_next ?_ (F.args_dict_valueiterator_next_1 _))))
 refine wB (wP ?_)
 refine wB ?_
 refine wB ?_
 refine wB (wpAny_typeNameOfWhole_valiter hit.typeIs (wP ?_))
 refine wB (wpAny_fieldsOf ho hd ?_)
 have hown : Builtin.Dict_items.ownsTuple "dict_valueiterator" = false := by decide
 simp only [hown, Bool.false_eq_true, if_false]
 show wpAny _ _ (if (Value.ref d == Value.none) = true then _ else _) _ _ s
 rw [if_neg (show ¬ ((Value.ref d == Value.none) = true) from Bool.false_ne_true)]
 refine wB (wP ?_)
 refine wB (wpAny_dictEntries hod hdd ?_)
 rw [if_neg (by simp)]
 refine wB (wP ?_)
 refine wB (wpAny_dictEpoch hod hdd ?_)
 rw [if_neg (by simp)]
 refine wP ?_
 simp only [show ¬ ((i : Int) < 0) from by omega, if_false, Int.toNat_natCast, hx]
 refine wB ?_
 refine wB (wpAny_typeNameOfWhole_valiter hit.typeIs (wP ?_))
 refine wB (wpAny_isOneOf_valiter hit.typeIs ?_)
 show wpAny _ _ (setField (.ref it) 1 (rawInt ((i : Int) + 1)) >>= _) _ _ s
 refine wB (wpAny_setField ho hd (by simp) ?_)
 have hit' : (s.heap.update it (Obj.mapFields (·.setIfInBounds 1 (rawInt ((i : Int) + 1))))).IsValIter it d (i + 1) es.size ep :=
  ⟨_, Heap.get?_update_self _ ho (Obj.isFreed_of_fields (Obj.data_mapFields hd _)), (Obj.cls_mapFields ..).trans hc, by rw [Obj.data_mapFields hd]; simp [rawInt]⟩
 refine wB (wpAny_holding ?_)
 refine wB (wpAny_isOneOf_valiter (s := { s with heap := s.heap.update it (Obj.mapFields (·.setIfInBounds 1 (rawInt ((i : Int) + 1)))) }) hit'.typeIs ?_)
 refine wB (wpAny_isOneOf_valiter (s := { s with heap := s.heap.update it (Obj.mapFields (·.setIfInBounds 1 (rawInt ((i : Int) + 1)))) }) hit'.typeIs ?_)
 show wpAny _ _ (pure e.val) _ _ _
 exact wP (wP ⟨_, rfl, wP (hQ _ hit' (Heap.SameBut.update ..))⟩)
theorem next_val_end {Q : Option Value → Shared → Prop} (hh : A.handled = none) (hit : s.heap.IsValIter it d i es.size ep) (hm : DictEs s.heap d es ep) (hx : es[i]? = none)
  (hQ : ∀ h', Heap.ExtBut it s.heap h' → Q none { s with heap := h' }) : wpAny (model prog w) A (pyNext (.ref it)) Q E s := by
 obtain ⟨o, ho, hc, hd⟩ := id hit
 obtain ⟨od, hod, hcd, hdd⟩ := id hm
 unfold pyNext
 refine wB (wpAny_attempt (wpAny_callSpecial?_slot (name := Str.ofString "__next__") hit.typeIs F.slot_dict_valueiterator_next
  (wpAny_call_entry F.slot_dict_valueiterator_next hit.typeIs F.entry_dict_valueiterator_next ?_ (F.args_dict_valueiterator_next_1 _))))
 refine wB (wP ?_)
 refine wB ?_
 refine wB ?_
 refine wB (wpAny_typeNameOfWhole_valiter hit.typeIs (wP ?_))
 refine wB (wpAny_fieldsOf ho hd ?_)
 have hown : Builtin.Dict_items.ownsTuple "dict_valueiterator" = false := by decide
 simp only [hown, Bool.false_eq_true, if_false]
 show wpAny _ _ (if (Value.ref d == Value.none) = true then _ else _) _ _ s
 rw [if_neg (show ¬ ((Value.ref d == Value.none) = true) from Bool.false_ne_true)]
 refine wB (wP ?_)
 refine wB (wpAny_dictEntries hod hdd ?_)
 rw [if_neg (by simp)]
 refine wB (wP ?_)
 refine wB (wpAny_dictEpoch hod hdd ?_)
 rw [if_neg (by simp)]
 refine wP ?_
 simp only [show ¬ ((i : Int) < 0) from by omega, if_false, Int.toNat_natCast, hx]
 refine wB ?_
 refine wB (wpAny_typeNameOfWhole_valiter hit.typeIs (wP ?_))
 show wpAny _ _ (setField (.ref it) 0 .none >>= _) _ _ s
 refine wB (wpAny_setField ho hd (by simp) ?_)
 show wpAny _ _ (newExc (.type "StopIteration") [] >>= _) _ _ _
 refine wB ?_
 simp only [newExc, newTuple]
 refine wB (wpAny_newObj_type ?_ (by size_fits))
 refine wB (m := firstArgMember _ _) (wpAny_of_eq (a := Value.none) (by first | rfl | (simp only [firstArgMember]; rfl)) ?_)
 refine wpAny_newObj_type ?_ (by size_fits)
 simp only [raiseNew]
 refine wB (wpAny_handled ?_)
 rw [show A.in1.handled = none from hh]
 refine wB (wP (wpAny_throw ?_))
 refine wB (wpAny_isInstance (T := "StopIteration") (b := true) ⟨_, Heap.get?_push_size _ rfl, rfl⟩ isSubtype_stop ?_)
 exact wP (hQ _ (((Heap.SameBut.update ..).extBut.push _).push _))
end
theorem Walk.keys {prog : Program} {w : World} {A : Around} (hh : A.handled = none) (I d : Addr) (hne : d ≠ I) (es : Array DictEntry) (ep : Nat) :
  Walk prog w A I [d] (es.toList.map (·.key)) (fun i h => h.IsKeyIter I d i es.size ep ∧ DictEs h d es ep) where
 frame := fun i h h' st k => ⟨st.1.at fun o e => k I (.inl rfl) o e, st.2.at fun o e => k d (.inr (by simp)) o e⟩
 live := fun i h st => let ⟨⟨o, e, _⟩, _⟩ := st; ⟨o, e⟩
 item := fun i v s Q E e st hQ => by
  rw [List.getElem?_map, Option.map_eq_some_iff] at e
  obtain ⟨x, e, rfl⟩ := e
  refine next_key st.1 st.2 (by simpa using e) fun h' st' k => hQ _ h' s.toks (.inl rfl) ⟨st', st.2.ext k.extBut hne⟩ fun b o n q => (k.2 b n).trans q
 done := fun s Q E st hQ => next_key_end hh st.1 st.2 (by simp) fun h' k => hQ h' s.toks fun b o n q => k b o n q
 self := fun i s Q E st hQ => wpAny_pyIter_keyiter st.1 hQ
theorem Walk.values {prog : Program} {w : World} {A : Around} (hh : A.handled = none) (I d : Addr) (hne : d ≠ I) (es : Array DictEntry) (ep : Nat) :
  Walk prog w A I [d] (es.toList.map (·.val)) (fun i h => h.IsValIter I d i es.size ep ∧ DictEs h d es ep) where
 frame := fun i h h' st k => ⟨st.1.at fun o e => k I (.inl rfl) o e, st.2.at fun o e => k d (.inr (by simp)) o e⟩
 live := fun i h st => let ⟨⟨o, e, _⟩, _⟩ := st; ⟨o, e⟩
 item := fun i v s Q E e st hQ => by
  rw [List.getElem?_map, Option.map_eq_some_iff] at e
  obtain ⟨x, e, rfl⟩ := e
  refine next_val st.1 st.2 (by simpa using e) fun h' st' k => hQ _ h' s.toks (.inl rfl) ⟨st', st.2.ext k.extBut hne⟩ fun b o n q => (k.2 b n).trans q
 done := fun s Q E st hQ => next_val_end hh st.1 st.2 (by simp) fun h' k => hQ h' s.toks fun b o n q => k b o n q
 self := fun i s Q E st hQ => wpAny_pyIter_valiter st.1 hQ
def Ct.PX (c : Ct) (s : Shared) (k : SStr) (E : VQ) : Prop := ∀ h' tk e tb, Up (frs c.l) s.heap h' → Frs c.hb c.l h' → c.hb.StaysIn h' → ExcAt c.hb s.heap h' c.C e k tb → E (.ref e) { s with heap := h', toks := tk }
inductive Ct.RpL (c : Ct) (h : Heap) (vs : List Value) (ds : List D) : Prop
 | mk (as) : RdAll c.prog c.w h vs ds as → (∀ a ∈ as, Okk c.S c.W (frs c.l) a) → c.RpL h vs ds
inductive Ct.RpC (c : Ct) (h : Heap) (vs : List Value) (d : D) (ds : List D) : Prop
 | mk (v r) : vs = v :: r → c.Rp h v d → c.RpL h r ds → c.RpC h vs d ds
def Ct.PL (c : Ct) (s : Shared) (r : Except SStr (List D)) (Q : List Value → Shared → Prop) (E : VQ) : Prop := match r with
 | .ok ds => ∀ h' tk vs, Up (frs c.l) s.heap h' → c.RpL h' vs ds → Q vs { s with heap := h', toks := tk }
 | .error k => c.PX s k E
section
variable {c : Ct} {s : Shared} {E : VQ} {Q : VQ} {h h' : Heap}
theorem PX_later {k : SStr} {h1 : Heap} {tk : Nat} (p : c.PX s k E) (u : Up (frs c.l) s.heap h1) : c.PX { s with heap := h1, toks := tk } k E :=
 fun h' tk' e tb u' f' st x => p h' tk' e tb (u.trans u') f' st (x.older fun b e => u.gone e)
theorem RpL_nil : c.RpL h [] [] := ⟨[], .nil, fun _ m => nomatch m⟩
theorem RpL_cons {v : Value} {d : D} {vs : List Value} {ds : List D} (x : c.Rp h v d) (y : c.RpL h vs ds) : c.RpL h (v :: vs) (d :: ds) :=
 let ⟨_, r, k⟩ := x; let ⟨_, r', k'⟩ := y; ⟨_, .cons r r', fun a m => (mq m).elim (k a) (k' a)⟩
theorem RpL_inv {vs : List Value} {d : D} {ds : List D} (x : c.RpL h vs (d :: ds)) : c.RpC h vs d ds := by
 obtain ⟨as, r, k⟩ := x
 obtain ⟨v, r', bs, cs, rfl, rfl, x1, y⟩ := bB r
 exact ⟨v, r', rfl, ⟨bs, x1, fun a m => k a (ml _ m)⟩, ⟨cs, y, fun a m => k a (mr _ m)⟩⟩
theorem RpL_inv0 {vs : List Value} (x : c.RpL h vs []) : vs = [] := let ⟨_, r, _⟩ := x; (rdAll_nil r).1
theorem noStar_of {e : Expr} {env : Env} (n : ∀ x p, e ≠ .Starred x p) (es : List Expr) : starEach (e :: es) env = (false, eval e env) :: starEach es env := by
 cases e <;> first | rfl | exact absurd rfl (n _ _)
noncomputable def treesOf (es : List Expr) (env : Env) : List (Bool × Sem Value) := es.map fun e => (false, eval e env)
theorem trees_of {env : Env} : ∀ {es : List Expr}, (∀ e ∈ es, ∀ x p, e ≠ .Starred x p) → starEach es env = treesOf es env
 | [], _ => rfl
 | e :: es, n => by rw [noStar_of (n e mz), trees_of fun x m => n x (mc _ m)]; rfl
theorem bJ (pos : Pos) (es : List Expr) (env : Env) : backTo pos (treesOf es env) = treesOf es env := by
 unfold backTo treesOf
 rw [List.map_map]
 rfl
theorem trees_plain (es : List Expr) (env : Env) : (treesOf es env).any (·.1) = false := by
 unfold treesOf
 rw [List.any_map]
 exact List.any_eq_false.mpr fun x _ => by simp
theorem args_ok {f : Expr → MR D} : ∀ {es : List Expr} {r : Except SStr (List D)} {s : Shared} {Q : List Value → Shared → Prop}, mapR f es = some r → (∀ e ∈ es, ∀ r, f e = some r → c.Tr (eval e c.env) r) → c.I s.heap → c.PL s r Q E →
  wpAny c.M c.A (spliced (treesOf es c.env)) Q E s
 | [], r, s, Q, hr, _, I, p => by obtain rfl := si hr; exact Calls.spliced_nil (p s.heap s.toks [] (Up.refl _ _) RpL_nil)
 | e :: es, r, s, Q, hr, hx, I, p => by
  unfold mapR at hr
  refine Calls.spliced_cons ?_
  cases q : f e with
  | none => rw [q] at hr; cases hr
  | some y =>
   rw [q] at hr
   cases y with
   | error k =>
    obtain rfl := si hr
    exact hx e mz _ q s _ E I p
   | ok d =>
    refine hx e mz _ q s _ E I fun h1 tk v u rv => ?_
    simp only [bnd] at hr
    cases q2 : mapR f es with
    | none => rw [q2] at hr; cases hr
    | some y2 =>
     rw [q2] at hr
     cases y2 with
     | error k =>
      obtain rfl := si hr
      exact args_ok q2 (fun e m => hx e (mc _ m)) (I.up u) (PX_later p u)
     | ok ds =>
      obtain rfl := si hr
      exact args_ok q2 (fun e m => hx e (mc _ m)) (I.up u) fun h2 tk2 vs u2 rvs => p h2 tk2 _ (u.trans u2) (RpL_cons (rv.up u2) rvs)
inductive Ct.Iter (c : Ct) (h0 : Heap) (h : Heap) (it : Value) (ds : List D) : Prop
 | mk (I fp vals St) : it = .ref I → Walk c.prog c.w c.A I fp vals St → St 0 h → (∀ b ∈ fp, Okk c.S c.W (frs c.l) b ∧ ∃ o, h0.get? b = some o) → h0.get? I = none → vals.length = ds.length →
  (∀ (i : Nat) (v : Value) (d : D), vals[i]? = some v → ds[i]? = some d → c.Rp h0 v d) → c.Iter h0 h it ds
def Ct.Src (c : Ct) (h : Heap) (x : Value) (ds : List D) : Prop := ∀ (s : Shared) (Q : VQ) (E : VQ), c.I s.heap → Up (frs c.l) h s.heap →
 (∀ h1 it, Up (frs c.l) s.heap h1 → c.Iter s.heap h1 it ds → Q it { s with heap := h1 }) → wpAny c.M c.A (pyIter x) Q E s
def Ct.PI (c : Ct) (s : Shared) (r : Except SStr (List D)) (Q : VQ) (E : VQ) : Prop := match r with
 | .ok ds => ∀ h' tk v, Up (frs c.l) s.heap h' → c.Src h' v ds → Q v { s with heap := h', toks := tk }
 | .error k => c.PX s k E
theorem rdAll_vals {vs : List Value} {ds : List D} {as : List Addr} {h : Heap} (r : RdAll c.prog c.w h vs ds as) (k : ∀ a ∈ as, Okk c.S c.W (frs c.l) a) : ∀ (i : Nat) (v : Value) (d : D), vs[i]? = some v → ds[i]? = some d → c.Rp h v d := fun i v d e1 e2 => by
 obtain ⟨u, bs, q1, q2, q3⟩ := rdAll_get r e2
 rw [e1] at q1
 obtain rfl := si q1
 exact ⟨bs, q2, fun b m => k b (q3 b m)⟩
theorem rdKv_keys : ∀ {xs : List (Ky × Addr × Value)} {kvs : List (D × D)} {as : List Addr} {h : Heap}, RdKv c.prog c.w h xs kvs as → (∀ a ∈ as, Okk c.S c.W (frs c.l) a) →
  ∀ (i : Nat) (v : Value) (d : D), (xs.map fun x => Value.ref x.2.1)[i]? = some v → (kvs.map (·.1))[i]? = some d → c.Rp h v d
 | _, [], _, _, x, _, i, v, d, _, e => by simp at e
 | _, (k, d') :: kvs, _, _, x, ok, i, v, d, e1, e2 => by
  obtain ⟨ky, a, u, r, bs, cs, ds, rfl, rfl, rfl, p, _, y⟩ := rdKv_cons x
  cases i with
  | zero =>
   obtain rfl := si e1; obtain rfl := si e2
   exact ⟨bs, p, fun b m => ok b (ml _ (ml _ m))⟩
  | succ i => exact rdKv_keys y (fun b m => ok b (mr _ m)) i v d (by simpa using e1) (by simpa using e2)
theorem rdKv_vals : ∀ {xs : List (Ky × Addr × Value)} {kvs : List (D × D)} {as : List Addr} {h : Heap}, RdKv c.prog c.w h xs kvs as → (∀ a ∈ as, Okk c.S c.W (frs c.l) a) →
  ∀ (i : Nat) (v : Value) (d : D), (xs.map fun x => x.2.2)[i]? = some v → (kvs.map (·.2))[i]? = some d → c.Rp h v d
 | _, [], _, _, x, _, i, v, d, _, e => by simp at e
 | _, (k, d') :: kvs, _, _, x, ok, i, v, d, e1, e2 => by
  obtain ⟨ky, a, u, r, bs, cs, ds, rfl, rfl, rfl, _, p, y⟩ := rdKv_cons x
  cases i with
  | zero =>
   obtain rfl := si e1; obtain rfl := si e2
   exact ⟨cs, p, fun b m => ok b (ml _ (mr _ m))⟩
  | succ i => exact rdKv_vals y (fun b m => ok b (mr _ m)) i v d (by simpa using e1) (by simpa using e2)
theorem src_data {d : D} {ds : List D} {v : Value} (hh : c.A.handled = none) (e : iterOf d = some ds) (r : c.Rp h v d) : c.Src h v ds := by
 intro s Q E I u hQ
 obtain ⟨as, r, ka⟩ := r
 have r := Rd.keep (fun a m o e => u.at e (ka a m).2.2) r
 cases d with
 | list l =>
  obtain ⟨_, e⟩ := aB e
  obtain rfl := si e
  obtain ⟨a, o, vs, n, bs, rfl, rfl, h1, c1, d1, r1⟩ := rd_list r
  have hl : s.heap.IsList a vs := ⟨o, h1, c1, n, d1⟩
  refine wpAny_pyIter_list hl (hQ _ _ (Up.push _ _) ⟨_, [a], vs.toList, _, rfl, Walk.list hh _ a (Nat.ne_of_lt (Heap.lt_size h1)) vs, ⟨⟨_, Heap.get?_push_size _ rfl, rfl, rfl⟩, o, Heap.get?_push_of_some _ h1, c1, n, d1⟩, fun b m => ?_, aR _, aN r1, fun i v d e1 e2 => ?_⟩)
  ·obtain rfl : b = a := by simpa using m
   exact ⟨ka _ mz, o, h1⟩
  ·exact rdAll_vals r1 (fun a m => ka a (mc _ m)) i v d e1 e2
 | tuple l =>
  obtain ⟨_, e⟩ := aB e
  obtain rfl := si e
  obtain ⟨a, o, vs, n, bs, rfl, rfl, h1, c1, d1, r1⟩ := rd_tuple r
  have hl : s.heap.IsTuple a vs := ⟨o, h1, c1, n, d1⟩
  refine wpAny_pyIter_tuple hl (hQ _ _ (Up.push _ _) ⟨_, [a], vs.toList, _, rfl, Walk.tuple hh _ a (Nat.ne_of_lt (Heap.lt_size h1)) vs, ⟨⟨_, Heap.get?_push_size _ rfl, rfl, rfl⟩, o, Heap.get?_push_of_some _ h1, c1, n, d1⟩, fun b m => ?_, aR _, aN r1, fun i v d e1 e2 => ?_⟩)
  ·obtain rfl : b = a := by simpa using m
   exact ⟨ka _ mz, o, h1⟩
  ·exact rdAll_vals r1 (fun a m => ka a (mc _ m)) i v d e1 e2
 | dict l =>
  obtain ⟨_, e⟩ := aB e
  obtain rfl := si e
  obtain ⟨a, xs, bs, rfl, rfl, na, hd, kv⟩ := rd_dict r
  obtain ⟨o, es, ep, ho, hx, hdd, he, _⟩ := id hd
  have hm : DictEs s.heap a es ep := ⟨o, ho, hx, hdd⟩
  have ek : es.toList.map (·.key) = xs.map fun x => Value.ref x.2.1 := by rw [he, List.map_map]; rfl
  refine pyIter_es na hm (hQ _ _ (Up.push _ _) ⟨_, [a], _, _, rfl, Walk.keys hh _ a (Nat.ne_of_lt (Heap.lt_size ho)) es ep, ⟨⟨_, Heap.get?_push_size _ rfl, rfl, rfl⟩, o, Heap.get?_push_of_some _ ho, hx, hdd⟩, fun b m => ?_, aR _, ?_, fun i v d e1 e2 => ?_⟩)
  ·obtain rfl : b = a := by simpa using m
   exact ⟨ka _ mz, o, ho⟩
  ·rw [ek]; simp [bX kv]
  ·rw [ek] at e1
   exact rdKv_keys kv (fun a m => ka a (mc _ m)) i v d e1 e2
 | _ => exact nn e
theorem src_values {l : List (D × D)} {a x : Addr} (hh : c.A.handled = none) (r : c.Rp h (.ref a) (.dict l)) (hv : h.IsValuesView x a) (nx : x ∉ frs c.l) : c.Src h (.ref x) (l.map (·.2)) := by
 intro s Q E I u hQ
 obtain ⟨as, r, ka⟩ := r
 have r := Rd.keep (fun a m o e => u.at e (ka a m).2.2) r
 obtain ⟨a', xs, bs, e1, rfl, na, hd, kv⟩ := rd_dict r
 cases e1
 obtain ⟨ox, hox, hcx, hdx⟩ := hv
 have hox := u.at hox nx
 obtain ⟨o, es, ep, ho, hx, hdd, he, _⟩ := id hd
 have hm : DictEs s.heap a es ep := ⟨o, ho, hx, hdd⟩
 have ek : es.toList.map (·.val) = xs.map fun x => x.2.2 := by rw [he, List.map_map]; rfl
 refine iter_values ⟨ox, hox, hcx, hdx⟩ hm (hQ _ _ (Up.push _ _) ⟨_, [a], _, _, rfl, Walk.values hh _ a (Nat.ne_of_lt (Heap.lt_size ho)) es ep, ⟨⟨_, Heap.get?_push_size _ rfl, rfl, rfl⟩, o, Heap.get?_push_of_some _ ho, hx, hdd⟩, fun b m => ?_, aR _, ?_, fun i v d e1 e2 => ?_⟩)
 ·obtain rfl : b = a := by simpa using m
  exact ⟨ka _ mz, o, ho⟩
 ·rw [ek]; simp [bX kv]
 ·rw [ek] at e1
  exact rdKv_vals kv (fun a m => ka a (mc _ m)) i v d e1 e2
theorem src_range {a b : Int} {t u v : Tok} {r : Addr} (hh : c.A.handled = none) (nr : r ∉ frs c.l) (ha : -1000000 ≤ a) (hb : b ≤ 1000000) (ha' : a ≤ 1000000) (hb' : -1000000 ≤ b) (hr : IsRange h r a b 1 t u v) : c.Src h (.ref r) (intsD (upto a (b - a).toNat)) := by
 intro s Q E I up hQ
 have hr := up.at hr nr
 refine wpAny_pyIter_range hr (small_one (by omega) (by omega) (by omega) (by omega)) (hQ _ _ (Up.push _ _) ⟨_, [], _, _, rfl, Walk.range hh _ a (b - a).toNat, ?_, fun b m => absurd m n0, aR _, ?_, fun i v d e1 e2 => ?_⟩)
 ·refine (Heap.get?_push_size _ rfl).trans ?_
  rw [rangeSize_one]
  have e : (if a < b then b - a else 0) = ((b - a).toNat : Int) := by split <;> omega
  rw [e]
  simp
 ·simp [intsD]
 ·rw [List.getElem?_map, Option.map_eq_some_iff] at e1
  obtain ⟨x, q, rfl⟩ := e1
  simp only [intsD, List.getElem?_map, q] at e2
  obtain rfl := si e2
  exact rp_int _ _
end
theorem lookup_zip : ∀ {xs : List SStr} {vs : List Value}, xs.Nodup → vs.length = xs.length → (∀ n ∈ xs, ((xs.zip vs).lookup n).isSome = true) ∧ (xs.filterMap fun n => ((xs.zip vs).lookup n).map (n, ·)) = xs.zip vs
 | [], [], _, _ => ⟨fun _ m => (nomatch m), rfl⟩
 | x :: xs, v :: vs, nd, hl => by
  rw [List.nodup_cons] at nd
  obtain ⟨h1, h2⟩ := lookup_zip nd.2 (by simpa using hl)
  have ne : ∀ n ∈ xs, (n == x) = false := fun n m => beq_eq_false_iff_ne.mpr fun q => nd.1 (q ▸ m)
  refine ⟨fun n m => ?_, ?_⟩
  ·rcases mp m with rfl | m
   ·simp [List.lookup_cons]
   ·simp only [List.zip_cons_cons, List.lookup_cons, ne n m]
    exact h1 n m
  ·rw [List.filterMap_cons]
   simp only [List.zip_cons_cons, List.lookup_cons, beq_self_eq_true, Option.map_some]
   congr 1
   refine Eq.trans ?_ h2
   have cg : ∀ l : List SStr, (∀ n ∈ l, (n == x) = false) → l.filterMap (fun n => Option.map (fun y => (n, y)) (match n == x with | true => some v | false => List.lookup n (xs.zip vs))) = l.filterMap fun n => ((xs.zip vs).lookup n).map (n, ·) := by
    intro l
    induction l with
    | nil => intro _; rfl
    | cons a l ih =>
     intro k
     rw [List.filterMap_cons, List.filterMap_cons, k a mz, ih fun n m => k n (mc _ m)]
   exact cg xs ne
theorem bindArgs_plain {fd : FuncData} {as : List Arg} {vals : List Value} (hp : fd.params = ⟨[], as, none, [], [], none, []⟩) (hd : fd.defaults = .none) (hn : (as.map (·.arg)).Nodup) (hl : vals.length = as.length) :
  bindArgs fd ⟨vals, []⟩ = pure ((as.map (·.arg)).zip vals) := by
 have e0 : seqItems? .none = pure none := rfl
 unfold bindArgs
 simp only [hp, hd, e0, List.map_nil, List.nil_append, List.append_nil]
 have hl' : vals.length = (as.map (·.arg)).length := by simpa using hl
 generalize as.map (·.arg) = xs at hn hl' ⊢
 obtain ⟨l1, l2⟩ := lookup_zip hn (vs := vals) hl'
 have hm : xs.filter (fun n => ((xs.zip vals).lookup n).isNone) = [] := by
  rw [List.filter_eq_nil_iff]
  intro n m
  have := l1 n m
  simp only [Option.isSome_iff_ne_none, ne_eq] at this
  simpa using this
 have hg : ¬ (vals.length > xs.length) := by omega
 simp [hl', hm, l2]
noncomputable def nodupS : List SStr → Bool
 | [] => true
 | x :: r => !(r.any fun y => sEq x y) && nodupS r
theorem nodupS_iff : ∀ {l : List SStr}, nodupS l = true → l.Nodup
 | [], _ => List.nodup_nil
 | x :: r, h => by
  unfold nodupS at h
  obtain ⟨h1, h2⟩ := ba h
  refine List.nodup_cons.mpr ⟨fun m => ?_, nodupS_iff h2⟩
  have : (r.any fun y => sEq x y) = true := List.any_eq_true.mpr ⟨x, m, sEq_refl x⟩
  rw [this] at h1
  exact ft h1
noncomputable def fnOk (fn : Fn) : Bool := nodupS fn.params && (fn.params.all fun x => fn.names.lookup x == some .local || fn.names.lookup x == some .cell) && (fn.names.lookup dbg).isNone && (fn.names.lookup cdn).isNone
noncomputable abbrev dD (f : SStr) (as : List Arg) (fn : Fn) (scope : Scope) (pm cd doc : Value) : FuncData := Calls.docDef f ⟨[], as, none, [], [], none, []⟩ fn.body scope pm cd doc
inductive FnEx (hb : Heap) (f : SStr) (fn : Fn) (a : Addr) : Prop
 | mk (o : Obj) (as : List Arg) (scope : Scope) (pm cd doc : Value) : hb.get? a = some o → o.data = .func (dD f as fn scope pm cd doc) → hb.CodeRec cd f → scope.names = fn.names →
  scope.kind = .function → scope.isCoroutine = false → scope.isGenerator = false → as.map (·.arg) = fn.params → FnEx hb f fn a
structure FnAt (hb : Heap) (f : SStr) (fn : Fn) (a : Addr) : Prop where
 ex : FnEx hb f fn a
 ok : fnOk fn = true
structure FnOk (fn : Fn) : Prop where
 nd : fn.params.Nodup
 loc : ∀ x ∈ fn.params, fn.names.lookup x = some .local ∨ fn.names.lookup x = some .cell
 d1 : fn.names.lookup dbg = none
 d2 : fn.names.lookup cdn = none
theorem fnOk_of {fn : Fn} (ok : fnOk fn = true) : FnOk fn := by
 obtain ⟨ok, o4⟩ := ba ok
 obtain ⟨ok, o3⟩ := ba ok
 obtain ⟨o1, o2⟩ := ba ok
 exact ⟨nodupS_iff o1, fun x m => (Bool.or_eq_true_iff.mp (la o2 x m)).imp bq bq, ni o3, ni o4⟩
theorem cellsFrom_acc : ∀ (names : List (SStr × NameKind)) (n : Nat) (acc : List (SStr × Addr)) (x : SStr), (acc.lookup x).isSome = true → ((cellsFrom n names acc).lookup x).isSome = true
 | [], _, _, _, h => h
 | (y, k) :: r, n, acc, x, h => by
  unfold cellsFrom
  split
  ·refine cellsFrom_acc r _ _ x ?_
   rw [List.lookup_cons]
   cases x == y <;> simp [h]
  ·exact cellsFrom_acc r _ _ x h
theorem cellsFrom_has : ∀ (names : List (SStr × NameKind)) (n : Nat) (acc : List (SStr × Addr)) (x : SStr), names.lookup x = some .cell → ((cellsFrom n names acc).lookup x).isSome = true
 | [], _, _, _, h => by exact nn h
 | (y, k) :: r, n, acc, x, h => by
  unfold cellsFrom
  rw [List.lookup_cons] at h
  cases q : x == y with
  | true =>
   rw [q] at h
   obtain rfl := si h
   rw [if_pos (by rfl)]
   exact cellsFrom_acc r _ _ x (by simp [List.lookup_cons, q])
  | false =>
   rw [q] at h
   split
   ·exact cellsFrom_has r _ _ x h
   ·exact cellsFrom_has r _ _ x h
theorem bL0 (kd : SStr → Option NameKind) (m : NM) : bindL kd [] m = m := rfl
theorem bL (kd : SStr → Option NameKind) (n : SStr) (v : Value) (r : List (SStr × Value)) (m : NM) : bindL kd ((n, v) :: r) m = bindL kd r (if kd n = some .local then fun y => if y = n then some v else m y else m) := rfl
theorem bC (kd : SStr → Option NameKind) (n : SStr) (v : Value) (r : List (SStr × Value)) (m : NM) : bindC kd ((n, v) :: r) m = bindC kd r (if kd n = some .local then m else fun y => if y = n then some v else m y) := rfl
theorem bindL_other {kd : SStr → Option NameKind} : ∀ {binds : List (SStr × Value)} {m : NM} {x : SStr}, x ∉ binds.map (·.1) → bindL kd binds m x = m x
 | [], _, _, _ => rfl
 | (n, v) :: r, m, x, h => by
  simp only [List.map_cons, List.mem_cons, not_or] at h
  rw [bL, bindL_other h.2]
  split
  ·show (if x = n then _ else _) = _
   rw [if_neg h.1]
  ·rfl
theorem bindC_other {kd : SStr → Option NameKind} : ∀ {binds : List (SStr × Value)} {m : NM} {x : SStr}, x ∉ binds.map (·.1) → bindC kd binds m x = m x
 | [], _, _, _ => rfl
 | (n, v) :: r, m, x, h => by
  simp only [List.map_cons, List.mem_cons, not_or] at h
  rw [bC, bindC_other h.2]
  split
  ·rfl
  ·show (if x = n then _ else _) = _
   rw [if_neg h.1]
inductive BindsAt (prog : Program) (w : World) (h : Heap) (kd : SStr → Option NameKind) (xs : List SStr) (vals : List Value) (as : List Addr) (m cm : NM) (x : SStr) (b : Bd) : Prop
 | mk (d v bs) : b = .imm d → Rd prog w h v d bs → (∀ a ∈ bs, a ∈ as) → x ∈ xs → (kd x = some .local → bindL kd (xs.zip vals) m x = some v) → (¬ kd x = some .local → bindC kd (xs.zip vals) cm x = some v) → BindsAt prog w h kd xs vals as m cm x b
theorem binds_at {prog : Program} {w : World} {h : Heap} {kd : SStr → Option NameKind} : ∀ {xs : List SStr} {ds : List D} {vals : List Value} {as : List Addr} {vs : Vars} {m cm : NM} {x : SStr} {b : Bd}, xs.Nodup → bindP xs ds = some vs → RdAll prog w h vals ds as → lk vs x = some b →
  BindsAt prog w h kd xs vals as m cm x b
 | [], [], _, _, vs, _, _, x, b, _, e, _, q => by obtain rfl := si e; exact nn q
 | [], _ :: _, _, _, _, _, _, _, _, _, e, _, _ => by exact nn e
 | _ :: _, [], _, _, _, _, _, _, _, _, e, _, _ => by exact nn e
 | y :: xs, d :: ds, vals, as, vs, m, cm, x, b, nd, e, r, q => by
  unfold bindP at e
  obtain ⟨vs', e', rfl⟩ := me e
  obtain ⟨v, vals', bs, cs, rfl, rfl, r1, r2⟩ := bB r
  rw [List.nodup_cons] at nd
  have len : vals'.length = ds.length := aN r2
  have out : y ∉ (xs.zip vals').map (·.1) := fun m => by
   obtain ⟨p, hp, rfl⟩ := List.mem_map.mp m
   exact nd.1 (List.of_mem_zip hp).1
  unfold lk at q
  cases hxy : sEq y x with
  | true =>
   obtain rfl := aX.mp hxy
   rw [hxy] at q
   obtain rfl := si q
   refine ⟨d, v, bs, rfl, r1, fun a m => ml _ m, mz, fun k => ?_, fun k => ?_⟩
   ·simp only [List.zip_cons_cons, bL]
    rw [bindL_other out, if_pos k]
    simp
   ·simp only [List.zip_cons_cons, bC]
    rw [bindC_other out, if_neg k]
    simp
  | false =>
   rw [hxy] at q
   obtain ⟨d', v', es, rfl, q1, q2, q3, q4, q5⟩ := binds_at (kd := kd) (m := if kd y = some .local then fun z => if z = y then some v else m z else m) (cm := if kd y = some .local then cm else fun z => if z = y then some v else cm z) nd.2 e' r2 q
   exact ⟨d', v', es, rfl, q1, fun a m => mr _ (q2 a m), mc _ q3, q4, q5⟩
section
variable {prog : Program} {w : World} {hb : Heap} {S : Addr → Prop} {l : List Env}
noncomputable abbrev frameW (env : Env) : List Addr := env.locals :: (env.cells.map (·.1)).filterMap fun y => env.cells.lookup y
theorem frameW_cell {env : Env} {y : SStr} {c : Addr} (e : env.cells.lookup y = some c) : c ∈ frameW env := mc _ (List.mem_filterMap.mpr ⟨y, List.mem_map.mpr ⟨(y, c), mem_of_lookup e, rfl⟩, e⟩)
theorem frameW_cases {env : Env} {b : Addr} (m : b ∈ frameW env) : b = env.locals ∨ ∃ y, env.cells.lookup y = some b := by
 rcases mp m with m | m
 ·exact .inl m
 ·obtain ⟨y, _, e⟩ := List.mem_filterMap.mp m
  exact .inr ⟨y, e⟩
inductive Entered (prog : Program) (w : World) (hb : Heap) (S : Addr → Prop) (l : List Env) (env : Env) (s s₁ : Shared) (vs : Vars) : Prop
 | mk (W) : Inv prog w hb S (env :: l) env W s₁.heap vs → (∀ b ∈ W, s.heap.get? b = none) → (h' : Heap) → (tk : Nat) → s₁ = { s with heap := h', toks := tk } → (∀ b o, s.heap.get? b = some o → h'.get? b = some o) → Entered prog w hb S l env s s₁ vs
theorem Inv.enter {fn : Fn} {env : Env} {scope : Scope} {s s₁ : Shared} {vals : List Value} {ds : List D} {rs : List Addr} {vs : Vars}
  (eL : env.locals = s.heap.objs.size) (eS : env.scope = scope) (eF : env.frame = some env.locals) (eC : env.cells = cellsFrom (s.heap.objs.size + 1) scope.names [])
  (st : hb.StaysIn s.heap) (fr : Frs hb l s.heap) (fresh : ∀ a, s.heap.get? a = none → S a) (base : ∀ a o, hb.get? a = some o → S a) (ok : fnOk fn = true) (hn : scope.names = fn.names) (hk : scope.kind = .function)
  (ra : RdAll prog w s.heap vals ds rs) (ka : ∀ a ∈ rs, Okk S [] (frs l) a) (hv : bindP fn.params ds = some vs)
  (x : InCallC s env.locals (bindL env.kindOf (fn.params.zip vals) fun _ => none) env.cells (bindC env.kindOf (fn.params.zip vals) fun _ => none) s₁) : Entered prog w hb S l env s s₁ vs := by
 have eK : ∀ y, env.kindOf y = fn.names.lookup y := fun y => by show env.scope.names.lookup y = _; rw [eS, hn]
 have ok := fnOk_of ok
 obtain ⟨h', tk, rfl, keep⟩ := x.done
 have u : Up (frs l) s.heap h' := .of_keep keep
 have noL : ∀ c, s.heap.objs.size ≤ c → s.heap.get? c = none := fun c hc => by
  cases q : s.heap.get? c with
  | none => rfl
  | some o => exact absurd (Heap.lt_size q) (Nat.not_lt.mpr hc)
 have noB : ∀ c, s.heap.objs.size ≤ c → hb.get? c = none := fun c hc => by
  cases q : hb.get? c with
  | none => rfl
  | some o => exact nox (noL c hc) (st c o q)
 have hns := x.toInCall.ns
 have ab : ∀ y c, env.cells.lookup y = some c → s.heap.objs.size < c := fun y c e => eL ▸ x.above y c (mem_of_lookup e)
 have has : ∀ y, env.kindOf y = some .cell → ∃ c, env.cells.lookup y = some c := fun y e => by
  have := cellsFrom_has scope.names (s.heap.objs.size + 1) [] y (by rw [hn, ← eK]; exact e)
  rw [← eC] at this
  exact ie this
 have wNew : ∀ b ∈ frameW env, s.heap.objs.size ≤ b := fun b m => by
  rcases frameW_cases m with rfl | ⟨y, e⟩
  ·exact Nat.le_of_eq eL.symm
  ·exact Nat.le_of_lt (ab y b e)
 have alive : ∀ {b}, (∃ o, s.heap.get? b = some o) → b ∉ frameW env := fun {b} e m => let ⟨_, e⟩ := e; nox (noL b (wNew b m)) e
 have wl : ∀ b ∈ frameW env, WlAt hb h' b := fun b m => .of (noB b (wNew b m)) (by
  rcases frameW_cases m with rfl | ⟨y, e⟩
  ·exact ns_ex hns
  ·exact cell_ex (x.cell y b e))
 have fr' : Frs hb (env :: l) h' := by
  obtain ⟨o, e, z⟩ := ns_nf hns
  exact ⟨by rw [eS, hk]; decide, ⟨_, o, eF, noB _ (Nat.le_of_eq eL.symm), e, z⟩, Frs.up fr u⟩
 have okk : ∀ {bs : List Addr}, (∀ a ∈ bs, a ∈ rs) → Alive s.heap bs → ∀ a ∈ bs, Okk S (frameW env) (frs (env :: l)) a := fun {bs} r2 al a m => ⟨(ka a (r2 a m)).1, alive (al a m), fun mf => by
  simp only [frs, List.filterMap_cons, eF, List.mem_cons] at mf
  rcases mf with rfl | mf
  ·exact alive (al _ m) mz
  ·exact (ka a (r2 a m)).2.2 mf⟩
 refine ⟨frameW env, ⟨stays_up fr st u, fr', wl, mz, fun y c e => ⟨frameW_cell e, ?_, _, x.cell y c e⟩, has, fun y z c e1 e2 => name_of_addr x.apart (mem_of_lookup e1) (mem_of_lookup e2), ⟨(eK _).trans ok.d1, (eK _).trans ok.d2⟩, fun b e => fresh b (u.gone e), base, _, hns, fun _ => 0, fun y d e => ?_, fun y d e => ?_, fun y z d d' e => ?_⟩, fun b m => noL b (wNew b m), h', tk, rfl, keep⟩
 ·exact Nat.ne_of_gt (eL ▸ ab y c e)
 ·obtain ⟨d', v, bs, q, r1, r2, r3, r4, r5⟩ := binds_at (kd := env.kindOf) (m := fun _ => none) (cm := fun _ => none) ok.nd hv ra e
  cases q
  refine ⟨v, ?_, bs, Rd.keep (fun a m o e => keep a o e) r1, okk r2 (Rd.alive r1)⟩
  rcases ok.loc y r3 with k | k
  ·exact .inl ⟨(eK y).trans k, r4 ((eK y).trans k)⟩
  ·obtain ⟨c, hc⟩ := has y ((eK y).trans k)
   exact .inr ⟨.inl ((eK y).trans k), c, hc, r5 (fun z => nomatch z.symm.trans ((eK y).trans k)) ▸ x.cell y c hc⟩
 ·obtain ⟨d', v, bs, q, _⟩ := binds_at (kd := env.kindOf) (m := fun _ => none) (cm := fun _ => none) ok.nd hv ra e
  exact nomatch q
 ·obtain ⟨d', v, bs, q, _⟩ := binds_at (kd := env.kindOf) (m := fun _ => none) (cm := fun _ => none) ok.nd hv ra e
  exact nomatch q
end
structure Bs (prog : Program) (w : World) (hb : Heap) (C : Addr) (mg mb : NM) : Prop where
 low : ∃ o, hb.get? sysModules = some o
 lim : hb.NoLimit
 g : hb.Ns mainGlobals mg
 b : hb.Ns builtinsNs mb
 glob : ∀ x d, globD x = some d → ∃ v as, mg x = some v ∧ Rd prog w hb v d as
 fn : ∀ f q, fnOf f = some q → ∃ a, mg f = some (.ref a) ∧ FnAt hb f q a
 blt : ∀ f v, bltVal f = some v → mg f = none ∧ mb f = some v
 cls : mg (nm "CasFail") = some (.ref C)
theorem ns_stays {hb h : Heap} (st : hb.StaysIn h) {a : Addr} {m : NM} (n : hb.Ns a m) : h.Ns a m := let ⟨o, es, ep, e, r⟩ := n; ⟨o, es, ep, st a o e, r⟩
theorem lookup_isGlobal {ns : Names} {x : SStr} (h : bZ ns x = true) : ns.lookup x = some .globalImplicit := by
 unfold bZ at h
 split at h
 ·assumption
 ·exact ft h
section
variable {c : Ct} {s : Shared} {E : VQ} {Q : VQ} {mg mb : NM}
theorem ne_modules (B : Bs c.prog c.w c.hb c.C mg mb) (I : c.I s.heap) {h : Heap} (u : Up (frs c.l) s.heap h) : (h.objs.size == sysModules) = false := by
 obtain ⟨o, e⟩ := B.low
 obtain ⟨o', e'⟩ := u.ex (I.stay _ _ e)
 exact beq_eq_false_iff_ne.mpr fun q => by rw [← q, aR] at e'; exact nn e'
theorem global_name {x : SStr} {pos : Pos} (R : Room c.A c.env c.l c.n) (I : c.I s.heap) (k : bZ c.env.scope.names x = true) (h : wpAny c.M c.A (loadGlobal c.env x) Q E s) : wpAny c.M c.A (eval (.Name x pos) c.env) Q E s := by
 have hk : c.env.kindOf x = some .globalImplicit := lookup_isGlobal k
 refine Calls.Name_function_global R.kd hk h ?_
 cases q : x == ("__debug__" : SStr) with
 | false => rfl
 | true =>
  have e : x = dbg := bq q
  have := I.nd.1
  rw [← e, hk] at this
  exact sn this
theorem global_main {x : SStr} {pos : Pos} {v : Value} (R : Room c.A c.env c.l c.n) (B : Bs c.prog c.w c.hb c.C mg mb) (I : c.I s.heap) (k : bZ c.env.scope.names x = true) (hv : mg x = some v) (h : Q v s) : wpAny c.M c.A (eval (.Name x pos) c.env) Q E s :=
 global_name R I k (Calls.loadGlobal_global (mg := mg) (R.gl ▸ ns_stays I.stay B.g) hv h)
theorem global_blt {x : SStr} {pos : Pos} {v : Value} (R : Room c.A c.env c.l c.n) (B : Bs c.prog c.w c.hb c.C mg mb) (I : c.I s.heap) (k : bZ c.env.scope.names x = true) (hv : bltVal x = some v) (h : Q v s) : wpAny c.M c.A (eval (.Name x pos) c.env) Q E s :=
 global_name R I k (Calls.loadGlobal_builtin (mg := mg) (mb := mb) (R.gl ▸ ns_stays I.stay B.g) (B.blt _ _ hv).1 (R.bl ▸ ns_stays I.stay B.b) (B.blt _ _ hv).2 h)
theorem rp_base {v : Value} {d : D} {as : List Addr} (I : c.I s.heap) (r : Rd c.prog c.w c.hb v d as) : c.Rp s.heap v d :=
 ⟨as, Rd.keep (fun a _ o e => I.stay a o e) r, fun a m => by
  obtain ⟨o, e⟩ := Rd.alive r a m
  refine ⟨I.base a o e, fun q => ?_, fun q => ?_⟩
  ·rw [(I.wl a q).n] at e; exact nn e
  ·rw [(I.fr.ex q).n] at e; exact nn e⟩
theorem arm_none {k : Nat} {pos : Pos} : c.Tr (eval (.Constant .none k pos) c.env) (.ok .none) := fun s Q E I p => wpAny_Constant_none (p s.heap s.toks _ (Up.refl _ _) rp_none)
theorem arm_bool {b : Bool} {k : Nat} {pos : Pos} : c.Tr (eval (.Constant (.bool b) k pos) c.env) (.ok (.bool b)) := fun s Q E I p => wpAny_Constant_bool (p s.heap s.toks _ (Up.refl _ _) (rp_bool b))
theorem arm_int {i : Int} {k : Nat} {pos : Pos} : c.Tr (eval (.Constant (.int i) k pos) c.env) (.ok (.int i)) := fun s Q E I p => wpAny_Constant_int (p s.heap _ _ (Up.refl _ _) (rp_int i _))
theorem arm_str {x : SStr} {k : Nat} {pos : Pos} : c.Tr (eval (.Constant (.str x) k pos) c.env) (.ok (.str x)) := fun s Q E I p => wpAny_Constant_str (p s.heap _ _ (Up.refl _ _) (rp_str x _))
theorem arm_name {x : SStr} {pos : Pos} {d : D} (R : Room c.A c.env c.l c.n) (e : lk c.vs x = some (.imm d)) : c.Tr (eval (.Name x pos) c.env) (.ok d) := fun s Q E I p => name_imm R I e fun v r => p s.heap s.toks v (Up.refl _ _) r
theorem arm_glob {x : SStr} {pos : Pos} {d : D} (R : Room c.A c.env c.l c.n) (B : Bs c.prog c.w c.hb c.C mg mb) (k : bZ c.env.scope.names x = true) (e : globD x = some d) : c.Tr (eval (.Name x pos) c.env) (.ok d) := fun s Q E I p => by
 obtain ⟨v, as, hv, r⟩ := B.glob x d e
 exact global_main R B I k hv (p s.heap s.toks v (Up.refl _ _) (rp_base I r))
theorem bR {α : Type} {x : Option α} {r : Except SStr α} (h : ofO x = some r) : ∃ a, x = some a ∧ r = .ok a := by
 cases x with
 | none => exact nn h
 | some a => obtain rfl := si h; exact ⟨a, rfl, rfl⟩
theorem fits_le {l : List D} (h : fits l = true) : l.length ≤ 1000 := lb h
theorem RpL_len {h : Heap} {vs : List Value} {ds : List D} (x : c.RpL h vs ds) : vs.length = ds.length := let ⟨_, r, _⟩ := x; aN r
theorem mapR_args {f : Expr → MR D} {es : List Expr} {g : List D → MR D} {r : XD} {Q' : List Value → Shared → Prop} (hr : bnd (mapR f es) g = some r) (hx : ∀ e ∈ es, ∀ r, f e = some r → c.Tr (eval e c.env) r) (I : c.I s.heap) (p : c.P s r Q E)
  (hQ : ∀ ds vs h1 tk, g ds = some r → c.I h1 → Up (frs c.l) s.heap h1 → c.RpL h1 vs ds → c.P { s with heap := h1, toks := tk } r Q E → Q' vs { s with heap := h1, toks := tk }) : wpAny c.M c.A (spliced (treesOf es c.env)) Q' E s := by
 cases q : mapR f es with
 | none => rw [q] at hr; cases hr
 | some y =>
  rw [q] at hr
  cases y with
  | error k => obtain rfl := si hr; exact args_ok q hx I p
  | ok ds => exact args_ok q hx I fun h' tk vs u rv => hQ ds vs h' tk hr (I.up u) u rv (P_later p u)
theorem arm_tuple {f : Expr → MR D} {es : List Expr} {x1} {pos : Pos} {r : XD} (ns : ∀ e ∈ es, ∀ x p, e ≠ .Starred x p) (hx : ∀ e ∈ es, ∀ r, f e = some r → c.Tr (eval e c.env) r)
  (hr : bnd (mapR f es) (fun ds => ofO (aG (fits ds) (some (.tuple ds)))) = some r) : c.Tr (eval (.Tuple es x1 pos) c.env) r := fun s Q E I p => by
 rw [arm_eval_Tuple, trees_of ns, bJ]
 refine wB (wpAny_standAt (wB (mapR_args hr hx I p fun ds vs h1 tk e I1 u rv p1 => ?_)))
 obtain ⟨d, e', rfl⟩ := bR e
 obtain ⟨g, e'⟩ := aB e'
 obtain rfl := si e'
 have len := RpL_len rv
 have g := fits_le g
 obtain ⟨as, ra, ka⟩ := rv
 refine wpAny_newObj_type ?_ (by show vs.toArray.size ≤ sizeLine; simp only [sizeLine, List.size_toArray]; omega)
 exact p1 _ tk _ (Up.push _ _) ((rp_push (T := "tuple") (vs := vs.toArray) I1 (Up.refl _ _) ra ka _ ⟨rfl, rfl, rfl, rfl⟩).2 rfl)
theorem arm_list {f : Expr → MR D} {es : List Expr} {pos : Pos} {r : XD} (ns : ∀ e ∈ es, ∀ x p, e ≠ .Starred x p) (hx : ∀ e ∈ es, ∀ r, f e = some r → c.Tr (eval e c.env) r)
  (hr : bnd (mapR f es) (fun ds => ofO (aG (fits ds) (some (.list ds)))) = some r) : c.Tr (eval (.List es pos) c.env) r := fun s Q E I p => by
 rw [arm_eval_List, trees_of ns, bJ]
 refine wB (wpAny_standAt (wB (mapR_args hr hx I p fun ds vs h1 tk e I1 u rv p1 => ?_)))
 obtain ⟨d, e', rfl⟩ := bR e
 obtain ⟨g, e'⟩ := aB e'
 obtain rfl := si e'
 have len := RpL_len rv
 have g := fits_le g
 obtain ⟨as, ra, ka⟩ := rv
 refine wpAny_newObj_type ?_ (by show vs.toArray.size ≤ sizeLine; simp only [sizeLine, List.size_toArray]; omega)
 exact p1 _ tk _ (Up.push _ _) ((rp_push (T := "list") (vs := vs.toArray) I1 (Up.refl _ _) ra ka _ ⟨rfl, rfl, rfl, rfl⟩).1 rfl)
theorem arm_bin {x y : MR D} {l r : Expr} {op : Operator} {pos : Pos} {q : XD} (hx : ∀ r, x = some r → c.Tr (eval l c.env) r) (hy : ∀ q, y = some q → c.Tr (eval r c.env) q)
  (hr : bnd x (fun a => bnd y fun b => ofO (binop op a b)) = some q) : c.Tr (eval (.BinOp l op r pos) c.env) q := fun s Q E I p =>
 wpAny_BinOp (bindE hx hr I p fun a v h1 tk1 e1 I1 u1 ra p1 => bindE (s := { s with heap := h1, toks := tk1 }) hy e1 I1 p1 fun b u h2 tk2 e2 I2 u2 rb p2 => by
  obtain ⟨d, hd, rfl⟩ := bR e2
  exact binop_ok (s := { s with heap := h2, toks := tk2 }) hd I2 (ra.up u2) rb Q E fun h3 tk3 w u3 rw => p2 h3 tk3 w u3 rw)
theorem arm_neg {x : MR D} {l : Expr} {pos : Pos} {q : XD} (hx : ∀ r, x = some r → c.Tr (eval l c.env) r)
  (hr : bnd x (fun a => (asInt a).bind fun i => rt (.int (-i))) = some q) : c.Tr (eval (.UnaryOp .USub l pos) c.env) q := fun s Q E I p =>
 wpAny_UnaryOp (bindE hx hr I p fun a v h1 tk1 e1 I1 u1 ra p1 => by
  obtain ⟨i, hi, e1⟩ := obi e1
  obtain rfl := bA hi
  obtain rfl := si e1
  obtain ⟨t, rfl⟩ := aS ra
  exact PyProof.Rows.neg_int (p1 h1 _ _ (Up.refl _ _) (rp_int _ _)))
theorem boo_of {x y : MR D} {d : D} {q : XD} (e : (match d with | .bool true => x | .bool false => y | _ => none) = some q) : ∃ b, d = .bool b := by
 cases d with
 | bool b => exact ⟨b, rfl⟩
 | _ => exact nn e
theorem arm_if {t x y : MR D} {e a b : Expr} {pos : Pos} {q : XD} (ht : ∀ r, t = some r → c.Ts (isTrue e c.env (eval e c.env)) r) (hx : ∀ r, x = some r → c.Tr (eval a c.env) r) (hy : ∀ r, y = some r → c.Tr (eval b c.env) r)
  (hr : bnd t (fun q => match q with | .bool true => x | .bool false => y | _ => none) = some q) : c.Tr (eval (.IfExp e a b pos) c.env) q := fun s Q E I p =>
 wpAny_IfExp (bindT ht hr I p (fun d b' h1 tk1 e1 I1 u1 eb p1 => by
  subst eb
  cases b' with
  | true => exact hx _ e1 _ _ _ I1 p1
  | false => exact hy _ e1 _ _ _ I1 p1) fun d e1 => boo_of e1)
theorem arm_cmp (hu : c.A.units + 100 < cLine) {x y : MR D} {l r : Expr} {op : CmpOp} {pos : Pos} {q : XD} (hm : behindInMarks op r = false) (hx : ∀ r, x = some r → c.Tr (eval l c.env) r) (hy : ∀ q, y = some q → c.Tr (eval r c.env) q)
  (hr : bnd x (fun a => bnd y fun b => ofO (cmp op a b)) = some q) : c.Tr (eval (.Compare l [op] [r] pos) c.env) q := fun s Q E I p =>
 wpAny_Compare1 (bindE hx hr I p fun a v h1 tk1 e1 I1 u1 ra p1 => bindE (s := { s with heap := h1, toks := tk1 }) hy e1 I1 p1 fun b u h2 tk2 e2 I2 u2 rb p2 => by
  obtain ⟨d, hd, rfl⟩ := bR e2
  obtain ⟨z, rfl, hz⟩ := cmp_ok (s := { s with heap := h2, toks := tk2 }) hu hd (ra.up u2) rb
  exact hz Q E (p2 h2 tk2 _ (Up.refl _ _) (rp_bool z))) hm
theorem tst_cmp (hu : c.A.units + 100 < cLine) {x y : MR D} {l r : Expr} {op : CmpOp} {pos : Pos} {whole : Sem Value} {q : XD} (hm : behindInMarks op r = false) (hx : ∀ r, x = some r → c.Tr (eval l c.env) r) (hy : ∀ q, y = some q → c.Tr (eval r c.env) q)
  (hr : bnd x (fun a => bnd y fun b => ofO (cmp op a b)) = some q) : c.Ts (isTrue (.Compare l [op] [r] pos) c.env whole) q := fun s Q E I p =>
 wpAny_isTrue_Compare1 (bindE hx hr I p fun a v h1 tk1 e1 I1 u1 ra p1 => bindE (s := { s with heap := h1, toks := tk1 }) hy e1 I1 p1 fun b u h2 tk2 e2 I2 u2 rb p2 => by
  obtain ⟨d, hd, rfl⟩ := bR e2
  obtain ⟨z, rfl, hz⟩ := cmp_ok (s := { s with heap := h2, toks := tk2 }) hu hd (ra.up u2) rb
  exact hz _ E (wpAny_truthy_bool (p2 h2 tk2 _ (Up.refl _ _) (rp_bool z) z rfl))) hm
theorem tst_value {t : Sem Value} {e : Expr} {b : Bool} {r : XD} (h : c.Tr t r) (hr : ∀ d, r = .ok d → ∃ b, d = .bool b) (he : isTrue e c.env t = (do let v ← t; standAt e.pos; holding [v] (truthy v))) : c.Ts (isTrue e c.env t) r := fun s Q E I p =>
 isTrue_plain (h s _ E I (P_mono p fun d hd h' tk v u rv hq => by
  obtain ⟨b, rfl⟩ := hr d hd
  obtain rfl := bQ rv
  exact wpAny_truthy_bool (hq b rfl))) he
end
def Ct.PH (c : Ct) (s : Shared) (r : XD) (Q : VQ) (E : VQ) : Prop := match r with
 | .ok d => ∀ h' tk v, Up (frs c.l) s.heap h' → (c.Rp h' v d ∨ c.Half h' v d) → Q v { s with heap := h', toks := tk }
 | .error k => c.PX s k E
def Ct.TrH (c : Ct) (t : Sem Value) (r : XD) : Prop := ∀ (s : Shared) (Q : VQ) (E : VQ), c.I s.heap → c.PH s r Q E → wpAny c.M c.A t Q E s
section
variable {c : Ct} {s : Shared} {E : VQ} {Q : VQ} {mg mb : NM}
theorem trH_of {t : Sem Value} {r : XD} (h : c.Tr t r) : c.TrH t r := fun s Q E I p => h s Q E I (by
 cases r with
 | ok d => exact fun h' tk v u rv => p h' tk v u (.inl rv)
 | error k => exact p)
theorem trH_own {x : SStr} {pos : Pos} {d : D} (R : Room c.A c.env c.l c.n) (e : lk c.vs x = some (.own d)) : c.TrH (eval (.Name x pos) c.env) (.ok d) := fun s Q E I p =>
 name_own R I e fun a r n _ => p s.heap s.toks (.ref a) (Up.refl _ _) (.inr (half_own r n))
theorem bindH {t : Sem Value} {x : MR D} {f : D → MR D} {r : XD} {Q' : VQ} (hx : ∀ r, x = some r → c.TrH t r) (hr : bnd x f = some r) (I : c.I s.heap) (p : c.P s r Q E)
  (hQ : ∀ d v h1 tk, f d = some r → c.I h1 → Up (frs c.l) s.heap h1 → (c.Rp h1 v d ∨ c.Half h1 v d) → c.P { s with heap := h1, toks := tk } r Q E → Q' v { s with heap := h1, toks := tk }) : wpAny c.M c.A t Q' E s := by
 cases x with
 | none => exact nn hr
 | some y =>
  cases y with
  | error k => obtain rfl := si hr; exact hx _ rfl s Q' E I p
  | ok d => exact hx _ rfl s Q' E I fun h' tk v u rv => hQ d v h' tk hr (I.up u) u rv (P_later p u)
theorem bnd_bool {y : MR D} {q : XD} (h : bnd y (fun r => match r with | .bool b => rt (.bool b) | _ => none) = some q) : y = some q ∧ ∀ d, q = .ok d → ∃ b, d = .bool b := by
 cases y with
 | none => exact nn h
 | some y =>
  cases y with
  | error k => obtain rfl := si h; exact ⟨rfl, fun d e => nomatch e⟩
  | ok d =>
   simp only [bnd] at h
   split at h
   ·obtain rfl := si h; exact ⟨rfl, fun d e => by cases e; exact ⟨_, rfl⟩⟩
   ·exact nn h
theorem arm_and {x y : MR D} {a b : Expr} {pos : Pos} {q : XD} (hx : ∀ r, x = some r → c.Tr (eval a c.env) r) (hy : ∀ r, y = some r → c.Tr (eval b c.env) r)
  (hr : bnd x (fun q => match q with | .bool true => bnd y (fun r => match r with | .bool b => rt (.bool b) | _ => none) | .bool false => rt (.bool false) | _ => none) = some q) : c.Tr (eval (.BoolOp .And [a, b] pos) c.env) q := fun s Q E I p => by
 rw [arm_eval_BoolOp]
 show wpAny c.M c.A (do let v ← eval a c.env; standAt pos; let t ← holding [v] (truthy v); match BoolOp.And, t with | .And, false | .Or, true => pure v | _, _ => eval b c.env) Q E s
 refine wB (bindE hx hr I p fun d v h1 tk1 e1 I1 u1 rv p1 => wB (wpAny_standAt ?_))
 split at e1
 ·obtain rfl := bQ rv
  exact wB (wpAny_holding (wpAny_truthy_bool (hy _ (bnd_bool e1).1 _ _ _ I1 p1)))
 ·obtain rfl := bQ rv
  obtain rfl := si e1
  exact wB (wpAny_holding (wpAny_truthy_bool (wP (p1 h1 tk1 _ (Up.refl _ _) (rp_bool _)))))
 ·exact nn e1
theorem arm_or {x y : MR D} {a b : Expr} {pos : Pos} {q : XD} (hx : ∀ r, x = some r → c.Tr (eval a c.env) r) (hy : ∀ r, y = some r → c.Tr (eval b c.env) r)
  (hr : bnd x (fun q => match q with | .bool false => bnd y (fun r => match r with | .bool b => rt (.bool b) | _ => none) | .bool true => rt (.bool true) | _ => none) = some q) : c.Tr (eval (.BoolOp .Or [a, b] pos) c.env) q := fun s Q E I p => by
 rw [arm_eval_BoolOp]
 show wpAny c.M c.A (do let v ← eval a c.env; standAt pos; let t ← holding [v] (truthy v); match BoolOp.Or, t with | .And, false | .Or, true => pure v | _, _ => eval b c.env) Q E s
 refine wB (bindE hx hr I p fun d v h1 tk1 e1 I1 u1 rv p1 => wB (wpAny_standAt ?_))
 split at e1
 ·obtain rfl := bQ rv
  exact wB (wpAny_holding (wpAny_truthy_bool (hy _ (bnd_bool e1).1 _ _ _ I1 p1)))
 ·obtain rfl := bQ rv
  obtain rfl := si e1
  exact wB (wpAny_holding (wpAny_truthy_bool (wP (p1 h1 tk1 _ (Up.refl _ _) (rp_bool _)))))
 ·exact nn e1
theorem ts_last {op : BoolOp} {y : MR D} {b : Expr} {q : XD} (hy : ∀ r, y = some r → c.Ts (isTrue b c.env (eval b c.env)) r) (h : bnd y (fun r => match r with | .bool b => rt (.bool b) | _ => none) = some q) : c.Ts (allTrue op [b] c.env) q := fun s Q E I p => by
 rw [arm_allTrue_cons]
 refine wB (bindT hy h I p (fun d b' h1 tk1 e1 I1 u1 eb p1 => ?_) fun d e1 => ?_)
 ·subst eb
  obtain rfl := si e1
  have hq := p1 h1 tk1 _ (Up.refl _ _) (rp_bool b') b' rfl
  cases op <;> cases b' <;> first | exact wP hq | (rw [arm_allTrue_nil]; exact wP hq)
 ·split at e1
  ·exact ⟨_, rfl⟩
  ·exact nn e1
theorem ts_and {x y : MR D} {a : Expr} {rest : List Expr} {q : XD} (hx : ∀ r, x = some r → c.Ts (isTrue a c.env (eval a c.env)) r) (hy : ∀ r, y = some r → c.Ts (allTrue .And rest c.env) r)
  (hr : bnd x (fun q => match q with | .bool true => y | .bool false => rt (.bool false) | _ => none) = some q) : c.Ts (allTrue .And (a :: rest) c.env) q := fun s Q E I p => by
 rw [arm_allTrue_cons]
 refine wB (bindT hx hr I p (fun d b' h1 tk1 e1 I1 u1 eb p1 => ?_) fun d e1 => ?_)
 ·subst eb
  cases b' with
  | true => exact hy _ e1 _ _ _ I1 p1
  | false =>
   obtain rfl := si e1
   exact wP (p1 h1 tk1 _ (Up.refl _ _) (rp_bool false) false rfl)
 ·exact boo_of e1
theorem ts_or {x y : MR D} {a : Expr} {rest : List Expr} {q : XD} (hx : ∀ r, x = some r → c.Ts (isTrue a c.env (eval a c.env)) r) (hy : ∀ r, y = some r → c.Ts (allTrue .Or rest c.env) r)
  (hr : bnd x (fun q => match q with | .bool false => y | .bool true => rt (.bool true) | _ => none) = some q) : c.Ts (allTrue .Or (a :: rest) c.env) q := fun s Q E I p => by
 rw [arm_allTrue_cons]
 refine wB (bindT hx hr I p (fun d b' h1 tk1 e1 I1 u1 eb p1 => ?_) fun d e1 => ?_)
 ·subst eb
  cases b' with
  | false => exact hy _ e1 _ _ _ I1 p1
  | true =>
   obtain rfl := si e1
   exact wP (p1 h1 tk1 _ (Up.refl _ _) (rp_bool true) true rfl)
 ·cases d with
  | bool b => exact ⟨b, rfl⟩
  | _ => exact nn e1
theorem item_box {d k r : D} (e : item d k = some r) : isBox d = true := by cases d <;> first | rfl | exact nn e
theorem half_item {h : Heap} {v : Value} {d k r : D} (e : item d k = some r) (x : c.Rp h v d ∨ c.Half h v d) : c.Half h v d := x.elim (fun x => half_of x (item_box e)) id
theorem rpH_up {h h' : Heap} {v : Value} {d : D} (x : c.Rp h v d ∨ c.Half h v d) (u : Up (frs c.l) h h') : c.Rp h' v d ∨ c.Half h' v d := x.imp (·.up u) (half_up · u)
theorem arm_sub (hu : c.A.units + 100 < cLine) {x y : MR D} {v i : Expr} {pos : Pos} {q : XD} (hx : ∀ r, x = some r → c.TrH (eval v c.env) r) (hy : ∀ q, y = some q → c.Tr (eval i c.env) q)
  (hr : bnd x (fun d => bnd y fun k => ofO (item d k)) = some q) : c.Tr (eval (.Subscript v i pos) c.env) q := fun s Q E I p =>
 PyProof.Rows.Subscript_ (bindH hx hr I p fun a v h1 tk1 e1 I1 u1 ra p1 => bindE (s := { s with heap := h1, toks := tk1 }) hy e1 I1 p1 fun b u h2 tk2 e2 I2 u2 rb p2 => by
  obtain ⟨d, hd, rfl⟩ := bR e2
  exact item_ok (s := { s with heap := h2, toks := tk2 }) hu hd (half_item hd (rpH_up ra u2)) rb Q E fun h3 tk3 w u3 rw => p2 h3 tk3 w u3 rw)
theorem arm_slice {x y : MR D} {b : Bool} {v i : Expr} {p1 pos : Pos} {q : XD} (hx : ∀ r, x = some r → c.Tr (eval v c.env) r) (hy : ∀ q, y = some q → c.Tr (eval i c.env) q)
  (hr : bnd x (fun d => (asL d).bind fun l => bnd y (fun i => ofO ((cutL l b i).map .list))) = some q) : c.Tr (eval (.Subscript v (sliceTree b i p1) pos) c.env) q := fun s Q E I p =>
 PyProof.Rows.Subscript_ (bindE hx hr I p fun a v h1 tk1 e1 I1 u1 ra q1 => by
  obtain ⟨l, hl, e1⟩ := obi e1
  obtain rfl := asL_eq hl
  cases b with
  | false =>
   refine wpAny_Slice ?_
   simp only [evalPart_none, evalPart_some]
   refine wP (bindE (s := { s with heap := h1, toks := tk1 }) hy e1 I1 q1 fun b u h2 tk2 e2 I2 u2 rb q2 => wP ?_)
   obtain ⟨d, hd, rfl⟩ := bR e2
   obtain ⟨r, hc, rfl⟩ := me hd
   have u3 := Up.push (F := frs c.l) h2 { cls := .type "slice", data := .fields #[Value.none, u, Value.none] }
   exact upto_ok (s := { s with heap := h2.push { cls := .type "slice", data := .fields #[Value.none, u, Value.none] }, toks := tk2 }) hc (I2.up u3) ((ra.up u2).up u3) (rb.up u3) (Heap.IsSliceOf.new _ _ _ _) Q E fun h4 tk4 w u4 rw => q2 h4 tk4 w (u3.trans u4) rw
  | true =>
   refine wpAny_Slice ?_
   simp only [evalPart_none, evalPart_some]
   refine bindE (s := { s with heap := h1, toks := tk1 }) hy e1 I1 q1 fun b u h2 tk2 e2 I2 u2 rb q2 => wP (wP ?_)
   obtain ⟨d, hd, rfl⟩ := bR e2
   obtain ⟨r, hc, rfl⟩ := me hd
   have u3 := Up.push (F := frs c.l) h2 { cls := .type "slice", data := .fields #[u, Value.none, Value.none] }
   exact from_ok (s := { s with heap := h2.push { cls := .type "slice", data := .fields #[u, Value.none, Value.none] }, toks := tk2 }) hc (I2.up u3) ((ra.up u2).up u3) (rb.up u3) (Heap.IsSliceOf.new _ _ _ _) Q E fun h4 tk4 w u4 rw => q2 h4 tk4 w (u3.trans u4) rw)
inductive HalfD (c : Ct) (h : Heap) (v : Value) (l : List (D × D)) : Prop
 | mk (a xs bs) : v = .ref a → (a == sysModules) = false → h.DictOfH (bK c.prog c.w) a xs → RdKv c.prog c.w h xs l bs → (∀ b ∈ bs, Okk c.S c.W (frs c.l) b) → HalfD c h v l
theorem half_dict {h : Heap} {v : Value} {l : List (D × D)} (x : c.Half h v (.dict l)) : HalfD c h v l := by
 obtain ⟨a, as, rfl, r, n, k⟩ := x
 obtain ⟨a', xs, bs, e1, e2, na, hd, kv⟩ := rd_dict r
 cases e1
 cases e2
 exact ⟨a, xs, as, rfl, na, hd, kv, k⟩
theorem dictOf_exact {prog : Program} {w : World} {h : Heap} {d : Addr} {xs : List (Ky × Addr × Value)} (hd : h.DictOfH (bK prog w) d xs) : ∃ o, h.get? d = some o ∧ o.dict = none := let ⟨o, _, _, e, x, _⟩ := hd; ⟨o, e, x.2.1⟩
theorem arm_get (hu : c.A.units + 100 < cLine) {x y : MR D} {n : SStr} {np ap pos : Pos} {k v : Expr} {l : List (D × D)} {q : XD} (hn : c.TrH (eval (.Name n np) c.env) (.ok (.dict l))) (hx : ∀ r, x = some r → c.Tr (eval k c.env) r) (hy : ∀ q, y = some q → c.Tr (eval v c.env) q)
  (nk : ∀ e ∈ [k, v], ∀ x p, e ≠ .Starred x p) (hl : (ap.endLine == pos.line) = true)
  (hr : bnd x (fun a => bnd y fun b => ofO (aG (isKey a) (some ((dget l a).getD b)))) = some q) : c.Tr (eval (.Call (.Attribute (.Name n np) (nm "get") ap) [k, v] [] pos) c.env) q := fun s Q E I p => by
 refine wpAny_Call_method2_late rfl hl (by rw [trees_of nk, bJ]; rfl) (hn s _ E I fun h1 tk1 ov u1 ro => ?_)
 have ro : c.Half h1 ov (.dict l) := ro.elim (fun r => half_of r rfl) id
 obtain ⟨d, xs, bs, rfl, nd, hd, kv, kb⟩ := half_dict ro
 refine ⟨"dict", "dict.get", F.plainAttrs_dict, F.slot_dict_get, F.type_dict_get, hd.typeIs, fun a e => by cases e; exact dictOf_exact hd, ?_⟩
 refine wpAny_dict_get2_heap (knd := bK c.prog c.w) (show c.A.units + 1 + 10 < cLine by omega) nd ?_
 refine bindE (s := { s with heap := h1, toks := tk1 }) hx hr (I.up u1) (P_later p u1) fun a w h2 tk2 e2 I2 u2 ra p2 => bindE (s := { s with heap := h2, toks := tk2 }) hy e2 I2 p2 fun b z h3 tk3 e3 I3 u3 rb p3 => ?_
 obtain ⟨d', hd', rfl⟩ := bR e3
 obtain ⟨g, hd'⟩ := aB hd'
 obtain rfl := si hd'
 obtain ⟨ky, rfl, _⟩ := key_inv g
 obtain ⟨ks, rk, _⟩ := ra.up u3
 obtain ⟨ka, rfl, hky⟩ := rd_ky_ref rk
 have ro3 := half_up (half_up ro u2) u3
 obtain ⟨d2, ys, cs, e, _, hd3, kv3, kb3⟩ := half_dict ro3
 cases e
 refine ⟨ka, ky, ys, rfl, hky, hd3, ?_⟩
 cases q : dget l (kyD ky) with
 | some dv =>
  obtain ⟨a1, v1, es, q1, q2, q3⟩ := dget_some kv3 q
  rw [q] at p3
  rw [q1]
  exact p3 h3 _ v1 (Up.refl _ _) ⟨es, q2, fun b m => kb3 b (q3 b m)⟩
 | none =>
  rw [q] at p3
  rw [dget_none kv3 q]
  exact p3 h3 _ z (Up.refl _ _) rb
end
def SoundCall (prog : Program) (w : World) (hb : Heap) (C : Addr) (mg : NM) (n : Nat) (f : SStr) (ds : List D) (r : XD) : Prop :=
 (∃ q, fnOf f = some q) ∧ ∀ (a : Addr) (A : Around) (l : List Env) (S : Addr → Prop) (s : Shared) (vals : List Value) (as : List Addr) (Q : VQ) (E : VQ),
  mg f = some (.ref a) → A.handled = none → A.frames = some l → A.depth + n < recursionLimit → A.units + 16 * n + 100 < cLine → hb.StaysIn s.heap → Frs hb l s.heap → (∀ a, s.heap.get? a = none → S a) → (∀ a o, hb.get? a = some o → S a) →
  RdAll prog w s.heap vals ds as → (∀ a ∈ as, Okk S [] (frs l) a) → PostE prog w hb C S l [] s r Q E → wpAny (model prog w) A (call (.ref a) vals) Q E s
noncomputable abbrev Ct.on (c : Ct) (S : Addr → Prop) : Ct := { c with S := S }
section
variable {c : Ct} {s : Shared} {E : VQ} {Q : VQ} {mg mb : NM}
theorem P_true {q : XD} {S : Addr → Prop} {h1 : Heap} {tk : Nat} (p : c.P s q Q E) (u : Up (frs c.l) s.heap h1) : (c.on S).P { s with heap := h1, toks := tk } q (fun _ _ => True) E := by
 cases q with
 | ok d => exact fun _ _ _ _ _ => trivial
 | error k => exact PX_later p u
theorem arm_dict0 {pos : Pos} (B : Bs c.prog c.w c.hb c.C mg mb) : c.Tr (eval (.Dict [] [] pos) c.env) (.ok (.dict [])) := fun s Q E I p => by
 refine wpAny_Dict_empty ?_
 have nm := ne_modules B I (Up.refl _ s.heap)
 refine p _ _ _ (Up.push _ _) ⟨_, .dict nm (Heap.DictOfH.new _) .nil, fun a m => ?_⟩
 obtain rfl : a = s.heap.objs.size := by simpa using m
 exact new_ok I (Up.refl _ _) (aR _)
theorem arm_dict1 (hu : c.A.units + 100 < cLine) {x y : MR D} {k v : Expr} {pos : Pos} {q : XD} (B : Bs c.prog c.w c.hb c.C mg mb) (hx : ∀ S r, x = some r → (c.on S).Tr (eval k c.env) r) (hy : ∀ S q, y = some q → (c.on S).Tr (eval v c.env) q)
  (hr : bnd x (fun a => bnd y fun b => ofO (aG (isKey a && isRat b) (some (.dict [(a, b)])))) = some q) : c.Tr (eval (.Dict [some k] [v] pos) c.env) q := fun s Q E I p => by
 refine wpAny_Dict_any rfl rfl (by simp) (by simp) ?_
 have nm := ne_modules B I (Up.refl _ s.heap)
 generalize hD : s.heap.objs.size = Da at nm ⊢
 have nD : s.heap.get? Da = none := hD ▸ aR _
 generalize hh : s.heap.push { cls := .type "dict", data := .dict #[] } = h0
 have u0 : Up (frs c.l) s.heap h0 := hh ▸ Up.push _ _
 have eD : h0.DictOfH (bK c.prog c.w) Da [] := by rw [← hh, ← hD]; exact Heap.DictOfH.new _
 have aD : ∃ o, h0.get? Da = some o := let ⟨o, _, _, e, _⟩ := eD; ⟨o, e⟩
 have nF : Da ∉ frs c.l := fun m => by obtain ⟨o, e⟩ := I.alive m; exact nox nD e
 have J : (c.on fun a => c.S a ∧ ¬ (a = Da)).I h0 := Inv.apart (X := fun a => a = Da) I (fun a e => e ▸ nD) u0 (fun a e => e ▸ aD)
 show wpAny c.M c.A (do let kv ← eval k c.env; let vv ← holding [kv] (do let x ← eval v c.env; standAt pos; pure x); return (kv, vv) :: (← holding [kv, vv] (evalPairs []))) _ E { s with heap := h0 }
 refine wB (bindE (c := c.on fun a => c.S a ∧ ¬ (a = Da)) (s := { s with heap := h0 }) (hx _) hr J (P_true p u0) fun a ka h1 tk1 e1 I1 u1 ra p1 => wB (wpAny_holding (wB (bindE (c := c.on fun a => c.S a ∧ ¬ (a = Da)) (s := { s with heap := h1, toks := tk1 }) (hy _) e1 I1 p1 fun b kb h2 tk2 e2 I2 u2 rb p2 => wB (wpAny_standAt (wP ?_))))))
 obtain ⟨d, hd, rfl⟩ := bR e2
 obtain ⟨g, hd⟩ := aB hd
 obtain rfl := si hd
 obtain ⟨g1, g2⟩ := ba g
 obtain ⟨ky, rfl, _⟩ := key_inv g1
 obtain ⟨as, rk, kka⟩ := ra.up u2
 obtain ⟨bs, rv, kkb⟩ := rb
 obtain ⟨ad, rfl, hky⟩ := rd_ky_ref rk
 refine wB (wpAny_holding (wP (wP ?_)))
 unfold storeAll
 rw [List.forIn_cons]
 have eD2 : h2.DictOfH (bK c.prog c.w) Da [] := by
  obtain ⟨o, es, ep, e, r1, r2, r3, _, r5⟩ := eD
  exact ⟨o, es, ep, (u1.trans u2).at e nF, r1, r2, r3, (fun _ m => absurd m n0), r5⟩
 refine wB (wB (wpAny_dictSet_heap (knd := bK c.prog c.w) (show c.A.units + 10 < cLine by omega) hky eD2 (fun h3 hd3 sb => wP ?_) (by simp)))
 dsimp only
 rw [List.forIn_nil]
 refine wP (p h3 _ _ (fun b o e => ?_) ⟨_, .dict nm hd3 (.cons (rk.keep fun a m o e => (sb.2 a (kka a m).1.2).trans e) (rv.keep fun a m o e => (sb.2 a (kkb a m).1.2).trans e) .nil), fun a m => ?_⟩)
 ·have ne : b ≠ Da := by rintro rfl; exact nox nD e
  rcases (u0.trans (u1.trans u2)) b o e with q | ⟨m, sl, q⟩
  ·exact .inl ((sb.2 b ne).trans q)
  ·exact .inr ⟨m, sl, (sb.2 b ne).trans q⟩
 ·rcases mp m with rfl | m
  ·exact new_ok I (Up.refl _ _) nD
  ·have : a ∈ as ∨ a ∈ bs := by simpa using m
   rcases this with m | m
   ·exact ⟨(kka a m).1.1, (kka a m).2⟩
   ·exact ⟨(kkb a m).1.1, (kkb a m).2⟩
theorem evalArgs_ok {f : Value} {ts : List (Bool × Sem Value)} {Q' : Args → Shared → Prop} (hp : ts.any (·.1) = false) (h : wpAny c.M c.A (spliced ts) (fun vs s' => Q' ⟨vs, []⟩ s') E s) : wpAny c.M c.A (evalArgs f true ts []) Q' E s := by
 cases ts with
 | nil =>
  unfold evalArgs
  show wpAny c.M c.A (spliced [] >>= _) Q' E s
  refine wB (wpAny_mono h (fun vs s' h' => wB (wP ?_)) fun _ _ x => x)
  refine wpAny_holding ?_
  exact wB (wP (wB (wP (wP h'))))
 | cons x ts =>
  obtain ⟨b, t⟩ := x
  simp only [List.any_cons, Bool.or_eq_false_iff] at hp
  obtain ⟨rfl, _⟩ := hp
  exact Calls.evalArgs_plain h
theorem arm_fn {f : SStr} {fp pos : Pos} {es : List Expr} {g : Expr → MR D} {call : SStr → List D → MR D} {q : XD} (R : Room c.A c.env c.l c.n) (B : Bs c.prog c.w c.hb c.C mg mb)
  (hc : ∀ ds r, call f ds = some r → SoundCall c.prog c.w c.hb c.C mg c.n f ds r) (k : bZ c.env.scope.names f = true) (ns : ∀ e ∈ es, ∀ x p, e ≠ .Starred x p) (hx : ∀ e ∈ es, ∀ r, g e = some r → c.Tr (eval e c.env) r) (hf : ∃ q, fnOf f = some q)
  (hr : bnd (mapR g es) (call f) = some q) : c.Tr (eval (.Call (.Name f fp) es [] pos) c.env) q := fun s Q E I p => by
 obtain ⟨fn, hfn⟩ := hf
 obtain ⟨a, ha, F⟩ := B.fn f fn hfn
 refine PyProof.Rows.Call_Name (by rw [trees_of ns, bJ]) (global_main R B I k ha ?_)
 obtain ⟨o, as, scope, pm, cd, doc, ho, hd, _⟩ := F.ex
 refine Calls.callWith_function (o := o) (evalArgs_ok (trees_plain _ _) (mapR_args hr hx I p fun ds vs h1 tk1 e1 I1 u1 rvs p1 => ⟨⟨I1.stay _ _ ho, hd⟩, ?_⟩))
 obtain ⟨_, H⟩ := hc ds q e1
 obtain ⟨as, ra, ka⟩ := rvs
 refine H a c.A c.l (Okk c.S c.W (frs c.l)) { s with heap := h1, toks := tk1 } _ as Q E ha R.hh R.fr R.dp R.un I1.stay I1.fr (fun a e => new_ok I1 (Up.refl _ _) e) (fun a o e => ?_) ra (fun a m => ⟨ka a m, n0, (ka a m).2.2⟩) ?_
 ·refine ⟨I1.base a o e, fun q => ?_, fun q => ?_⟩
  ·rw [(I1.wl a q).n] at e; exact nn e
  ·rw [(I1.fr.ex q).n] at e; exact nn e
 ·cases q with
  | ok d => exact fun h' tk v u ⟨bs, rv, kv⟩ => p1 h' tk v u ⟨bs, rv, fun a m => (kv a m).1⟩
  | error k => exact p1
end
section
variable {c : Ct} {s : Shared} {E : VQ} {Q : VQ} {mg mb : NM}
theorem getby_list {a : Addr} {o : Obj} {xs : Array Value} {k : Nat} {prog : Program} {w : World} {A : Around} {name : PySem.Str} {u : Tok} {Q : VQ} (hx : s.heap.get? a = some o) (hc : o.cls = .type "list") (hdat : o.data = .seq xs k) (hd : o.dict = none) (hmiss : typeLookup (.type "list") name = pure none) (hname : (["__module__", "__name__", "__qualname__", "__doc__", "__annotations__"] : List PySem.Str).contains name = false) (hA : A.handled = none)
  (hsz : name.length + 100 ≤ sizeLine) (h : ∀ h' tk e, Heap.NewExcOf s.heap h' e "AttributeError" → E (.ref e) { s with heap := h', toks := tk }) : wpAny (model prog w) A (getAttrBy (.ref a) (.str name u) false) Q E s := by
 obtain ⟨cl, dct, dat, sl⟩ := o
 simp only at hc hdat hd
 subst hc hdat hd
 obtain ⟨hp, g, d, tk, os⟩ := s
 have hT : ∀ tk', (⟨hp, g, d, tk', os⟩ : Shared).TypeIs (.ref a) "list" := fun _ => ⟨_, hx, rfl⟩
 have f1 := sub_AttributeError
 have f3 := F.slot_list_getattribute.lookup
 have f4 := F.slot_list_getattribute.bind (.ref a)
 have f5 := am_list_getattr_none
 unfold getAttrBy
 repeat (any_goals (first | assumption | exact hT _ | ((with_reducible show wpAny _ _ (call (Value.builtin "list.__getattribute__") _ _) _ _ _); refine call_meets F.slot_list_getattribute (hT _) am_entry_list_getattribute (F.args_list_getattribute_2 _ _) (meets_getattribute_miss_list a xs k sl name _ hmiss hname hsz) ⟨hx, hA, fun h' tk' e hx' => ?_⟩) | wp_step))
 obtain ⟨t', u', he⟩ := hx'.there
 show wpAny _ _ (getattributeRaised _ _ _ _ _ _ _) _ _ _
 unfold getattributeRaised
 repeat (any_goals (first | assumption | wp_step))
 exact h _ _ _ hx'.of
theorem getkeys_list {a : Addr} {o : Obj} {xs : Array Value} {k : Nat} {prog : Program} {w : World} {A : Around} {Q : Option Value → Shared → Prop} (hx : s.heap.get? a = some o) (hc : o.cls = .type "list") (hdat : o.data = .seq xs k) (hd : o.dict = none) (hA : A.handled = none)
  (h : ∀ h' tk, (∀ b o, s.heap.get? b = some o → h'.get? b = some o) → Q none { s with heap := h', toks := tk }) : wpAny (model prog w) A (getAttr? (.ref a) (Str.ofString "keys")) Q E s := by
 have hmiss : typeLookup (.type "list") (Str.ofString "keys") = pure none := by rw [typeLookup_type, builtinLookup_eq_fast]; kernel_rfl
 have hname : (["__module__", "__name__", "__qualname__", "__doc__", "__annotations__"] : List PySem.Str).contains (Str.ofString "keys") = false := by decide +kernel
 unfold getAttr?
 show wpAny _ _ (mkText (Str.ofString "keys") >>= _) _ _ _
 refine wB (wpAny_mkText ?_)
 unfold getAttrBy?
 refine wB (wpAny_attempt (getby_list hx hc hdat hd hmiss hname hA (by decide +kernel) fun h' tk e ne => ?_))
 obtain ⟨ob, vs, e1, e2, _⟩ := ne.there
 refine wB (wpAny_isInstance (T := "AttributeError") ⟨ob, e1, e2⟩ sub_AttributeError ?_)
 exact wP (h h' tk ne.keeps)
end
theorem entry_update_loop : entryFor table "dict.update.loop" = some Builtin.«dict.update.loop» := entryFor_of_fast (by kernel_rfl)
theorem plain_update_loop : plainId "dict.update.loop" = true := by decide +kernel
section
variable {prog : Program} {w : World} {A : Around} {s : Shared} {E : VQ} {Q : VQ}
theorem dict_of_nil {l : Addr} (hA : A.handled = none) (hl : ∃ o n, s.heap.get? l = some o ∧ o.cls = .type "list" ∧ o.dict = none ∧ o.data = .seq #[] n)
  (h : ∀ h' tk, (∀ b o, s.heap.get? b = some o → h'.get? b = some o) → (∃ o n, h'.get? s.heap.objs.size = some o ∧ o.ExactDict ∧ o.data = .dict #[] n) → Q (.ref s.heap.objs.size) { s with heap := h', toks := tk }) :
  wpAny (model prog w) A (call (.type "dict") [.ref l]) Q E s := by
 obtain ⟨o, n, ho, hc, hd, hdat⟩ := hl
 refine callType_codes (Q₁ := fun obj s₁ => obj = .ref s.heap.objs.size ∧ s₁ = { s with heap := s.heap.push { cls := .type "dict", data := .dict #[] } }) F.kt_called_dict (F.kt_typeCall_dict_1 _) F.entry_dict_init (kt_code_dict_new _ ⟨rfl, rfl⟩) ?_
 rintro obj s₁ ⟨rfl, rfl⟩
 have hD : (s.heap.push { cls := .type "dict", data := .dict #[] }).get? s.heap.objs.size = some { cls := .type "dict", data := .dict #[] } := Heap.get?_push_size _ rfl
 have hT : (({ s with heap := s.heap.push { cls := .type "dict", data := .dict #[] } } : Shared)).TypeIs (.ref s.heap.objs.size) "dict" := ⟨_, hD, rfl⟩
 have ho' := Heap.get?_push_of_some ({ cls := .type "dict", data := .dict #[] } : Obj) ho
 refine ⟨hT, F.args_dict_init_2 _ _, ?_⟩
 unfold Builtin.«dict.__init__»
 refine wB ?_
 unfold Builtin.Dict.selfAndRest
 refine wB (wpAny_notOrdered_dict hT ?_)
 show wpAny _ _ (pure (s.heap.objs.size, [Value.ref l])) _ _ _
 refine wP ?_
 show wpAny _ _ (Builtin.Dict.updateFrom "dict.__init__" s.heap.objs.size (.ref l) [] .none) _ _ _
 unfold Builtin.Dict.updateFrom
 refine wB (wpAny_typeOf (T := "list") ⟨_, ho', hc⟩ ?_)
 rw [if_pos (by decide)]
 refine wB (getkeys_list ho' hc hdat hd hA fun h1 tk k1 => ?_)
 rw [if_pos (by rfl)]
 refine wB (wpAny_rule ?_)
 have ho1 : h1.IsList l #[] := ⟨o, k1 _ _ ho', hc, n, hdat⟩
 refine wB (wpAny_pyIter_list (s := { s with heap := h1, toks := tk }) ho1 ?_)
 refine wP ⟨plainId_quiet plain_update_loop _, codeAny_builtin entry_update_loop ?_⟩
 rw [Around.under_plainId plain_update_loop _]
 show wpAny _ _ (pyNext (.ref h1.objs.size) >>= _) _ _ _
 refine wB (wpAny_pyNext_list_end (i := 0) (l := l) (items := #[]) hA ⟨_, Heap.get?_push_size _ rfl, rfl, rfl⟩ ⟨o, Heap.get?_push_of_some _ (k1 _ _ ho'), hc, n, hdat⟩ (by simp) fun h2 e2 => ?_)
 show wpAny _ _ (Builtin.Dict.addKeywords s.heap.objs.size [] >>= _) _ _ _
 refine wB (wP (wP ⟨rfl, h h2 tk (fun b ob e => ?_) ⟨{ cls := .type "dict", data := .dict #[] }, 0, ?_, ⟨rfl, rfl, rfl⟩, rfl⟩⟩))
 ·refine e2 b ob ?_ (Heap.get?_push_of_some _ (k1 _ _ (Heap.get?_push_of_some _ e)))
  rintro rfl
  have := k1 _ _ (Heap.get?_push_of_some ({ cls := .type "dict", data := .dict #[] } : Obj) e)
  rw [aR] at this; cases this
 ·refine e2 _ _ ?_ (Heap.get?_push_of_some _ (k1 _ _ hD))
  intro q
  have := k1 _ _ hD
  rw [q, aR] at this; exact nn this
theorem entries_ok {id : String} {d : Addr} {o : Obj} {es : Array DictEntry} {ep : Nat} {Q : Array DictEntry → Shared → Prop} (ho : s.heap.get? d = some o) (hd : o.data = .dict es ep)
  (hk : ∀ e ∈ es.toList, ∃ a, e.key = .ref a ∧ s.TypeIs (.ref a) "tuple") (hh : ∀ e ∈ es.toList, (es.filter (·.hash == e.hash)).size ≤ 1) (h : Q es s) : wpAny (model prog w) A (Builtin.Dict.entriesForEmpty id d) Q E s := by
 unfold Builtin.Dict.entriesForEmpty
 refine wB (wpAny_dictEntries ho hd ?_)
 refine wB ?_
 rw [← Array.forIn_toList]
 refine wpAny_forIn_list _ (fun rest _ s' => s' = s ∧ ∀ e ∈ rest, e ∈ es.toList) _ ?_ ?_ _ _ ⟨rfl, fun e m => m⟩
 ·rintro e rest b s' ⟨rfl, m⟩
  obtain ⟨a, ek, T⟩ := hk e (m e mz)
  rw [ek]
  unfold Builtin.Dict.quietEq
  refine wB (wB (wpAny_specialOf T F.slot_tuple_eq.lookup (wP ?_)))
  have hb : ((some (Value.builtin "tuple.__eq__") == some (Value.builtin "object.__eq__")) : Bool) = false := by decide
  rw [hb]
  simp only [Bool.not_false, if_true]
  rw [if_neg (Nat.not_lt.mpr (hh e (m e mz)))]
  exact wP ⟨rfl, fun e' m' => m e' (mc _ m')⟩
 ·rintro b s' ⟨rfl, _⟩
  exact wP h
end
theorem apart_iff : ∀ {l : List Int}, apart l = true → l.Nodup
 | [], _ => List.nodup_nil
 | x :: r, h => by
  unfold apart at h
  obtain ⟨h1, h2⟩ := ba h
  refine List.nodup_cons.mpr ⟨fun m => ?_, apart_iff h2⟩
  have : (r.any fun y => x == y) = true := List.any_eq_true.mpr ⟨x, m, by simp⟩
  rw [this] at h1
  exact ft h1
theorem one_hash : ∀ {l : List DictEntry} {x : Int}, (l.map (·.hash)).Nodup → (l.filter (fun e => e.hash == x)).length ≤ 1
 | [], _, _ => by simp
 | e :: r, x, nd => by
  rw [List.map_cons, List.nodup_cons] at nd
  by_cases q : e.hash = x
  ·have : r.filter (fun e => e.hash == x) = [] := by
    rw [List.filter_eq_nil_iff]
    intro e' m
    have : e'.hash ≠ x := fun z => nd.1 (List.mem_map.mpr ⟨e', m, z.trans q.symm⟩)
    simpa using this
   simp [List.filter_cons, q, this]
  ·have hq : (e.hash == x) = false := by simpa using q
   rw [List.filter_cons, hq]
   exact one_hash nd.2
section
variable {prog : Program} {w : World} {A : Around} {s : Shared} {E : VQ} {Q : VQ}
theorem dict_of_dict {o : Addr} {xs : List (Ky × Addr × Value)} (hoS : (o == sysModules) = false) (hx : s.heap.DictOfH (bK prog w) o xs) (hn : (xs.map fun x => kyHash x.1).Nodup) (hsz : xs.length ≤ 1000)
  (h : ∀ h', (∀ b o, s.heap.get? b = some o → h'.get? b = some o) → h'.DictOfH (bK prog w) s.heap.objs.size xs → Q (.ref s.heap.objs.size) { s with heap := h' }) :
  wpAny (model prog w) A (call (.type "dict") [.ref o]) Q E s := by
 refine callType_codes (Q₁ := fun obj s₁ => obj = .ref s.heap.objs.size ∧ s₁ = { s with heap := s.heap.push { cls := .type "dict", data := .dict #[] } }) F.kt_called_dict (F.kt_typeCall_dict_1 _) F.entry_dict_init (kt_code_dict_new _ ⟨rfl, rfl⟩) ?_
 rintro obj s₁ ⟨rfl, rfl⟩
 generalize hh0 : s.heap.push { cls := .type "dict", data := .dict #[] } = h0
 have hD : h0.get? s.heap.objs.size = some { cls := .type "dict", data := .dict #[] } := hh0 ▸ Heap.get?_push_size _ rfl
 have kp : ∀ b o, s.heap.get? b = some o → h0.get? b = some o := fun b o e => hh0 ▸ Heap.get?_push_of_some _ e
 have hT : (({ s with heap := h0 } : Shared)).TypeIs (.ref s.heap.objs.size) "dict" := ⟨_, hD, rfl⟩
 obtain ⟨oo, es, ep, ho, hex, hdat, hes, hks, hnd⟩ := hx
 have ho' := kp _ _ ho
 have hdo : s.heap.objs.size ≠ o := fun q => by rw [← q, aR] at ho; exact nn ho
 have hT' : (({ s with heap := h0 } : Shared)).TypeIs (.ref o) "dict" := ⟨_, ho', hex.1⟩
 have hsze : es.size = xs.length := size_of_entries hes
 refine ⟨hT, F.args_dict_init_2 _ _, ?_⟩
 unfold Builtin.«dict.__init__»
 refine wB ?_
 unfold Builtin.Dict.selfAndRest
 refine wB (wpAny_notOrdered_dict hT ?_)
 show wpAny _ _ (pure (s.heap.objs.size, [Value.ref o])) _ _ _
 refine wP ?_
 show wpAny _ _ (Builtin.Dict.updateFrom "dict.__init__" s.heap.objs.size (.ref o) [] .none) _ _ _
 unfold Builtin.Dict.updateFrom
 refine wB (wpAny_typeOf hT' ?_)
 rw [if_neg (by decide)]
 refine wB ?_
 unfold Builtin.Dict.merge
 refine wB ?_
 unfold Builtin.Dict.readDirectly
 refine wB (wpAny_isInstance hT' isSubtype_dict_dict ?_)
 simp only [Bool.not_true, Bool.false_eq_true, if_false]
 refine wB (wpAny_specialOf hT' F.slot_dict_iter.lookup (wP ?_))
 simp only [beq_self_eq_true, if_true]
 refine wB (wP ?_)
 unfold Builtin.Dict.mergeDict
 rw [if_neg (by simpa using hdo)]
 unfold Builtin.Dict.showsAll
 rw [if_neg (by rw [hoS]; exact Bool.false_ne_true)]
 refine wB (wP ?_)
 refine wB (wpAny_dictEntries (s := { s with heap := h0 }) ho' hdat ?_)
 have fin : ∀ h', (∀ b o, s.heap.get? b = some o → h'.get? b = some o) → h'.DictOfH (bK prog w) s.heap.objs.size xs → wpAny (model prog w) A.in1.in1 (do Builtin.Dict.addKeywords s.heap.objs.size []; ret Value.none)
   (fun fin s' => match fin with | .done f => wants (fun r s₂ => r = .none ∧ Q (.ref s.heap.objs.size) s₂) E (.ok f) s' | .again c' => c'.quiet = true ∧ codeAny (model prog w) A.in1 c' (wants (fun r s₂ => r = .none ∧ Q (.ref s.heap.objs.size) s₂) E) s')
   (fun e s' => wants (fun r s₂ => r = .none ∧ Q (.ref s.heap.objs.size) s₂) E (.error e) s') { s with heap := h' } := fun h' k d => wB (wP (wP ⟨rfl, h h' k d⟩))
 cases xs with
 | nil =>
  have e0 : es = #[] := by obtain ⟨l⟩ := es; simp at hes; simp [hes]
  subst e0
  have hf : (decide ((#[] : Array DictEntry).size ≤ 8) && (#[] : Array DictEntry).all fun e => (keyPart e.key).isSome) = true := by simp
  dsimp only
  rw [hf]
  simp only [Bool.not_true, Bool.false_eq_true, if_false]
  refine wB (wpAny_dictEpoch ho' hdat (wB (wpAny_dictEntries ho' hdat ?_)))
  rw [Std.Legacy.Range.forIn_eq_forIn_range']
  refine wB ?_
  show wpAny _ _ (forIn [] _ _) _ _ _
  rw [List.forIn_nil]
  refine wP (wP (fin h0 kp ⟨_, #[], 0, hD, ⟨rfl, rfl, rfl⟩, rfl, rfl, fun x m => absurd m n0, List.nodup_nil⟩))
 | cons x xr =>
  have hk0 : es.toList = entryOfKey (bK prog w) x :: xr.map (entryOfKey (bK prog w)) := by rw [hes]; rfl
  have hf : (decide (es.size ≤ 8) && es.all fun e => (keyPart e.key).isSome) = false := by
   rw [Bool.and_eq_false_iff]
   refine .inr ?_
   rw [← Array.all_toList, hk0, List.all_cons]
   rfl
  have hne : es.isEmpty = false := by
   obtain ⟨l⟩ := es
   simp only at hk0
   subst hk0
   rfl
  dsimp only
  rw [hf]
  simp only [Bool.not_false, if_true]
  refine wB (wpAny_dictEntries hD rfl ?_)
  simp only [Array.isEmpty_empty, if_true]
  refine wB (entries_ok (s := { s with heap := h0 }) ho' hdat (fun e m => ?_) (fun e m => ?_) ?_)
  ·rw [hes] at m
   obtain ⟨y, my, rfl⟩ := List.mem_map.mp m
   obtain ⟨oy, _, _, _, _, _, _, _, _, _, _, ey, cy, _⟩ := hks y my
   exact ⟨y.2.1, rfl, oy, kp _ _ ey, cy⟩
  ·have nd : (es.toList.map (·.hash)).Nodup := by
    rw [hes, List.map_map]
    exact hn
   have := one_hash (x := e.hash) nd
   rw [← Array.length_toList, Array.toList_filter]
   exact this
  ·rw [hne]
   simp only [Bool.not_false, if_true]
   refine wB (wpAny_updateDictKeysTo hD rfl (wP (fin _ (fun b ob e => ?_) ⟨{ cls := .type "dict", data := .dict es 1 }, es, 1, ?_, ⟨rfl, rfl, rfl⟩, rfl, hes, fun y m => ?_, hnd⟩)) ?_)
   ·have nb : b ≠ s.heap.objs.size := by rintro rfl; rw [aR] at e; cases e
    exact (Heap.get?_update_other _ _ (Ne.symm nb)).trans (kp _ _ e)
   ·exact Heap.get?_update_self _ hD rfl
   ·refine isKy_keep (hks y m) fun b ob vs n e _ _ => ?_
    have nb : b ≠ s.heap.objs.size := by rintro rfl; rw [aR] at e; cases e
    exact (Heap.get?_update_other _ _ (Ne.symm nb)).trans (kp _ _ e)
   ·rw [hsze]
    show _ ≤ sizeLine + 1
    simp only [sizeLine]
    omega
end
section
variable {prog : Program} {w : World} {A : Around} {s : Shared} {E : VQ} {Q : VQ}
theorem sorted_nil {d : Addr} {ep : Nat} (hA : A.handled = none) (nd : (d == sysModules) = false) (hd : DictEs s.heap d #[] ep)
  (h : ∀ h' tk a, (∀ b o, s.heap.get? b = some o → h'.get? b = some o) → s.heap.get? a = none → (∃ o n, h'.get? a = some o ∧ o.dict = none ∧ o.cls = .type "list" ∧ o.data = .seq #[] n) → Q (.ref a) { s with heap := h', toks := tk }) :
  wpAny (model prog w) A (call (.builtin "sorted") [.ref d]) Q E s := by
 obtain ⟨o, ho, hx, hdat⟩ := hd
 have hm : s.heap.DictAt (intKind prog w) d [] ep := ⟨o, #[], ho, hx, hdat, fun e m => absurd m (by simp), .nil, List.nodup_nil⟩
 refine Calls.call_function_entry kind_sorted plain_sorted entry_sorted (args_sorted1 _) ?_
 unfold Builtin.«sorted»
 refine wB (m := checkCount "sorted" 1 1 _) (wP ?_)
 refine wB (W.kdu_collect (A := A.in1) (n := 0) (W.kdl_dict (knd := intKind prog w) (kvs := []) (ep := ep) nd) hA hm (Nat.zero_le _) fun h1 tk acc hk hacc => ?_)
 have ha : acc = #[] := Array.eq_empty_of_size_eq_zero hacc.1
 subst ha
 refine wB (wpAny_newObj_type ?_ (by show #[].size ≤ sizeLine; simp [sizeLine]))
 have hoL : (h1.push { cls := .type "list", data := .seq #[] }).get? h1.objs.size = some (seqObj "list" ([] : List Value).toArray 0) := Heap.get?_push_size _ rfl
 have nn : s.heap.get? h1.objs.size = none := by
  cases q : s.heap.get? h1.objs.size with
  | none => rfl
  | some o => have := hk _ _ q; rw [aR] at this; cases this
 refine wB (wpAny_holding (wpAny_call_entry slot_list_sort (T := "list") ⟨_, hoL, rfl⟩ entry_list_sort (list_sort_tree (vs := []) (ns := []) hoL .nil (by simp) fun out ns' a1 a2 a3 => ⟨_, rfl, ?_⟩) (args_list_sort _)))
 obtain rfl : ns' = [] := List.Perm.eq_nil a2
 have hout : out = #[] := by cases out with | mk l => cases a1; rfl
 subst hout
 refine wP ⟨_, rfl, h _ tk _ (fun b ob e => ?_) nn ?_⟩
 ·have e1 := hk b ob e
  have ne : b ≠ h1.objs.size := by rintro rfl; rw [aR] at e1; cases e1
  have e2 := Heap.get?_push_of_some ({ cls := .type "list", data := .seq #[] } : Obj) e1
  exact (sortedHeap_old ne (Heap.lt_size e2)).trans e2
 ·obtain ⟨e, q⟩ := sortedHeap_at (vs := []) (out := #[]) hoL
  exact ⟨_, e, q, rfl, rfl, rfl⟩
noncomputable def mxOf (l : List Int) : Nat → Int
 | 0 => l.getD 0 0
 | k + 1 => if mxOf l k < l.getD (k + 1) 0 then l.getD (k + 1) 0 else mxOf l k
theorem mx_best (l : List Int) : ∀ k, l.getD (argBest (fun i j => decide (l.getD j 0 < l.getD i 0)) k) 0 = mxOf l k
 | 0 => rfl
 | k + 1 => by
  have ih := mx_best l k
  unfold argBest mxOf
  by_cases h : l.getD (argBest (fun i j => decide (l.getD j 0 < l.getD i 0)) k) 0 < l.getD (k + 1) 0
  ·rw [if_pos (by simpa using h), if_pos (ih ▸ h)]
  ·rw [if_neg (by simpa using h), if_neg (ih ▸ h)]
   exact ih
theorem mx_fold (x : Int) (r : List Int) : ∀ k, k ≤ r.length → mxOf (x :: r) k = (r.take k).foldl (fun m y => if m < y then y else m) x
 | 0, _ => rfl
 | k + 1, h => by
  unfold mxOf
  rw [mx_fold x r k (by omega), List.take_add_one, List.foldl_append]
  have e : r[k]? = some r[k] := List.getElem?_eq_getElem (by omega)
  have e' : (x :: r).getD (k + 1) 0 = r[k] := by simp [List.getD_eq_getElem?_getD, e]
  rw [e', e]
  rfl
theorem argBest_le (bt : Nat → Nat → Bool) : ∀ k, argBest bt k ≤ k
 | 0 => Nat.le_refl _
 | k + 1 => by
  unfold argBest
  split
  ·exact Nat.le_refl _
  ·exact Nat.le_succ_of_le (argBest_le bt k)
theorem max_list {l : Addr} {vs : Array Value} {x : Int} {r : List Int} (hA : A.handled = none) (hl : s.heap.IsList l vs) (hv : ∀ i : Nat, i < r.length + 1 → ∃ t, vs[i]? = some (.int ((x :: r).getD i 0) t)) (hn : vs.size = r.length + 1)
  (h : ∀ h' tk t, (∀ b o, s.heap.get? b = some o → h'.get? b = some o) → Q (.int (r.foldl (fun m y => if m < y then y else m) x) t) { s with heap := h', toks := tk }) :
  wpAny (model prog w) A (call (.builtin "max") [.ref l]) Q E s := by
 obtain ⟨o, ho, hc, n, hd⟩ := id hl
 have hlt := Heap.lt_size ho
 refine call_max_walk (wpAny_pyIter_list hl ⟨s.heap.objs.size, [s.heap.objs.size, l], [s.heap.objs.size], vs.size, _, _, fun i j => decide ((x :: r).getD j 0 < (x :: r).getD i 0), rfl, Walks.list (A := A.in1) hA _ l (Nat.ne_of_lt hlt) vs,
  ⟨⟨_, Heap.get?_push_size _ rfl, rfl, rfl⟩, o, Heap.get?_push_of_some _ ho, hc, n, hd⟩, fun b m => ?_, by omega, fun i j vi vj s' Q' E' hi hj hq => ?_, fun v h' tk hp hk => ?_⟩)
 ·show b < (s.heap.push _).objs.size
  rw [Heap.size_push]
  rcases mp m with rfl | m
  ·exact Nat.lt_succ_self _
  ·obtain rfl := ms m; exact Nat.lt_succ_of_lt hlt
 ·have hi : vs[i]? = some vi := hi
  have hj : vs[j]? = some vj := hj
  obtain ⟨t, q⟩ := hv i (by rw [← hn]; exact (Array.getElem?_eq_some_iff.mp hi).1)
  obtain ⟨t', q'⟩ := hv j (by rw [← hn]; exact (Array.getElem?_eq_some_iff.mp hj).1)
  obtain rfl := si (q.symm.trans hi)
  obtain rfl := si (q'.symm.trans hj)
  exact PyProof.Rows.gt_int hq
 ·have e2 : vs.size - 1 = r.length := by omega
  have hb := argBest_le (fun i j => decide ((x :: r).getD j 0 < (x :: r).getD i 0)) (vs.size - 1)
  have hp : vs[argBest (fun i j => decide ((x :: r).getD j 0 < (x :: r).getD i 0)) (vs.size - 1)]? = some v := hp
  obtain ⟨t, q⟩ := hv _ (show argBest (fun i j => decide ((x :: r).getD j 0 < (x :: r).getD i 0)) (vs.size - 1) < r.length + 1 by omega)
  obtain rfl := si (q.symm.trans hp)
  rw [mx_best (x :: r) (vs.size - 1), e2, mx_fold x r r.length (Nat.le_refl _), List.take_length]
  exact h h' tk t (fun b ob e => hk b ob (by
   intro m
   obtain rfl := ms m
   rw [aR] at e; cases e) (Heap.get?_push_of_some _ e))
end
theorem intsOf_some : ∀ {l : List D} {xs : List Int}, intsOf l = some xs → l = xs.map .int
 | [], _, e => by obtain rfl := si e; rfl
 | .int a :: r, xs, e => by
  unfold intsOf at e
  obtain ⟨ys, e', rfl⟩ := me e
  rw [intsOf_some e']
  rfl
 | .none :: _, _, e => by exact nn e
 | .bool _ :: _, _, e => by exact nn e
 | .str _ :: _, _, e => by exact nn e
 | .list _ :: _, _, e => by exact nn e
 | .tuple _ :: _, _, e => by exact nn e
 | .dict _ :: _, _, e => by exact nn e
theorem rdKv_hash {prog : Program} {w : World} {h : Heap} : ∀ {xs : List (Ky × Addr × Value)} {kvs : List (D × D)} {as : List Addr}, RdKv prog w h xs kvs as → (kvs.map fun p => khash p.1) = xs.map fun x => kyHash x.1
 | _, [], _, x => by obtain ⟨rfl, _⟩ := rdKv_nil x; rfl
 | _, (k, d) :: kvs, _, x => by
  obtain ⟨ky, a, v, r, bs, cs, ds, rfl, rfl, rfl, _, _, y⟩ := rdKv_cons x
  rw [List.map_cons, List.map_cons, rdKv_hash y]
  rfl
theorem rdKv_map {prog : Program} {w : World} {h h' : Heap} {xs : List (Ky × Addr × Value)} {kvs : List (D × D)} {as : List Addr} (x : RdKv prog w h xs kvs as) (k : ∀ a ∈ as, ∀ o, h.get? a = some o → h'.get? a = some o) : RdKv prog w h' xs kvs as := (RdKv.keep k x).1
section
variable {c : Ct} {s : Shared} {E : VQ} {mg mb : NM}
inductive SeqIs (prog : Program) (w : World) (S : Addr → Prop) (W F : List Addr) (h : Heap) (v : Value) (l : List D) : Prop
 | mk (a o vs n bs) : v = .ref a → h.get? a = some o → (∃ T, (T = "list" ∨ T = "tuple") ∧ o.cls = .type T) → o.data = .seq vs n → RdAll prog w h vs.toList l bs → (∀ b ∈ bs, Okk S W F b) → SeqIs prog w S W F h v l
theorem seqIs {v : Value} {l : List D} {h : Heap} (r : c.Rp h v (.list l) ∨ c.Rp h v (.tuple l)) : SeqIs c.prog c.w c.S c.W (frs c.l) h v l := by
 rcases r with ⟨as, r, k⟩ | ⟨as, r, k⟩
 ·obtain ⟨a, o, vs, n, bs, rfl, rfl, h1, c1, d1, r1⟩ := rd_list r
  exact ⟨a, o, vs, n, bs, rfl, h1, ⟨_, .inl rfl, c1⟩, d1, r1, fun b m => k b (mc _ m)⟩
 ·obtain ⟨a, o, vs, n, bs, rfl, rfl, h1, c1, d1, r1⟩ := rd_tuple r
  exact ⟨a, o, vs, n, bs, rfl, h1, ⟨_, .inr rfl, c1⟩, d1, r1, fun b m => k b (mc _ m)⟩
theorem op_list {v : Value} {l : List D} (hf : fits l = true) (I : c.I s.heap) (r : c.Rp s.heap v (.list l) ∨ c.Rp s.heap v (.tuple l)) : c.Op s (call (.type "list") [v]) (.list l) := by
 have hf := fits_le hf
 obtain ⟨a, o, vs, n, bs, rfl, h1, ⟨T, hT, c1⟩, d1, r1, kb⟩ := seqIs r
 have len := aN r1
 rw [Array.length_toList] at len
 intro Q E hQ
 refine call_list_seq a hT h1 c1 d1 (fun h' c' hk e => hQ h' s.toks _ (Up.of_keep hk) ⟨_, .list e rfl rfl rfl (RdAll.keep (fun a m o e => hk a o e) r1), fun b m => ?_⟩) (by simp only [sizeLine]; omega)
 rcases mp m with rfl | m
 ·exact new_ok I (Up.refl _ _) (aR _)
 ·exact kb b m
def Ct.Bls (c : Ct) (v0 : Value) (g : List D → Option D) : Prop := ∀ ds d, g ds = some d → ∀ s vs, c.I s.heap → c.RpL s.heap vs ds → c.Op s (call v0 vs) d
theorem RpL_one {h : Heap} {vs : List Value} {ds : List D} {d : D} (x : c.RpL h vs ds) (e : one ds = some d) : ∃ v, vs = [v] ∧ c.Rp h v d := by
 rw [one_eq e] at x
 obtain ⟨v, rs, rfl, rv, rr⟩ := RpL_inv x
 rw [RpL_inv0 rr]
 exact ⟨v, rfl, rv⟩
inductive TwoInts (vs : List Value) (a b : Int) : Prop
 | mk (t t' : Tok) : vs = [.int a t, .int b t'] → TwoInts vs a b
theorem RpL_two {h : Heap} {vs : List Value} {ds : List D} {y : D × D} {a b : Int} (x : c.RpL h vs ds) (e : two ds = some y) (ha : asInt y.1 = some a) (hb : asInt y.2 = some b) : TwoInts vs a b := by
 rw [two_eq e, bA ha, bA hb] at x
 obtain ⟨v, rs, rfl, rv, rr⟩ := RpL_inv x
 obtain ⟨u, rs2, e2, ru, r2⟩ := RpL_inv rr
 obtain ⟨t, rfl⟩ := aS rv
 obtain ⟨t', rfl⟩ := aS ru
 exact ⟨t, t', by rw [e2, RpL_inv0 r2]⟩
theorem abs_ok : c.Bls (.builtin "abs") absB := fun ds d e s vs I r Q E hQ => by
 obtain ⟨x, h1, e⟩ := obi e
 obtain ⟨i, h2, e⟩ := obi e
 obtain rfl := si e
 obtain ⟨v, rfl, rv⟩ := RpL_one r h1
 obtain rfl := bA h2
 obtain ⟨t, rfl⟩ := aS rv
 refine call_abs_int fun u tk => ?_
 have q : (if i < 0 then -i else i) = ((i.natAbs : Nat) : Int) := by split <;> omega
 rw [q]
 exact hQ _ _ _ (Up.refl _ _) (rp_int _ _)
theorem min_ok (R : Room c.A c.env c.l c.n) : c.Bls (.builtin "min") minB := fun ds d e s vs I r Q E hQ => by
 obtain ⟨y, h1, e⟩ := obi e
 obtain ⟨a, h2, e⟩ := obi e
 obtain ⟨b, h3, e⟩ := obi e
 obtain rfl := si e
 obtain ⟨t, t', rfl⟩ := RpL_two r h1 h2 h3
 refine min_two_ints R.hh fun h' tk k => ?_
 by_cases q : b < a
 ·rw [if_pos q] at hQ ⊢
  exact hQ _ _ _ (Up.of_keep k) (rp_int _ _)
 ·rw [if_neg q] at hQ ⊢
  exact hQ _ _ _ (Up.of_keep k) (rp_int _ _)
theorem max_list_ok (R : Room c.A c.env c.l c.n) {l : List D} {z : Int} {v : Value} (e : imaxs l = some z) (rv : c.Rp s.heap v (.list l)) : c.Op s (call (.builtin "max") [v]) (.int z) := fun Q E hQ => by
 unfold imaxs at e
 cases hi : intsOf l with
 | none => rw [hi] at e; exact nn e
 | some xs =>
  rw [hi] at e
  cases xs with
  | nil => exact nn e
  | cons x r =>
   obtain ⟨_, e⟩ := aB e
   obtain rfl := si e
   obtain rfl := intsOf_some hi
   obtain ⟨as, rv, kv⟩ := rv
   obtain ⟨a, o, vs, n, bs, rfl, rfl, h1, c1, d1, r1⟩ := rd_list rv
   have len := aN r1
   simp only [Array.length_toList, List.length_map, List.length_cons] at len
   refine max_list R.hh ⟨o, h1, c1, n, d1⟩ (fun i hi => ?_) len fun h' tk t k => hQ _ _ _ (Up.of_keep k) (rp_int _ t)
   obtain ⟨u, cs, q1, q2, _⟩ := rdAll_get (i := i) (d := .int ((x :: r).getD i 0)) r1 (by
    rw [List.getElem?_map, List.getElem?_eq_getElem (by simpa using hi), Option.map_some, List.getD_eq_getElem?_getD, List.getElem?_eq_getElem (by simpa using hi)]
    rfl)
   obtain ⟨t, rfl, _⟩ := rd_int q2
   exact ⟨t, by simpa using q1⟩
theorem max_ok (R : Room c.A c.env c.l c.n) : c.Bls (.builtin "max") maxB := fun ds d e s vs I r => by
 unfold maxB at e
 cases q : one ds with
 | some x =>
  rw [q] at e
  obtain ⟨l, h1, e⟩ := obi e
  obtain rfl := asL_eq h1
  obtain ⟨z, e2, rfl⟩ := me e
  obtain ⟨v, rfl, rv⟩ := RpL_one r q
  exact max_list_ok R e2 rv
 | none =>
  rw [q] at e
  obtain ⟨y, h1, e⟩ := obi e
  obtain ⟨a, h2, e⟩ := obi e
  obtain ⟨b, h3, e⟩ := obi e
  obtain rfl := si e
  obtain ⟨t, t', rfl⟩ := RpL_two r h1 h2 h3
  refine fun Q E hQ => max_two_ints R.hh fun h' tk k => ?_
  have hq := hQ h' tk (if b > a then .int b t' else .int a t) (Up.of_keep k)
  exact hq (by by_cases q : a < b <;> simp only [q, gt_iff_lt, if_true, if_false] <;> exact rp_int _ _)
theorem dlen_box {d : D} {n : Nat} (e : dlen d = some n) : isBox d = true := by cases d <;> first | rfl | exact nn e
theorem blen_ok : c.Bls (.builtin "len") lenB := fun ds d e s vs I r => by
 obtain ⟨x, h1, e⟩ := obi e
 obtain ⟨k, e2, rfl⟩ := me e
 obtain ⟨v, rfl, rv⟩ := RpL_one r h1
 exact len_ok e2 (half_of rv (dlen_box e2))
theorem list_ok : c.Bls (.type "list") listB := fun ds d e s vs I r => by
 obtain ⟨x, h1, e⟩ := obi e
 obtain ⟨l, h2, e⟩ := obi e
 obtain ⟨g, e⟩ := aB e
 obtain rfl := si e
 obtain ⟨v, rfl, rv⟩ := RpL_one r h1
 cases x with
 | list m => obtain rfl := si h2; exact op_list g I (.inl rv)
 | tuple m => obtain rfl := si h2; exact op_list g I (.inr rv)
 | _ => exact nn h2
theorem tuple_ok : c.Bls (.type "tuple") tupleB := fun ds d e s vs I r Q E hQ => by
 obtain ⟨x, h1, e⟩ := obi e
 obtain ⟨l, h2, e⟩ := obi e
 obtain ⟨g, e⟩ := aB e
 obtain rfl := si e
 obtain ⟨v, rfl, rv⟩ := RpL_one r h1
 obtain rfl := asL_eq h2
 obtain ⟨as, rv, kv⟩ := rv
 obtain ⟨a, o, vs, n, bs, rfl, rfl, h1, c1, d1, r1⟩ := rd_list rv
 have len := aN r1
 rw [Array.length_toList] at len
 have g := fits_le g
 exact call_tuple_list (items := vs) ⟨o, h1, c1, n, d1⟩ (fun h' k => hQ _ _ _ ((Up.of_keep k).trans (Up.push _ _)) ((rp_push (T := "tuple") (as := bs) I (Up.of_keep k) (RdAll.keep (fun a m o e => k a o e) r1) (fun b m => kv b (mc _ m)) _ ⟨rfl, rfl, rfl, rfl⟩).2 rfl)) (by simp only [sizeLine]; omega)
theorem dictNew (R : Room c.A c.env c.l c.n) (B : Bs c.prog c.w c.hb c.C mg mb) {ds : List D} {d : D} {vs : List Value} (e : dictB ds = some d) (I : c.I s.heap) (r : c.RpL s.heap vs ds) {Q : VQ} {E : VQ}
  (hQ : ∀ h' tk as, Up (frs c.l) s.heap h' → Rd c.prog c.w h' (.ref s.heap.objs.size) d (s.heap.objs.size :: as) → (∀ b ∈ as, Okk c.S c.W (frs c.l) b ∧ ∃ o, s.heap.get? b = some o) → Q (.ref s.heap.objs.size) { s with heap := h', toks := tk }) : wpAny c.M c.A (call (.type "dict") vs) Q E s := by
 obtain ⟨x, h1, e⟩ := obi e
 obtain ⟨v, rfl, as, rv, kv⟩ := RpL_one r h1
 have nm := ne_modules B I (Up.refl _ s.heap)
 cases x with
 | dict l =>
  obtain ⟨g, e⟩ := aB e
  obtain rfl := si e
  obtain ⟨g1, g2⟩ := ba g
  have g1 := lb g1
  obtain ⟨a, xs, bs, rfl, rfl, na, hd, kx⟩ := rd_dict rv
  have g2 := apart_iff g2
  rw [rdKv_hash kx] at g2
  exact dict_of_dict na hd g2 (by rw [bX kx]; exact g1) fun h' k hd' => hQ h' s.toks bs (Up.of_keep k) (.dict nm hd' (rdKv_map kx fun a m o e => k a o e)) fun b m => ⟨kv b (mc _ m), RdKv.alive kx b m⟩
 | list l =>
  obtain ⟨g, e⟩ := aB e
  obtain rfl := si e
  obtain rfl := aZ g
  obtain ⟨a, o, vs, n, bs, rfl, rfl, h1, c1, d0, d1, r1⟩ := rd_list' rv
  obtain ⟨hv, _⟩ := rdAll_nil r1
  have hvs : vs = #[] := by obtain ⟨l⟩ := vs; simp at hv; simp [hv]
  subst hvs
  exact dict_of_nil R.hh ⟨o, n, h1, c1, d0, d1⟩ fun h' tk k ⟨ob, m, e, x, dd⟩ => hQ h' tk [] (Up.of_keep k) (.dict nm ⟨ob, #[], m, e, x, dd, rfl, fun y m => absurd m n0, List.nodup_nil⟩ .nil) fun b m => nomatch m
 | _ => exact nn e
theorem dict_ok (R : Room c.A c.env c.l c.n) (B : Bs c.prog c.w c.hb c.C mg mb) : c.Bls (.type "dict") dictB := fun ds d e s vs I r Q E hQ =>
 dictNew R B e I r fun h' tk as u rd k => hQ h' tk _ u ⟨_, rd, fun b m => (mp m).elim (fun z => z ▸ new_ok I (Up.refl _ _) (aR _)) fun m => (k b m).1⟩
theorem sorted_ok (R : Room c.A c.env c.l c.n) : c.Bls (.builtin "sorted") sortedB := fun ds d e s vs I r Q E hQ => by
 obtain ⟨x, h1, e⟩ := obi e
 obtain ⟨l, h2, e⟩ := obi e
 obtain ⟨g, e⟩ := aB e
 obtain rfl := si e
 obtain ⟨v, rfl, as, rv, kv⟩ := RpL_one r h1
 obtain rfl := asD_eq h2
 obtain rfl := aZ g
 obtain ⟨a, xs, bs, rfl, rfl, na, hd, kx⟩ := rd_dict rv
 obtain ⟨rfl, _⟩ := rdKv_nil kx
 obtain ⟨o, es, ep, e1, x, dd, he, _⟩ := hd
 have e0 : es = #[] := by obtain ⟨l⟩ := es; simp at he; simp [he]
 subst e0
 refine sorted_nil R.hh na ⟨o, e1, x, dd⟩ fun h' tk a' k na' ⟨ob, m, e, d0, cc, dd⟩ => hQ h' tk _ (Up.of_keep k) ⟨_, .list e d0 cc dd .nil, fun b m => ?_⟩
 obtain rfl : b = a' := by simpa using m
 exact new_ok I (Up.refl _ _) na'
inductive BltOk (c : Ct) (f : SStr) (ds : List D) (d : D) : Prop
 | mk (v0) : bltVal f = some v0 → (∀ s vs, c.I s.heap → c.RpL s.heap vs ds → c.Op s (call v0 vs) d) → BltOk c f ds d
theorem blt_ok (R : Room c.A c.env c.l c.n) (B : Bs c.prog c.w c.hb c.C mg mb) {f : SStr} {ds : List D} {d : D} (e : blt f ds = some (some d)) : BltOk c f ds d := by
 obtain ⟨g, h, e⟩ := obi e
 have e := si e
 have fin : ∀ {v0 g'}, c.Bls v0 g' → bltVal f = some v0 → g = g' → BltOk c f ds d := fun k hv hg => ⟨_, hv, fun s vs => k ds d (hg ▸ e) s vs⟩
 have m := tabS_mem h
 simp only [blts, List.mem_cons, Prod.mk.injEq, n0, or_false] at m
 rcases m with ⟨z, m⟩ | ⟨z, m⟩ | ⟨z, m⟩ | ⟨z, m⟩ | ⟨z, m⟩ | ⟨z, m⟩ | ⟨z, m⟩ | ⟨z, m⟩
 ·exact fin abs_ok (z ▸ (by kernel_rfl)) m
 ·exact fin (min_ok R) (z ▸ (by kernel_rfl)) m
 ·exact fin (max_ok R) (z ▸ (by kernel_rfl)) m
 ·exact fin blen_ok (z ▸ (by kernel_rfl)) m
 ·exact fin list_ok (z ▸ (by kernel_rfl)) m
 ·exact fin tuple_ok (z ▸ (by kernel_rfl)) m
 ·exact fin (dict_ok R B) (z ▸ (by kernel_rfl)) m
 ·exact fin (sorted_ok R) (z ▸ (by kernel_rfl)) m
end
noncomputable def isCal : Value → Bool
 | .builtin _ => true
 | .type _ => true
 | _ => false
theorem bltVal_form {f : SStr} {v : Value} (h : bltVal f = some v) : (∃ id, v = .builtin id) ∨ ∃ T, v = .type T := by
 have k : bltVals.all (fun p => isCal p.2) = true := by kernel_rfl
 have k := la k _ (tabS_mem h)
 cases v with
 | builtin id => exact .inl ⟨_, rfl⟩
 | type T => exact .inr ⟨_, rfl⟩
 | _ => exact ft k
section
variable {c : Ct} {s : Shared} {E : VQ} {Q : VQ} {mg mb : NM}
theorem callWith_ok {pos : Pos} {v : Value} {es : List Expr} {Q' : VQ} (hv : (∃ id, v = .builtin id) ∨ ∃ T, v = .type T) (h : wpAny c.M c.A (spliced (treesOf es c.env)) (fun vs s' => wpAny c.M c.A (call v vs) Q' E s') E s) :
  wpAny c.M c.A (callWith pos v [] (treesOf es c.env) []) Q' E s := by
 rcases hv with ⟨id, rfl⟩ | ⟨T, rfl⟩
 ·exact Calls.callWith_builtin (trees_plain _ _) (evalArgs_ok (trees_plain _ _) h)
 ·exact PyProof.Rows.callWith_type (trees_plain _ _) (evalArgs_ok (trees_plain _ _) h)
theorem arm_blt {f : SStr} {fp pos : Pos} {es : List Expr} {g : Expr → MR D} {v0 : Value} {q : XD} (R : Room c.A c.env c.l c.n) (B : Bs c.prog c.w c.hb c.C mg mb) (hv : bltVal f = some v0) (k : bZ c.env.scope.names f = true)
  (ns : ∀ e ∈ es, ∀ x p, e ≠ .Starred x p) (hx : ∀ e ∈ es, ∀ r, g e = some r → c.Tr (eval e c.env) r)
  (hr : bnd (mapR g es) (fun ds => (blt f ds).bind ofO) = some q) : c.Tr (eval (.Call (.Name f fp) es [] pos) c.env) q := fun s Q E I p => by
 refine PyProof.Rows.Call_Name (by rw [trees_of ns, bJ]) (global_blt R B I k hv (callWith_ok (bltVal_form hv) (mapR_args hr hx I p fun ds vs h1 tk1 e1 I1 u1 rvs p1 => ?_)))
 obtain ⟨r, hb, e1⟩ := obi e1
 obtain ⟨d, rfl, rfl⟩ := bR e1
 obtain ⟨v1, e2, H⟩ := blt_ok R B hb
 rw [hv] at e2
 obtain rfl := si e2
 exact H { s with heap := h1, toks := tk1 } vs I1 rvs Q E fun h' tk v u rv => p1 h' tk v u rv
theorem arm_len {f : SStr} {fp pos : Pos} {x : MR D} {e : Expr} {q : XD} (R : Room c.A c.env c.l c.n) (B : Bs c.prog c.w c.hb c.C mg mb) (hf : sEq f (nm "len") = true) (k : bZ c.env.scope.names f = true)
  (ns : ∀ x p, e ≠ .Starred x p) (hx : ∀ r, x = some r → c.TrH (eval e c.env) r)
  (hr : bnd x (fun d => ofO ((dlen d).map intN)) = some q) : c.Tr (eval (.Call (.Name f fp) [e] [] pos) c.env) q := fun s Q E I p => by
 obtain rfl := aX.mp hf
 have hv : bltVal (nm "len") = some (.builtin "len") := by kernel_rfl
 refine PyProof.Rows.Call_Name (trees := treesOf [e] c.env) (by rw [trees_of (fun e' m => by obtain rfl := ms m; exact ns), bJ]) (global_blt R B I k hv (callWith_ok (bltVal_form hv) ?_))
 refine Calls.spliced_cons (bindH hx hr I p fun d v h1 tk1 e1 I1 u1 rv p1 => Calls.spliced_nil ?_)
 obtain ⟨z, ez, rfl⟩ := bR e1
 obtain ⟨n, e2, rfl⟩ := me ez
 exact len_ok (s := { s with heap := h1, toks := tk1 }) e2 (rv.elim (fun r => half_of r (dlen_box e2)) id) Q E fun h' tk v u rv => p1 h' tk v u rv
def Ct.TrI (c : Ct) (t : Sem Value) (r : Except SStr (List D)) : Prop := ∀ (s : Shared) (Q : VQ) (E : VQ), c.I s.heap → c.PI s r Q E → wpAny c.M c.A t Q E s
theorem src_tree {x : MR D} {e : Expr} {r : Except SStr (List D)} (hh : c.A.handled = none) (hx : ∀ r, x = some r → c.Tr (eval e c.env) r) (hr : bnd x (fun d => ofO (iterOf d)) = some r) : c.TrI (eval e c.env) r := fun s Q E I p => by
 cases x with
 | none => exact nn hr
 | some y =>
  cases y with
  | error k => obtain rfl := si hr; exact hx _ rfl s Q E I p
  | ok d =>
   obtain ⟨ds, e1, rfl⟩ := bR hr
   exact hx _ rfl s Q E I fun h1 tk v u rv => p h1 tk v u (src_data hh e1 rv)
theorem src_rng {f : SStr} {fp pos : Pos} {es : List Expr} {g : Expr → MR D} {r : Except SStr (List D)} (R : Room c.A c.env c.l c.n) (B : Bs c.prog c.w c.hb c.C mg mb) (hf : sEq f (nm "range") = true) (k : bZ c.env.scope.names f = true)
  (ns : ∀ e ∈ es, ∀ x p, e ≠ .Starred x p) (hx : ∀ e ∈ es, ∀ r, g e = some r → c.Tr (eval e c.env) r)
  (hr : bnd (mapR g es) (fun ds => ofO (rangeD ds)) = some r) : c.TrI (eval (.Call (.Name f fp) es [] pos) c.env) r := fun s Q E I p => by
 obtain rfl := aX.mp hf
 have hv : bltVal (nm "range") = some (.type "range") := by kernel_rfl
 refine PyProof.Rows.Call_Name (by rw [trees_of ns, bJ]) (global_blt R B I k hv (callWith_ok (bltVal_form hv) ?_))
 cases q : mapR g es with
 | none => rw [q] at hr; cases hr
 | some y =>
  rw [q] at hr
  cases y with
  | error e => obtain rfl := si hr; exact args_ok q hx I p
  | ok ds =>
   obtain ⟨rs, e1, rfl⟩ := bR hr
   refine args_ok q hx I fun h1 tk1 vs u1 rvs => ?_
   have I1 := I.up u1
   have nF : h1.objs.size ∉ frs c.l := fun m => by obtain ⟨o, e⟩ := I1.alive m; rw [aR] at e; cases e
   unfold rangeD at e1
   cases q : one ds with
   | some x =>
    rw [q] at e1
    obtain ⟨b, hx1, e1⟩ := obi e1
    obtain ⟨g1, e1⟩ := aB e1
    obtain rfl := si e1
    obtain ⟨g1, g2⟩ := ba g1
    have g1 := of_decide_eq_true g1
    have g2 := of_decide_eq_true g2
    obtain ⟨v, rfl, rv⟩ := RpL_one rvs q
    obtain rfl := bA hx1
    obtain ⟨t, rfl⟩ := aS rv
    exact call_range_1 (s := { s with heap := h1, toks := tk1 }) (p _ _ _ (u1.trans (Up.push _ _)) (src_range R.hh nF (by omega) (by omega) (by omega) (by omega) (IsRange.new _ 0 _ 1 _ _ _)))
   | none =>
    rw [q] at e1
    obtain ⟨y, hx1, e1⟩ := obi e1
    obtain ⟨a, hx2, e1⟩ := obi e1
    obtain ⟨b, hx3, e1⟩ := obi e1
    obtain ⟨g1, e1⟩ := aB e1
    obtain rfl := si e1
    obtain ⟨g1, g4⟩ := ba g1
    obtain ⟨g1, g3⟩ := ba g1
    obtain ⟨g1, g2⟩ := ba g1
    have g1 := of_decide_eq_true g1
    have g2 := of_decide_eq_true g2
    have g3 := of_decide_eq_true g3
    have g4 := of_decide_eq_true g4
    obtain ⟨t, t', rfl⟩ := RpL_two rvs hx1 hx2 hx3
    exact call_range_2 (s := { s with heap := h1, toks := tk1 }) (p _ _ _ (u1.trans (Up.push _ _)) (src_range R.hh nF (by omega) (by omega) (by omega) (by omega) (IsRange.new _ _ _ 1 _ _ _)))
theorem src_vals {n : SStr} {np ap pos : Pos} {l : List (D × D)} (R : Room c.A c.env c.l c.n) (hn : lk c.vs n = some (.imm (.dict l))) (hl : (ap.endLine == pos.line) = true) : c.TrI (eval (.Call (.Attribute (.Name n np) (nm "values") ap) [] [] pos) c.env) (.ok (l.map (·.2))) := fun s Q E I p => by
 refine wpAny_Call_method0_late rfl hl (name_imm R I hn fun v rv => ?_)
 obtain ⟨as, r, ka⟩ := id rv
 obtain ⟨a, xs, bs, rfl, rfl, na, hd, kv⟩ := rd_dict r
 obtain ⟨o, es, ep, ho, hx, hdd, _⟩ := id hd
 refine ⟨"dict", "dict.values", F.plainAttrs_dict, F.slot_dict_values, F.type_dict_values, hd.typeIs, fun b e => by cases e; exact ⟨o, ho, hx.2.1⟩, ?_⟩
 refine Calls.callWith_builtin rfl (evalArgs_nil3 ?_)
 refine wpAny_call_entry F.slot_dict_values hd.typeIs F.entry_dict_values ?_ (F.args_dict_values_1 _)
 show wpAny _ _ (Builtin.Dict.noArgs "values" ⟨[.ref a], []⟩ >>= _) _ _ s
 refine wB ?_
 unfold Builtin.Dict.noArgs
 refine wB (wpAny_notOrdered_dict hd.typeIs ?_)
 show wpAny _ _ (pure a) _ _ s
 refine wP ?_
 show wpAny _ _ (Builtin.Dict.showsAll a >>= _) _ _ s
 unfold Builtin.Dict.showsAll
 rw [if_neg (by rw [na]; exact Bool.false_ne_true)]
 refine wB (wP (wB (wpAny_newObj_type (wP ⟨_, rfl, ?_⟩))))
 have u := Up.push (F := frs c.l) s.heap { cls := .type "dict_values", data := .fields #[.ref a] }
 have nF : s.heap.objs.size ∉ frs c.l := fun m => by obtain ⟨o, e⟩ := I.alive m; rw [aR] at e; cases e
 exact p _ _ _ u (src_values R.hh (rv.up u) ⟨_, Heap.get?_push_size _ rfl, rfl, rfl⟩ nF)
end
section
variable {prog : Program} {w : World} {hb : Heap} {S : Addr → Prop} {l : List Env} {env : Env} {W : List Addr} {h : Heap} {vs vs' : Vars}
theorem Inv.weaken (I : Inv prog w hb S l env W h vs) (k : ∀ x b, lk vs' x = some b → lk vs x = some b) : Inv prog w hb S l env W h vs' := by
 obtain ⟨m, hn, pl, h1, h2, h3⟩ := I.ns
 exact ⟨I.stay, I.fr, I.wl, I.loc, I.cel, I.cl, I.cap, I.nd, I.fresh, I.base, m, hn, pl, fun x d e => h1 x d (k _ _ e), fun x d e => h2 x d (k _ _ e), fun x y d d' e e' => h3 x y d d' (k _ _ e) (k _ _ e')⟩
end
noncomputable def clOf (env : Env) : List (SStr × NameKind) → List (SStr × Addr) → List (SStr × Addr)
 | [], acc => acc
 | (y, k) :: r, acc => match k with
  | .free => match env.cells.lookup y with
   | some c => clOf env r ((y, c) :: acc)
   | none => clOf env r acc
  | _ => clOf env r acc
theorem closure_go {env : Env} (f : SStr × NameKind → List (SStr × Addr) → Sem (ForInStep (List (SStr × Addr))))
  (hf : ∀ y k cs, f (y, k) cs = if k == .free then (do let c ← cellOf env y; pure (.yield ((y, c) :: cs))) else pure (.yield cs)) : ∀ (names : List (SStr × NameKind)) (acc : List (SStr × Addr)), (∀ p ∈ names, p.2 = .free → ∃ c, env.cells.lookup p.1 = some c) → forIn names acc f = pure (clOf env names acc)
 | [], acc, _ => by rw [List.forIn_nil]; rfl
 | (y, k) :: r, acc, h => by
  rw [List.forIn_cons, hf]
  have hr := closure_go f hf r
  by_cases q : k = .free
  ·subst q
   obtain ⟨c, hc⟩ := h (y, .free) mz rfl
   have e : cellOf env y = pure c := by unfold cellOf; rw [hc]
   rw [if_pos (by rfl), e]
   simp only [pure_bind]
   rw [hr _ fun p m => h p (mc _ m)]
   simp [clOf, hc]
  ·have : (k == NameKind.free) = false := by simpa using q
   rw [if_neg (by rw [this]; exact Bool.false_ne_true)]
   simp only [pure_bind]
   rw [hr _ fun p m => h p (mc _ m)]
   cases k <;> first | rfl | exact absurd rfl q
theorem closure_ok {env : Env} {sc : Scope} (h : ∀ p ∈ sc.names, p.2 = .free → ∃ c, env.cells.lookup p.1 = some c) : closureFor sc env = pure (clOf env sc.names []) := by
 unfold closureFor
 dsimp only
 rw [closure_go (env := env) _ (fun y k cs => by by_cases q : k = .free <;> simp [q]) sc.names [] h]
 simp
theorem clOf_sub {env : Env} : ∀ {names : List (SStr × NameKind)} {acc : List (SStr × Addr)} {x : SStr} {c : Addr}, (clOf env names acc).lookup x = some c → acc.lookup x = some c ∨ env.cells.lookup x = some c
 | [], acc, x, c, e => .inl e
 | (y, k) :: r, acc, x, c, e => by
  unfold clOf at e
  split at e
  ·split at e
   ·rename_i c' hc
    rcases clOf_sub e with q | q
    ·rw [List.lookup_cons] at q
     cases z : x == y with
     | true =>
      rw [z] at q
      obtain rfl := si q
      rw [bq z]
      exact .inr hc
     | false => rw [z] at q; exact .inl q
    ·exact .inr q
   ·exact clOf_sub e
  ·exact clOf_sub e
theorem clOf_acc {env : Env} : ∀ {names : List (SStr × NameKind)} {acc : List (SStr × Addr)} {x : SStr}, (acc.lookup x).isSome = true → ((clOf env names acc).lookup x).isSome = true
 | [], _, _, e => e
 | (y, k) :: r, acc, x, e => by
  unfold clOf
  split
  ·split
   ·refine clOf_acc ?_
    rw [List.lookup_cons]
    cases x == y <;> simp [e]
   ·exact clOf_acc e
  ·exact clOf_acc e
theorem clOf_has {env : Env} : ∀ {names : List (SStr × NameKind)} {acc : List (SStr × Addr)} {x : SStr}, (x, NameKind.free) ∈ names → (∃ c, env.cells.lookup x = some c) → ((clOf env names acc).lookup x).isSome = true
 | [], _, _, m, _ => absurd m n0
 | (y, k) :: r, acc, x, m, h => by
  obtain ⟨c, hc⟩ := h
  unfold clOf
  rcases mp m with e | m2
  ·cases e
   simp only [hc]
   exact clOf_acc (by simp [List.lookup_cons])
  ·clear m
   split
   ·split
    ·exact clOf_has m2 ⟨c, hc⟩
    ·exact clOf_has m2 ⟨c, hc⟩
   ·exact clOf_has m2 ⟨c, hc⟩
structure CompFacts (env : Env) (sc : Scope) : Prop where
 kd : sc.kind = .function
 cell : ∀ p ∈ sc.names, p.2 ≠ .cell
 loc : ∀ p ∈ sc.names, p.2 = .local → sc.names.lookup p.1 = some .local
 free : ∀ p ∈ sc.names, p.2 = .free → env.kindOf p.1 = some .cell ∧ sc.names.lookup p.1 = some .free
 d1 : sc.names.lookup dbg = none
 d2 : sc.names.lookup cdn = none
theorem compFacts {env : Env} {sc : Scope} (h : compOk env.scope.names sc = true) : CompFacts env sc := by
 unfold compOk at h
 obtain ⟨h, h4⟩ := ba h
 obtain ⟨h, h3⟩ := ba h
 obtain ⟨h1, h2⟩ := ba h
 have h2 := la h2
 refine ⟨bq h1, fun p m q => ?_, fun p m q => ?_, fun p m q => ?_, ni h3, ni h4⟩
 ·obtain ⟨y, k⟩ := p
  have := h2 _ m
  subst q
  exact ft this
 ·obtain ⟨y, k⟩ := p
  have := h2 _ m
  subst q
  exact bq this
 ·obtain ⟨y, k⟩ := p
  have := h2 _ m
  subst q
  obtain ⟨a, b⟩ := ba this
  exact ⟨bq a, bq b⟩
theorem relab_eq {env : Env} {sc : Scope} (hk : env.scope.kind = .function) : (relabel sc env).names = relab env.scope.names sc.names := by
 unfold relabel relab
 refine List.map_congr_left fun p _ => ?_
 obtain ⟨y, k⟩ := p
 dsimp only
 show (if (k == NameKind.free && env.scope.kind == ScopeKind.function && env.scope.names.lookup y == some NameKind.cell) = true then (y, NameKind.cell) else (y, k)) = _
 rw [hk]
 cases k <;> cases env.scope.names.lookup y with
 | none => rfl
 | some k' => cases k' <;> rfl
noncomputable def relab1 (ns : Names) (p : SStr × NameKind) : NameKind := match p.2, ns.lookup p.1 with
 | .free, some .cell => .cell
 | k, _ => k
theorem relab_map (ns cn : Names) : relab ns cn = cn.map fun p => (p.1, relab1 ns p) := by
 unfold relab
 refine List.map_congr_left fun p _ => ?_
 obtain ⟨y, k⟩ := p
 unfold relab1
 dsimp only
 cases k <;> cases ns.lookup y with
 | none => rfl
 | some k' => cases k' <;> rfl
theorem lookup_relab {ns : Names} : ∀ {cn : Names} {x : SStr}, (relab ns cn).lookup x = (cn.lookup x).map fun k => relab1 ns (x, k) := by
 intro cn x
 rw [relab_map]
 induction cn with
 | nil => rfl
 | cons p r ih =>
  obtain ⟨y, k⟩ := p
  rw [List.map_cons, List.lookup_cons, List.lookup_cons]
  cases q : x == y with
  | true => rw [bq q]; rfl
  | false => exact ih
inductive CaptAt (vs : Vars) (cn : Names) (x : SStr) (b : Bd) : Prop
 | mk (d) : b = .imm d → lk vs x = some (.imm d) → (x, NameKind.free) ∈ cn → CaptAt vs cn x b
theorem lk_capt {vs : Vars} : ∀ {cn : Names} {x : SStr} {b : Bd}, lk (capt vs cn) x = some b → CaptAt vs cn x b
 | [], _, _, e => by exact nn e
 | (y, k) :: r, x, b, e => by
  unfold capt at e
  split at e
  ·rename_i d hd
   unfold lk at e
   cases q : sEq y x with
   | true =>
    obtain rfl := aX.mp q
    rw [q] at e
    obtain rfl := si e
    exact ⟨d, rfl, hd, mz⟩
   | false =>
    rw [q] at e
    obtain ⟨d', q1, q2, q3⟩ := lk_capt e
    exact ⟨d', q1, q2, mc _ q3⟩
  ·obtain ⟨d', q1, q2, q3⟩ := lk_capt e
   exact ⟨d', q1, q2, mc _ q3⟩
section
variable {prog : Program} {w : World} {hb : Heap} {S : Addr → Prop} {l : List Env} {env : Env} {W : List Addr} {h : Heap} {vs : Vars}
theorem Inv.comp {sc : Scope} {Ca : Addr} {m : NM} (J : Inv prog w hb S l env W h vs) (hk : env.scope.kind = .function) (f : CompFacts env sc) (nS : ¬ S Ca) (nW : Ca ∉ W) (nB : hb.get? Ca = none) (hn : h.Ns Ca m) :
  Inv prog w hb S l (compEnvC sc (clOf env sc.names []) Ca env) (Ca :: W) h (capt vs sc.names) := by
 obtain ⟨m0, hn0, pl, h1, h2, h3⟩ := J.ns
 have eK : ∀ x, (compEnvC sc (clOf env sc.names []) Ca env).kindOf x = (sc.names.lookup x).map fun k => relab1 env.scope.names (x, k) := fun x => by
  show (relabel sc env).names.lookup x = _
  rw [relab_eq hk, lookup_relab]
 have cl1 : ∀ x c, (clOf env sc.names []).lookup x = some c → env.cells.lookup x = some c := fun x c e => (clOf_sub e).elim (fun q => by exact nn q) id
 have cl2 : ∀ x, (x, NameKind.free) ∈ sc.names → ∃ c, (clOf env sc.names []).lookup x = some c ∧ env.cells.lookup x = some c := fun x m => by
  obtain ⟨c, hc⟩ := J.cl x (f.free _ m rfl).1
  obtain ⟨c', hc'⟩ := ie (clOf_has (env := env) (acc := []) m ⟨c, hc⟩)
  exact ⟨c', hc', cl1 _ _ hc'⟩
 refine ⟨J.stay, J.fr, fun a q => ?_, mz, fun x c e => ?_, fun x e => ?_, fun x y c e1 e2 => J.cap x y c (cl1 _ _ e1) (cl1 _ _ e2), ⟨?_, ?_⟩, J.fresh, J.base, m, hn, fun _ => 0, fun x d e => ?_, fun x d e => ?_, fun x y d d' e => ?_⟩
 ·rcases mp q with rfl | q
  ·exact .of nB (ns_ex hn)
  ·exact J.wl a q
 ·obtain ⟨q1, q2, v, q3⟩ := J.cel x c (cl1 x c e)
  exact ⟨mc _ q1, fun q => nW ((show c = Ca from q) ▸ q1), v, q3⟩
 ·rw [eK] at e
  obtain ⟨k, q1, q2⟩ := me e
  have mk := mem_of_lookup q1
  have : k = .free := by
   unfold relab1 at q2
   dsimp only at q2
   split at q2
   ·rfl
   ·exact absurd q2 (f.cell _ mk)
  subst this
  obtain ⟨c, hc, _⟩ := cl2 x mk
  exact ⟨c, hc⟩
 ·rw [eK, f.d1]; rfl
 ·rw [eK, f.d2]; rfl
 ·obtain ⟨d', q, q1, q2⟩ := lk_capt e
  cases q
  obtain ⟨v, b, as, r, k⟩ := h1 x d q1
  obtain ⟨fk, fl⟩ := f.free _ q2 rfl
  obtain ⟨c, hc, hc'⟩ := cl2 x q2
  refine ⟨v, .inr ⟨.inl ?_, c, hc, ?_⟩, as, r, fun a m => ⟨(k a m).1, fun q => ?_, (k a m).2.2⟩⟩
  ·rw [eK, fl]
   have fk' : env.scope.names.lookup x = some .cell := fk
   show some (relab1 env.scope.names (x, .free)) = _
   unfold relab1
   dsimp only
   rw [fk']
  ·rcases b with ⟨q, _⟩ | ⟨_, c2, q, z⟩
   ·rw [fk] at q; cases q
   ·rw [hc'] at q; cases q; exact z
  ·rcases mp q with rfl | q
   ·exact nS (k _ m).1
   ·exact (k a m).2.1 q
 ·obtain ⟨d', q, _⟩ := lk_capt e
  exact nomatch q
 ·obtain ⟨d', q, _⟩ := lk_capt e
  exact nomatch q
theorem Room.comp {A : Around} {n : Nat} {sc : Scope} {cl : List (SStr × Addr)} {Ca : Addr} (R : Room A env l n) (f : CompFacts env sc) : Room A (compEnvC sc cl Ca env) l n :=
 ⟨R.hh, R.fr, let ⟨a, b, c, d, e, f⟩ := R.ef; ⟨a, b, c, d, e, f⟩, R.dp, R.un, f.kd, R.gl, R.bl⟩
end
theorem ExcAt.same {hb h0 h h' : Heap} {C e a : Addr} {k : SStr} {tb : Bool} (x : ExcAt hb h0 h C e k tb) (ha : ∃ o, h0.get? a = some o) (s : Heap.SameBut a h h') : ExcAt hb h0 h' C e k tb := by
 obtain ⟨oa, ha⟩ := ha
 obtain ⟨⟨n1, n2⟩, oe, fs, dd, e1, e2, e3, ⟨e4, e4'⟩, ⟨m, t, e5, e5'⟩, e6⟩ := x
 have ne : ∀ {b}, h0.get? b = none → b ≠ a := fun q z => by rw [z, ha] at q; exact sn q
 refine ⟨⟨n1, n2⟩, oe, fs, dd, (s.2 e (ne n1)).trans e1, e2, e3, ⟨e4, e4'⟩, ⟨m, t, e5.sameBut s (ne e4'), e5'⟩, ?_⟩
 rcases e6 with q | ⟨T, oT, ts, fl, q1, q2, q3, q4, q5, q6, q7⟩
 ·exact .inl q
 ·exact .inr ⟨T, oT, ts, fl, q1, q2, q3, q4, (s.2 T (ne q3)).trans q5, q6, q7⟩
theorem UpOn.kept {h0 : Heap} {F : List Addr} {h h' : Heap} {b : Addr} {o o0 : Obj} (y : UpOn h0 F h h') (k : Kept F h b o) (e : h0.get? b = some o0) : Kept F h' b o := by
 rcases k with q | ⟨m, sl, q⟩
 ·exact y b o o0 e q
 ·rcases y b _ o0 e q with z | ⟨_, sl', z⟩
  ·exact .inr ⟨m, sl, z⟩
  ·exact .inr ⟨m, sl', z⟩
theorem SameBut.frs {hb h h' : Heap} {l : List Env} {a : Addr} (fr : Frs hb l h) (n : a ∉ frs l) (s : Heap.SameBut a h h') : Frs hb l h' :=
 Frs.ofM (fun b m o e hn => ⟨o, (s.2 b (fun q => n (q ▸ m))).trans e, hn⟩) fr
section
variable {prog : Program} {w : World} {A : Around} {s : Shared} {env : Env} {l : List Env} {n : Nat} {hb : Heap} {E : VQ} {R : Result → Shared → Prop}
theorem comp_raise {hs hk : Heap} {Ca e : Addr} {C : Addr} {k : SStr} {tb : Bool} {use : Option (Value → Sem Unit)} {Q : VQ} {acc : Value} {m : NM} (Rm : Room A env l n) (fr : Frs hb l s.heap) (st : hb.StaysIn s.heap) (old : ∀ b o, hk.get? b = some o → ∃ o', s.heap.get? b = some o')
  (x : ExcAt hb hk s.heap C e k tb) (hC : ∃ o, hk.get? Ca = some o) (nC : Ca ∉ frs l) (bC : hb.get? Ca = none) (hn : s.heap.Ns Ca m) (sub : ∀ b o, hs.get? b = some o → ∃ o', hk.get? b = some o') (ne : ∀ b o, hs.get? b = some o → b ≠ Ca) (kp : ∀ b o, hs.get? b = some o → Kept (frs l) s.heap b o)
  (hE : ∀ h', (∀ b o, hs.get? b = some o → Kept (frs l) h' b o) → Frs hb l h' → hb.StaysIn h' → ExcAt hb hk h' C e k true → E (.ref e) { s with heap := h' }) :
  notedBy (model prog w) A env (fun x s' => compPost (model prog w) A E use Q acc Ca (.error x) s') (.ref e) s := by
 refine noteFrame_ok Rm fr st old x fun h1 u1 fr1 st1 x1 => ?_
 obtain ⟨oC, hC'⟩ := id hC
 obtain ⟨o1, es, ep, e1, d1, r1⟩ := hn
 have ns1 : h1.Ns Ca m := by
  rcases u1 Ca o1 oC hC' e1 with q | ⟨mF, _⟩
  ·exact ⟨o1, es, ep, q, d1, r1⟩
  ·exact absurd mF nC
 show ∃ m, h1.Ns Ca m ∧ ∀ h', Heap.SameBut Ca h1 h' → ∀ cenv : Env, cenv.locals = Ca → wpAny (model prog w) A (passOn "comprehension.variables-let-go" (.ref e) cenv : Sem Value) (fun _ _ => False) E { s with heap := h' }
 refine ⟨m, ns1, fun h2 sb cenv _ => ?_⟩
 have x2 := x1.same hC sb
 refine passOn_ok (s := { s with heap := h2 }) x2 fun h3 u3 fr3 st3 x3 => hE h3 (fun b o eb => ?_) (fr3 l (SameBut.frs fr1 nC sb)) (st3 fun b o eb => ?_) x3
 ·obtain ⟨ok, ek⟩ := sub b o eb
  have k1 := u1.kept (kp b o eb) ek
  have k2 : Kept (frs l) h2 b o := by
   rcases k1 with q | ⟨mF, sl, q⟩
   ·exact .inl ((sb.2 b (ne b o eb)).trans q)
   ·exact .inr ⟨mF, sl, (sb.2 b (ne b o eb)).trans q⟩
  rcases k2 with q | ⟨mF, sl, q⟩
  ·exact (u3 b o ok ek q).elim .inl fun ⟨m, _⟩ => absurd m n0
  ·exact (u3 b _ ok ek q).elim (fun z => .inr ⟨mF, sl, z⟩) fun ⟨m, _⟩ => absurd m n0
 ·refine (sb.2 b ?_).trans (st1 b o eb)
  rintro rfl
  exact nox bC eb
end
section
variable {prog : Program} {w : World} {A : Around} {s : Shared} {R : Result → Shared → Prop}
theorem compLoop_none {elt target iter : Expr} {ifs : List Expr} {scope : Scope} {pos : Pos} {it acc : Value} {env : Env}
  (h : wpAny (model prog w) A (pyNext it) (fun r s₁ => r = none ∧ R (.ok .next) s₁) (notedBy (model prog w) A env fun e s' => R (.error e) s') s) :
  codeAny (model prog w) A (.compLoop (.ListComp elt [⟨target, iter, ifs, 0⟩] scope pos) 0 it acc env) R s := by
 refine codeAny_loop rfl (fun _ s' => s' = s) (fun n s' hI => ?_) 0 rfl
 subst hI
 show wpAny _ A ((compTurn (.ListComp elt [⟨target, iter, ifs, 0⟩] scope pos) 0 it acc env).onRaise (fun x => do noteFrame x env; theTreesLotGoes x)) _ _ s'
 refine wpAny_noted ?_
 rw [compTurn_list]
 refine wB (wpAny_standAt (wB (wpAny_mono h (fun r s₁ h₁ => ?_) fun _ _ h' => h')))
 obtain ⟨rfl, h₁⟩ := h₁
 exact wP h₁
end
def Ct.Kp (c : Ct) (h h' : Heap) : Prop := ∀ b o, c.S b → b ∉ c.W → b ∉ frs c.l → h.get? b = some o → h'.get? b = some o
theorem Kp_up {c : Ct} {h h' : Heap} (u : Up (frs c.l) h h') : c.Kp h h' := fun b o _ _ n e => u.at e n
theorem Kp_trans {c : Ct} {a b d : Heap} (x : c.Kp a b) (y : c.Kp b d) : c.Kp a d := fun p o h1 h2 h3 e => y p o h1 h2 h3 (x p o h1 h2 h3 e)
theorem Rp_kp {c : Ct} {h h' : Heap} {v : Value} {d : D} (r : c.Rp h v d) (k : c.Kp h h') : c.Rp h' v d := let ⟨as, r, q⟩ := r; ⟨as, Rd.keep (fun a m o e => k a o (q a m).1 (q a m).2.1 (q a m).2.2 e) r, q⟩
theorem RpL_kp {c : Ct} {h h' : Heap} {v : List Value} {d : List D} (r : c.RpL h v d) (k : c.Kp h h') : c.RpL h' v d := let ⟨as, r, q⟩ := r; ⟨as, RdAll.keep (fun a m o e => k a o (q a m).1 (q a m).2.1 (q a m).2.2 e) r, q⟩
theorem RpL_snoc {c : Ct} {h : Heap} {vs : List Value} {ds : List D} {v : Value} {d : D} (r : c.RpL h vs ds) (x : c.Rp h v d) : c.RpL h (vs ++ [v]) (ds ++ [d]) := by
 obtain ⟨as, r, k⟩ := r
 obtain ⟨bs, x, k'⟩ := x
 refine ⟨as ++ (bs ++ []), rdAll_append r (.cons x .nil), fun a m => ?_⟩
 rcases mq m with m | m
 ·exact k a m
 ·exact k' a (by simpa using m)
theorem rd_int_val {prog : Program} {w : World} {h : Heap} {x : Int} {t : Tok} {d : D} {as : List Addr} (r : Rd prog w h (.int x t) d as) : d = .int x := by cases r; rfl
theorem rp_hand {c : Ct} {h : Heap} {u v : Value} {d : D} (r : c.Rp h v d) (hu : u = v ∨ ∃ x t t', v = .int x t ∧ u = .int x t') : c.Rp h u d := by
 rcases hu with rfl | ⟨x, t, t', rfl, rfl⟩
 ·exact r
 ·obtain ⟨as, r, _⟩ := r
  rw [rd_int_val r]
  exact rp_int _ _
section
variable {c : Ct} {s : Shared} {E : VQ}
def Ct.PB (c : Ct) (s : Shared) (r : Except SStr Bool) (Q : Bool → Shared → Prop) (E : VQ) : Prop := match r with
 | .ok b => ∀ h' tk, Up (frs c.l) s.heap h' → Q b { s with heap := h', toks := tk }
 | .error k => c.PX s k E
def Ct.TestSays (c : Ct) (ifs : List Expr) (r : Except SStr Bool) : Prop := ∀ (s : Shared) (Q : Bool → Shared → Prop) (E : VQ), c.I s.heap → c.PB s r Q E →
 wpAny c.M c.A (forIn ifs true fun t r => if r = true then do let ok ← isTrue t c.env (eval t c.env); pure (ForInStep.yield ok) else pure (ForInStep.yield r)) Q E s
theorem tests_ok {e : Bool → Names → Vars → Expr → MR D} {cn : Names} {vs : Vars} {ifs : List Expr} {r : Except SStr Bool} (hr : compTest e cn vs ifs = some r) (hx : ∀ t ∈ ifs, ∀ r, e true cn vs t = some r → c.Ts (isTrue t c.env (eval t c.env)) r) : c.TestSays ifs r := fun s Q E I p => by
 cases ifs with
 | nil =>
  obtain rfl := si hr
  rw [List.forIn_nil]
  exact wP (p s.heap s.toks (Up.refl _ _))
 | cons t l =>
  cases l with
  | cons => exact nn hr
  | nil =>
   rw [List.forIn_cons]
   simp only [if_true]
   have hr : bnd (e true cn vs t) (fun q => (asBoo q).bind fun b => rt b) = some r := hr
   cases q : e true cn vs t with
   | none => rw [q] at hr; exact nn hr
   | some y =>
    rw [q] at hr
    cases y with
    | error k =>
     obtain rfl := si hr
     exact wB (wB (hx t mz _ q s _ E I p))
    | ok d =>
     obtain ⟨b, hb, hr⟩ := obi hr
     obtain rfl := asBoo_eq hb
     obtain rfl := si hr
     refine wB (wB (hx t mz _ q s _ E I fun h' tk v u rv b' eb => ?_))
     subst eb
     have := bQ rv
     cases this
     exact wP (wP (p h' tk u))
noncomputable def joinR (done : List D) : Except SStr (List D) → Except SStr (List D)
 | .ok l => .ok (done ++ l)
 | .error k => .error k
structure CompFix (c : Ct) (hs : Heap) (I Dd Ca : Addr) (fp : List Addr) (vals : List Value) (St : Nat → Heap → Prop) (x : SStr) : Prop where
 Wk : Walk c.prog c.w c.A I fp vals St
 R : Room c.A c.env c.l c.n
 eL : c.env.locals = Ca
 hx : c.env.kindOf x = some .local
 hcv : ∀ b, lk c.vs x ≠ some b
 nI : NoLook c.hb c.S c.W (frs c.l) I
 nD : NoLook c.hb c.S c.W (frs c.l) Dd
 nID : I ≠ Dd
 cB : Ca ∉ frs c.l
 fpk : ∀ b ∈ fp, b ≠ Ca ∧ b ≠ Dd ∧ b ∉ frs c.l
 sI : hs.get? I = none
 sD : hs.get? Dd = none
 sC : hs.get? Ca = none
structure CompAt (c : Ct) (hs : Heap) (Dd : Addr) (St : Nat → Heap → Prop) (h0 : Heap) (vs : Vars) (i : Nat) (ys : Array Value) (done : List D) (h : Heap) : Prop where
 inv : Inv c.prog c.w c.hb c.S c.l c.env c.W h vs
 st : St i h
 kh : ∀ b o, hs.get? b = some o → Kept (frs c.l) h b o
 kp : c.Kp h0 h
 pl : h.PlainList Dd ys
 rl : c.RpL h ys.toList done
inductive CompInv (c : Ct) (s : Shared) (hs : Heap) (Dd : Addr) (vals : List Value) (St : Nat → Heap → Prop) (ds : List D) (T : D → MR Bool) (X : D → MR D) (q : Except SStr (List D)) (k : Nat) (s' : Shared) : Prop
 | mk (h : Heap) (tk i : Nat) (ys : Array Value) (done : List D) (rest : Except SStr (List D)) : s' = { s with heap := h, toks := tk } → i ≤ vals.length → k = vals.length + 1 - i → CompAt c hs Dd St s.heap c.vs i ys done h → done.length ≤ i →
  compR T X (ds.drop i) = some rest → q = joinR done rest → CompInv c s hs Dd vals St ds T X q k s'
section
variable {hs h h' h0 : Heap} {I Dd Ca : Addr} {fp : List Addr} {vals : List Value} {St : Nat → Heap → Prop} {x : SStr} {vs : Vars} {i : Nat} {ys : Array Value} {done : List D}
theorem CompFix.cW (F : CompFix c hs I Dd Ca fp vals St x) (J : Inv c.prog c.w c.hb c.S c.l c.env c.W h vs) : Ca ∈ c.W := F.eL ▸ J.loc
theorem CompAt.up (a : CompAt c hs Dd St h0 vs i ys done h) (F : CompFix c hs I Dd Ca fp vals St x) (u : Up (frs c.l) h h') : CompAt c hs Dd St h0 vs i ys done h' where
 inv := a.inv.up u
 st := F.Wk.frame _ _ _ a.st fun b hb o z => u.at z (hb.elim (fun q => q ▸ F.nI.nf) fun m => (F.fpk b m).2.2)
 kh := fun b o z => (a.kh b o z).next u
 kp := Kp_trans a.kp (Kp_up u)
 pl := let ⟨n, z⟩ := a.pl; ⟨n, u.at z F.nD.nf⟩
 rl := RpL_kp a.rl (Kp_up u)
theorem CompAt.back {d : D} (a : CompAt c hs Dd St h0 (upd c.vs x (.imm d)) i ys done h) (F : CompFix c hs I Dd Ca fp vals St x) : CompAt c hs Dd St h0 c.vs i ys done h :=
 ⟨a.inv.weaken fun y b z => (lk_upd _ _ _ _).trans ((if_neg fun (q : x = y) => F.hcv b (q ▸ z)).trans z), a.st, a.kh, a.kp, a.pl, a.rl⟩
theorem CompFix.kpI (F : CompFix c hs I Dd Ca fp vals St x) (k : ∀ b o, b ≠ I → h.get? b = some o → h'.get? b = some o) : c.Kp h h' := fun b o hS _ _ z => k b o (fun y => F.nI.ns (y ▸ hS)) z
theorem CompAt.next {j : Nat} (a : CompAt c hs Dd St h0 c.vs i ys done h) (F : CompFix c hs I Dd Ca fp vals St x) (k : ∀ b o, b ≠ I → h.get? b = some o → h'.get? b = some o) (st : St j h') : CompAt c hs Dd St h0 c.vs j ys done h' where
 inv := Inv.move (X := fun a => a = I) a.inv (fun a z => z ▸ F.nI) (fun b o n z => .inl (k b o n z)) (fun a z => z) fun b z => by
  by_cases zb : b = I
  ·obtain ⟨o, al⟩ := F.Wk.live _ _ st
   exact nox (zb ▸ z) al
  ·refine a.inv.fresh b ?_
   cases y : h.get? b with
   | none => rfl
   | some o => exact nox z (k b o zb y)
 st := st
 kh := fun b o z => by
  have nb : b ≠ I := by rintro rfl; exact nox F.sI z
  rcases a.kh b o z with y | ⟨m, sl, y⟩
  ·exact .inl (k b _ nb y)
  ·exact .inr ⟨m, sl, k b _ nb y⟩
 kp := Kp_trans a.kp (F.kpI k)
 pl := let ⟨n, z⟩ := a.pl; ⟨n, k _ _ (Ne.symm F.nID) z⟩
 rl := RpL_kp a.rl (F.kpI k)
theorem CompAt.stored (a : CompAt c hs Dd St h0 c.vs i ys done h) (F : CompFix c hs I Dd Ca fp vals St x) (sb : Heap.SameBut c.env.locals h h') (J : Inv c.prog c.w c.hb c.S c.l c.env c.W h' vs) : CompAt c hs Dd St h0 vs i ys done h' := by
 rw [F.eL] at sb
 have cW := F.cW J
 have K : c.Kp h h' := fun b o _ hW _ z => (sb.2 b fun y => hW (y ▸ cW)).trans z
 refine ⟨J, F.Wk.frame _ _ _ a.st fun b hb o z => (sb.2 b (hb.elim (fun q y => F.nI.nw (q ▸ y ▸ cW)) fun m => (F.fpk b m).1)).trans z, fun b o z => ?_, Kp_trans a.kp K, let ⟨n, z⟩ := a.pl; ⟨n, (sb.2 Dd fun y => F.nD.nw (y ▸ cW)).trans z⟩, RpL_kp a.rl K⟩
 have nb : b ≠ Ca := by rintro rfl; exact nox F.sC z
 rcases a.kh b o z with y | ⟨m, sl, y⟩
 ·exact .inl ((sb.2 b nb).trans y)
 ·exact .inr ⟨m, sl, (sb.2 b nb).trans y⟩
theorem CompAt.grown {y : Value} {d : D} (a : CompAt c hs Dd St h0 c.vs i ys done h) (F : CompFix c hs I Dd Ca fp vals St x) (pl : h'.PlainList Dd (ys.push y)) (sb : Heap.SameBut Dd h h') (ry : c.Rp h y d) : CompAt c hs Dd St h0 c.vs i (ys.push y) (done ++ [d]) h' := by
 have K : c.Kp h h' := fun b o hS _ _ z => (sb.2 b (fun y => F.nD.ns (y ▸ hS))).trans z
 refine ⟨Inv.move (X := fun a => a = Dd) a.inv (fun a z => z ▸ F.nD) (fun b o n z => .inl ((sb.2 b n).trans z)) (fun a z => z) fun b z => ?_, F.Wk.frame _ _ _ a.st fun b hb o z => (sb.2 b (hb.elim (fun q => q ▸ F.nID) fun m => (F.fpk b m).2.1)).trans z, fun b o z => ?_, Kp_trans a.kp K, pl, ?_⟩
 ·by_cases zb : b = Dd
  ·obtain ⟨n, z'⟩ := pl
   exact nox (zb ▸ z) z'
  ·exact a.inv.fresh b ((sb.2 b zb).symm.trans z)
 ·have nb : b ≠ Dd := by rintro rfl; exact nox F.sD z
  rcases a.kh b o z with y | ⟨m, sl, y⟩
  ·exact .inl ((sb.2 b nb).trans y)
  ·exact .inr ⟨m, sl, (sb.2 b nb).trans y⟩
 ·rw [Array.toList_push]
  exact RpL_snoc (RpL_kp a.rl K) (Rp_kp ry K)
end
def TApp (c : Ct) (Dd : Addr) (J : Nat → Shared → Prop) (N : VQ) (n : Nat) (x : Value) (s : Shared) : Prop := wpAny c.M c.A (call (.builtin "list.append") [.ref Dd, x]) (fun _ s₅ => ∃ m, m < n ∧ J m s₅) N s
def TElt (c : Ct) (elt : Expr) (Dd : Addr) (J : Nat → Shared → Prop) (N : VQ) (n : Nat) (s : Shared) : Prop := wpAny c.M c.A (eval elt c.env) (fun x s₄ => TApp c Dd J N n x s₄) N s
def TTst (c : Ct) (elt : Expr) (Dd : Addr) (J : Nat → Shared → Prop) (N : VQ) (n : Nat) (ok : Bool) (s : Shared) : Prop := if ok = true then TElt c elt Dd J N n s else ∃ m, m < n ∧ J m s
def TIfs (c : Ct) (elt : Expr) (ifs : List Expr) (Dd : Addr) (J : Nat → Shared → Prop) (N : VQ) (n : Nat) (s : Shared) : Prop :=
 wpAny c.M c.A (forIn ifs true fun t r => if r = true then do let ok ← isTrue t c.env (eval t c.env); pure (ForInStep.yield ok) else pure (ForInStep.yield r)) (TTst c elt Dd J N n) N s
def TItm (c : Ct) (tg elt : Expr) (ifs : List Expr) (Dd : Addr) (J : Nat → Shared → Prop) (N : VQ) (R : Result → Shared → Prop) (n : Nat) (r : Option Value) (s : Shared) : Prop := match r with
 | none => R (.ok .next) s
 | some v => wpAny c.M c.A (assign tg c.env v) (fun _ s₂ => TIfs c elt ifs Dd J N n s₂) N s
noncomputable def Ct.NB (c : Ct) (R : Result → Shared → Prop) : Value → Shared → Prop := notedBy c.M c.A c.env fun e s' => R (.error e) s'
theorem comp_turns {elt iter : Expr} {ifs : List Expr} {sc : Scope} {x : SStr} {px pos : Pos} {I Dd : Addr} {R : Result → Shared → Prop} (J : Nat → Shared → Prop) (turn : ∀ n s, J n s → wpAny c.M c.A (pyNext (.ref I)) (TItm c (.Name x px) elt ifs Dd J (c.NB R) R n) (c.NB R) s) (n : Nat) (h : J n s) :
  codeAny c.M c.A (.compLoop (.ListComp elt [⟨.Name x px, iter, ifs, 0⟩] sc pos) 0 (.ref I) (.ref Dd) c.env) R s :=
 codeAny_compLoop_tests J (fun n s z => wpAny_mono (turn n s z) (fun r s₁ k => by cases r <;> exact k) fun _ _ k => k) n h
theorem compR_cons {T : D → MR Bool} {X : D → MR D} {d : D} {l : List D} : compR T X (d :: l) = bnd (T d) fun q => match q with
  | true => bnd (X d) fun b => bnd (compR T X l) fun bs => rt (b :: bs)
  | false => compR T X l := rfl
theorem drop_at {ds : List D} {i : Nat} {d : D} (hd : ds[i]? = some d) : ds.drop i = d :: ds.drop (i + 1) := by
 obtain ⟨lt, e⟩ := List.getElem?_eq_some_iff.mp hd
 rw [List.drop_eq_getElem_cons lt, e]
theorem comp_loop {T : D → MR Bool} {X : D → MR D} {sc : Scope} {x : SStr} {px pos : Pos} {elt iter : Expr} {ifs : List Expr} {I Dd Ca : Addr} {fp : List Addr} {vals : List Value} {St : Nat → Heap → Prop} {ds : List D} {q : Except SStr (List D)} {hs : Heap} {use : Option (Value → Sem Unit)} {Q : VQ}
  (F : CompFix c hs I Dd Ca fp vals St x) (nC : c.hb.get? Ca = none) (len : vals.length = ds.length) (l1 : ds.length ≤ 1000) (hel : ∀ d r, X d = some r → ({ c with vs := upd c.vs x (.imm d) } : Ct).Tr (eval elt c.env) r)
  (hte : ∀ d r, T d = some r → ({ c with vs := upd c.vs x (.imm d) } : Ct).TestSays ifs r)
  (hok : ∀ h' tk ys done m, q = .ok done → (∀ b o, hs.get? b = some o → Kept (frs c.l) h' b o) → h'.Ns Ca m → h'.PlainList Dd ys → c.RpL h' ys.toList done → compPost c.M c.A E use Q (.ref Dd) Ca (.ok .next) { s with heap := h', toks := tk })
  (herr : ∀ k, q = .error k → ∀ h' tk e, (∀ b o, hs.get? b = some o → Kept (frs c.l) h' b o) → Frs c.hb c.l h' → c.hb.StaysIn h' → ExcAt c.hb hs h' c.C e k true → E (.ref e) { s with heap := h', toks := tk })
  (rv : ∀ (i : Nat) (v : Value) (d : D), vals[i]? = some v → ds[i]? = some d → c.Rp s.heap v d) (a0 : CompAt c hs Dd St s.heap c.vs 0 #[] [] s.heap) (hq : compR T X ds = some q) :
  codeAny c.M c.A (.compLoop (.ListComp elt [⟨.Name x px, iter, ifs, 0⟩] sc pos) 0 (.ref I) (.ref Dd) c.env) (compPost c.M c.A E use Q (.ref Dd) Ca) s := by
 refine comp_turns (CompInv c s hs Dd vals St ds T X q) (fun k s' z => ?_) (vals.length + 1) ⟨s.heap, s.toks, 0, #[], [], q, rfl, Nat.zero_le _, rfl, a0, Nat.le_refl _, hq, by cases q <;> rfl⟩
 obtain ⟨h1, tk1, i, ys, done, rest, rfl, hi, rfl, a1, dl1, hr1, e1⟩ := z
 by_cases hlt : i < vals.length
 ·obtain ⟨v, hv⟩ : ∃ v, vals[i]? = some v := ⟨_, List.getElem?_eq_getElem hlt⟩
  obtain ⟨d, hd⟩ : ∃ d, ds[i]? = some d := ⟨_, List.getElem?_eq_getElem (len ▸ hlt)⟩
  rw [drop_at hd, compR_cons] at hr1
  have raise : ∀ {kk : SStr} {h4 : Heap} {tk4 : Nat}, CompAt c hs Dd St s.heap (upd c.vs x (.imm d)) (i + 1) ys done h4 → q = .error kk → ({ c with vs := upd c.vs x (.imm d) } : Ct).PX { s with heap := h4, toks := tk4 } kk (c.NB (compPost c.M c.A E use Q (.ref Dd) Ca)) := by
   intro kk h4 tk4 a4 eq h5 tk5 ee tb u5 f5 s5 x5
   obtain ⟨m4, hm4, _⟩ := a4.inv.ns
   refine comp_raise (hs := hs) (hk := h4) (s := { s with heap := h5, toks := tk5 }) F.R f5 s5 (fun b o z => u5.ex z) x5 (ns_ex (F.eL ▸ hm4)) F.cB nC (F.eL ▸ u5.ns hm4) (fun b o z => (a4.kh b o z).isSome) (fun b o z => by rintro rfl; exact nox F.sC z)
    (fun b o z => (a4.kh b o z).next u5) fun h6 k6 f6 s6 x6 => herr kk eq h6 tk5 ee k6 f6 s6 (x6.older fun b z => ?_)
   cases y : hs.get? b with
   | none => rfl
   | some o => obtain ⟨o', y'⟩ := (a4.kh b o y).isSome; exact nox z y'
  have goOn : ∀ {h4 : Heap} {tk4 : Nat} {ys' : Array Value} {done' : List D} {rest' : Except SStr (List D)}, CompAt c hs Dd St s.heap c.vs (i + 1) ys' done' h4 → done'.length ≤ i + 1 → compR T X (ds.drop (i + 1)) = some rest' → q = joinR done' rest' → ∃ m, m < vals.length + 1 - i ∧ CompInv c s hs Dd vals St ds T X q m { s with heap := h4, toks := tk4 } :=
   fun {h4 tk4 ys' done' rest'} a l r e => ⟨vals.length + 1 - (i + 1), by omega, h4, tk4, i + 1, ys', done', rest', rfl, hlt, rfl, a, l, r, e⟩
  refine F.Wk.item i v { s with heap := h1, toks := tk1 } _ _ hv a1.st fun u h2 tk2 hu st2 k2 => ?_
  have a2 := a1.next F k2 st2
  have ru : c.Rp h2 u d := rp_hand (Rp_kp (rv i v d hv hd) a2.kp) hu
  refine wpAny_assign_Name (store_local (s := { s with heap := h2, toks := tk2 }) F.R a2.inv F.hx ru fun h3 tk3 J3 sb => ?_)
  have a3 := a2.stored F sb J3
  cases ht : T d with
  | none => rw [ht] at hr1; exact nn hr1
  | some rt' =>
   rw [ht] at hr1
   refine hte d _ ht { s with heap := h3, toks := tk3 } _ _ J3 ?_
   cases rt' with
   | error kk =>
    obtain rfl := si hr1
    exact raise a3 (by rw [e1]; rfl)
   | ok b =>
    intro h4 tk4 u4
    have a4 := a3.up F u4
    cases b with
    | false => exact goOn (a4.back F) (Nat.le_succ_of_le dl1) hr1 e1
    | true =>
     replace hr1 : (bnd (X d) fun b => bnd (compR T X (ds.drop (i + 1))) fun bs => rt (b :: bs)) = some rest := hr1
     cases hb : X d with
     | none => rw [hb] at hr1; exact nn hr1
     | some re =>
      rw [hb] at hr1
      cases re with
      | error kk =>
       obtain rfl := si hr1
       exact hel d _ hb { s with heap := h4, toks := tk4 } _ _ a4.inv (raise a4 (by rw [e1]; rfl))
      | ok bd =>
       refine hel d _ hb { s with heap := h4, toks := tk4 } _ _ a4.inv fun h5 tk5 y u5 ry => ?_
       have a5 := (a4.up F u5).back F
       have sz : ys.size = done.length := by have := RpL_len a1.rl; simpa using this
       refine wpAny_list_append_plain (s := { s with heap := h5, toks := tk5 }) a5.pl (fun h6 pl6 sb6 => ?_) (by simp only [sizeLine]; omega)
       replace hr1 : (bnd (compR T X (ds.drop (i + 1))) fun bs => rt (bd :: bs)) = some rest := hr1
       cases hc : compR T X (ds.drop (i + 1)) with
       | none => rw [hc] at hr1; exact nn hr1
       | some rest' =>
        rw [hc] at hr1
        refine goOn (a5.grown F pl6 sb6 ry) (by rw [List.length_append]; exact Nat.succ_le_succ dl1) hc ?_
        cases rest' with
        | error kk => obtain rfl := si hr1; exact e1
        | ok l => obtain rfl := si hr1; rw [e1]; simp [joinR]
 ·have hin : i = vals.length := by omega
  subst hin
  rw [len, List.drop_length] at hr1
  obtain rfl := si hr1
  refine F.Wk.done { s with heap := h1, toks := tk1 } _ _ a1.st fun h2 tk2 k2 => ?_
  obtain ⟨m, hm, _⟩ := a1.inv.ns
  have ns2 : h2.Ns Ca m := by
   obtain ⟨o, es, ep, z, r⟩ := hm
   exact ⟨o, es, ep, k2 _ _ (fun y => F.nI.nw (y ▸ F.cW a1.inv)) (F.eL ▸ z), r⟩
  refine hok h2 tk2 ys done m (by rw [e1]; simp [joinR]) (fun b o z => ?_) ns2 (let ⟨n, z⟩ := a1.pl; ⟨n, k2 _ _ (Ne.symm F.nID) z⟩) (RpL_kp a1.rl (F.kpI k2))
  have nb : b ≠ I := by rintro rfl; exact nox F.sI z
  rcases a1.kh b o z with y | ⟨m, sl, y⟩
  ·exact .inl (k2 b _ nb y)
  ·exact .inr ⟨m, sl, k2 b _ nb y⟩
end
def Ct.Says (c : Ct) (e : Bool → Names → Vars → Expr → MR D) : Prop := ∀ (S : Addr → Prop) (W : List Addr) (env : Env) (vs : Vars) (x : Expr) (r : XD), Room c.A env c.l c.n →
 (e false env.scope.names vs x = some r → ({ c with env := env, S := S, W := W, vs := vs } : Ct).Tr (eval x env) r) ∧ (e true env.scope.names vs x = some r → ({ c with env := env, S := S, W := W, vs := vs } : Ct).Ts (isTrue x env (eval x env)) r)
theorem foldedSet_of {it : Expr} {env : Env} (h : isSet it = false) : ∀ x, foldedSetIterable it env x = pure x := by
 intro x
 cases it <;> first | rfl | exact tf h
noncomputable def listR : Except SStr (List D) → Except SStr D
 | .ok l => .ok (.list l)
 | .error k => .error k
inductive CompQ (T : SStr → D → MR Bool) (X : SStr → D → MR D) (sc : Scope) (tg : Expr) (ds : List D) (q : XD) : Prop
 | mk (x px q0) : tg = .Name x px → isLoc sc.names x = true → ds.length ≤ 1000 → compR (T x) (X x) ds = some q0 → q = listR q0 → CompQ T X sc tg ds q
theorem compGo_cons {e : Bool → Names → Vars → Expr → MR D} {ns : Names} {vs : Vars} {tg elt : Expr} {ifs : List Expr} {sc : Scope} {ds : List D} {q : XD} (hn : ds ≠ []) (h : compGo e ns vs tg elt ifs sc ds = some q) :
  CompQ (fun x d => compTest e (relab ns sc.names) (upd (capt vs sc.names) x (.imm d)) ifs) (fun x d => e false (relab ns sc.names) (upd (capt vs sc.names) x (.imm d)) elt) sc tg ds q := by
 cases ds with
 | nil => exact absurd rfl hn
 | cons d ds =>
  obtain ⟨x, hx, h⟩ := obi h
  cases g : isLoc sc.names x.1 && Nat.ble (d :: ds).length 1000 with
  | false => rw [g] at h; exact nn h
  | true =>
   rw [g] at h
   obtain ⟨g1, g2⟩ := ba g
   dsimp only at h
   cases q0 : compR (fun d => compTest e (relab ns sc.names) (upd (capt vs sc.names) x.1 (.imm d)) ifs) (fun d => e false (relab ns sc.names) (upd (capt vs sc.names) x.1 (.imm d)) elt) (d :: ds) with
   | none => rw [q0] at h; exact nn h
   | some y =>
    rw [q0] at h
    refine ⟨x.1, x.2, y, bF hx, g1, lb g2, q0, ?_⟩
    cases y <;> exact (si h).symm
section
variable {c : Ct} {s : Shared} {E : VQ}
structure CompNew (c : Ct) (h1 h2 h4 : Heap) (Ia Dd Ca : Addr) (m : NM) : Prop where
 nI : h1.get? Ia = none
 nD : h1.get? Dd = none
 nC : h1.get? Ca = none
 ID : Ia ≠ Dd
 IC : Ia ≠ Ca
 DC : Dd ≠ Ca
 k : ∀ b o, h2.get? b = some o → h4.get? b = some o
 eD : h4.get? Dd = some { cls := .type "list", dict := none, data := .seq #[] }
 ns : h4.Ns Ca m
 aI : ∃ o, h4.get? Ia = some o
theorem comp_new {h1 h2 h3 h4 : Heap} {Ia Dd Ca : Addr} {m : NM} (u2 : Up (frs c.l) h1 h2) (nI : h1.get? Ia = none) (aI : ∃ o, h2.get? Ia = some o) (hDd : h2.objs.size = Dd) (hh3 : h2.push { cls := .type "list", dict := none, data := .seq ([] : List Value).toArray } = h3) (hCa : h3.objs.size = Ca)
  (k : ∀ b o, b ≠ Ca → h3.get? b = some o → h4.get? b = some o) (ns : h4.Ns Ca m) : CompNew c h1 h2 h4 Ia Dd Ca m := by
 have k23 : ∀ b o, h2.get? b = some o → h3.get? b = some o := fun b o z => hh3 ▸ Heap.get?_push_of_some _ z
 have n3C : h3.get? Ca = none := hCa ▸ aR _
 have n2D : h2.get? Dd = none := hDd ▸ aR _
 have n2C : h2.get? Ca = none := by
  cases z : h2.get? Ca with
  | none => rfl
  | some o => exact nox n3C (k23 _ _ z)
 have e3D : h3.get? Dd = some { cls := .type "list", dict := none, data := .seq #[] } := by rw [← hh3, ← hDd]; exact Heap.get?_push_size _ rfl
 obtain ⟨o, z⟩ := aI
 have DC : Dd ≠ Ca := fun q => nox n3C (q ▸ e3D)
 have k24 : ∀ b o, h2.get? b = some o → h4.get? b = some o := fun b o z => k b o (fun q => nox n2C (q ▸ z)) (k23 b o z)
 exact ⟨nI, u2.gone n2D, u2.gone n2C, fun q => nox n2D (q ▸ z), fun q => nox n2C (q ▸ z), DC, k24, k _ _ DC e3D, ns, o, k24 _ _ z⟩
theorem new_nF {h1 : Heap} (I1 : c.I h1) {b : Addr} (z : h1.get? b = none) : b ∉ frs c.l := fun m => let ⟨_, y⟩ := I1.alive m; nox z y
theorem new_nW {h1 : Heap} (I1 : c.I h1) {b : Addr} (z : h1.get? b = none) : b ∉ c.W := fun m => let ⟨_, y⟩ := (I1.wl _ m).ex; nox z y
theorem new_nB {h1 : Heap} (I1 : c.I h1) {b : Addr} (z : h1.get? b = none) : c.hb.get? b = none := Inv.new I1 z
noncomputable abbrev Ct.inComp (c : Ct) (sc : Scope) (Ia Dd Ca : Addr) : Ct := { c with env := compEnvC sc (clOf c.env sc.names []) Ca c.env, S := fun a => c.S a ∧ ¬ (a = Ia ∨ a = Dd ∨ a = Ca), W := Ca :: c.W, vs := capt c.vs sc.names }
theorem CompNew.inv {h1 h2 h4 : Heap} {Ia Dd Ca : Addr} {m : NM} {sc : Scope} (N : CompNew c h1 h2 h4 Ia Dd Ca m) (I1 : c.I h1) (u2 : Up (frs c.l) h1 h2) (hk : c.env.scope.kind = .function) (f : CompFacts c.env sc) : (c.inComp sc Ia Dd Ca).I h4 := by
 have J1 : Inv c.prog c.w c.hb (fun a => c.S a ∧ ¬ (a = Ia ∨ a = Dd ∨ a = Ca)) c.l c.env c.W h4 c.vs := Inv.apart (X := fun a => a = Ia ∨ a = Dd ∨ a = Ca) I1 (fun a z => by
  rcases z with rfl | rfl | rfl
  ·exact N.nI
  ·exact N.nD
  ·exact N.nC) (u2.trans (Up.of_keep N.k)) (fun a z => by
  rcases z with rfl | rfl | rfl
  ·exact N.aI
  ·exact ⟨_, N.eD⟩
  ·exact ns_ex N.ns)
 exact Inv.comp J1 hk f (fun z => z.2 (.inr (.inr rfl))) (new_nW I1 N.nC) (new_nB I1 N.nC) N.ns
theorem CompNew.fix {h0 h1 h2 h4 : Heap} {Ia Dd Ca : Addr} {m : NM} {sc : Scope} {fp : List Addr} {vals : List Value} {St : Nat → Heap → Prop} {x : SStr} (N : CompNew c h1 h2 h4 Ia Dd Ca m) (I1 : c.I h1) (u1 : Up (frs c.l) h0 h1) (R : Room c.A c.env c.l c.n) (f : CompFacts c.env sc) (Wk : Walk c.prog c.w c.A Ia fp vals St)
  (fpk : ∀ b ∈ fp, Okk c.S c.W (frs c.l) b ∧ ∃ o, h1.get? b = some o) (gx : isLoc sc.names x = true) : CompFix (c.inComp sc Ia Dd Ca) h0 Ia Dd Ca fp vals St x := by
 have hx : sc.names.lookup x = some .local := by unfold isLoc at gx; exact bq gx
 refine ⟨Wk, R.comp f, rfl, (by show (relabel sc c.env).names.lookup x = _; exact lookup_relabel_local hx), fun b z => ?_, ⟨fun z => z.2 (.inl rfl), fun m => ?_, new_nF I1 N.nI, new_nB I1 N.nI⟩, ⟨fun z => z.2 (.inr (.inl rfl)), fun m => ?_, new_nF I1 N.nD, new_nB I1 N.nD⟩, N.ID, new_nF I1 N.nC, fun b m => ?_, u1.gone N.nI, u1.gone N.nD, u1.gone N.nC⟩
 ·obtain ⟨d, _, _, mf⟩ := lk_capt z
  exact nomatch hx.symm.trans (f.free _ mf rfl).2
 ·exact (mp m).elim N.IC (new_nW I1 N.nI)
 ·exact (mp m).elim N.DC (new_nW I1 N.nD)
 ·obtain ⟨ok, o, z⟩ := fpk b m
  exact ⟨fun y => nox N.nC (y ▸ z), fun y => nox N.nD (y ▸ z), ok.2.2⟩
def Ct.PC (c : Ct) (s : Shared) (q : XD) (use : Option (Value → Sem Unit)) (Q : VQ) (E : VQ) : Prop :=
 ∀ h' tk Dd Ca m ds, q = .ok (.list ds) → h'.Ns Ca m → s.heap.get? Ca = none → (∀ h'', Heap.SameBut Ca h' h'' → Up (frs c.l) s.heap h'' ∧ (c.on fun a => c.S a ∧ ¬ (a = Ca)).Rp h'' (.ref Dd) (.list ds)) → compPost c.M c.A E use Q (.ref Dd) Ca (.ok .next) { s with heap := h', toks := tk }
theorem CompNew.fin {h1 h2 h4 h' : Heap} {Ia Dd Ca : Addr} {m m' : NM} {tk : Nat} {ys : Array Value} {done : List D} {q : XD} {use : Option (Value → Sem Unit)} {Q : VQ} (N : CompNew c h1 h2 h4 Ia Dd Ca m) (I1 : c.I h1) (u1 : Up (frs c.l) s.heap h1) (sc : Scope) (hQ : c.PC s q use Q E) (eq : q = .ok (.list done))
  (kh : ∀ b o, s.heap.get? b = some o → Kept (frs c.l) h' b o) (hm : h'.Ns Ca m') (pl : h'.PlainList Dd ys) (r : (c.inComp sc Ia Dd Ca).RpL h' ys.toList done) : compPost c.M c.A E use Q (.ref Dd) Ca (.ok .next) { s with heap := h', toks := tk } :=
 hQ h' tk Dd Ca m' done eq hm (u1.gone N.nC) fun h'' sb => by
  obtain ⟨n, pl⟩ := pl
  obtain ⟨as, ra, ka⟩ := r
  refine ⟨fun b o z => ?_, Dd :: as, .list ((sb.2 Dd N.DC).trans pl) rfl rfl rfl (RdAll.keep (fun a m o z => (sb.2 a fun y => (ka a m).1.2 (.inr (.inr y))).trans z) ra), fun a m => ?_⟩
  ·have nb : b ≠ Ca := fun y => nox (u1.gone N.nC) (y ▸ z)
   rcases kh b o z with y | ⟨m, sl, y⟩
   ·exact .inl ((sb.2 b nb).trans y)
   ·exact .inr ⟨m, sl, (sb.2 b nb).trans y⟩
  ·rcases mp m with rfl | m
   ·exact ⟨⟨I1.fresh _ N.nD, N.DC⟩, new_nW I1 N.nD, new_nF I1 N.nD⟩
   ·exact ⟨⟨(ka a m).1.1, fun y => (ka a m).1.2 (.inr (.inr y))⟩, fun y => (ka a m).2.1 (mc _ y), (ka a m).2.2⟩
theorem CompNew.vals {h1 h2 h4 : Heap} {Ia Dd Ca : Addr} {m : NM} {v : Value} {d : D} (N : CompNew c h1 h2 h4 Ia Dd Ca m) (u2 : Up (frs c.l) h1 h2) (sc : Scope) (r : c.Rp h1 v d) : (c.inComp sc Ia Dd Ca).Rp h4 v d := by
 obtain ⟨as, r, ka⟩ := r
 refine ⟨as, Rd.keep (fun a m o z => (u2.trans (Up.of_keep N.k)).at z (ka a m).2.2) r, fun a m => ?_⟩
 obtain ⟨o, z⟩ := Rd.alive r a m
 refine ⟨⟨(ka a m).1, fun y => ?_⟩, fun y => ?_, (ka a m).2.2⟩
 ·rcases y with y | y | y
  ·exact nox N.nI (y ▸ z)
  ·exact nox N.nD (y ▸ z)
  ·exact nox N.nC (y ▸ z)
 ·exact (mp y).elim (fun y => nox N.nC (y ▸ z)) (ka a m).2.1
theorem comp_run {e : Bool → Names → Vars → Expr → MR D} {tg elt it : Expr} {ifs : List Expr} {sc : Scope} {pos : Pos} {q : XD} {use : Option (Value → Sem Unit)} {Q : VQ} {h1 h2 h4 : Heap} {tk : Nat} {Ia Dd Ca : Addr} {m : NM} {fp : List Addr} {vals : List Value} {St : Nat → Heap → Prop} {ds : List D} (R : Room c.A c.env c.l c.n) (IH : c.Says e)
  (f : CompFacts c.env sc) (hr : compGo e c.env.scope.names c.vs tg elt ifs sc ds = some q) (I1 : c.I h1) (u1 : Up (frs c.l) s.heap h1) (u2 : Up (frs c.l) h1 h2) (N : CompNew c h1 h2 h4 Ia Dd Ca m) (Wk : Walk c.prog c.w c.A Ia fp vals St) (st0 : St 0 h2) (fpk : ∀ b ∈ fp, Okk c.S c.W (frs c.l) b ∧ ∃ o, h1.get? b = some o) (len : vals.length = ds.length)
  (rv : ∀ (i : Nat) (v : Value) (d : D), vals[i]? = some v → ds[i]? = some d → c.Rp h1 v d) (hE : ∀ k, q = .error k → c.PX s k E) (hQ : c.PC s q use Q E) :
  codeAny c.M c.A (.compLoop (.ListComp elt [⟨tg, it, ifs, 0⟩] sc pos) 0 (.ref Ia) (.ref Dd) (compEnvC sc (clOf c.env sc.names []) Ca c.env)) (compPost c.M c.A E use Q (.ref Dd) Ca) { s with heap := h4, toks := tk } := by
 have u14 := u2.trans (Up.of_keep (F := frs c.l) N.k)
 have kh4 : ∀ b o, s.heap.get? b = some o → Kept (frs c.l) h4 b o := u1.trans u14
 have st4 : St 0 h4 := Wk.frame _ _ _ st0 fun b _ o z => N.k _ _ z
 by_cases hn : ds = []
 ·subst hn
  obtain rfl := si hr
  refine compLoop_none (Wk.done { s with heap := h4, toks := tk } _ _ (by rw [len]; exact st4) fun h5 tk5 k5 => ⟨rfl, ?_⟩)
  obtain ⟨o, es, ep, z, r⟩ := N.ns
  refine N.fin (s := s) (ys := #[]) I1 u1 sc hQ rfl (fun b o z => ?_) ⟨o, es, ep, k5 _ _ (Ne.symm N.IC) z, r⟩ ⟨0, k5 _ _ (Ne.symm N.ID) N.eD⟩ ⟨[], .nil, fun _ m => nomatch m⟩
  have nb : b ≠ Ia := fun y => nox (u1.gone N.nI) (y ▸ z)
  rcases kh4 b o z with y | ⟨m, sl, y⟩
  ·exact .inl (k5 _ _ nb y)
  ·exact .inr ⟨m, sl, k5 _ _ nb y⟩
 ·obtain ⟨x, px, q0, rfl, gx, gl, hq0, rfl⟩ := compGo_cons hn hr
  have R2 : Room c.A (compEnvC sc (clOf c.env sc.names []) Ca c.env) c.l c.n := R.comp f
  have eN : (compEnvC sc (clOf c.env sc.names []) Ca c.env).scope.names = relab c.env.scope.names sc.names := relab_eq R.kd
  refine comp_loop (c := c.inComp sc Ia Dd Ca) (s := { s with heap := h4, toks := tk }) (N.fix I1 u1 R f Wk fpk gx) (new_nB I1 N.nC) len gl (fun d r z => (IH _ _ _ _ _ _ R2).1 (eN ▸ z)) (fun d r z => tests_ok z fun t _ r z => (IH _ _ _ _ _ _ R2).2 (eN ▸ z)) (fun h' tk ys done m eq kh hm pl rl => N.fin (s := s) I1 u1 sc hQ (congrArg listR eq) kh hm pl rl)
   (fun k eq h' tk ee kh fr st x => hE _ (congrArg listR eq) h' tk ee true (fun b o z => kh b o z) fr st x) (fun i v d z1 z2 => N.vals u2 sc (rv i v d z1 z2)) ⟨N.inv I1 u2 R.kd f, st4, kh4, fun _ _ _ _ _ e => e, ⟨0, N.eD⟩, RpL_nil⟩ hq0
theorem comp_arm {e : Bool → Names → Vars → Expr → MR D} {tg elt it : Expr} {ifs : List Expr} {sc : Scope} {pos pos' : Pos} {src : MR (List D)} {q : XD} {use : Option (Value → Sem Unit)} {Q : VQ} (R : Room c.A c.env c.l c.n)
  (hok : compOk c.env.scope.names sc = true) (hset : isSet it = false) (IH : c.Says e) (hsrc : ∀ r, src = some r → c.TrI (eval it c.env) r) (hr : bnd src (compGo e c.env.scope.names c.vs tg elt ifs sc) = some q) (I : c.I s.heap) (hE : ∀ k, q = .error k → c.PX s k E)
  (hQ : c.PC s q use Q E) :
  wpAny c.M c.A (comprehension (.ListComp elt [⟨tg, it, ifs, 0⟩] sc pos) sc c.env pos' (newList []) false (eval it c.env) use) Q E s := by
 have f := compFacts hok
 have hclos : closureFor sc c.env = pure (clOf c.env sc.names []) := closure_ok fun p m z => I.cl p.1 (f.free p m z).1
 refine wpAny_comprehension_free (use := use) rfl (foldedSet_of hset) hclos f.kd f.loc ?_
 cases hs : src with
 | none => rw [hs] at hr; exact nn hr
 | some y =>
  rw [hs] at hr
  cases y with
  | error k => obtain rfl := si hr; exact hsrc _ hs s _ E I (hE k rfl)
  | ok ds =>
   refine hsrc _ hs s _ E I fun h1 tk1 xv u1 hsr => ?_
   have I1 := I.up u1
   refine hsr { s with heap := h1, toks := tk1 } _ _ I1 (Up.refl _ _) fun h2 it2 u2 itr => ?_
   obtain ⟨Ia, fp, vals, St, rfl, Wk, st0, fpk, nI, len, rv⟩ := itr
   refine wpAny_newObj_type (wpAny_newFunctionEnv f.cell (by simp) (fun h4 hns4 sb4 => ?_) f.kd)
   have N := comp_new (c := c) u2 nI (Wk.live _ _ st0) rfl rfl rfl (fun b o n z => (sb4.2 b n).trans (Heap.get?_push_of_some _ z)) hns4
   have loop := comp_run (tk := tk1 + ([] : List (SStr × Value)).length) (it := it) (pos := pos) R IH f hr I1 u1 u2 N Wk st0 fpk len rv hE hQ
   exact codeAny_compStart_list loop (Wk.self 0 _ _ _ (Wk.frame _ _ _ st0 fun b _ o z => N.k _ _ z) loop)
end
theorem bW {es : List Expr} (h : es.all bI = true) : ∀ e ∈ es, ∀ x p, e ≠ .Starred x p := fun e m x p q => by
 have := la h e m
 rw [q] at this
 exact ft this
theorem notSet_marks {op : CmpOp} {r : Expr} (h : isSet r = false) : behindInMarks op r = false := by
 cases r <;> first | rfl | exact tf h
section
variable {c : Ct} {mg mb : NM} {cx : Cx} {e : Bool → Names → Vars → Expr → MR D}
structure CxOk (prog : Program) (w : World) (hb : Heap) (C : Addr) (mg : NM) (n : Nat) (cx : Cx) : Prop where
 call : ∀ f g, cx.call f = some g → (∃ q, fnOf f = some q) ∧ ∀ ds r, g ds = some r → SoundCall prog w hb C mg n f ds r
 glob : ∀ x d, cx.glob x = some d → globD x = some d
theorem base_ok (R : Room c.A c.env c.l c.n) (hx : ∀ x r, e false c.env.scope.names c.vs x = some r → c.Tr (eval x c.env) r) {v : Expr} {r : XD} (h : baseOf e c.env.scope.names c.vs v = some r) : c.TrH (eval v c.env) r := by
 unfold baseOf at h
 cases q : (aU v).bind fun x => lkOwn c.vs x.1 with
 | none => rw [q] at h; exact trH_of (hx _ _ h)
 | some d =>
  rw [q] at h
  obtain rfl := si h
  obtain ⟨x, h1, h2⟩ := obi q
  rw [bF h1]
  exact trH_own R (lkOwn_eq h2)
theorem src_ok (R : Room c.A c.env c.l c.n) (B : Bs c.prog c.w c.hb c.C mg mb) (hx : ∀ x r, e false c.env.scope.names c.vs x = some r → c.Tr (eval x c.env) r) {it : Expr} {r : Except SStr (List D)} (h : srcOf e c.env.scope.names c.vs it = some r) : c.TrI (eval it c.env) r := by
 unfold srcOf at h
 cases q : isRange c.env.scope.names it with
 | some as =>
  rw [q] at h
  obtain ⟨x, h1, q⟩ := obi q
  obtain ⟨g, q⟩ := aB q
  obtain rfl := si q
  obtain ⟨g, g3⟩ := ba g
  obtain ⟨g1, g2⟩ := ba g
  rw [callOf_eq h1]
  exact src_rng R B g1 g2 (bW g3) (fun e' _ r h => hx e' r h) h
 | none =>
  rw [q] at h
  dsimp only at h
  cases q : valsOf it with
  | none => rw [q] at h; exact src_tree R.hh (fun r h => hx _ r h) h
  | some x =>
   rw [q] at h
   obtain ⟨g, h⟩ := aB h
   obtain ⟨d, h1, h⟩ := obi h
   obtain ⟨l, h2, h⟩ := obi h
   obtain ⟨g1, g2⟩ := ba g
   cases q2 : Nat.ble l.length 1000 with
   | false => rw [q2] at h; exact nn h
   | true =>
    rw [q2] at h
    obtain rfl := si h
    obtain ⟨p, q⟩ := valsOf_eq q
    rw [q, aX.mp g1]
    exact src_vals R (asD_eq h2 ▸ lkImm_eq h1) g2
theorem asBool_some {y : MR D} {q : XD} (h : asBool y = some q) : y = some q ∧ ∀ d, q = .ok d → ∃ b, d = .bool b := bnd_bool h
theorem evGet_ok (R : Room c.A c.env c.l c.n) (hx : ∀ x r, e false c.env.scope.names c.vs x = some r → c.Tr (eval x c.env) r) {x : SStr} {np ap ps : Pos} {as : List Expr} {r : XD} (hl : (ap.endLine == ps.line) = true) (h : evGet e c.env.scope.names c.vs x as = some r) : c.Tr (eval (.Call (.Attribute (.Name x np) (nm "get") ap) as [] ps) c.env) r := by
 have hu : c.A.units + 100 < cLine := by have := R.un; omega
 obtain ⟨y, h1, h⟩ := obi h
 rw [two_eq h1]
 cases g : bI y.1 && bI y.2 with
 | false => rw [g] at h; exact nn h
 | true =>
  rw [g] at h
  obtain ⟨b, h2, h⟩ := obi h
  obtain ⟨l, h3, h⟩ := obi h
  have ns := bW (es := [y.1, y.2]) (by simpa using g)
  refine arm_get (l := l) hu ?_ (hx _) (hx _) ns hl h
  cases b with
  | imm d => exact trH_of (arm_name R (asD_eq h3 ▸ h2))
  | own d => exact trH_own R (asD_eq h3 ▸ h2)
theorem evFn_ok (R : Room c.A c.env c.l c.n) (B : Bs c.prog c.w c.hb c.C mg mb) (K : CxOk c.prog c.w c.hb c.C mg c.n cx) (hx : ∀ x r, e false c.env.scope.names c.vs x = some r → c.Tr (eval x c.env) r) {f : SStr} {fp ps : Pos} {as : List Expr} {r : XD} (h : evFn cx e c.env.scope.names c.vs f as = some r) : c.Tr (eval (.Call (.Name f fp) as [] ps) c.env) r := by
 unfold evFn at h
 cases g : bZ c.env.scope.names f && as.all bI with
 | false => rw [g] at h; exact nn h
 | true =>
  rw [g] at h
  obtain ⟨g1, g2⟩ := ba g
  dsimp only at h
  cases hg : cx.call f with
  | some gf =>
   rw [hg] at h
   obtain ⟨k1, k2⟩ := K.call _ _ hg
   exact arm_fn (call := fun _ => gf) R B k2 g1 (bW g2) (fun e' _ r z => hx e' r z) k1 h
  | none =>
   rw [hg] at h
   dsimp only at h
   cases hl : lenArg f as with
   | some x =>
    rw [hl] at h
    obtain ⟨g3, hl⟩ := aB hl
    obtain rfl := one_eq hl
    exact arm_len R B g3 g1 (fun x p q => bW g2 _ mz x p q) (fun r z => base_ok R hx z) h
   | none =>
    rw [hl] at h
    obtain ⟨v, hv, h⟩ := obi h
    exact arm_blt R B hv g1 (bW g2) (fun e' _ r z => hx e' r z) h
theorem evCall_ok (R : Room c.A c.env c.l c.n) (B : Bs c.prog c.w c.hb c.C mg mb) (K : CxOk c.prog c.w c.hb c.C mg c.n cx) (hx : ∀ x r, e false c.env.scope.names c.vs x = some r → c.Tr (eval x c.env) r) {f : Expr} {as : List Expr} {kw : List Keyword} {ps : Pos} {r : XD} (h : evCall cx e c.env.scope.names c.vs f as kw ps = some r) : c.Tr (eval (.Call f as kw ps) c.env) r := by
 unfold evCall at h
 cases g : isNil kw with
 | false => rw [g] at h; exact nn h
 | true =>
  rw [g] at h
  rw [aZ g]
  dsimp only at h
  cases q : aU f with
  | some x =>
   rw [q] at h
   rw [bF q]
   exact evFn_ok R B K hx h
  | none =>
   rw [q] at h
   obtain ⟨y, h1, h⟩ := obi h
   obtain ⟨x, h2, h⟩ := obi h
   cases g : sEq y.2.1 (nm "get") && y.2.2.endLine == ps.line with
   | false => rw [g] at h; exact nn h
   | true =>
    rw [g] at h
    obtain ⟨g1, g2⟩ := ba g
    rw [asAttribute_eq h1, bF h2, aX.mp g1]
    exact evGet_ok R hx g2 h
theorem evConst_ok {k : Const} {n : Nat} {pos : Pos} {r : XD} (h : evConst k = some r) : c.Tr (eval (.Constant k n pos) c.env) r := by
 cases k <;> first | (cases h; exact arm_none) | (cases h; exact arm_bool) | (cases h; exact arm_int) | (cases h; exact arm_str) | exact nn h
theorem evName_ok (R : Room c.A c.env c.l c.n) (B : Bs c.prog c.w c.hb c.C mg mb) (K : CxOk c.prog c.w c.hb c.C mg c.n cx) {x : SStr} {pos : Pos} {r : XD} (h : evName cx c.env.scope.names c.vs x = some r) : c.Tr (eval (.Name x pos) c.env) r := by
 unfold evName at h
 cases q : lk c.vs x with
 | some b =>
  rw [q] at h
  obtain ⟨d, h1, h⟩ := obi h
  obtain rfl := si h
  cases b with
  | imm d' => exact arm_name R (q.trans (congrArg (fun z => some (Bd.imm z)) (si h1)))
  | own d' => exact nn h1
 | none =>
  rw [q] at h
  dsimp only at h
  cases g : bZ c.env.scope.names x with
  | false => rw [g] at h; exact nn h
  | true =>
   rw [g] at h
   obtain ⟨d, hd, rfl⟩ := bR h
   exact arm_glob R B g (K.glob _ _ hd)
theorem evCmp_ok (hu : c.A.units + 100 < cLine) (hx : ∀ x r, e false c.env.scope.names c.vs x = some r → c.Tr (eval x c.env) r) {l : Expr} {ops : List CmpOp} {rs : List Expr} {pos : Pos} {r : XD} (h : evCmp e c.env.scope.names c.vs l ops rs = some r) :
  c.Tr (eval (.Compare l ops rs pos) c.env) r ∧ ∀ whole, c.Ts (isTrue (.Compare l ops rs pos) c.env whole) r := by
 obtain ⟨op, h1, h⟩ := obi h
 obtain ⟨x, h2, h⟩ := obi h
 rw [one_eq h1, one_eq h2]
 cases g : isSet x with
 | true => rw [g] at h; exact nn h
 | false =>
  rw [g] at h
  exact ⟨arm_cmp hu (notSet_marks g) (hx _) (hx _) h, fun _ => tst_cmp hu (notSet_marks g) (hx _) (hx _) h⟩
theorem evTup_ok (hx : ∀ x r, e false c.env.scope.names c.vs x = some r → c.Tr (eval x c.env) r) {es : List Expr} {n : Nat} {pos : Pos} {r : XD} (h : evTup e c.env.scope.names c.vs es = some r) : c.Tr (eval (.Tuple es n pos) c.env) r := by
 unfold evTup at h
 cases g : es.all bI with
 | false => rw [g] at h; exact nn h
 | true => rw [g] at h; exact arm_tuple (bW g) (fun e' _ r z => hx e' r z) h
theorem evLst_ok (hx : ∀ x r, e false c.env.scope.names c.vs x = some r → c.Tr (eval x c.env) r) {es : List Expr} {pos : Pos} {r : XD} (h : evLst e c.env.scope.names c.vs es = some r) : c.Tr (eval (.List es pos) c.env) r := by
 unfold evLst at h
 cases g : es.all bI with
 | false => rw [g] at h; exact nn h
 | true => rw [g] at h; exact arm_list (bW g) (fun e' _ r z => hx e' r z) h
theorem evNeg_ok (hx : ∀ x r, e false c.env.scope.names c.vs x = some r → c.Tr (eval x c.env) r) {op : UnaryOp} {x : Expr} {pos : Pos} {r : XD} (h : evNeg e c.env.scope.names c.vs op x = some r) : c.Tr (eval (.UnaryOp op x pos) c.env) r := by
 cases op with
 | USub => exact arm_neg (hx _) h
 | _ => exact nn h
theorem evBool_ok (hx : ∀ x r, e false c.env.scope.names c.vs x = some r → c.Tr (eval x c.env) r) {op : BoolOp} {es : List Expr} {pos : Pos} {r : XD} (h : evBool e c.env.scope.names c.vs op es = some r) : c.Tr (eval (.BoolOp op es pos) c.env) r := by
 obtain ⟨y, h1, h⟩ := obi h
 rw [two_eq h1]
 cases op with
 | And => exact arm_and (hx _) (hx _) h
 | Or => exact arm_or (hx _) (hx _) h
theorem evSub_ok (R : Room c.A c.env c.l c.n) (hx : ∀ x r, e false c.env.scope.names c.vs x = some r → c.Tr (eval x c.env) r) {v i : Expr} {pos : Pos} {r : XD} (h : evSub e c.env.scope.names c.vs v i = some r) : c.Tr (eval (.Subscript v i pos) c.env) r := by
 unfold evSub at h
 cases q : sliceOf i with
 | some x => rw [q] at h; rw [sliceOf_eq q]; exact arm_slice (hx _) (hx _) h
 | none => rw [q] at h; exact arm_sub (by have := R.un; omega) (fun r z => base_ok R hx z) (hx _) h
theorem evDict_ok (R : Room c.A c.env c.l c.n) (B : Bs c.prog c.w c.hb c.C mg mb) (IH : c.Says e) {ks : List (Option Expr)} {es : List Expr} {pos : Pos} {r : XD} (h : evDict e c.env.scope.names c.vs ks es = some r) : c.Tr (eval (.Dict ks es pos) c.env) r := by
 cases ks with
 | nil =>
  replace h : (match isNil es with | true => rt (.dict []) | false => none) = some r := h
  cases g : isNil es with
  | false => rw [g] at h; exact nn h
  | true =>
   rw [g] at h
   obtain rfl := si h
   rw [aZ g]
   exact arm_dict0 B
 | cons k l =>
  replace h : (match isNil l with | true => k.bind fun k => (one es).bind fun v => bnd (e false c.env.scope.names c.vs k) fun a => bnd (e false c.env.scope.names c.vs v) fun b => ofO (aG (isKey a && isRat b) (some (.dict [(a, b)]))) | false => none) = some r := h
  cases g : isNil l with
  | false => rw [g] at h; exact nn h
  | true =>
   rw [g] at h
   obtain ⟨k', h1, h⟩ := obi h
   obtain ⟨v, h2, h⟩ := obi h
   rw [h1, aZ g, one_eq h2]
   exact arm_dict1 (by have := R.un; omega) B (fun S r z => (IH S c.W c.env c.vs _ r R).1 z) (fun S r z => (IH S c.W c.env c.vs _ r R).1 z) h
theorem evComp_ok (R : Room c.A c.env c.l c.n) (B : Bs c.prog c.w c.hb c.C mg mb) (IH : c.Says e) {elt : Expr} {gs : List Comprehension} {sc : Scope} {pos : Pos} {r : XD} (h : evComp e c.env.scope.names c.vs elt gs sc = some r) : c.Tr (eval (.ListComp elt gs sc pos) c.env) r := by
 obtain ⟨⟨tg, it, ifs, a⟩, h1, h⟩ := obi h
 rw [one_eq h1]
 dsimp only at h
 cases g : decide (a = 0) && compOk c.env.scope.names sc && !(isSet it) with
 | false => rw [g] at h; exact nn h
 | true =>
  rw [g] at h
  obtain ⟨g, g3⟩ := ba g
  obtain ⟨g1, g2⟩ := ba g
  rw [of_decide_eq_true g1]
  intro s Q E I p
  rw [eval_ListComp]
  refine comp_arm (use := none) R g2 (by simpa using g3) IH (fun r z => src_ok R B (fun x r z => (IH c.S c.W c.env c.vs x r R).1 z) z) h I (fun k eq => by rw [eq] at p; exact p) fun h' tk Dd Ca m ds eq hm nC k => ⟨m, hm, fun h'' sb => ?_⟩
  subst eq
  obtain ⟨u, rp⟩ := k h'' sb
  exact p h'' tk _ u (rp.sub fun a z => z.1)
theorem evE_ok (R : Room c.A c.env c.l c.n) (B : Bs c.prog c.w c.hb c.C mg mb) (K : CxOk c.prog c.w c.hb c.C mg c.n cx) (IH : c.Says e) {x : Expr} {r : XD} (h : evE cx e c.env.scope.names c.vs x = some r) : c.Tr (eval x c.env) r := by
 have hx : ∀ x r, e false c.env.scope.names c.vs x = some r → c.Tr (eval x c.env) r := fun x r z => (IH c.S c.W c.env c.vs x r R).1 z
 have hu : c.A.units + 100 < cLine := by have := R.un; omega
 cases x with
 | Constant k n pos => exact evConst_ok h
 | Name x pos => exact evName_ok R B K h
 | Tuple es n pos => exact evTup_ok hx h
 | List es pos => exact evLst_ok hx h
 | BinOp l op r pos => exact arm_bin (hx _) (hx _) h
 | UnaryOp op x pos => exact evNeg_ok hx h
 | IfExp t a b pos => exact arm_if (fun r z => (IH c.S c.W c.env c.vs _ r R).2 z) (hx _) (hx _) h
 | BoolOp op es pos => exact evBool_ok hx h
 | Compare l ops rs pos => exact (evCmp_ok hu hx h).1
 | Subscript v i pos => exact evSub_ok R hx h
 | Dict ks es pos => exact evDict_ok R B IH h
 | Call f as kw ps => exact evCall_ok R B K hx h
 | ListComp elt gs sc pos => exact evComp_ok R B IH h
 | _ => exact nn h
end
section
variable {c : Ct} {mg mb : NM} {cx : Cx} {e : Bool → Names → Vars → Expr → MR D}
theorem tBool_ok (ht : ∀ x r, e true c.env.scope.names c.vs x = some r → c.Ts (isTrue x c.env (eval x c.env)) r) {op : BoolOp} {x : Expr} {rest : List Expr} {k : MR D} {r : XD} (hk : ∀ r, k = some r → c.Ts (allTrue op rest c.env) r) (h : tBool e c.env.scope.names c.vs op x k = some r) : c.Ts (allTrue op (x :: rest) c.env) r := by
 cases op with
 | And => exact ts_and (ht _) hk h
 | Or => exact ts_or (ht _) hk h
theorem evTBool_ok (ht : ∀ x r, e true c.env.scope.names c.vs x = some r → c.Ts (isTrue x c.env (eval x c.env)) r) {op : BoolOp} {es : List Expr} {r : XD} (h : evTBool e c.env.scope.names c.vs op es = some r) : c.Ts (allTrue op es c.env) r := by
 unfold evTBool at h
 cases q : two es with
 | some y =>
  rw [q] at h
  rw [two_eq q]
  exact tBool_ok ht (fun r z => ts_last (ht _) z) h
 | none =>
  rw [q] at h
  obtain ⟨y, h1, h⟩ := obi h
  rw [three_eq h1]
  exact tBool_ok ht (fun r z => tBool_ok ht (fun r z => ts_last (ht _) z) z) h
theorem evTConst_ok {k : Const} {n : Nat} {pos : Pos} {r : XD} (h : evTConst k = some r) : c.Ts (isTrue (.Constant k n pos) c.env (eval (.Constant k n pos) c.env)) r := by
 cases k with
 | bool b =>
  obtain ⟨h1, h2⟩ := asBool_some (y := rt (.bool b)) h
  exact tst_value (b := true) (evConst_ok h1) h2 rfl
 | _ => exact nn h
theorem evT_ok (R : Room c.A c.env c.l c.n) (B : Bs c.prog c.w c.hb c.C mg mb) (K : CxOk c.prog c.w c.hb c.C mg c.n cx) (IH : c.Says e) {x : Expr} {r : XD} (h : evT cx e c.env.scope.names c.vs x = some r) : c.Ts (isTrue x c.env (eval x c.env)) r := by
 have hx : ∀ x r, e false c.env.scope.names c.vs x = some r → c.Tr (eval x c.env) r := fun x r z => (IH c.S c.W c.env c.vs x r R).1 z
 have ht : ∀ x r, e true c.env.scope.names c.vs x = some r → c.Ts (isTrue x c.env (eval x c.env)) r := fun x r z => (IH c.S c.W c.env c.vs x r R).2 z
 cases x with
 | BoolOp op es pos =>
  show c.Ts (allTrue op es c.env) r
  exact evTBool_ok ht h
 | Compare l ops rs pos => exact (evCmp_ok (by have := R.un; omega) hx h).2 _
 | Constant k n pos => exact evTConst_ok h
 | Name x pos =>
  obtain ⟨h1, h2⟩ := asBool_some (y := evName cx c.env.scope.names c.vs x) h
  exact tst_value (b := true) (evName_ok R B K h1) h2 rfl
 | Call f as kw pos =>
  obtain ⟨h1, h2⟩ := asBool_some (y := evCall cx e c.env.scope.names c.vs f as kw pos) h
  exact tst_value (b := true) (evCall_ok R B K hx h1) h2 rfl
 | _ => exact nn h
theorem ev_says (B : Bs c.prog c.w c.hb c.C mg mb) (K : CxOk c.prog c.w c.hb c.C mg c.n cx) : ∀ k, c.Says (ev cx k)
 | 0 => fun S W env vs x r _ => ⟨fun z => (by exact nn z), fun z => (by exact nn z)⟩
 | k + 1 => fun S W env vs x r R => by
  have IH : ({ c with env := env, S := S, W := W, vs := vs } : Ct).Says (ev cx k) := fun S' W' env' vs' x' r' R' => ev_says B K k S' W' env' vs' x' r' R'
  exact ⟨fun z => evE_ok (c := { c with env := env, S := S, W := W, vs := vs }) R B K IH z, fun z => evT_ok (c := { c with env := env, S := S, W := W, vs := vs }) R B K IH z⟩
end
def Ct.PS (c : Ct) (s : Shared) (vs' : Vars) (r : Except SStr Fl) (Q : FQ) (E : VQ) : Prop := match r with
 | .ok .next => ∀ h' tk W', Inv c.prog c.w c.hb c.S c.l c.env W' h' vs' → Off c.W (frs c.l) s.heap h' → (∀ b ∈ W', b ∈ c.W ∨ s.heap.get? b = none) → Q .next { s with heap := h', toks := tk }
 | .ok (.ret d) => ∀ h' tk v W', Inv c.prog c.w c.hb c.S c.l c.env W' h' vs' → Off c.W (frs c.l) s.heap h' → (∀ b ∈ W', b ∈ c.W ∨ s.heap.get? b = none) → Rep c.prog c.w c.S W' (frs c.l) h' v d → Q (.ret v) { s with heap := h', toks := tk }
 | .error k => ∀ h' tk e tb, Off c.W (frs c.l) s.heap h' → Frs c.hb c.l h' → c.hb.StaysIn h' → ExcAt c.hb s.heap h' c.C e k tb → E (.ref e) { s with heap := h', toks := tk }
def Ct.Ex (c : Ct) (t : Sem Flow) (vs' : Vars) (r : Except SStr Fl) : Prop := ∀ (s : Shared) (Q : FQ) (E : VQ), c.I s.heap → c.PS s vs' r Q E → wpAny c.M c.A t Q E s
noncomputable abbrev Ct.at (c : Ct) (W : List Addr) (vs : Vars) : Ct := { c with W := W, vs := vs }
section
variable {c : Ct} {s : Shared} {E : VQ} {Q : FQ} {mg mb : NM}
theorem PS_later {vs' vs1 : Vars} {r : Except SStr Fl} {h1 : Heap} {tk : Nat} {W1 : List Addr} (p : c.PS s vs' r Q E) (o : Off c.W (frs c.l) s.heap h1) (k : ∀ b ∈ W1, b ∈ c.W ∨ s.heap.get? b = none) : (c.at W1 vs1).PS { s with heap := h1, toks := tk } vs' r Q E := by
 have k2 : ∀ {W' : List Addr}, (∀ b ∈ W', b ∈ W1 ∨ h1.get? b = none) → ∀ b ∈ W', b ∈ c.W ∨ s.heap.get? b = none := fun z b m => (z b m).elim (k b) fun y => .inr (o.gone y)
 cases r with
 | error e => exact fun h' tk' e tb o' f' st x => p h' tk' e tb (o.trans o' k) f' st (x.older fun b y => o.gone y)
 | ok f =>
  cases f with
  | next => exact fun h' tk' W' I' o' k' => p h' tk' W' I' (o.trans o' k) (k2 k')
  | ret d => exact fun h' tk' v W' I' o' k' rv => p h' tk' v W' I' (o.trans o' k) (k2 k') rv
theorem PS_up {vs' vs1 : Vars} {r : Except SStr Fl} {h1 : Heap} {tk : Nat} {W1 : List Addr} (p : c.PS s vs' r Q E) (u : Up (frs c.l) s.heap h1) (k : ∀ b ∈ W1, b ∈ c.W) : (c.at W1 vs1).PS { s with heap := h1, toks := tk } vs' r Q E := PS_later p u.off fun b m => .inl (k b m)
theorem PX_of {vs' : Vars} {k : SStr} (p : c.PS s vs' (.error k) Q E) : c.PX s k E := fun h' tk e tb u f st x => p h' tk e tb u.off f st x
theorem bindX {t : Sem Value} {x : MR D} {f : D → SR} {vs1 vs' : Vars} {r : Except SStr Fl} {Q' : VQ} (hx : ∀ r, x = some r → c.Tr t r) (hr : bndS vs1 x f = some (vs', r)) (I : c.I s.heap) (p : c.PS s vs' r Q E)
  (hQ : ∀ d v h1 tk, f d = some (vs', r) → c.I h1 → Up (frs c.l) s.heap h1 → c.Rp h1 v d → c.PS { s with heap := h1, toks := tk } vs' r Q E → Q' v { s with heap := h1, toks := tk }) : wpAny c.M c.A t Q' E s := by
 cases x with
 | none => exact nn hr
 | some y =>
  cases y with
  | error k => obtain ⟨rfl, rfl⟩ := sp hr; exact hx _ rfl s Q' E I (PX_of p)
  | ok d => exact hx _ rfl s Q' E I fun h' tk v u rv => hQ d v h' tk hr (I.up u) u rv (PS_up p u fun b m => m)
theorem bindXT {t : Sem Bool} {x : MR D} {f : D → SR} {vs1 vs' : Vars} {r : Except SStr Fl} {Q' : Bool → Shared → Prop} (hx : ∀ r, x = some r → c.Ts t r) (hr : bndS vs1 x f = some (vs', r)) (I : c.I s.heap) (p : c.PS s vs' r Q E)
  (hQ : ∀ b h1 tk, f (.bool b) = some (vs', r) → c.I h1 → Up (frs c.l) s.heap h1 → c.PS { s with heap := h1, toks := tk } vs' r Q E → Q' b { s with heap := h1, toks := tk })
  (hb : ∀ d, f d = some (vs', r) → ∃ b, d = .bool b) : wpAny c.M c.A t Q' E s := by
 cases x with
 | none => exact nn hr
 | some y =>
  cases y with
  | error k => obtain ⟨rfl, rfl⟩ := sp hr; exact hx _ rfl s Q' E I (PX_of p)
  | ok d =>
   obtain ⟨b, rfl⟩ := hb d hr
   refine hx _ rfl s Q' E I fun h' tk v u rv => ?_
   intro b' e
   subst e
   have := bQ rv
   cases this
   exact hQ b h' tk hr (I.up u) u (PS_up p u fun b m => m)
theorem frozen {t : Sem Flow} {xs : List SStr} {vs' : Vars} {r : Except SStr Fl} (h : ∀ W1, (c.at W1 (aA c.vs xs)).Ex t vs' r) : c.Ex t vs' r := fun s Q E I p => by
 obtain ⟨W1, I1, k1⟩ := I.freezes xs
 exact h W1 s Q E I1 (PS_later (h1 := s.heap) (tk := s.toks) p (Off.refl _ _ _) fun b m => .inl (k1 b m))
theorem allFrozen {t : Sem Flow} {vs' : Vars} {r : Except SStr Fl} (h : ∀ W1, (c.at W1 (allImm c.vs)).Ex t vs' r) : c.Ex t vs' r := fun s Q E I p => by
 obtain ⟨W1, I1, k1⟩ := I.allImm
 exact h W1 s Q E I1 (PS_later (h1 := s.heap) (tk := s.toks) p (Off.refl _ _ _) fun b m => .inl (k1 b m))
theorem seq_ok {f : Stmt → Vars → SR} (hf : ∀ st vs W vs' r, f st vs = some (vs', r) → (c.at W vs).Ex (exec st c.env) vs' r) : ∀ (sts : List Stmt) (vs : Vars) (W : List Addr) (vs' : Vars) (r : Except SStr Fl), seqS f sts vs = some (vs', r) → (c.at W vs).Ex (execs sts c.env) vs' r
 | [], vs, W, vs', r, h => fun s Q E I p => by
  obtain ⟨rfl, rfl⟩ := sp h
  exact wP (p s.heap s.toks W I (Off.refl _ _ _) fun b m => .inl m)
 | st :: sts, vs, W, vs', r, h => fun s Q E I p => by
  unfold seqS at h
  refine wpAny_execs_cons ?_
  cases q : f st vs with
  | none => rw [q] at h; cases h
  | some y =>
   obtain ⟨vs1, r1⟩ := y
   rw [q] at h
   cases r1 with
   | error k =>
    obtain ⟨rfl, rfl⟩ := sp h
    exact hf st vs W _ _ q s _ E I p
   | ok fl =>
    cases fl with
    | ret d =>
     obtain ⟨rfl, rfl⟩ := sp h
     exact hf st vs W _ _ q s _ E I p
    | next =>
     refine hf st vs W _ _ q s _ E I fun h1 tk W1 I1 o1 k1 => ?_
     exact seq_ok hf sts vs1 W1 vs' r h _ _ _ I1 (PS_later (c := c.at W vs) p o1 k1)
theorem st_if {t : Expr} {a b : List Stmt} {pos : Pos} {x : MR D} {f : List Stmt → Vars → SR} {vs' : Vars} {r : Except SStr Fl} (ht : ∀ r, x = some r → c.Ts (isTrue t c.env (eval t c.env)) r)
  (hf : ∀ sts vs W vs' r, f sts vs = some (vs', r) → (c.at W vs).Ex (execs sts c.env) vs' r) (h : bndS c.vs x (fun q => match q with | .bool true => f a c.vs | .bool false => f b c.vs | _ => none) = some (vs', r)) : c.Ex (exec (.If t a b pos) c.env) vs' r := fun s Q E I p => by
 refine wpAny_If (bindXT ht h I p (fun q h1 tk1 e1 I1 u1 p1 => ?_) fun d e1 => ?_)
 ·cases q with
  | true => exact hf a c.vs c.W _ _ e1 _ _ _ I1 p1
  | false => exact hf b c.vs c.W _ _ e1 _ _ _ I1 p1
 ·split at e1
  ·exact ⟨_, rfl⟩
  ·exact ⟨_, rfl⟩
  ·exact nn e1
theorem st_ret0 {pos : Pos} : c.Ex (exec (.Return none pos) c.env) c.vs (.ok (.ret .none)) := fun s Q E I p => wpAny_Return_none (p s.heap s.toks .none c.W I (Off.refl _ _ _) (fun b m => .inl m) rp_none)
theorem st_ret {v : Expr} {pos : Pos} {x : MR D} {vs' : Vars} {r : Except SStr Fl} (hx : ∀ W r, x = some r → (c.at W (allImm c.vs)).Tr (eval v c.env) r) (h : bndS (allImm c.vs) x (fun d => some (allImm c.vs, .ok (.ret d))) = some (vs', r)) : c.Ex (exec (.Return (some v) pos) c.env) vs' r :=
 allFrozen fun W1 s Q E I p => wpAny_Return_some (bindX (c := c.at W1 (allImm c.vs)) (hx W1) h I p fun d v h1 tk1 e1 I1 u1 rv p1 => by
  obtain ⟨rfl, rfl⟩ := sp e1
  exact p1 h1 tk1 v W1 I1 (Off.refl _ _ _) (fun b m => .inl m) rv)
end
theorem swaps_no {v : Expr} {tg : Option Expr} {ln : Nat} {env : Env} (h : isComp v = false) : swapsWith v tg ln env = pure false := by
 cases v <;> first | rfl | exact tf h
theorem swaps_bool {elt : Expr} {gs : List Comprehension} {sc : Scope} {pos : Pos} {x : SStr} {px : Pos} {ln : Nat} {env : Env} : ∃ b, swapsWith (.ListComp elt gs sc pos) (some (.Name x px)) ln env = pure b := ⟨_, rfl⟩
theorem tgt_kind {env : Env} {x : SStr} (h : bM env.scope.names x = true) : env.kindOf x = some .local ∨ env.kindOf x = some .cell := by
 rcases Bool.or_eq_true_iff.mp h with q | q
 ·exact .inl (bq q)
 ·exact .inr (bq q)
section
variable {c : Ct} {s : Shared} {E : VQ} {mg mb : NM} {cx : Cx}
theorem put_imm {x : SStr} {v : Value} {d : D} {Q : Unit → Shared → Prop} {Q' : FQ} (R : Room c.A c.env c.l c.n) (I : c.I s.heap) (g : bM c.env.scope.names x = true) (rv : c.Rp s.heap v d) (p : c.PS s (upd c.vs x (.imm d)) (.ok .next) Q' E) (hQ : ∀ s', Q' .next s' → Q () s') : wpAny c.M c.A (storeName c.env x v) Q E s :=
 store_imm R I (tgt_kind g) rv fun h' tk I' o => hQ _ (p h' tk c.W I' o fun b m => .inl m)
theorem comp_store {x : SStr} {px : Pos} {q : XD} {d : D} {Q : FQ} (R : Room c.A c.env c.l c.n) (I : c.I s.heap) (g : bM c.env.scope.names x = true) (eq : q = .ok d) (p : c.PS s (upd c.vs x (.imm d)) (.ok .next) Q E) : c.PC s q (some (assign (.Name x px) c.env)) (fun _ s' => Q .next s') E := fun h' tk Dd Ca m ds e2 hm nC kk => by
 obtain rfl : d = .list ds := by
  rw [eq] at e2
  exact Except.ok.inj e2
 show wpAny c.M c.A (assign (.Name x px) c.env (.ref Dd)) _ E _
 obtain ⟨u, rp⟩ := kk h' (Heap.SameBut.refl _ _)
 have J : Inv c.prog c.w c.hb (fun a => c.S a ∧ ¬ (a = Ca)) c.l c.env c.W h' c.vs := Inv.apart (X := fun a => a = Ca) I (fun a z => z ▸ nC) u (fun a z => z ▸ ns_ex hm)
 have nW := new_nW I nC
 have nF := new_nF I nC
 have nL : NoLook c.hb (fun a => c.S a ∧ ¬ (a = Ca)) c.W (frs c.l) Ca := ⟨fun y => y.2 rfl, nW, nF, new_nB I nC⟩
 refine wpAny_assign_Name (store_imm (s := { s with heap := h', toks := tk }) R J (tgt_kind g) rp fun h3 tk3 I3 o3 => ?_)
 obtain ⟨oc, es, ep, ec, dc, rc⟩ := hm
 refine ⟨m, ⟨oc, es, ep, o3.at ec nW nF, dc, rc⟩, fun h4 sb => p h4 tk3 c.W (Inv.move (X := fun a => a = Ca) I3 (fun a z => (show a = Ca from z) ▸ nL) (fun b o n z => .inl ((sb.2 b n).trans z)) (fun a z => z.1) fun a z => ?_) (fun b o z => ?_) fun b m => .inl m⟩
 ·by_cases za : a = Ca
  ·exact za ▸ I.fresh Ca nC
  ·exact (I3.fresh a ((sb.2 a za).symm.trans z)).1
 ·have nb : b ≠ Ca := by rintro rfl; exact nox nC z
  rcases (Off.trans u.off o3 fun q m => .inl m) b o z with ⟨m, o', y⟩ | y | ⟨m, sl, y⟩
  ·exact .inl ⟨m, o', (sb.2 b nb).trans y⟩
  ·exact .inr (.inl ((sb.2 b nb).trans y))
  ·exact .inr (.inr ⟨m, sl, (sb.2 b nb).trans y⟩)
theorem assign_comp {e : Bool → Names → Vars → Expr → MR D} {x : SStr} {px pos cpos : Pos} {elt : Expr} {gs : List Comprehension} {sc : Scope} {vs' : Vars} {r : Except SStr Fl} {Q : FQ} (R : Room c.A c.env c.l c.n) (B : Bs c.prog c.w c.hb c.C mg mb) (IH : c.Says e) (g : bM c.env.scope.names x = true)
  (hb : swapsWith (.ListComp elt gs sc cpos) (some (.Name x px)) pos.line c.env = pure true) (h : bndS c.vs (evComp e c.env.scope.names c.vs elt gs sc) (fun d => some (upd c.vs x (.imm d), .ok .next)) = some (vs', r)) (I : c.I s.heap) (p : c.PS s vs' r Q E) : wpAny c.M c.A (exec (.Assign [.Name x px] (.ListComp elt gs sc cpos) pos) c.env) Q E s := by
 cases hv : evComp e c.env.scope.names c.vs elt gs sc with
 | none => rw [hv] at h; exact nn h
 | some q =>
  rw [hv] at h
  obtain ⟨⟨tg, it, ifs, a⟩, h1, hq⟩ := obi hv
  obtain rfl := one_eq h1
  dsimp only at hq
  cases k : decide (a = 0) && compOk c.env.scope.names sc && !(isSet it) with
  | false => rw [k] at hq; exact nn hq
  | true =>
   rw [k] at hq
   obtain ⟨k, k3⟩ := ba k
   obtain ⟨k1, k2⟩ := ba k
   obtain rfl := of_decide_eq_true k1
   rw [exec_Assign_Name_used _ _ _ _ hb]
   refine wB (wpAny_standAt (wB ?_))
   show wpAny c.M c.A (do let _ ← comprehension (.ListComp elt [⟨tg, it, ifs, 0⟩] sc cpos) sc c.env _ (newList []) false (eval it c.env) (some (assign (.Name x px) c.env))) _ E s
   refine wB (wpAny_mono (comp_arm (use := some (assign (.Name x px) c.env)) (Q := fun _ s' => Q .next s') R k2 (by simpa using k3) IH (fun r z => src_ok (e := e) R B (fun y r z => (IH c.S c.W c.env c.vs y r R).1 z) z) hq I (fun k eq => ?_) ?_) (fun _ s' hq => wP (wP hq)) fun _ _ z => z)
   ·rw [eq] at h
    obtain ⟨rfl, rfl⟩ := sp h
    exact PX_of p
   ·cases q with
    | error k => exact fun _ _ _ _ _ _ eq => nomatch eq
    | ok d =>
     obtain ⟨rfl, rfl⟩ := sp h
     exact comp_store R I g rfl p
theorem st_assign {e : Bool → Names → Vars → Expr → MR D} {x : SStr} {px pos : Pos} {v : Expr} {vs' : Vars} {r : Except SStr Fl} (R : Room c.A c.env c.l c.n) (B : Bs c.prog c.w c.hb c.C mg mb) (IH : c.Says e)
  (hE : ∀ W r, evE cx e c.env.scope.names (aA c.vs (bY 20 v)) v = some r → (c.at W (aA c.vs (bY 20 v))).Tr (eval v c.env) r)
  (g : bM c.env.scope.names x = true) (h : bndS (aA c.vs (bY 20 v)) (evE cx e c.env.scope.names (aA c.vs (bY 20 v)) v) (fun d => some (upd (aA c.vs (bY 20 v)) x (.imm d), .ok .next)) = some (vs', r)) : c.Ex (exec (.Assign [.Name x px] v pos) c.env) vs' r :=
 frozen fun W1 s Q E I p => by
  generalize aA c.vs (bY 20 v) = vs1 at *
  have plain : swapsWith v (some (.Name x px)) pos.line c.env = pure false → wpAny c.M c.A (exec (.Assign [.Name x px] v pos) c.env) Q E s := fun hs =>
   wpAny_Assign_Name (bindX (c := c.at W1 vs1) (hE W1) h I p fun d v h1 tk1 e1 I1 u1 rv p1 => by
    obtain ⟨rfl, rfl⟩ := sp e1
    exact put_imm (c := c.at W1 vs1) R I1 g rv p1 fun _ z => z) hs
  cases hc : isComp v with
  | false => exact plain (swaps_no hc)
  | true =>
   cases v with
   | ListComp elt gs sc cpos =>
    obtain ⟨b, hb⟩ := swaps_bool (elt := elt) (gs := gs) (sc := sc) (pos := cpos) (x := x) (px := px) (ln := pos.line) (env := c.env)
    cases b with
    | false => exact plain hb
    | true => exact assign_comp (c := c.at W1 vs1) R B (fun S W env vs y r R => IH S W env vs y r R) g hb h I p
   | SetComp => exact nn (show (none : SR) = some (vs', r) from h)
   | DictComp => exact nn (show (none : SR) = some (vs', r) from h)
   | _ => exact ft hc
end
section
variable {prog : Program} {w : World} {A : Around} {s : Shared} {env : Env} {l : List Env} {n : Nat} {hb : Heap} {S S' : Addr → Prop} {W : List Addr} {vs : Vars} {E : VQ} {h h' : Heap}
theorem Okk.join {F : List Addr} {a b : Addr} (nS : ¬ S a) (sub : ∀ b, S b → S' b) (k : Okk S W F b) : Okk S' (a :: W) F b := ⟨sub _ k.1, fun q => (mp q).elim (fun z => nS (z ▸ k.1)) k.2.1, k.2.2⟩
theorem KeepOkk.join {F : List Addr} {a : Addr} (nS : ¬ S a) (sub : ∀ b, S b → S' b) : KeepOkk S S' W (a :: W) F h h := fun _ _ k e => ⟨k.join nS sub, e⟩
theorem ImmB.join {a : Addr} {m : NM} {y : SStr} {d : D} (x : ImmB prog w S l env W h m y d) (nS : ¬ S a) (sub : ∀ b, S b → S' b) : ImmB prog w S' l env (a :: W) h m y d := x.to (fun _ b => b) (.join nS sub)
theorem OwnB.join {a p : Addr} {m : NM} {y : SStr} {d : D} (x : OwnB prog w S l env W h m y p d) (nS : ¬ S a) (sub : ∀ b, S b → S' b) : OwnB prog w S' l env (a :: W) h m y p d := x.to (fun _ b => b) (mc _) (sub _) (fun _ e => e) (.join nS sub)
theorem Inv.join {a : Addr} (I : Inv prog w hb S l env W h vs) (nS : ¬ S a) (nB : hb.get? a = none) (e : ∃ o, h.get? a = some o) (sub : ∀ b, S b → S' b) : Inv prog w hb S' l env (a :: W) h vs := by
 obtain ⟨o, e⟩ := e
 obtain ⟨m, hn, pl, h1, h2, h3⟩ := I.ns
 exact ⟨I.stay, I.fr, wl_more I.wl ⟨nB, o, e⟩, mc _ I.loc, fun x c ec => (I.cel x c ec).more (l := l) (Up.refl _ _), I.cl, I.cap, I.nd, fun b z => sub _ (I.fresh b z), fun b o z => sub _ (I.base b o z), m, hn, pl, fun x d ex => (h1 x d ex).join nS sub, fun x d ex => (h2 x d ex).join nS sub, h3⟩
theorem store_apart {x : SStr} {a : Addr} {d : D} {Q : Unit → Shared → Prop} (R : Room A env l n) (I : Inv prog w hb S l env W s.heap vs) (nS : ¬ S a) (aW : a ∉ W) (aF : a ∉ frs l) (nB : hb.get? a = none) (Sa : S' a) (sub : ∀ b, S b → S' b)
  (hk : env.kindOf x = some .local ∨ env.kindOf x = some .cell) (r : OwnAt prog w S W (frs l) s.heap a d)
  (hQ : ∀ h' tk, Inv prog w hb S' l env (a :: W) h' (upd vs x (.own d)) → Off W (frs l) s.heap h' → Q () { s with heap := h', toks := tk }) :
  wpAny (model prog w) A (storeName env x (.ref a)) Q E s := by
 have ea : ∃ o, s.heap.get? a = some o := let ⟨_, ra, _⟩ := r; Rd.alive ra a mz
 obtain ⟨m0, hn, pl, k1, k2, k3⟩ := I.ns
 exact storeNew (W := W) R (I.join nS nB ea sub) hn (fun y d e => (k1 y d e).join nS sub) (fun y d e => (k2 y d e).join nS sub) k3 (fun y d e q => aW (q ▸ (k2 y d e).inW)) (fun q => aW (q ▸ I.loc)) (fun y c e q => aW (q ▸ (I.cel y c e).w)) aF Sa (let ⟨as, ra, ka⟩ := r; ⟨as, ra, fun b m => (ka b m).join nS sub⟩) hk hQ
theorem Inv.wider (I : Inv prog w hb S l env W h vs) (sub : ∀ b, S b → S' b) : Inv prog w hb S' l env W h vs :=
 Inv.move (X := fun _ => False) I (fun _ z => z.elim) (fun b o _ z => .inl z) sub fun a z => sub a (I.fresh a z)
end
section
variable {c : Ct} {s : Shared} {E : VQ} {mg mb : NM} {cx : Cx}
def Ct.PF (c : Ct) (s : Shared) (r : XD) (Q : VQ) (E : VQ) : Prop := match r with
 | .ok d => ∀ h' tk a, Up (frs c.l) s.heap h' → s.heap.get? a = none → OwnAt c.prog c.w c.S (a :: c.W) (frs c.l) h' a d → Q (.ref a) { s with heap := h', toks := tk }
 | .error k => c.PX s k E
def Ct.TrF (c : Ct) (t : Sem Value) (r : XD) : Prop := ∀ (s : Shared) (Q : VQ) (E : VQ), c.I s.heap → c.PF s r Q E → wpAny c.M c.A t Q E s
theorem fresh_list {pos : Pos} : c.TrF (eval (.List [] pos) c.env) (.ok (.list [])) := fun s Q E I p => by
 rw [arm_eval_List]
 refine wB (wpAny_standAt (wB (Calls.spliced_nil (wpAny_newObj_type (p _ s.toks _ (Up.push _ _) (aR _) ⟨[], .list (Heap.get?_push_size _ rfl) rfl rfl rfl .nil, fun _ m => nomatch m⟩)))))
theorem fresh_dict0 {pos : Pos} (B : Bs c.prog c.w c.hb c.C mg mb) : c.TrF (eval (.Dict [] [] pos) c.env) (.ok (.dict [])) := fun s Q E I p => by
 refine wpAny_Dict_empty ?_
 exact p _ s.toks _ (Up.push _ _) (aR _) ⟨[], .dict (ne_modules B I (Up.refl _ s.heap)) (Heap.DictOfH.new _) .nil, fun _ m => nomatch m⟩
theorem dictOf_fresh {vs : List Value} {ds : List D} {d : D} (R : Room c.A c.env c.l c.n) (B : Bs c.prog c.w c.hb c.C mg mb) (I : c.I s.heap) (hr : dictB ds = some d) (rv : c.RpL s.heap vs ds) {Q : VQ}
  (hQ : ∀ h' tk, Up (frs c.l) s.heap h' → OwnAt c.prog c.w c.S (s.heap.objs.size :: c.W) (frs c.l) h' s.heap.objs.size d → Q (.ref s.heap.objs.size) { s with heap := h', toks := tk }) : wpAny c.M c.A (call (.type "dict") vs) Q E s :=
 dictNew R B hr I rv fun h' tk as u rd k => hQ h' tk u ⟨as, rd, fun b m => ⟨(k b m).1.1, fun q => (mp q).elim (fun z => let ⟨_, y⟩ := (k b m).2; nox (aR s.heap) (z ▸ y)) (k b m).1.2.1, (k b m).1.2.2⟩⟩
theorem fresh_dict {e : Bool → Names → Vars → Expr → MR D} {fp pos : Pos} {as : List Expr} (R : Room c.A c.env c.l c.n) (B : Bs c.prog c.w c.hb c.C mg mb) (IH : c.Says e) (kd : cx.call (nm "dict") = none) {r : XD} (g2 : bZ c.env.scope.names (nm "dict") = true) (g3 : as.all bI = true)
  (h : evFn cx e c.env.scope.names c.vs (nm "dict") as = some r) : c.TrF (eval (.Call (.Name (nm "dict") fp) as [] pos) c.env) r := fun s Q E I p => by
 have hv : bltVal (nm "dict") = some (.type "dict") := by kernel_rfl
 have hl : lenArg (nm "dict") as = none := by
  have : sEq (nm "dict") (nm "len") = false := by kernel_rfl
  unfold lenArg
  rw [this]
  rfl
 unfold evFn at h
 rw [g2, g3, kd, hl] at h
 replace h : ((bltVal (nm "dict")).bind fun _ => bnd (mapR (e false c.env.scope.names c.vs) as) fun ds => (blt (nm "dict") ds).bind ofO) = some r := h
 rw [hv] at h
 replace h : (bnd (mapR (e false c.env.scope.names c.vs) as) fun ds => (blt (nm "dict") ds).bind ofO) = some r := h
 refine PyProof.Rows.Call_Name (by rw [trees_of (bW g3), bJ]) (global_blt R B I g2 hv (callWith_ok (bltVal_form hv) ?_))
 have hx : ∀ e' ∈ as, ∀ r, e false c.env.scope.names c.vs e' = some r → c.Tr (eval e' c.env) r := fun e' _ r z => (IH c.S c.W c.env c.vs e' r R).1 z
 cases q : mapR (e false c.env.scope.names c.vs) as with
 | none => rw [q] at h; exact nn h
 | some y =>
  rw [q] at h
  cases y with
  | error k => obtain rfl := si h; exact args_ok q hx I p
  | ok ds =>
   refine args_ok q hx I fun h1 tk1 vs u1 rvs => ?_
   replace h : (blt (nm "dict") ds).bind ofO = some r := h
   obtain ⟨r', hb, h⟩ := obi h
   obtain ⟨d, rfl, rfl⟩ := bR h
   have hg : tabS blts (nm "dict") = some dictB := by kernel_rfl
   unfold blt at hb
   rw [hg] at hb
   exact dictOf_fresh (s := { s with heap := h1, toks := tk1 }) R B (I.up u1) (si hb) rvs fun h' tk u o => p h' tk _ (u1.trans u) (u1.gone (aR _)) o
theorem fresh_ok {e : Bool → Names → Vars → Expr → MR D} (R : Room c.A c.env c.l c.n) (B : Bs c.prog c.w c.hb c.C mg mb) (IH : c.Says e) (kd : cx.call (nm "dict") = none) {v : Expr} {r : XD} (g : isFresh c.env.scope.names v = true) (h : evE cx e c.env.scope.names c.vs v = some r) : c.TrF (eval v c.env) r := by
 unfold isFresh at g
 cases q : asList v with
 | some x =>
  rw [q] at g
  rw [asList_eq q, aZ g] at h ⊢
  obtain rfl := si (show rt (PyData.list []) = some r from h)
  exact fresh_list
 | none =>
  rw [q] at g
  dsimp only at g
  cases q : asDict v with
  | some x =>
   rw [q] at g
   obtain ⟨g1, g2⟩ := ba g
   rw [asDict_eq q, aZ g1, aZ g2] at h ⊢
   obtain rfl := si (show rt (PyData.dict []) = some r from h)
   exact fresh_dict0 B
  | none =>
   rw [q] at g
   dsimp only at g
   cases q : callOf v with
   | none => rw [q] at g; exact ft g
   | some x =>
    rw [q] at g
    obtain ⟨_, g⟩ := ba g
    obtain ⟨g, g3⟩ := ba g
    obtain ⟨g1, g2⟩ := ba g
    have g1 := aX.mp g1
    rw [callOf_eq q, g1] at h ⊢
    rw [g1] at g2
    exact fresh_dict R B IH kd g2 g3 h
theorem st_own {v : Expr} {x : SStr} {px pos : Pos} {r : MR D} {vs' : Vars} {q : Except SStr Fl} (R : Room c.A c.env c.l c.n) (g : bM c.env.scope.names x = true) (hs : isComp v = false) (hF : ∀ W q, r = some q → (c.at W (aA c.vs (bY 20 v))).TrF (eval v c.env) q)
  (h : bndS (aA c.vs (bY 20 v)) r (fun d => some (upd (aA c.vs (bY 20 v)) x (.own d), .ok .next)) = some (vs', q)) : c.Ex (exec (.Assign [.Name x px] v pos) c.env) vs' q :=
 frozen fun W1 s Q E I p => by
  refine wpAny_Assign_Name ?_ (swaps_no hs)
  cases hr : r with
  | none => rw [hr] at h; cases h
  | some y =>
   rw [hr] at h
   cases y with
   | error k => obtain ⟨rfl, rfl⟩ := sp h; exact hF W1 _ hr s _ E I (PX_of p)
   | ok d =>
    obtain ⟨rfl, rfl⟩ := sp h
    refine hF W1 _ hr s _ E I fun h1 tk1 a u1 na o1 => ?_
    exact store_own (s := { s with heap := h1, toks := tk1 }) (hp := s.heap) R I u1 na (tgt_kind g) o1 fun h2 tk2 I2 o2 => p h2 tk2 _ I2 o2 fun b m => (mp m).elim (fun z => .inr (z ▸ na)) .inl
end
theorem not_interactive {env : Env} (h : env.scope.kind = .function) : interactive env = false := by unfold interactive; rw [h]; rfl
section
variable {prog : Program} {w : World} {A : Around} {E : VQ} {s : Shared}
theorem append_obj {l : Addr} {o : Obj} {items : Array Value} {n : Nat} {x : Value} {Q : VQ} (ho : s.heap.get? l = some o) (hc : o.cls = .type "list") (hd : o.data = .seq items n)
  (hQ : ∀ h' n', h'.get? l = some { o with data := .seq (items.push x) n' } → Heap.SameBut l s.heap h' → Q .none { s with heap := h' }) (hsz : items.size ≤ sizeLine) :
  wpAny (model prog w) A (call (.builtin "list.append") [.ref l, x]) Q E s := by
 obtain ⟨c, d, dt, sl⟩ := o
 dsimp only at hc hd
 subst hc hd
 refine wpAny_call_entry slot_list_append ⟨_, ho, rfl⟩ entry_list_append ?_ (args_list_append _ _)
 show wpAny _ _ (updateSeq l (·.push x) >>= fun _ => ret .none) _ _ s
 refine wB ?_
 have hm := Heap.get?_update_self (Obj.mapSeq (·.push x)) ho rfl
 exact wpAny_updateSeq ho rfl (wP ⟨.none, rfl, hQ _ _ hm (Heap.SameBut.update ..)⟩)
end
inductive KvAt (prog : Program) (w : World) (h : Heap) (xs : List (Ky × Addr × Value)) (kvs : List (D × D)) (P : Addr → Prop) : Prop
 | mk (bs) : RdKv prog w h xs kvs bs → (∀ a ∈ bs, P a) → KvAt prog w h xs kvs P
theorem KvAt.cons {prog : Program} {w : World} {h : Heap} {xs : List (Ky × Addr × Value)} {kvs : List (D × D)} {P : Addr → Prop} {ky : Ky} {a : Addr} {v : Value} {d : D} {b1 b2 : List Addr} (p1 : Rd prog w h (.ref a) (kyD ky) b1) (p2 : Rd prog w h v d b2) (k1 : ∀ a ∈ b1, P a) (k2 : ∀ a ∈ b2, P a) (y : KvAt prog w h xs kvs P) :
  KvAt prog w h ((ky, a, v) :: xs) ((kyD ky, d) :: kvs) P :=
 let ⟨bs, h1, h2⟩ := y
 ⟨b1 ++ b2 ++ bs, .cons p1 p2 h1, fun z m => (mq m).elim (fun m => (mq m).elim (k1 z) (k2 z)) (h2 z)⟩
theorem rdKv_put {prog : Program} {w : World} {h : Heap} {k : Ky} {v : Value} {d : D} {cs : List Addr} {P : Addr → Prop} (rv : Rd prog w h v d cs) (pc : ∀ a ∈ cs, P a) : ∀ {xs : List (Ky × Addr × Value)} {kvs : List (D × D)} {as : List Addr}, RdKv prog w h xs kvs as → (∀ a ∈ as, P a) → (xs.map (·.1)).Nodup → (atKey xs k).isSome = true →
  KvAt prog w h (xs.map (putAt k v)) (dset kvs (kyD k) d) P
 | _, [], _, x, _, _, e => by obtain ⟨rfl, _⟩ := rdKv_nil x; exact ft e
 | _, (a, b) :: kvs, _, x, pa, nd, e => by
  obtain ⟨ky, a', u, r, b1, b2, b3, rfl, rfl, rfl, p1, p2, y⟩ := rdKv_cons x
  rw [List.map_cons, List.nodup_cons] at nd
  have q1 : ∀ z ∈ b1, P z := fun z m => pa z (ml _ (ml _ m))
  have q3 : ∀ z ∈ b3, P z := fun z m => pa z (mr _ m)
  unfold dset
  rw [kEq_kyD]
  by_cases q : ky = k
  ·subst q
   rw [decide_eq_true rfl, List.map_cons, map_putAt_of_not_mem r ky v nd.1, putAt, if_pos rfl]
   exact .cons p1 rv q1 pc ⟨b3, y, q3⟩
  ·rw [decide_eq_false q, List.map_cons, putAt, if_neg q]
   exact .cons p1 p2 q1 (fun z m => pa z (ml _ (mr _ m))) (rdKv_put rv pc y q3 nd.2 (by simpa [atKey, q] using e))
theorem rdKv_add {prog : Program} {w : World} {h : Heap} {k : Ky} {ka : Addr} {v : Value} {d : D} {bs cs : List Addr} {P : Addr → Prop} (rk : Rd prog w h (.ref ka) (kyD k) bs) (rv : Rd prog w h v d cs) (pb : ∀ a ∈ bs, P a) (pc : ∀ a ∈ cs, P a) : ∀ {xs : List (Ky × Addr × Value)} {kvs : List (D × D)} {as : List Addr}, RdKv prog w h xs kvs as → (∀ a ∈ as, P a) → atKey xs k = none →
  KvAt prog w h (xs ++ [(k, ka, v)]) (dset kvs (kyD k) d) P
 | _, [], _, x, _, _ => by
  obtain ⟨rfl, _⟩ := rdKv_nil x
  exact .cons rk rv pb pc ⟨_, .nil, fun _ m => nomatch m⟩
 | _, (a, b) :: kvs, _, x, pa, e => by
  obtain ⟨ky, a', u, r, b1, b2, b3, rfl, rfl, rfl, p1, p2, y⟩ := rdKv_cons x
  unfold dset
  rw [kEq_kyD]
  by_cases q : ky = k
  ·subst q; simp [atKey] at e
  ·rw [decide_eq_false q]
   exact .cons p1 p2 (fun z m => pa z (ml _ (ml _ m))) (fun z m => pa z (ml _ (mr _ m))) (rdKv_add rk rv pb pc y (fun z m => pa z (mr _ m)) (by simpa [atKey, q] using e))
section
variable {c : Ct} {s : Shared} {E : VQ} {mg mb : NM} {cx : Cx}
theorem st_append {n : SStr} {np ap ps pos : Pos} {a : Expr} {x : MR D} {vs' : Vars} {q : Except SStr Fl} (R : Room c.A c.env c.l c.n) (hl : (ap.endLine == ps.line) = true) (ns : ∀ x p, a ≠ .Starred x p) (hx : ∀ W r, x = some r → (c.at W (aA c.vs (bY 20 a))).Tr (eval a c.env) r)
  {l : List D} (hlk : lk (aA c.vs (bY 20 a)) n = some (.own (.list l))) (g : l.length ≤ 1000)
  (h : bndS (aA c.vs (bY 20 a)) x (fun d => some (upd (aA c.vs (bY 20 a)) n (.own (.list (l ++ [d]))), .ok .next)) = some (vs', q)) : c.Ex (exec (.Expr (.Call (.Attribute (.Name n np) (nm "append") ap) [a] [] ps) pos) c.env) vs' q :=
 frozen fun W1 s Q E I p => by
  generalize aA c.vs (bY 20 a) = vs1 at *
  refine wpAny_Expr ?_ (not_interactive R.kd) rfl
  have ht : backTo ps (starEach [a] c.env) = [(false, eval a c.env)] := by rw [noStar_of ns]; rfl
  refine wpAny_Call_append rfl (by rw [ht]; rfl) hl ht (name_place R I hlk fun ad pl => ?_)
  obtain ⟨⟨as, ra, ka⟩, nF, aW, _⟩ := Inv.mutate I hlk pl
  obtain ⟨_, o, vs, k, bs, e1, e2, h1, c1, d0, d1, r1⟩ := rd_list' ra
  cases e1
  cases e2
  refine ⟨ad, vs, rfl, ⟨o, k, h1, c1, d0, d1⟩, bindX (c := c.at W1 vs1) (hx W1) h I p fun d v h2 tk2 ef I2 u2 rv p2 => ?_⟩
  obtain ⟨rfl, rfl⟩ := sp ef
  obtain ⟨⟨as2, ra2, ka2⟩, _, _, mtt⟩ := Inv.mutate I2 hlk (pl.up u2)
  obtain ⟨_, o2, vs2, k2, bs2, e1, e2, h12, c12, d02, d12, r12⟩ := rd_list' ra2
  cases e1
  cases e2
  have len := aN r12
  simp only [Array.length_toList] at len
  refine append_obj (s := { s with heap := h2, toks := tk2 }) h12 c12 d12 (fun h3 n3 e3 sb => ?_) (by simp only [sizeLine]; omega)
  obtain ⟨bsv, rdv, kv⟩ := rv
  have hne : ∀ {b}, Okk c.S W1 (frs c.l) b → b ≠ ad := fun z y => z.2.1 (y ▸ aW)
  obtain ⟨I3, o3⟩ := mtt h3 (.list (l ++ [d])) sb ⟨as2 ++ (bsv ++ []), .list e3 d02 c12 rfl (by
   rw [Array.toList_push]
   exact rdAll_append (RdAll.keep (fun b m o z => (sb.2 b (hne (ka2 b m))).trans z) r12) (.cons (rdv.keep fun b m o z => (sb.2 b (hne (kv b m))).trans z) .nil)), fun b m => by
    rcases mq m with m | m
    ·exact ka2 b m
    ·exact kv b (by simpa using m)⟩ ⟨_, e3, fun vs q => by cases q⟩
  exact p2 h3 tk2 W1 I3 o3 fun b m => .inl m
theorem dictOf_nf {prog : Program} {w : World} {h : Heap} {a : Addr} {xs : List (Ky × Addr × Value)} (hd : h.DictOfH (bK prog w) a xs) : ∃ o, h.get? a = some o ∧ ∀ vs, o.data ≠ .fields vs := by
 obtain ⟨o, es', ep, z, _, dd, _⟩ := hd
 exact ⟨o, z, fun vs q => nomatch dd.symm.trans q⟩
theorem item_core {n : SStr} {ad : Addr} {ky : Ky} {l : List (D × D)} {d : D} {va vd : Value} {Q : Unit → Shared → Prop} (hu : c.A.units + 100 < cLine) (I2 : c.I s.heap) (hlk : lk c.vs n = some (.own (.dict l))) (pl : PlaceOf c.env s.heap n ad) (ra : c.Rp s.heap va (kyD ky)) (rd : c.Rp s.heap vd d) (g3 : l.length ≤ 1000)
  (hQ : ∀ h3 tk3, Heap.SameBut ad s.heap h3 → OwnAt c.prog c.w c.S c.W (frs c.l) h3 ad (.dict (dset l (kyD ky) d)) → Inv c.prog c.w c.hb c.S c.l c.env c.W h3 (upd c.vs n (.own (.dict (dset l (kyD ky) d)))) → Off c.W (frs c.l) s.heap h3 → Q () { s with heap := h3, toks := tk3 }) :
  wpAny c.M c.A (setItem (.ref ad) va vd) Q E s := by
 obtain ⟨⟨as2, ro, ka2⟩, nF, aW, mtt⟩ := Inv.mutate I2 hlk pl
 obtain ⟨_, xs, bs, z1, z2, na, hd, kv⟩ := rd_dict ro
 cases z1
 cases z2
 obtain ⟨ks, rk, kk⟩ := ra
 obtain ⟨kad, rfl, hky⟩ := rd_ky_ref rk
 obtain ⟨ds, rdv, kd⟩ := rd
 refine wpAny_setItem_heap (knd := bK c.prog c.w) (show c.A.units + 1 + 10 < cLine by omega) hky hd (fun h3 hd3 sb => ?_) (by rw [bX kv]; simp only [sizeLine]; omega)
 have hne : ∀ {b}, Okk c.S c.W (frs c.l) b → b ≠ ad := fun z y => z.2.1 (y ▸ aW)
 have nd : (xs.map (·.1)).Nodup := let ⟨_, _, _, _, _, _, _, _, z⟩ := hd; z
 have key : KvAt c.prog c.w s.heap (storedH xs ky kad vd) (dset l (kyD ky) d) (Okk c.S c.W (frs c.l)) := by
  cases q : atKey xs ky with
  | none =>
   rw [storedH_new q]
   exact rdKv_add rk rdv kk kd kv ka2 q
  | some pp =>
   rw [storedH_old q]
   exact rdKv_put (k := ky) rdv kd kv ka2 nd (by rw [q]; rfl)
 obtain ⟨es, kv3, ke⟩ := key
 have own : OwnAt c.prog c.w c.S c.W (frs c.l) h3 ad (.dict (dset l (kyD ky) d)) := ⟨es, .dict na hd3 (rdKv_map kv3 fun b m o z => (sb.2 b (hne (ke b m))).trans z), ke⟩
 obtain ⟨I3, o3⟩ := mtt h3 _ sb own (dictOf_nf hd3)
 exact hQ h3 _ sb own I3 o3
theorem st_item {n : SStr} {np p1 pos : Pos} {v i : Expr} {x y : MR D} {vs' : Vars} {q : Except SStr Fl} (R : Room c.A c.env c.l c.n) (hs : isComp v = false) (hx : ∀ W r, x = some r → (c.at W (aA c.vs (bY 20 v ++ bY 20 i))).Tr (eval v c.env) r) (hy : ∀ W r, y = some r → (c.at W (aA c.vs (bY 20 v ++ bY 20 i))).Tr (eval i c.env) r)
  (h : bndS (aA c.vs (bY 20 v ++ bY 20 i)) x (fun d => (lkOwn (aA c.vs (bY 20 v ++ bY 20 i)) n).bind fun o => (asD o).bind fun l => bndS (aA c.vs (bY 20 v ++ bY 20 i)) y fun a => match isKey a && isRat d && Nat.ble l.length 1000 with
    | true => some (upd (aA c.vs (bY 20 v ++ bY 20 i)) n (.own (.dict (dset l a d))), .ok .next)
    | false => none) = some (vs', q)) : c.Ex (exec (.Assign [.Subscript (.Name n np) i p1] v pos) c.env) vs' q :=
 frozen fun W1 s Q E I p => by
  generalize aA c.vs (bY 20 v ++ bY 20 i) = vs1 at hx hy h I p
  refine wpAny_Assign_Subscript (bindX (c := c.at W1 vs1) (hx W1) h I p fun d vd h1 tk1 e1 I1 u1 rd p1 => ?_) (swaps_no hs)
  obtain ⟨o, hlk, e1⟩ := obi e1
  obtain ⟨l, ho, e1⟩ := obi e1
  have hlk : lk vs1 n = some (.own (.dict l)) := asD_eq ho ▸ lkOwn_eq hlk
  refine name_place (s := { s with heap := h1, toks := tk1 }) R I1 hlk fun ad pl => ?_
  refine bindX (c := c.at W1 vs1) (s := { s with heap := h1, toks := tk1 }) (hy W1) e1 I1 p1 fun a va h2 tk2 e2 I2 u2 ra p2 => ?_
  cases g : isKey a && isRat d && Nat.ble l.length 1000 with
  | false => rw [g] at e2; exact nn e2
  | true =>
   rw [g] at e2
   obtain ⟨rfl, rfl⟩ := sp e2
   obtain ⟨g, g3⟩ := ba g
   obtain ⟨g1, g2⟩ := ba g
   obtain ⟨ky, rfl, _⟩ := key_inv g1
   exact item_core (c := c.at W1 vs1) (s := { s with heap := h2, toks := tk2 }) (by have := R.un; show c.A.units + 100 < cLine; omega) I2 hlk (pl.up u2) ra (rd.up u2) (lb g3) fun h3 tk3 _ _ I3 o3 => p2 h3 tk3 W1 I3 o3 fun b m => .inl m
theorem st_expr {v : Expr} {pos : Pos} {x : MR D} {xs : List SStr} {vs' : Vars} {q : Except SStr Fl} (R : Room c.A c.env c.l c.n) (hs : isComp v = false) (hx : ∀ W r, x = some r → (c.at W (aA c.vs xs)).Tr (eval v c.env) r)
  (h : bndS (aA c.vs xs) x (fun d => match isNone d with | true => some (aA c.vs xs, .ok .next) | false => none) = some (vs', q)) : c.Ex (exec (.Expr v pos) c.env) vs' q :=
 frozen fun W1 s Q E I p => wpAny_Expr (bindX (c := c.at W1 (aA c.vs xs)) (hx W1) h I p fun d v h1 tk1 e1 I1 u1 rv p1 => by
  cases d with
  | none =>
   obtain ⟨rfl, rfl⟩ := sp e1
   obtain rfl := rp_none_inv rv
   exact p1 h1 tk1 W1 I1 (Off.refl _ _ _) fun b m => .inl m
  | _ => exact nn e1) (not_interactive R.kd) (swaps_no hs)
end
theorem Off.thenOn {W F F' : List Addr} {a b c : Heap} (x : Off W F a b) (y : UpOn a F' b c) (k : ∀ p ∈ F', p ∈ F) : Off W F a c := fun p o e => by
 have q : ∀ o1, b.get? p = some o1 → Kept F c p o1 := fun o1 e1 => (y p o1 o e e1).elim .inl fun ⟨m, z⟩ => .inr ⟨k p m, z⟩
 rcases x p o e with ⟨m, o', e'⟩ | e' | ⟨m, sl, e'⟩
 ·exact .inl ⟨m, (q _ e').isSome⟩
 ·exact .inr (q _ e')
 ·rcases q _ e' with z | ⟨m', sl', z⟩
  ·exact .inr (.inr ⟨m, sl, z⟩)
  ·exact .inr (.inr ⟨m, sl', z⟩)
section
variable {c : Ct} {s : Shared} {E : VQ} {Q : FQ} {mg mb : NM}
theorem PS_noted {vs' : Vars} {r : Except SStr Fl} (R : Room c.A c.env c.l c.n) (p : c.PS s vs' r Q E) : c.PS s vs' r Q (notedBy c.M c.A c.env fun e s' => cameBackBy c.M c.A c.env E e s') := by
 cases r with
 | ok f =>
  cases f with
  | next => exact p
  | ret d => exact p
 | error k =>
  intro h' tk e tb o fr st x
  refine noteFrame_ok (s := { s with heap := h', toks := tk }) R fr st (fun b o' z => o.ex z) x fun h1 u1 fr1 st1 x1 => ?_
  refine cameBack_ok (s := { s with heap := h1, toks := tk }) x1 fun h2 u2 fr2 st2 x2 => ?_
  exact p h2 tk e true ((o.thenOn u1 fun _ m => m).thenOn u2 fun _ m => nomatch m) (fr2 _ fr1) (st2 st1) x2
theorem PS_ret {vs' : Vars} {r : Except SStr Fl} {Q' : FQ} (p : c.PS s vs' r Q E) (hn : r ≠ .ok .next) (k : ∀ v s', Q (.ret v) s' → Q' (.ret v) s') : c.PS s vs' r Q' E := by
 cases r with
 | ok f =>
  cases f with
  | next => exact absurd rfl hn
  | ret d => exact fun h' tk v W' I' o' k' rv => k _ _ (p h' tk v W' I' o' k' rv)
 | error k => exact p
inductive WhInv (c : Ct) (G : Nat → Vars → SR) (vs' : Vars) (r : Except SStr Fl) (Q : FQ) (E : VQ) (n : Nat) (s : Shared) : Prop
 | mk (W1 : List Addr) (vs1 : Vars) : (c.at W1 vs1).I s.heap → G n vs1 = some (vs', r) → (c.at W1 vs1).PS s vs' r Q E → WhInv c G vs' r Q E n s
theorem whileS_succ {x : Vars → MR D} {f : Vars → SR} {n : Nat} {vs : Vars} : whileS x f (n + 1) vs = bndS vs (x vs) fun q => match q with
  | .bool true => match f vs with
   | some (vs', .ok .next) => whileS x f n vs'
   | x => x
  | .bool false => some (vs, .ok .next)
  | _ => none := rfl
theorem not_next {vs2 : Vars} {r2 : Except SStr Fl} {o : Vars × Except SStr Fl} {k : Vars → SR} (e : (match some (vs2, r2) with
  | some (vs', .ok .next) => k vs'
  | x => x) = some o) (hr : r2 ≠ .ok .next) : (vs2, r2) = o := by
 cases r2 with
 | error k => exact si e
 | ok g => cases g with
  | next => exact absurd rfl hr
  | ret d => exact si e
theorem st_while {t : Expr} {body : List Stmt} {pos : Pos} {x : Vars → MR D} {f : Vars → SR} {n : Nat} {vs' : Vars} {r : Except SStr Fl} (R : Room c.A c.env c.l c.n)
  (ht : ∀ W vs r, x vs = some r → (c.at W vs).Ts (isTrue t c.env (eval t c.env)) r) (hf : ∀ vs W vs' r, f vs = some (vs', r) → (c.at W vs).Ex (execs body c.env) vs' r)
  (h : whileS x f n c.vs = some (vs', r)) : c.Ex (exec (.While t body [] pos) c.env) vs' r := fun s Q E I p => by
 refine wpAny_While (codeAny_whileLoop (WhInv c (whileS x f) vs' r Q E) (fun m s1 z => ?_) n ⟨c.W, c.vs, I, h, p⟩)
 obtain ⟨W1, vs1, I1, h1, p1⟩ := z
 cases m with
 | zero => exact nn h1
 | succ m =>
  rw [whileS_succ] at h1
  refine bindXT (c := c.at W1 vs1) (vs1 := vs1) (ht W1 vs1) h1 I1 (PS_noted (c := c.at W1 vs1) R p1) (fun b h2 tk2 e2 I2 u2 p2 => ?_) fun d e2 => ?_
  ·cases b with
   | false =>
    obtain ⟨rfl, rfl⟩ := sp e2
    exact wP (p2 h2 tk2 W1 I2 (Off.refl _ _ _) fun b m => .inl m)
   | true =>
    replace e2 : (match f vs1 with
     | some (vs', .ok .next) => whileS x f m vs'
     | x => x) = some (vs', r) := e2
    rw [if_pos rfl]
    cases hb : f vs1 with
    | none => rw [hb] at e2; exact nn e2
    | some y =>
     obtain ⟨vs2, r2⟩ := y
     rw [hb] at e2
     by_cases hr : r2 = .ok .next
     ·subst hr
      exact hf vs1 W1 _ _ hb _ _ _ I2 fun h3 tk3 W3 I3 o3 k3 => ⟨m, Nat.lt_succ_self m, W3, vs2, I3, e2, PS_later (c := c.at W1 vs1) (PS_up (c := c.at W1 vs1) (vs1 := vs1) p1 u2 fun b m => m) o3 k3⟩
     ·obtain ⟨rfl, rfl⟩ := Prod.mk.inj (not_next e2 hr)
      exact hf vs1 W1 _ _ hb _ _ _ I2 (PS_ret p2 hr fun v s' z => z)
  ·cases d with
   | bool b => exact ⟨b, rfl⟩
   | _ => exact nn e2
theorem forLoop_none {prog : Program} {w : World} {A : Around} {s : Shared} {target : Expr} {body : List Stmt} {it : Value} {env : Env} {R : Result → Shared → Prop}
  (h : wpAny (model prog w) A (pyNext it) (fun r s₁ => r = none ∧ R (.ok .next) s₁) (notedBy (model prog w) A env fun e s' => R (.error e) s') s) :
  codeAny (model prog w) A (.forLoop target it body [] env) R s := by
 refine codeAny_loop' rfl (fun _ s' => s' = s) (fun n s' hI => ?_) 0 rfl
 subst hI
 show wpAny _ A ((forTurn target it body [] env).onRaise (fun x => do noteFrame x env; theTreesLotGoes x)) _ _ s'
 refine wpAny_noted ?_
 simp only [forTurn]
 refine wB (wpAny_standAt (wB (wpAny_onRaise (wpAny_mono h (fun r s₁ h₁ => ?_) fun _ _ h' => wpAny_standAt h'))))
 obtain ⟨rfl, h₁⟩ := h₁
 exact wP (.inr ⟨rfl, codeAny_block (wP h₁)⟩)
noncomputable abbrev Ct.noI (c : Ct) (Ia : Addr) : Ct := { c with S := fun a => c.S a ∧ ¬ (a = Ia) }
def FBody (c : Ct) (body : List Stmt) (J : Nat → Shared → Prop) (R : Result → Shared → Prop) (n : Nat) (s : Shared) : Prop := wpAny c.M c.A (execs body c.env) (fun f s₃ => match f with
 | .next | .cont => ∃ m, m < n ∧ J m s₃
 | .brk => R (.ok .next) s₃
 | .ret v => R (.ok (.ret v)) s₃) (c.NB R) s
def FItm (c : Ct) (tg : Expr) (body : List Stmt) (J : Nat → Shared → Prop) (R : Result → Shared → Prop) (n : Nat) (r : Option Value) (s : Shared) : Prop := match r with
 | none => wpAny c.M c.A (execs [] c.env) (fun f s₃ => R (.ok f) s₃) (c.NB R) s
 | some v => wpAny c.M c.A (assign tg c.env v) (fun _ s₂ => FBody c body J R n s₂) (c.NB R) s
theorem for_turns {x : SStr} {px : Pos} {body : List Stmt} {it : Value} {R : Result → Shared → Prop} (J : Nat → Shared → Prop) (turn : ∀ n s, J n s → wpAny c.M c.A (pyNext it) (FItm c (.Name x px) body J R n) (c.NB R) s) (n : Nat) (h : J n s) : codeAny c.M c.A (.forLoop (.Name x px) it body [] c.env) R s :=
 codeAny_forLoop J (fun n s z => wpAny_mono (turn n s z) (fun r s₁ k => by cases r <;> exact k) fun _ _ k => k) n h
structure ForFix (c : Ct) (h0 : Heap) (Ia : Addr) (fp : List Addr) (vals : List Value) (St : Nat → Heap → Prop) : Prop where
 Wk : Walk c.prog c.w c.A Ia fp vals St
 fpk : ∀ b ∈ fp, Okk c.S c.W (frs c.l) b ∧ ∃ o, h0.get? b = some o
 nI : h0.get? Ia = none
 I : c.I h0
structure ForAt (c : Ct) (h0 : Heap) (Ia : Addr) (St : Nat → Heap → Prop) (i : Nat) (W1 : List Addr) (vs1 : Vars) (h : Heap) : Prop where
 st : St i h
 inv : ((c.noI Ia).at W1 vs1).I h
 off : Off c.W (frs c.l) h0 h
 k : ∀ b ∈ W1, b ∈ c.W ∨ h0.get? b = none
 n : Ia ∉ W1
inductive ForInv (c : Ct) (s : Shared) (Ia : Addr) (vals : List Value) (St : Nat → Heap → Prop) (G : List D → Vars → SR) (ds : List D) (o : Vars × Except SStr Fl) (k : Nat) (s' : Shared) : Prop
 | mk (i : Nat) (h : Heap) (tk : Nat) (W1 : List Addr) (vs1 : Vars) : s' = { s with heap := h, toks := tk } → i ≤ vals.length → k = vals.length - i → ForAt c s.heap Ia St i W1 vs1 h → G (ds.drop i) vs1 = some o → ForInv c s Ia vals St G ds o k s'
section
variable {h0 h h' : Heap} {Ia : Addr} {fp : List Addr} {vals : List Value} {St : Nat → Heap → Prop} {i : Nat} {W1 W2 : List Addr} {vs1 vs2 : Vars}
theorem ForFix.ne (F : ForFix c h0 Ia fp vals St) {b : Addr} (z : ∃ o, h0.get? b = some o) : b ≠ Ia := fun q => let ⟨_, z⟩ := z; nox F.nI (q ▸ z)
theorem ForAt.old (a : ForAt c h0 Ia St i W1 vs1 h) {b : Addr} (z : ∃ o, h0.get? b = some o) (n : b ∉ c.W) : b ∉ W1 := fun m => let ⟨_, z⟩ := z; (a.k _ m).elim n fun y => nox y z
theorem ForAt.step (a : ForAt c h0 Ia St i W1 vs1 h) (F : ForFix c h0 Ia fp vals St) (J : ((c.noI Ia).at W2 vs2).I h') (o : Off W1 (frs c.l) h h') (k : ∀ b ∈ W2, b ∈ W1 ∨ h.get? b = none) : ForAt c h0 Ia St i W2 vs2 h' where
 st := F.Wk.frame _ _ _ a.st fun b hb q z => by
  rcases hb with rfl | hb
  ·exact o.at z a.n (new_nF F.I F.nI)
  ·exact o.at z (a.old (F.fpk b hb).2 (F.fpk b hb).1.2.1) (F.fpk b hb).1.2.2
 inv := J
 off := Off.trans a.off o a.k
 k := fun b m => (k b m).elim (a.k b) fun y => .inr (a.off.gone y)
 n := fun m => (k _ m).elim a.n fun y => let ⟨_, z⟩ := F.Wk.live _ _ a.st; nox y z
theorem off_I (F : ForFix c h0 Ia fp vals St) (x : Off c.W (frs c.l) h0 h) (k : ∀ b o, b ≠ Ia → h.get? b = some o → h'.get? b = some o) : Off c.W (frs c.l) h0 h' := fun b o z => by
 have nb := F.ne ⟨o, z⟩
 rcases x b o z with ⟨m, o', y⟩ | y | ⟨m, sl, y⟩
 ·exact .inl ⟨m, o', k b _ nb y⟩
 ·exact .inr (.inl (k b _ nb y))
 ·exact .inr (.inr ⟨m, sl, k b _ nb y⟩)
theorem noLook_I (F : ForFix c h0 Ia fp vals St) (n : Ia ∉ W1) : NoLook c.hb (fun a => c.S a ∧ ¬ (a = Ia)) W1 (frs c.l) Ia := ⟨fun y => y.2 rfl, n, new_nF F.I F.nI, new_nB F.I F.nI⟩
theorem ForAt.next {j : Nat} (a : ForAt c h0 Ia St i W1 vs1 h) (F : ForFix c h0 Ia fp vals St) (k : ∀ b o, b ≠ Ia → h.get? b = some o → h'.get? b = some o) (st : St j h') : ForAt c h0 Ia St j W1 vs1 h' where
 st := st
 inv := have nL := noLook_I F a.n; Inv.move (X := fun a => a = Ia) a.inv (fun b z => (show b = Ia from z) ▸ nL) (fun b o n z => .inl (k b o n z)) (fun a z => z) fun b z => by
  by_cases zb : b = Ia
  ·obtain ⟨o, al⟩ := F.Wk.live _ _ st
   exact nox (zb ▸ z) al
  ·refine a.inv.fresh b ?_
   cases y : h.get? b with
   | none => rfl
   | some o => exact nox z (k b o zb y)
 off := off_I F a.off k
 k := a.k
 n := a.n
theorem ForAt.fin (a : ForAt c h0 Ia St i W1 vs1 h) (F : ForFix c h0 Ia fp vals St) (k : ∀ b o, b ≠ Ia → h.get? b = some o → h'.get? b = some o) : Inv c.prog c.w c.hb c.S c.l c.env W1 h' vs1 :=
 have nL := noLook_I F a.n
 Inv.move (X := fun a => a = Ia) a.inv (fun b z => (show b = Ia from z) ▸ nL) (fun b o n z => .inl (k b o n z)) (fun a z => z.1) fun b z => by
  by_cases zb : b = Ia
  ·exact zb ▸ F.I.fresh Ia F.nI
  ·refine (a.inv.fresh b ?_).1
   cases y : h.get? b with
   | none => rfl
   | some o => exact nox z (k b o zb y)
theorem ForAt.reads {v : Value} {d : D} (a : ForAt c h0 Ia St i W1 vs1 h) (F : ForFix c h0 Ia fp vals St) (r : c.Rp h0 v d) : ((c.noI Ia).at W1 vs1).Rp h v d := by
 obtain ⟨as, rd, ka⟩ := r
 refine ⟨as, Rd.keep (fun b m o e => a.off.at e (ka b m).2.1 (ka b m).2.2) rd, fun b m => ?_⟩
 have z := Rd.alive rd b m
 exact ⟨⟨(ka b m).1, F.ne z⟩, a.old z (ka b m).2.1, (ka b m).2.2⟩
end
theorem PS_noI {vs' : Vars} {r : Except SStr Fl} (Ia : Addr) (p : c.PS s vs' r Q E) : (c.noI Ia).PS s vs' r Q E := by
 cases r with
 | error k => exact p
 | ok fl =>
  cases fl with
  | next => exact fun h' tk W' I' o' k' => p h' tk W' (Inv.wider I' fun _ z => z.1) o' k'
  | ret d => exact fun h' tk v W' I' o' k' rv => p h' tk v W' (Inv.wider I' fun _ z => z.1) o' k' (Rep.sub rv fun _ z => z.1)
theorem forS_cons {b : Vars → D → Vars} {f : Vars → SR} {d : D} {l : List D} {vs : Vars} : forS b f (d :: l) vs = match f (b vs d) with
  | some (vs', .ok .next) => forS b f l vs'
  | x => x := rfl
theorem for_run {x : SStr} {px : Pos} {body : List Stmt} {f : Vars → SR} {vs' : Vars} {r : Except SStr Fl} {R : Result → Shared → Prop} {Ia : Addr} {fp : List Addr} {vals : List Value} {St : Nat → Heap → Prop} {ds : List D} {h2 : Heap} {tk : Nat} (Rm : Room c.A c.env c.l c.n) (gx : bM c.env.scope.names x = true)
  (hf : ∀ (S : Addr → Prop) vs W vs' r, f vs = some (vs', r) → ({ c with S := S, W := W, vs := vs } : Ct).Ex (execs body c.env) vs' r) (F : ForFix c s.heap Ia fp vals St) (len : vals.length = ds.length) (rv : ∀ (i : Nat) (v : Value) (d : D), vals[i]? = some v → ds[i]? = some d → c.Rp s.heap v d)
  (a0 : ForAt c s.heap Ia St 0 c.W c.vs h2) (hr : forS (fun vs d => upd vs x (.imm d)) f ds c.vs = some (vs', r)) (p : c.PS s vs' r (fun f s' => R (.ok f) s') (c.NB R)) : codeAny c.M c.A (.forLoop (.Name x px) (.ref Ia) body [] c.env) R { s with heap := h2, toks := tk } := by
 refine for_turns (ForInv c s Ia vals St (forS (fun vs d => upd vs x (.imm d)) f) ds (vs', r)) (fun k s' z => ?_) vals.length ⟨0, h2, tk, c.W, c.vs, rfl, Nat.zero_le _, rfl, a0, hr⟩
 obtain ⟨i, h3, tk3, W1, vs1, rfl, hi, rfl, a3, hr3⟩ := z
 by_cases hlt : i < vals.length
 ·obtain ⟨v, hv⟩ : ∃ v, vals[i]? = some v := ⟨_, List.getElem?_eq_getElem hlt⟩
  obtain ⟨d, hd⟩ : ∃ d, ds[i]? = some d := ⟨_, List.getElem?_eq_getElem (len ▸ hlt)⟩
  rw [drop_at hd, forS_cons] at hr3
  refine F.Wk.item i v { s with heap := h3, toks := tk3 } _ _ hv a3.st fun u h4 tk4 hu st4 k4 => ?_
  have a4 := a3.next F k4 st4
  refine wpAny_assign_Name (store_imm (s := { s with heap := h4, toks := tk4 }) Rm a4.inv (tgt_kind gx) (rp_hand (c := (c.noI Ia).at W1 vs1) (a4.reads F (rv i v d hv hd)) hu) fun h5 tk5 J5 o5 => ?_)
  have a5 := a4.step (vs2 := upd vs1 x (.imm d)) F J5 o5 fun b m => .inl m
  cases hb : f (upd vs1 x (.imm d)) with
  | none => rw [hb] at hr3; exact nn hr3
  | some y =>
   obtain ⟨vs2, r2⟩ := y
   rw [hb] at hr3
   by_cases hr2 : r2 = .ok .next
   ·subst hr2
    exact hf _ _ W1 _ _ hb { s with heap := h5, toks := tk5 } _ _ J5 fun h6 tk6 W6 J6 o6 k6 => ⟨vals.length - (i + 1), by omega, i + 1, h6, tk6, W6, vs2, rfl, hlt, rfl, a5.step (vs2 := vs2) F J6 o6 k6, hr3⟩
   ·obtain ⟨rfl, rfl⟩ := Prod.mk.inj (not_next hr3 hr2)
    exact hf _ _ W1 _ _ hb { s with heap := h5, toks := tk5 } _ _ J5 (PS_ret (PS_later (c := c.noI Ia) (s := s) (W1 := W1) (vs1 := upd vs1 x (.imm d)) (PS_noI Ia p) a5.off a5.k) hr2 fun v s' z => z)
 ·obtain rfl : i = vals.length := by omega
  rw [len, List.drop_length] at hr3
  obtain ⟨rfl, rfl⟩ := sp hr3
  refine F.Wk.done { s with heap := h3, toks := tk3 } _ _ a3.st fun h5 tk5 k5 => ?_
  exact wP (p h5 tk5 W1 (a3.fin F k5) (off_I F a3.off k5) a3.k)
theorem st_for {tg it : Expr} {body : List Stmt} {pos : Pos} {src : MR (List D)} {f : Vars → SR} {vs' : Vars} {r : Except SStr Fl} (R : Room c.A c.env c.l c.n) (hset : isSet it = false)
  (hsrc : ∀ W r, src = some r → (c.at W (aA c.vs (bY 20 it))).TrI (eval it c.env) r)
  (hf : ∀ (S : Addr → Prop) vs W vs' r, f vs = some (vs', r) → ({ c with S := S, W := W, vs := vs } : Ct).Ex (execs body c.env) vs' r)
  (h : bndS (aA c.vs (bY 20 it)) src (fun l => match l with
    | [] => some (aA c.vs (bY 20 it), .ok .next)
    | d :: l => (aU tg).bind fun x => match isLoc c.env.scope.names x.1 && Nat.ble (d :: l).length 1000 with
     | true => forS (fun vs d => upd vs x.1 (.imm d)) f (d :: l) (aA c.vs (bY 20 it))
     | false => none) = some (vs', r)) : c.Ex (exec (.For tg it body [] pos) c.env) vs' r :=
 frozen fun W0 s Q E I p => by
  generalize aA c.vs (bY 20 it) = vs0 at hsrc h I p
  refine wpAny_For ?_ (foldedSet_of hset)
  cases hs : src with
  | none => rw [hs] at h; exact nn h
  | some y =>
   rw [hs] at h
   cases y with
   | error k =>
    obtain ⟨rfl, rfl⟩ := sp h
    exact hsrc W0 _ hs s _ E I (PX_of p)
   | ok ds =>
    refine hsrc W0 _ hs s _ E I fun h1 tk1 xv u1 hsr => ?_
    have I1 : (c.at W0 vs0).I h1 := I.up u1
    have p1 := PS_noted (c := c.at W0 vs0) R (PS_up (c := c.at W0 vs0) (vs1 := vs0) (h1 := h1) (tk := tk1) p u1 fun b m => m)
    refine hsr { s with heap := h1, toks := tk1 } _ _ I1 (Up.refl _ _) fun h2 it2 u2 itr => ?_
    obtain ⟨Ia, fp, vals, St, rfl, Wk, st0, fpk, nI, len, rv⟩ := itr
    have F : ForFix (c.at W0 vs0) h1 Ia fp vals St := ⟨Wk, fpk, nI, I1⟩
    have a0 : ForAt (c.at W0 vs0) h1 Ia St 0 W0 vs0 h2 := ⟨st0, Inv.apart (X := fun a => a = Ia) I1 (fun a z => z ▸ nI) u2 fun a z => z ▸ Wk.live _ _ st0, u2.off, fun b m => .inl m, new_nW I1 nI⟩
    cases ds with
    | nil =>
     obtain ⟨rfl, rfl⟩ := sp h
     exact forLoop_none (Wk.done { s with heap := h2, toks := tk1 } _ _ (by rw [len]; exact st0) fun h5 tk5 k5 => ⟨rfl, p1 h5 tk5 W0 (a0.fin F k5) (off_I F a0.off k5) fun b m => .inl m⟩)
    | cons d ds =>
     obtain ⟨x, hx, h⟩ := obi (show (aU tg).bind _ = some (vs', r) from h)
     cases g : isLoc c.env.scope.names x.1 && Nat.ble (d :: ds).length 1000 with
     | false => rw [g] at h; exact nn h
     | true =>
      rw [g] at h
      rw [bF hx]
      have gx := (ba g).1
      exact for_run (c := c.at W0 vs0) (s := { s with heap := h1, toks := tk1 }) R (by unfold bM; unfold isLoc at gx; rw [gx]; rfl) hf F len rv a0 h p1
end
section
variable {c : Ct} {s : Shared} {E : VQ} {mg mb : NM}
theorem extBut_up {F : List Addr} {h h' : Heap} (e : Heap.ExtBut h.objs.size h h') : Up F h h' := Up.of_keep fun b o z => e b o (Nat.ne_of_lt (Heap.lt_size z)) z
theorem unpack_ok {v : Value} {d : D} {ds : List D} {n : Nat} {Q : List Value → Shared → Prop} (hh : c.A.handled = none) (rv : c.Rp s.heap v d) (hd : d = .tuple ds ∨ d = .list ds) (hn : n = ds.length)
  (hQ : ∀ h' items, Up (frs c.l) s.heap h' → c.RpL h' items ds → Q items { s with heap := h' }) : wpAny c.M c.A (unpackItems v n none) Q E s := by
 obtain ⟨as, rv, kv⟩ := rv
 rcases hd with rfl | rfl
 ·obtain ⟨a, o, vs, k, bs, rfl, rfl, h1, c1, d1, r1⟩ := rd_tuple rv
  have len := aN r1
  simp only [Array.length_toList] at len
  rw [hn, ← len]
  refine unpackItems_tuple hh ⟨o, h1, c1, k, d1⟩ fun h' he => hQ h' _ (extBut_up he) (RpL_kp ⟨bs, r1, fun b m => kv b (mc _ m)⟩ (Kp_up (extBut_up he)))
 ·obtain ⟨a, o, vs, k, bs, rfl, rfl, h1, c1, d0, d1, r1⟩ := rd_list' rv
  have len := aN r1
  simp only [Array.length_toList] at len
  rw [hn, ← len]
  refine W.kun_itemsOf hh ⟨o, h1, c1, k, d1⟩ fun h' he => hQ h' _ (extBut_up he) (RpL_kp ⟨bs, r1, fun b m => kv b (mc _ m)⟩ (Kp_up (extBut_up he)))
theorem Kp_off {h h' : Heap} (o : Off c.W (frs c.l) h h') : c.Kp h h' := fun _ _ _ w n e => o.at e w n
theorem order_cons {M : Model} {A : Around} {t : Value → Sem Unit} {ts : List (Value → Sem Unit)} {x : Value} {xs : List Value} {Q : Unit → Shared → Prop}
  (h : wpAny M A (t x) (fun _ s₁ => wpAny M A (assignInOrder ts xs) Q E s₁) E s) : wpAny M A (assignInOrder (t :: ts) (x :: xs)) Q E s := wpAny_assignInOrder_more h
structure Shp (ts : List Expr) (n : Nat) (env : Env) : Prop where
 len : (assignEach ts env).length = n
 star : (assignEach ts env).findIdx? (·.1) = none
theorem Shp.cons {t : Expr} {ts : List Expr} {n : Nat} {env : Env} {f : Value → Sem Unit} (e : assignEach (t :: ts) env = (false, f) :: assignEach ts env) (x : Shp ts n env) : Shp (t :: ts) (n + 1) env := by
 refine ⟨by rw [e, List.length_cons, x.len], ?_⟩
 rw [e, List.findIdx?_cons]
 simp [x.star]
theorem setN_cons {ns : Names} {t : Expr} {ts : List Expr} {d : D} {ds : List D} {vs vs' : Vars} (h : setN ns (t :: ts) (d :: ds) vs = some vs') : ∃ x p, t = .Name x p ∧ bM ns x = true ∧ setN ns ts ds (upd vs x (.imm d)) = some vs' := by
 obtain ⟨x, hx, h⟩ := obi (show ((aU t).bind fun x => match bM ns x.1 with | true => setN ns ts ds (upd vs x.1 (.imm d)) | false => none) = some vs' from h)
 cases g : bM ns x.1 with
 | false => rw [g] at h; exact nn h
 | true => rw [g] at h; exact ⟨x.1, x.2, bF hx, g, h⟩
inductive SetT (ns : Names) (t : Expr) (ts : List Expr) (d : D) (ds : List D) (vs vs' : Vars) : Prop
 | name (x p) : t = .Name x p → bM ns x = true → setT ns ts ds (upd vs x (.imm d)) = some vs' → SetT ns t ts d ds vs vs'
 | tup (us k p es vs1) : t = .Tuple us k p → d = .tuple es → setN ns us es vs = some vs1 → setT ns ts ds vs1 = some vs' → SetT ns t ts d ds vs vs'
theorem setT_cons {ns : Names} {t : Expr} {ts : List Expr} {d : D} {ds : List D} {vs vs' : Vars} (h : setT ns (t :: ts) (d :: ds) vs = some vs') : SetT ns t ts d ds vs vs' := by
 replace h : (match aU t with
  | some x => match bM ns x.1 with
   | true => setT ns ts ds (upd vs x.1 (.imm d))
   | false => none
  | none => (asTuple t).bind fun us => (asT d).bind fun es => (setN ns us.1 es vs).bind fun vs' => setT ns ts ds vs') = some vs' := h
 cases q : aU t with
 | some x =>
  rw [q] at h
  dsimp only at h
  cases g : bM ns x.1 with
  | false => rw [g] at h; exact nn h
  | true => rw [g] at h; exact .name x.1 x.2 (bF q) g h
 | none =>
  rw [q] at h
  obtain ⟨us, h1, h⟩ := obi h
  obtain ⟨es, h2, h⟩ := obi h
  obtain ⟨vs1, h3, h⟩ := obi h
  exact .tup us.1 us.2.1 us.2.2 es vs1 (asTuple_eq h1) (asT_eq h2) h3 h
theorem setN_shape {ns : Names} {env : Env} : ∀ {ts : List Expr} {ds : List D} {vs vs' : Vars}, setN ns ts ds vs = some vs' → Shp ts ds.length env
 | [], [], _, _, _ => ⟨rfl, rfl⟩
 | [], _ :: _, _, _, h => nn h
 | _ :: _, [], _, _, h => nn h
 | t :: ts, d :: ds, vs, vs', h => by
  obtain ⟨x, p, rfl, _, h⟩ := setN_cons h
  exact .cons rfl (setN_shape h)
theorem setT_shape {ns : Names} {env : Env} : ∀ {ts : List Expr} {ds : List D} {vs vs' : Vars}, setT ns ts ds vs = some vs' → Shp ts ds.length env
 | [], [], _, _, _ => ⟨rfl, rfl⟩
 | [], _ :: _, _, _, h => nn h
 | _ :: _, [], _, _, h => nn h
 | t :: ts, d :: ds, vs, vs', h => by
  cases setT_cons h with
  | name x p e _ h2 => subst e; exact .cons rfl (setT_shape h2)
  | tup us k p es vs1 e _ _ h2 => subst e; exact .cons rfl (setT_shape h2)
def Ct.Puts (c : Ct) (ts : List Expr) (ds : List D) (vs vs' : Vars) : Prop := ∀ (items : List Value) (s : Shared) (Q : Unit → Shared → Prop) (E : VQ), (c.at c.W vs).I s.heap → c.RpL s.heap items ds →
  (∀ h' tk, (c.at c.W vs').I h' → Off c.W (frs c.l) s.heap h' → Q () { s with heap := h', toks := tk }) → wpAny c.M c.A (assignInOrder ((assignEach ts c.env).map (·.2)) items) Q E s
theorem puts_nil {vs : Vars} : c.Puts [] [] vs vs := fun items s Q E I r hQ => by
 obtain rfl := RpL_inv0 r
 exact wP (hQ s.heap s.toks I (Off.refl _ _ _))
theorem puts_name (R : Room c.A c.env c.l c.n) {x : SStr} {p : Pos} {ts : List Expr} {d : D} {ds : List D} {vs vs' : Vars} (g : bM c.env.scope.names x = true) (h : c.Puts ts ds (upd vs x (.imm d)) vs') : c.Puts (.Name x p :: ts) (d :: ds) vs vs' := fun items s Q E I r hQ => by
 obtain ⟨v, rs, rfl, rv, rr⟩ := RpL_inv r
 refine order_cons (wpAny_assign_Name (store_imm R I (tgt_kind g) rv fun h1 tk1 I1 o1 => ?_))
 exact h _ { s with heap := h1, toks := tk1 } _ _ I1 (RpL_kp rr (Kp_off o1)) fun h2 tk2 I2 o2 => hQ h2 tk2 I2 (Off.trans o1 o2 fun _ m => .inl m)
theorem setN_ok (R : Room c.A c.env c.l c.n) : ∀ {ts : List Expr} {ds : List D} {vs vs' : Vars}, setN c.env.scope.names ts ds vs = some vs' → c.Puts ts ds vs vs'
 | [], [], _, _, h => si h ▸ puts_nil
 | [], _ :: _, _, _, h => nn h
 | _ :: _, [], _, _, h => nn h
 | t :: ts, d :: ds, vs, vs', h => by
  obtain ⟨x, p, rfl, g, h⟩ := setN_cons h
  exact puts_name R g (setN_ok R h)
theorem setT_ok (R : Room c.A c.env c.l c.n) : ∀ {ts : List Expr} {ds : List D} {vs vs' : Vars}, setT c.env.scope.names ts ds vs = some vs' → c.Puts ts ds vs vs'
 | [], [], _, _, h => si h ▸ puts_nil
 | [], _ :: _, _, _, h => nn h
 | _ :: _, [], _, _, h => nn h
 | t :: ts, d :: ds, vs, vs', h => by
  cases setT_cons h with
  | name x p e g h2 => subst e; exact puts_name R g (setT_ok R h2)
  | tup us uk up es vs1 e e2 hn h2 =>
   subst e e2
   intro items s Q E I r hQ
   obtain ⟨v, rs, rfl, rv, rr⟩ := RpL_inv r
   obtain ⟨q1, q2⟩ := setN_shape (env := c.env) hn
   refine order_cons ?_
   show wpAny c.M c.A (assign (.Tuple us uk up) c.env v) _ E s
   rw [assign_Tuple]
   refine wB (wpAny_standAt ?_)
   unfold unpack
   rw [q2]
   refine wB (wpAny_holding (unpack_ok R.hh rv (.inl rfl) q1 fun h1 its u1 r1 => ?_))
   refine setN_ok R hn _ { s with heap := h1 } _ _ (I.up u1) r1 fun hb tk2 I2 o2 => ?_
   have o := Off.trans (W := c.W) u1.off o2 fun _ m => .inl m
   exact setT_ok R h2 _ { s with heap := hb, toks := tk2 } _ _ I2 (RpL_kp rr (Kp_off o)) fun h3 tk3 I3 o3 => hQ h3 tk3 I3 (Off.trans o o3 fun _ m => .inl m)
end
theorem sole_tuple {elts : List Expr} {k : Nat} {tpos : Pos} {v : Expr} {ln : Nat} {env : Env} : swapsWithSole [.Tuple elts k tpos] v ln env = pure false := by
 cases v <;> rfl
inductive NamesOf (env : Env) : List Expr → List SStr → Prop
 | nil : NamesOf env [] []
 | cons {x : SStr} {p : Pos} {ts : List Expr} {xs : List SStr} : env.kindOf x = some .local → NamesOf env ts xs → NamesOf env (.Name x p :: ts) (x :: xs)
theorem namesOf_of {env : Env} {f : Expr → Option SStr} (hf : ∀ t x, f t = some x → (∃ p, t = .Name x p) ∧ env.kindOf x = some .local) : ∀ {ts : List Expr}, (ts.filterMap f).length = ts.length → NamesOf env ts (ts.filterMap f)
 | [], _ => .nil
 | t :: ts, h => by
  rw [List.filterMap_cons] at h ⊢
  cases q : f t with
  | none =>
   rw [q] at h
   have := List.length_filterMap_le f ts
   simp only [List.length_cons] at h
   omega
  | some x =>
   rw [q] at h
   obtain ⟨⟨p, rfl⟩, hk⟩ := hf t x q
   exact .cons hk (namesOf_of hf (by simpa using h))
theorem swapped_cases {ts : List Expr} {k : Nat} {tp : Pos} {v : Expr} {env : Env} (h : okSwap v = true) : swappedStores [.Tuple ts k tp] v env = pure none ∨
  ∃ names, swappedStores [.Tuple ts k tp] v env = pure (some names) ∧ NamesOf env ts names ∧ (ts.length = 2 ∨ ts.length = 3) ∧ names.eraseDups.length = names.length := by
 unfold swappedStores
 cases v <;> try exact .inl rfl
 rename_i vs vk vp
 dsimp only
 split
 ·exact .inl rfl
 ·rename_i g1
  split
  ·exact .inl rfl
  ·split
   ·exact .inl rfl
   ·rename_i g2
    split
    ·exact .inl rfl
    ·rename_i g3
     split
     ·rename_i g4
      have h : (!vs.all (constantsAlone 8) || vs.all (foldedForSure 8)) = true := h
      rw [g4] at h
      simp only [Bool.not_true, Bool.false_or] at h
      exact absurd h g3
     ·refine .inr ⟨_, rfl, namesOf_of (fun t x hx => ?_) ?_, ?_, ?_⟩
      ·split at hx
       ·split at hx
        ·rename_i g
         obtain rfl := si hx
         exact ⟨⟨_, rfl⟩, bq (ba g).1⟩
        ·exact nn hx
       ·exact nn hx
      ·simp only [Bool.or_eq_true, bne_iff_ne, ne_eq, not_or, Decidable.not_not] at g2
       exact g2.1
      ·simp only [Bool.or_eq_true, Bool.not_eq_true', Bool.or_eq_false_iff, beq_eq_false_iff_ne, bne_iff_ne, ne_eq, not_or, Decidable.not_not] at g1
       obtain ⟨⟨g1, _⟩, _⟩ := g1
       by_cases z : ts.length = 2
       ·exact .inl z
       ·exact .inr (Decidable.byContradiction fun y => g1 ⟨z, y⟩)
      ·simp only [Bool.or_eq_true, bne_iff_ne, ne_eq, not_or, Decidable.not_not] at g2
       exact g2.2
section
variable {c : Ct} {s : Shared} {E : VQ} {mg mb : NM}
theorem lk_swap {vs : Vars} {a b : SStr} {p q : Bd} (n : a ≠ b) (x : SStr) : lk (upd (upd vs a p) b q) x = lk (upd (upd vs b q) a p) x := by
 simp only [lk_upd]
 by_cases h1 : a = x
 ·by_cases h2 : b = x
  ·exact absurd (h1.trans h2.symm) n
  ·rw [if_neg h2, if_pos h1, if_pos h1]
 ·by_cases h2 : b = x
  ·rw [if_pos h2, if_neg h1, if_pos h2]
  ·rw [if_neg h2, if_neg h1, if_neg h1, if_neg h2]
theorem bind_one {x : SStr} {v : Value} {d : D} {vs : Vars} {s : Shared} {Q : Unit → Shared → Prop} (R : Room c.A c.env c.l c.n) (I : (c.at c.W vs).I s.heap) (h : c.env.kindOf x = some .local) (rv : c.Rp s.heap v d)
  (hQ : ∀ h' tk, (c.at c.W (upd vs x (.imm d))).I h' → Off c.W (frs c.l) s.heap h' → Q () { s with heap := h', toks := tk }) : wpAny c.M c.A (bindName c.env x v) Q E s :=
 bindName_ (store_imm R I (.inl h) rv hQ)
noncomputable def updAll (vs : Vars) : List (SStr × D) → Vars
 | [] => vs
 | (n, d) :: l => updAll (upd vs n (.imm d)) l
theorem lk_updAll_out : ∀ {l : List (SStr × D)} {vs : Vars} {x : SStr}, x ∉ l.map (·.1) → lk (updAll vs l) x = lk vs x
 | [], _, _, _ => rfl
 | (n, d) :: l, vs, x, h => by
  rw [List.map_cons, List.mem_cons, not_or] at h
  exact (lk_updAll_out h.2).trans ((lk_upd _ _ _ _).trans (if_neg (Ne.symm h.1)))
theorem lk_updAll_in : ∀ {l : List (SStr × D)} {vs : Vars} {x : SStr} {d : D}, (l.map (·.1)).Nodup → (x, d) ∈ l → lk (updAll vs l) x = some (.imm d)
 | (n, d') :: l, vs, x, d, nd, m => by
  rw [List.map_cons, List.nodup_cons] at nd
  rcases mp m with e | m
  ·obtain ⟨rfl, rfl⟩ := Prod.mk.inj e
   exact (lk_updAll_out nd.1).trans ((lk_upd _ _ _ _).trans (if_pos rfl))
  ·exact (show lk (updAll (upd vs n (.imm d')) l) x = _ from lk_updAll_in nd.2 m)
theorem lk_updAll_rev {l : List (SStr × D)} {vs : Vars} (nd : (l.map (·.1)).Nodup) (x : SStr) : lk (updAll vs l) x = lk (updAll vs l.reverse) x := by
 by_cases m : x ∈ l.map (·.1)
 ·obtain ⟨⟨_, d⟩, h, rfl⟩ := List.mem_map.mp m
  rw [lk_updAll_in nd h, lk_updAll_in (by rw [List.map_reverse]; exact List.pairwise_reverse.mpr (nd.imp Ne.symm)) (List.mem_reverse.mpr h)]
 ·rw [lk_updAll_out m, lk_updAll_out (by rw [List.map_reverse]; exact fun y => m (List.mem_reverse.mp y))]
theorem set_names {env : Env} {ts : List Expr} {names : List SStr} (hn : NamesOf env ts names) : ∀ {ds : List D} {vs vs' : Vars}, setT env.scope.names ts ds vs = some vs' → names.length = ds.length ∧ vs' = updAll vs (names.zip ds) := by
 induction hn with
 | nil =>
  intro ds vs vs' h
  cases ds with
  | nil => exact ⟨rfl, (si h).symm⟩
  | cons => exact nn h
 | cons k hn ih =>
  intro ds vs vs' h
  cases ds with
  | nil => exact nn h
  | cons d ds =>
   cases setT_cons h with
   | name y q e g h2 =>
    cases e
    obtain ⟨z1, z2⟩ := ih h2
    exact ⟨congrArg (· + 1) z1, z2⟩
   | tup us k p es vs1 e => exact nomatch e
theorem namesOf_loc {env : Env} {ts : List Expr} {names : List SStr} (hn : NamesOf env ts names) : ∀ x ∈ names, env.kindOf x = some .local := by
 induction hn with
 | nil => exact fun _ m => nomatch m
 | cons k hn ih => exact List.forall_mem_cons.mpr ⟨k, ih⟩
theorem binds_ok (R : Room c.A c.env c.l c.n) : ∀ {l : List (SStr × D)} {vs : Vars} {items : List Value} {s : Shared} {Q : Unit → Shared → Prop}, (∀ x ∈ l.map (·.1), c.env.kindOf x = some .local) → (c.at c.W vs).I s.heap → c.RpL s.heap items (l.map (·.2)) →
  (∀ h' tk, (c.at c.W (updAll vs l)).I h' → Off c.W (frs c.l) s.heap h' → Q () { s with heap := h', toks := tk }) → wpAny c.M c.A (assignInOrder ((l.map (·.1)).map fun n => bindName c.env n) items) Q E s
 | [], vs, items, s, Q, _, I, r, hQ => by
  obtain rfl := RpL_inv0 r
  exact wP (hQ s.heap s.toks I (Off.refl _ _ _))
 | (n, d) :: l, vs, items, s, Q, k, I, r, hQ => by
  obtain ⟨v, rs, rfl, rv, rr⟩ := RpL_inv r
  refine order_cons (bind_one R I (k n mz) rv fun h1 tk1 I1 o1 => ?_)
  exact binds_ok R (s := { s with heap := h1, toks := tk1 }) (fun x m => k x (mc _ m)) I1 (RpL_kp rr (Kp_off o1)) fun h2 tk2 I2 o2 => hQ h2 tk2 I2 (Off.trans o1 o2 fun _ m => .inl m)
theorem dups_le : ∀ (n : Nat) (l : List SStr), l.length ≤ n → l.eraseDups.length ≤ l.length
 | _, [], _ => Nat.le_refl _
 | n + 1, a :: l, h => by
  rw [List.eraseDups_cons, List.length_cons, List.length_cons]
  have h1 := List.length_filter_le (fun b => !b == a) l
  exact Nat.succ_le_succ (Nat.le_trans (dups_le n _ (Nat.le_trans h1 (Nat.le_of_succ_le_succ h))) h1)
theorem dups_nodup : ∀ (n : Nat) (l : List SStr), l.length ≤ n → l.eraseDups.length = l.length → l.Nodup
 | _, [], _, _ => List.nodup_nil
 | n + 1, a :: l, h, e => by
  rw [List.eraseDups_cons, List.length_cons, List.length_cons] at e
  have h1 := List.length_filter_le (fun b => !b == a) l
  have h2 := dups_le _ (l.filter fun b => !b == a) (Nat.le_refl _)
  have e3 : (l.filter fun b => !b == a) = l := List.filter_eq_self.mpr (List.length_filter_eq_length_iff.mp (by omega))
  rw [e3] at e
  refine List.nodup_cons.mpr ⟨fun m => ?_, dups_nodup n l (Nat.le_of_succ_le_succ h) (Nat.succ.inj e)⟩
  have := List.filter_eq_self.mp e3 a m
  simp at this
theorem RpL_rev {h : Heap} {vs : List Value} {ds : List D} (x : c.RpL h vs ds) : c.RpL h vs.reverse ds.reverse := by
 induction ds generalizing vs with
 | nil => rw [RpL_inv0 x]; exact RpL_nil
 | cons d ds ih =>
  obtain ⟨v, r, rfl, rv, rr⟩ := RpL_inv x
  rw [List.reverse_cons, List.reverse_cons]
  exact RpL_snoc (ih rr) rv
theorem swap_ok {ts : List Expr} {names : List SStr} {ds : List D} {vs vs' : Vars} {items : List Value} {s : Shared} {Q : Unit → Shared → Prop} (R : Room c.A c.env c.l c.n) (hn : NamesOf c.env ts names) (hd : names.eraseDups.length = names.length)
  (h : setT c.env.scope.names ts ds vs = some vs') (I : (c.at c.W vs).I s.heap) (r : c.RpL s.heap items ds)
  (hQ : ∀ h' tk, (c.at c.W vs').I h' → Off c.W (frs c.l) s.heap h' → Q () { s with heap := h', toks := tk }) : wpAny c.M c.A (assignInOrder (names.reverse.map fun n => bindName c.env n) items.reverse) Q E s := by
 obtain ⟨len, rfl⟩ := set_names hn h
 have e1 : (names.zip ds).map (·.1) = names := List.map_fst_zip (Nat.le_of_eq len)
 have e2 : (names.zip ds).map (·.2) = ds := List.map_snd_zip (Nat.le_of_eq len.symm)
 have nd := dups_nodup _ names (Nat.le_refl _) hd
 have k := binds_ok (E := E) (Q := Q) R (l := (names.zip ds).reverse) (vs := vs) (items := items.reverse) (s := s) (fun x m => namesOf_loc hn x (e1 ▸ (by rw [List.map_reverse] at m; exact List.mem_reverse.mp m))) I (by rw [List.map_reverse, e2]; exact RpL_rev r) fun h' tk I' o => hQ h' tk (I'.congr (lk_updAll_rev (e1.symm ▸ nd))) o
 rw [List.map_reverse, e1] at k
 exact k
inductive TupSet (ns : Names) (ts : List Expr) (vs1 : Vars) (d : D) (vs' : Vars) (q : Except SStr Fl) : Prop
 | mk (ds) : (d = .tuple ds ∨ d = .list ds) → setT ns ts ds vs1 = some vs' → q = .ok .next → TupSet ns ts vs1 d vs' q
theorem st_tuple {ts : List Expr} {k : Nat} {tp pos : Pos} {v : Expr} {x : MR D} {vs' : Vars} {q : Except SStr Fl} (R : Room c.A c.env c.l c.n) (g : okSwap v = true) (hx : ∀ W r, x = some r → (c.at W (aA c.vs (bY 20 v))).Tr (eval v c.env) r)
  (h : bndS (aA c.vs (bY 20 v)) x (fun d => match d with
   | .tuple ds => (setT c.env.scope.names ts ds (aA c.vs (bY 20 v))).map fun vs2 => (vs2, .ok .next)
   | .list ds => (setT c.env.scope.names ts ds (aA c.vs (bY 20 v))).map fun vs2 => (vs2, .ok .next)
   | _ => none) = some (vs', q)) : c.Ex (exec (.Assign [.Tuple ts k tp] v pos) c.env) vs' q :=
 frozen fun W1 s Q E I p => by
  generalize aA c.vs (bY 20 v) = vs1 at hx h I p
  have key : ∀ {d : D}, (match d with
    | .tuple ds => (setT c.env.scope.names ts ds vs1).map fun vs2 => ((vs2, .ok .next) : Vars × Except SStr Fl)
    | .list ds => (setT c.env.scope.names ts ds vs1).map fun vs2 => (vs2, .ok .next)
    | _ => none) = some (vs', q) → TupSet c.env.scope.names ts vs1 d vs' q := by
   intro d e
   cases d with
   | tuple ds =>
    obtain ⟨vs2, z1, z2⟩ := me e
    obtain ⟨rfl, rfl⟩ := Prod.mk.inj z2
    exact ⟨ds, .inl rfl, z1, rfl⟩
   | list ds =>
    obtain ⟨vs2, z1, z2⟩ := me e
    obtain ⟨rfl, rfl⟩ := Prod.mk.inj z2
    exact ⟨ds, .inr rfl, z1, rfl⟩
   | _ => exact nn e
  rcases swapped_cases (ts := ts) (k := k) (tp := tp) (env := c.env) g with hs | ⟨names, hs, hn, hl, hd⟩
  ·refine Assign_Tuple (bindX (c := c.at W1 vs1) (hx W1) h I p fun d vd h1 tk1 e1 I1 u1 rd p1 => ?_) sole_tuple hs
   obtain ⟨ds, hdd, hset, rfl⟩ := key e1
   obtain ⟨q1, q2⟩ := setT_shape (env := c.env) hset
   rw [assign_Tuple]
   refine wB (wpAny_standAt ?_)
   unfold unpack
   rw [q2]
   refine wB (wpAny_holding (unpack_ok (c := c.at W1 vs1) (s := { s with heap := h1, toks := tk1 }) R.hh rd hdd q1 fun h2 its u2 r2 => ?_))
   refine setT_ok (c := c.at W1 vs1) R hset _ { s with heap := h2, toks := tk1 } _ _ (I1.up u2) r2 fun h3 tk3 I3 o3 => ?_
   exact p1 h3 tk3 W1 I3 (Off.trans (W := W1) u2.off o3 fun _ m => .inl m) fun b m => .inl m
  ·refine Assign_Tuple_swapped (bindX (c := c.at W1 vs1) (hx W1) h I p fun d vd h1 tk1 e1 I1 u1 rd p1 => ?_) sole_tuple hs
   obtain ⟨ds, hdd, hset, rfl⟩ := key e1
   refine unpack_ok (c := c.at W1 vs1) (s := { s with heap := h1, toks := tk1 }) R.hh rd hdd (set_names hn hset).1 fun h2 its u2 r2 => ?_
   refine swap_ok (c := c.at W1 vs1) (s := { s with heap := h2, toks := tk1 }) R hn hd hset (I1.up u2) r2 fun h3 tk3 I3 o3 => ?_
   exact p1 h3 tk3 W1 I3 (Off.trans (W := W1) u2.off o3 fun _ m => .inl m) fun b m => .inl m
end
section
variable {c : Ct} {s : Shared} {E : VQ} {mg mb : NM}
inductive TwoIs (ns : Names) (ts : List Expr) (v : Expr) (x y : SStr) : Prop
 | mk (px py p1 p2 k p) : ts = [.Name x px, .Name y py] → v = .Tuple [.List [] p1, .List [] p2] k p → bM ns x = true → bM ns y = true → x ≠ y → TwoIs ns ts v x y
theorem twoLists_some {ns : Names} {ts : List Expr} {v : Expr} {x y : SStr} (h : twoLists ns ts v = some (x, y)) : TwoIs ns ts v x y := by
 obtain ⟨t, h1, h⟩ := obi h
 obtain ⟨x', h2, h⟩ := obi h
 obtain ⟨y', h3, h⟩ := obi h
 obtain ⟨es, h4, h⟩ := obi h
 obtain ⟨q, h5, h⟩ := obi h
 obtain ⟨g, h⟩ := aB h
 obtain ⟨rfl, rfl⟩ := sp h
 obtain ⟨g, g3⟩ := ba g
 obtain ⟨n1, n2⟩ := ba g
 obtain ⟨g, g3⟩ := ba g3
 obtain ⟨g1, g2⟩ := ba g
 obtain ⟨p1, z1⟩ := nilList_eq n1
 obtain ⟨p2, z2⟩ := nilList_eq n2
 refine ⟨x'.2, y'.2, p1, p2, es.2.1, es.2.2, by rw [two_eq h1, bF h2, bF h3], by rw [asTuple_eq h4, two_eq h5, z1, z2], g1, g2, fun z => ?_⟩
 rw [z, sEq_refl] at g3
 exact ft g3
noncomputable abbrev emptyL : Obj := { cls := .type "list", dict := none, data := .seq #[] }
theorem empty_own {h : Heap} {a : Addr} (S : Addr → Prop) (W : List Addr) (e : h.get? a = some { cls := .type "list", dict := none, data := .seq #[] }) : OwnAt c.prog c.w S W (frs c.l) h a (.list []) :=
 ⟨[], .list e rfl rfl rfl .nil, fun _ m => nomatch m⟩
theorem list_new {pos : Pos} {Q : VQ} (q : Q (.ref s.heap.objs.size) { s with heap := s.heap.push emptyL }) : wpAny c.M c.A (eval (.List [] pos) c.env) Q E s := by
 rw [arm_eval_List]
 exact wB (wpAny_standAt (wB (Calls.spliced_nil (wpAny_newObj_type q))))
structure TwoNew (h h' : Heap) (a b : Addr) : Prop where
 k : ∀ b o, h.get? b = some o → h'.get? b = some o
 na : h.get? a = none
 nb : h.get? b = none
 ab : a ≠ b
 ea : h'.get? a = some emptyL
 eb : h'.get? b = some emptyL
theorem TwoNew.more {h h' h'' : Heap} {a b : Addr} (x : TwoNew h h' a b) (k : ∀ b o, h'.get? b = some o → h''.get? b = some o) : TwoNew h h'' a b := ⟨fun b o z => k b o (x.k b o z), x.na, x.nb, x.ab, k _ _ x.ea, k _ _ x.eb⟩
theorem TwoNew.swap {h h' : Heap} {a b : Addr} (x : TwoNew h h' a b) : TwoNew h h' b a := ⟨x.k, x.nb, x.na, x.ab.symm, x.eb, x.ea⟩
theorem two_new (h : Heap) : TwoNew h ((h.push emptyL).push emptyL) h.objs.size (h.push emptyL).objs.size := by
 have k1 : ∀ b o, h.get? b = some o → (h.push emptyL).get? b = some o := fun b o z => Heap.get?_push_of_some _ z
 have e1 := Heap.get?_push_size (o := emptyL) h rfl
 have n2 := aR (h.push emptyL)
 refine ⟨fun b o z => Heap.get?_push_of_some _ (k1 b o z), aR h, ?_, fun q => nox n2 (q ▸ e1), Heap.get?_push_of_some _ e1, Heap.get?_push_size _ rfl⟩
 cases z : h.get? (h.push emptyL).objs.size with
 | none => rfl
 | some o => exact nox n2 (k1 _ _ z)
theorem lists_new {p1 p2 pp : Pos} {k' : Nat} {Q : VQ} (q : ∀ h' a b T, TwoNew s.heap h' a b → IsTup h' T #[.ref a, .ref b] → Q (.ref T) { s with heap := h' }) : wpAny c.M c.A (eval (.Tuple [.List [] p1, .List [] p2] k' pp) c.env) Q E s := by
 rw [arm_eval_Tuple, trees_of (bW (es := [.List [] p1, .List [] p2]) rfl), bJ]
 refine wB (wpAny_standAt (wB (Calls.spliced_cons (list_new (Calls.spliced_cons (list_new (Calls.spliced_nil ?_)))))))
 exact wpAny_newObj_type (q _ _ _ _ ((two_new s.heap).more fun b o z => Heap.get?_push_of_some _ z) ⟨_, Heap.get?_push_size _ rfl, rfl, _, rfl⟩) (by size_fits)
theorem two_stores {h2 : Heap} {a b : Addr} {x y : SStr} {vs' : Vars} {Q' : Unit → Shared → Prop} (R : Room c.A c.env c.l c.n) (I1 : c.I s.heap) (N : TwoNew s.heap h2 a b) (gx : bM c.env.scope.names x = true) (gy : bM c.env.scope.names y = true)
  (hv : ∀ z, lk (upd (upd c.vs x (.own (.list []))) y (.own (.list []))) z = lk vs' z) (q : ∀ h' tk, (c.at (b :: a :: c.W) vs').I h' → Off c.W (frs c.l) s.heap h' → Q' () { s with heap := h', toks := tk }) :
  wpAny c.M c.A (storeName c.env x (.ref a)) (fun _ s2 => wpAny c.M c.A (storeName c.env y (.ref b)) Q' E s2) E { s with heap := h2 } := by
 have u := Up.of_keep (F := frs c.l) N.k
 have J := Inv.apart (X := fun z => z = a ∨ z = b) I1 (fun z w => w.elim (fun e => e ▸ N.na) fun e => e ▸ N.nb) u fun z w => w.elim (fun e => e ▸ ⟨_, N.ea⟩) fun e => e ▸ ⟨_, N.eb⟩
 refine store_apart (s := { s with heap := h2 }) (S' := fun z => c.S z ∧ ¬ z = b) R J (fun z => z.2 (.inl rfl)) (new_nW I1 N.na) (new_nF I1 N.na) (new_nB I1 N.na) ⟨I1.fresh _ N.na, N.ab⟩ (fun z w => ⟨w.1, fun e => w.2 (.inr e)⟩) (tgt_kind gx) (empty_own _ _ N.ea) fun h3 tk3 I3 o3 => ?_
 have eb3 := o3.at N.eb (new_nW I1 N.nb) (new_nF I1 N.nb)
 refine store_apart (s := { s with heap := h3, toks := tk3 }) (S' := c.S) R I3 (fun z => z.2 rfl) (fun m => (mp m).elim (fun z => N.ab z.symm) (new_nW I1 N.nb)) (new_nF I1 N.nb) (new_nB I1 N.nb) (I1.fresh _ N.nb) (fun z w => w.1) (tgt_kind gy) (empty_own _ _ eb3) fun h4 tk4 I4 o4 => ?_
 exact q h4 tk4 (I4.congr fun z => (hv z).symm) (Off.trans (Off.trans (W := c.W) u.off o3 fun _ m => .inl m) o4 fun z m => (mp m).elim (fun w => .inr (w ▸ N.na)) .inl)
theorem st_two {ts : List Expr} {v : Expr} {x y : SStr} {k : Nat} {tp pos : Pos} (R : Room c.A c.env c.l c.n) (h : twoLists c.env.scope.names ts v = some (x, y)) {xs : List SStr} :
  c.Ex (exec (.Assign [.Tuple ts k tp] v pos) c.env) (upd (upd (aA c.vs xs) x (.own (.list []))) y (.own (.list []))) (.ok .next) := frozen fun W1 s Q E I p => by
 generalize aA c.vs xs = vs1 at I p
 obtain ⟨px, py, p1, p2, k', pp, rfl, rfl, gx, gy, nxy⟩ := twoLists_some h
 have ends : ∀ {a b : Addr}, s.heap.get? a = none → s.heap.get? b = none → ∀ h' tk, (c.at (b :: a :: W1) (upd (upd vs1 x (.own (.list []))) y (.own (.list [])))).I h' → Off W1 (frs c.l) s.heap h' → Q .next { s with heap := h', toks := tk } := fun {a b} na nb h' tk I' o' =>
  p h' tk _ I' o' fun z m => (mp m).elim (fun e => .inr (e ▸ nb)) fun m => (mp m).elim (fun e => .inr (e ▸ na)) .inl
 have lk2 : ∀ z, lk (upd (upd vs1 y (.own (.list []))) x (.own (.list []))) z = lk (upd (upd vs1 x (.own (.list []))) y (.own (.list []))) z := fun z => lk_swap (Ne.symm nxy) z
 rcases swapped_cases (ts := [.Name x px, .Name y py]) (k := k) (tp := tp) (v := .Tuple [.List [] p1, .List [] p2] k' pp) (env := c.env) rfl with hs | ⟨names, hs, hn, -, -⟩
 ·refine Assign_Tuple (lists_new fun h2 a b T N hT => ?_) sole_tuple hs
  refine assign_Tuple_tuple R.hh (s := { s with heap := h2 }) hT rfl rfl fun h3 he => ?_
  have N3 := N.more fun b o z => he b o (Nat.ne_of_lt (Heap.lt_size z)) z
  refine order_cons (wpAny_assign_Name (wpAny_mono (two_stores (c := c.at W1 vs1) (s := s) (Q' := fun _ => Q .next) R I N3 gx gy (fun _ => rfl) (ends N.na N.nb)) (fun _ s2 h2 => ?_) fun _ _ z => z))
  exact order_cons (wpAny_assign_Name (wpAny_mono h2 (fun _ _ z => wP z) fun _ _ z => z))
 ·cases hn with
  | cons h1 hn =>
   cases hn with
   | cons h2 hn =>
    cases hn
    refine Assign_Tuple_swapped (lists_new fun h2 a b T N hT => ?_) sole_tuple hs
    refine unpackItems_tuple (items := #[.ref a, .ref b]) R.hh (s := { s with heap := h2 }) hT fun h3 he => ?_
    have N3 := N.more fun b o z => he b o (Nat.ne_of_lt (Heap.lt_size z)) z
    refine order_cons (bindName_ (wpAny_mono (two_stores (c := c.at W1 vs1) (s := s) (Q' := fun _ => Q .next) R I N3.swap gy gx lk2 (ends N.nb N.na)) (fun _ s2 h2 => ?_) fun _ _ z => z))
    exact order_cons (bindName_ (wpAny_mono h2 (fun _ _ z => wP z) fun _ _ z => z))
end
noncomputable abbrev excBm : List Value := [.type "Exception", .type "BaseException", .type "object"]
section
variable {prog : Program} {w : World} {A : Around} {s : Shared} {E : VQ}
variable {nm' q : SStr} {C N : Addr} {bs : List Value} {hdct : Bool} {sn : List SStr} {sub : List Value} {ab : Bool} {col : Option Bool} {dd : Option Addr} {k0 k1 k2 k3 k5 : Option Value}
theorem exc_init {e t0 : Addr} {rest : List Value} {Q : VQ} (hC : s.heap.get? C = some (excClassObj nm' q C N bs excBm hdct sn sub ab col dd k0 k1 k2 k3 k5 "Exception.__new__"))
  (he : s.heap.get? e = some { cls := .ref C, data := .fields #[.ref t0, .none, .none, .none, .bool false, .none] }) (hr : rest.length ≤ sizeLine)
  (h : ∀ h' t, h'.get? e = some { cls := .ref C, data := .fields #[.ref t, .none, .none, .none, .bool false, .none] } → (∀ b o, b ≠ e → s.heap.get? b = some o → h'.get? b = some o) → Q .none { s with heap := h' }) :
  wpAny (model prog w) A (call (.builtin "Exception.__init__") (.ref e :: rest)) Q E s := by
 obtain ⟨hp, g, d, t, os⟩ := s
 have F := PySem.F.excBase_Exception
 refine wpAny_call (codeAny_call_builtin F.init.plain F.initEntry (wpAny_check_init_sub F hC he rfl ?_))
 unfold Builtin.«BaseException.__init__»
 dsimp only
 rw [if_neg (by simp)]
 unfold newTuple Builtin.BaseException.bexcPut
 have he₁ := Heap.get?_push_of_some (h := hp) { cls := .type "tuple", data := .seq rest.toArray } he
 refine wB (wpAny_newObj_type (wB (wB (wpAny_field he₁ rfl (x := .ref t0) rfl (wB (wpAny_setField he₁ rfl (by simp) ?_))))) (by show rest.toArray.size ≤ sizeLine; rw [List.size_toArray]; exact hr))
 refine wpAny_letGo (wP (h _ hp.objs.size ?_ fun b o nb z => ?_))
 ·exact (Heap.get?_update_self _ he₁ rfl).trans rfl
 ·exact (Heap.get?_update_other _ _ (Ne.symm nb)).trans (Heap.get?_push_of_some _ z)
theorem getm_exc {pl : Sem Bool} {Q : Value × List Value → Shared → Prop} (h : Q (.builtin "Exception.__init__", []) { s with toks := s.toks + 1 }) : wpAny (model prog w) A (getMethod (.type "Exception") "__init__" pl) Q E s := by
 have X : W.Frag.In [] s.heap := fun a o z => (by exact nn z)
 have ht : typeOf (.type "Exception") = pure (.type "type") := by kernel_rfl
 have hs : Manifest.isStub "Exception" = false := by decide +kernel
 have hstub : opaqueClassAbove (.type "Exception") = pure none := by unfold opaqueClassAbove; dsimp only; rw [hs]; rfl
 have L0 : W.Looks (model prog w) s.heap (typeOf (.type "Exception")) (.type "type") := W.Looks.of_pure ht
 have hg : W.findIn [] (.type "type") "__getattribute__" = some (some (.builtin "type.__getattribute__")) := W.type_tga
 unfold getMethod specialOf
 refine wB (wB (L0.here ((W.looks_findIn X hg).here ?_)))
 dsimp only
 rw [if_pos W.canon_tga]
 refine wB (wpAny_mono (Q := fun v => Q (v, [])) (E := E) ?_ (fun _ _ z => wP z) fun _ _ z => z)
 have LO : W.Looks (model prog w) s.heap (opaqueClassAbove (.type "Exception")) none := W.Looks.of_pure hstub
 have hh : W.handedIn (.builtin "Exception.__init__") = true := by decide +kernel
 refine W.cls_open X LO L0 hg (W.looks_hook X (r := none) (by rfl)) (by show W.subIn _ _ _ = _; rfl) (show W.findCls [] (.type "Exception") (.type "type") "__init__" = some (.val (.builtin "Exception.__init__")) from by kernel_rfl)
  (wP (by show wpAny _ _ (handedOut _) _ _ _; rw [W.handedOut_of hh]; exact wP h))
end
section
open Builtin Builtin.ObjectAttr
section
variable {prog : Program} {w : World} {A : Around} {E : VQ} {h : Heap} {g : Array GenState} {d : Drawn} {t : Nat} {os : OsState}
variable {nm' q : SStr} {C N x : Addr} {bs bm : List Value} {sn : List SStr} {sub : List Value} {ab : Bool} {col : Option Bool} {dd : Option Addr} {k0 k1 k2 k3 k5 : Option Value} {B newId sa owner : String}
 {mN : NM} {name : SStr} {v : Value}
theorem store_new {o : Obj} {Q : Unit → Shared → Prop} (SF : StoreFacts B bm sa owner)
  (hC : h.get? C = some (excClassObj nm' q C N bs bm true sn sub ab col dd k0 k1 k2 k3 k5 newId)) (hn : h.Ns N mN) (hns : mN "__setattr__" = none) (hna : mN name = none)
  (hB : typeLookup (.type B) name = pure none) (hx : h.get? x = some o) (hc : o.cls = .ref C) (hnc : ∀ c, o.data ≠ .cls c) (hdn : o.dict = none)
  (hq : ∀ h' tk', h'.get? x = some { o with dict := some h.objs.size } → h'.Ns1 h.objs.size (fun y => if y = name then some v else none) → (∀ b ob, b ≠ x → h.get? b = some ob → h'.get? b = some ob) → Q () ⟨h', g, d, tk', os⟩) :
  wpAny (model prog w) A (setAttr (.ref x) name v) Q E ⟨h, g, d, t, os⟩ := by
 have f3 := SF.slot.bind (.ref x)
 have hpass := SF.passes (.ref x)
 unfold setAttr callSpecial? specialOf
 repeat (any_goals (first | assumption | (with_reducible refine wpAny_loadPart_at hx ?_; rw [hc]) | (with_reducible refine wpAny_typeLookup_exc hC hn SF.mro SF.slot.lookup ?_; rw [hns]) | wp_step))
 refine codeAny_call_builtin SF.slot.plain SF.entry (wpAny_check_sa SF hC hx hc ?_)
 unfold Builtin.«object.__setattr__»
 repeat (first | rw [refuse_eq] | (rw [refuseLoop_ref, hpass]) | (with_reducible refine wpAny_loadPart_at hx ?_; rw [hc]) | with_reducible refine wpAny_mroOf_exc hC ?_ | (with_reducible refine wpAny_typeLookup_exc hC hn SF.mro hB ?_; rw [hna]) | wp_step)
 rw [hdn, if_neg (by simp [typeHasDict])]
 split
 ·rename_i hcd
  exact nn hcd
 split
 ·rename_i c hcd
  exact absurd hcd (hnc c)
 ·have hx₁ : (h.push { cls := .type "dict", data := .dict #[] }).get? x = some o := Heap.get?_push_of_some _ hx
  have hxs : x ≠ h.objs.size := Nat.ne_of_lt (Heap.lt_size hx)
  refine wB (wpAny_alloc' ?_)
  refine wB (wpAny_update' hx₁ ?_)
  refine wP ?_
  have hgd : ((h.push { cls := .type "dict", data := .dict #[] }).update x fun o => { cls := o.cls, dict := some h.objs.size, data := o.data, slots := o.slots }).get? h.objs.size
    = some { cls := .type "dict", data := .dict #[] } :=
   (Heap.get?_update_ne _ _ _ _ hxs.symm).trans (Heap.get?_push_at rfl rfl)
  have hnd : ((h.push { cls := .type "dict", data := .dict #[] }).update x fun o => { cls := o.cls, dict := some h.objs.size, data := o.data, slots := o.slots }).Ns h.objs.size (fun _ => none) :=
   ⟨_, #[], _, hgd, rfl, fun e he => absurd he (by simp), fun _ => rfl⟩
  show wpAny _ _ (storeInDict h.objs.size (.str name _) name v) _ _ _
  unfold storeInDict newKeyGuard
  refine wB (wP (wB (wpAny_nsSet1 (Heap.Ns1.of_empty hnd) fun h' hn' hs => ?_)))
  obtain ⟨oD, esD, epD, hoD, hdD, hcD⟩ := hn'.count (Within.cons name v Within.nil)
  refine wB (wpAny_lookBehind hoD (by rw [hdD]; exact pastItsLine_dict (Nat.le_trans hcD (by rw [List.length_cons, List.length_nil, sizeLine_eq]; omega))) ?_)
  wp_walk
  have hx' : h'.get? x = some { cls := o.cls, dict := some h.objs.size, data := o.data, slots := o.slots } := by
   refine (hs.2 x hxs).trans (Heap.get?_update_self _ hx₁ ?_)
   have hfr := (Heap.get?_some_iff.mp hx).2
   obtain ⟨oc, od, odt, osl⟩ := o
   cases odt <;> first | rfl | exact hfr
  repeat (any_goals (first | assumption | wp_step))
  refine hq h' _ hx' hn' fun b ob hbx hb => ?_
  exact (hs.2 b (Nat.ne_of_lt (Heap.lt_size hb))).trans ((Heap.get?_update_ne _ _ _ _ hbx).trans (Heap.get?_push_of_some _ hb))
end
end
noncomputable abbrev initNames : Names := [(nm "self", .local), (nm "kind", .local), (nm "text", .local), (nm "Exception", .globalImplicit)]
theorem initBody_is : ∃ p1 p2 p3 p4 p5 p6 p7 p8 p9 q1 q2 q3 q4 r1 r2 r3 r4 k, initBody = [.Expr (.Call (.Attribute (.Name (nm "Exception") p1) (nm "__init__") p2) [.Name (nm "self") p3, .BinOp (.BinOp (.Name (nm "kind") p4) .Add (.Constant (.str (nm ": ")) k p5) p6) .Add (.Name (nm "text") p7) p8] [] p9) p9,
  .Assign [.Attribute (.Name (nm "self") q1) (nm "kind") q2] (.Name (nm "kind") q3) q4, .Assign [.Attribute (.Name (nm "self") r1) (nm "text") r2] (.Name (nm "text") r3) r4] ∧ (p2.endLine == p9.line) = true :=
 ⟨_, _, _, _, _, _, _, _, _, _, _, _, _, _, _, _, _, _, rfl, rfl⟩
section
variable {prog : Program} {w : World} {A : Around} {E : VQ} {s : Shared} {env : Env}
variable {nm' q : SStr} {C N : Addr} {bs : List Value} {sn : List SStr} {sub : List Value} {ab : Bool} {col : Option Bool} {dd : Option Addr} {k0 k1 k2 k3 k5 : Option Value}
theorem init_body {mN m mg mb : NM} {e t0 : Addr} {k x : SStr} {tk tx : Tok} {Q : FQ} (hk : env.scope.kind = .function) (hnm : env.scope.names = initNames) (gl : env.globals = mainGlobals) (bl : env.builtins = builtinsNs)
  (hC : s.heap.get? C = some (excClassObj nm' q C N bs excBm true sn sub ab col dd k0 k1 k2 k3 k5 "Exception.__new__")) (hN : s.heap.Ns N mN) (hns : mN "__setattr__" = none) (n1 : mN (nm "kind") = none) (n2 : mN (nm "text") = none)
  (hg : s.heap.Ns mainGlobals mg) (hb : s.heap.Ns builtinsNs mb) (hmg : mg (nm "Exception") = none) (hmb : mb (nm "Exception") = some (.type "Exception"))
  (hL : s.heap.Ns env.locals m) (m1 : m (nm "self") = some (.ref e)) (m2 : m (nm "kind") = some (.str k tk)) (m3 : m (nm "text") = some (.str x tx))
  (he : s.heap.get? e = some { cls := .ref C, data := .fields #[.ref t0, .none, .none, .none, .bool false, .none] }) (len : k.length + x.length ≤ 1000)
  (hQ : ∀ h' u oe T D mA, (∀ b o, b ≠ e → s.heap.get? b = some o → h'.get? b = some o) → h'.get? e = some oe → oe.cls = .ref C → oe.data = .fields #[.ref T, .none, .none, .none, .bool false, .none] → oe.dict = some D → s.heap.get? D = none → h'.Ns D mA → mA (nm "kind") = some (.str k tk) → Q .next { s with heap := h', toks := u }) :
  wpAny (model prog w) A (execs initBody env) Q E s := by
 obtain ⟨p1, p2, p3, p4, p5, p6, p7, p8, p9, q1, q2, q3, q4, r1, r2, r3, r4, kk, hbody, hline⟩ := initBody_is
 rw [hbody]
 have kd : ∀ y, env.kindOf y = initNames.lookup y := fun y => by show env.scope.names.lookup y = _; rw [hnm]
 have eE : e ≠ env.locals := fun z => by
  obtain ⟨o, es, ep, z1, z2, _⟩ := hL
  rw [← z, he] at z1; obtain rfl := si z1; cases z2
 have eC : e ≠ C := fun z => by rw [z, hC] at he; cases he
 have eN : e ≠ N := fun z => by
  obtain ⟨o, es, ep, z1, z2, _⟩ := hN
  rw [← z, he] at z1; obtain rfl := si z1; cases z2
 have kept : ∀ {a : Addr} {mm : NM} {h : Heap}, a ≠ e → (∀ b o, b ≠ e → s.heap.get? b = some o → h.get? b = some o) → s.heap.Ns a mm → h.Ns a mm := fun {a mm h} ne kp ⟨o, es, ep, z, r⟩ => ⟨o, es, ep, kp _ _ ne z, r⟩
 have name : ∀ {y : SStr} {pos : Pos} {v : Value} {s' : Shared} {Q' : VQ} {E' : VQ}, initNames.lookup y = some .local → (y == dbg) = false → m y = some v → s'.heap.Ns env.locals m → Q' v s' → wpAny (model prog w) A (eval (.Name y pos) env) Q' E' s' := fun z1 zd z2 z3 q => wpAny_Name (wpAny_loadName_local hk ((kd _).trans z1) z3 z2 q) zd
 refine wpAny_execs_cons (wpAny_Expr ?_ (not_interactive hk) rfl)
 rw [arm_eval_Call]
 refine wB (m := attributeBase _ _ _ _) ?_
 show wpAny (model prog w) A (eval (.Name (nm "Exception") p1) env) _ E s
 refine Calls.Name_function_global hk ((kd _).trans (by kernel_rfl)) (Calls.loadGlobal_builtin (mg := mg) (mb := mb) (gl ▸ hg) hmg (bl ▸ hb) hmb ?_)
 refine wB (wpAny_standAt ?_)
 unfold methodCall
 rw [show methodCallForm (([.Name (nm "self") p3, .BinOp (.BinOp (.Name (nm "kind") p4) .Add (.Constant (.str (nm ": ")) kk p5) p6) .Add (.Name (nm "text") p7) p8] : List Expr).length + ([] : List Keyword).length) (backTo p9 (starEach [.Name (nm "self") p3, .BinOp (.BinOp (.Name (nm "kind") p4) .Add (.Constant (.str (nm ": ")) kk p5) p6) .Add (.Name (nm "text") p7) p8] env)) (backToKw p9 (keywordEach [] env)) = true from rfl]
 refine wB (wpAny_holding (getm_exc ?_))
 refine wB (wpAny_of_eq (a := p9) (by unfold methodCallPos; simp [hline]) ?_)
 refine Calls.callWith_builtin rfl (Calls.evalArgs_plain (Calls.spliced_cons (name (by kernel_rfl) (by kernel_rfl) m1 hL (Calls.spliced_cons ?_))))
 have lt : (nm ": ").length = 2 := by kernel_rfl
 have la : (k ++ nm ": ").length = k.length + 2 := by rw [Str.length_append, lt]
 refine wpAny_BinOp (wpAny_BinOp (name (by kernel_rfl) (by kernel_rfl) m2 hL (wpAny_Constant_str (add_str (fun t' u => name (by kernel_rfl) (by kernel_rfl) m3 hL (add_str (fun t'' u' => Calls.spliced_nil ?_) (by simp only [sizeLine]; omega))) (by simp only [sizeLine]; omega)))))
 refine exc_init (s := { s with toks := u' }) hC he (by simp [sizeLine]) fun h1 T e1 kp1 => ?_
 have hC1 := kp1 _ _ (Ne.symm eC) hC
 have hN1 := kept (Ne.symm eN) kp1 hN
 have hL1 := kept (Ne.symm eE) kp1 hL
 have b1 : typeLookup (.type "Exception") (nm "kind") = pure none := by rw [typeLookup_type, builtinLookup_eq_fast]; kernel_rfl
 have b2 : typeLookup (.type "Exception") (nm "text") = pure none := by rw [typeLookup_type, builtinLookup_eq_fast]; kernel_rfl
 refine wpAny_execs_cons (plainObj_wpAny_Assign_Attribute (name (by kernel_rfl) (by kernel_rfl) m2 hL1 (name (by kernel_rfl) (by kernel_rfl) m1 hL1 ?_)))
 refine store_new PySem.F.store_Exception hC1 hN1 hns n1 b1 e1 rfl (fun c z => by cases z) rfl fun h2 u2 e2 D2 kp2 => ?_
 have hC2 := kp2 _ _ (Ne.symm eC) hC1
 have kp12 : ∀ b o, b ≠ e → s.heap.get? b = some o → h2.get? b = some o := fun b o n z => kp2 b o n (kp1 b o n z)
 have hN2 := kept (Ne.symm eN) kp12 hN
 have hL2 := kept (Ne.symm eE) kp12 hL
 have nD : s.heap.get? h1.objs.size = none := by
  cases z : s.heap.get? h1.objs.size with
  | none => rfl
  | some o =>
   by_cases y : h1.objs.size = e
   ·rw [← y] at e1; rw [aR] at e1; cases e1
   ·have := kp1 _ _ y z; rw [aR] at this; cases this
 have eD : h1.objs.size ≠ e := fun y => by rw [← y, aR] at e1; exact nn e1
 refine wpAny_execs_cons (plainObj_wpAny_Assign_Attribute (name (by kernel_rfl) (by kernel_rfl) m3 hL2 (name (by kernel_rfl) (by kernel_rfl) m1 hL2 ?_)))
 refine store_attr PySem.F.store_Exception hC2 hN2 hns n2 b2 eC ⟨_, e2, rfl, (fun c z => by cases z), .inr ⟨_, rfl, eD, D2⟩⟩ fun h3 u3 I3 kp3 own => ?_
 obtain ⟨o3, e3, c3, d3, s3, dd3⟩ := own _ e2
 have dd3 := dd3 _ rfl
 refine wP (hQ h3 u3 o3 T h1.objs.size (fun y => if y = nm "text" then some (.str x tx) else if y = nm "kind" then some (.str k tk) else none) (fun b o n z => kp3 b o n (fun o0 dx y1 y2 y3 => ?_) (kp12 b o n z)) e3 c3 d3 dd3 nD ?_ ?_)
 ·rw [e2] at y1
  obtain rfl := si y1
  obtain rfl := si y2
  rw [y3, nD] at z; exact nn z
 ·obtain ⟨oi, z1, z2, z3, z4⟩ := I3
  rw [e3] at z1
  obtain rfl := si z1
  rcases z4 with ⟨z, _⟩ | ⟨D', z, _, z5⟩
  ·exact nox z dd3
  ·rw [dd3] at z; cases z; exact z5.ns
 ·rfl
end
inductive ClsAt (hb : Heap) (C : Addr) : Prop
 | mk (nm' q N bs sn sub ab col dd k0 k1 k2 k3 k5 mN fI oI as fd) : hb.get? C = some (excClassObj nm' q C N bs excBm true sn sub ab col dd k0 k1 k2 k3 k5 "Exception.__new__") → hb.Ns N mN → mN "__init__" = some (.ref fI) → mN "__setattr__" = none → mN "__getattribute__" = none → mN "__getattr__" = none → mN (nm "kind") = none → mN (nm "text") = none →
  hb.get? fI = some oI → oI.cls = .type "function" → oI.data = .func fd → fd.params = ⟨[], as, none, [], [], none, []⟩ → as.map (·.arg) = [nm "self", nm "kind", nm "text"] → fd.defaults = .none → fd.body = .stmts initBody → fd.closure = [] → fd.scope.names = initNames → fd.scope.kind = .function →
  fd.scope.isCoroutine = false → fd.scope.isGenerator = false → fd.globals = mainGlobals → fd.builtins = builtinsNs → hb.CodeRec fd.code fd.qualname → ClsAt hb C
structure Cls (hb : Heap) (C : Addr) : Prop where
 ex : ClsAt hb C
section
variable {c : Ct} {s : Shared} {E : VQ} {mg mb : NM}
theorem made_exc {A : Around} {k x : SStr} {tk tx : Tok} {Q : VQ} (B : Bs c.prog c.w c.hb c.C mg mb) (K : Cls c.hb c.C) (dp : A.depth + 1 < recursionLimit) (st : c.hb.StaysIn s.heap) (hmg : mg (nm "Exception") = none) (hmb : mb (nm "Exception") = some (.type "Exception")) (len : k.length + x.length ≤ 1000)
  (hQ : ∀ h' tk' e, (∀ b o, s.heap.get? b = some o → h'.get? b = some o) → ExcAt c.hb s.heap h' c.C e k false → (∃ oe fs, h'.get? e = some oe ∧ oe.data = .fields fs ∧ fs[1]? = some .none) → Q (.ref e) { s with heap := h', toks := tk' }) :
  wpAny c.M A (call (.ref c.C) [.str k tk, .str x tx]) Q E s := by
 obtain ⟨nm', q, N, bs, sn, sub, ab, col, dd, k0, k1, k2, k3, k5, mN, fI, oI, as, fd, hC, hN, hi, hns, hga, hgt, n1, n2, hfI, fc, fdat, fp, fas, fdef, fb, fcl, fnm, fk, fco, fge, fg, fbl, fcr⟩ := K.ex
 have hC' := st _ _ hC
 obtain ⟨hp, g, d, t, os⟩ := s
 dsimp only at st hC' hQ
 refine wpAny_call_exc_init PySem.F.excBase_Exception hC' (ns_stays st hN) hi (st _ _ hfI) fc (fun h1 e M => ?_) (by simp [sizeLine])
 obtain ⟨kp, new, t0, e1, _, _⟩ := M
 have st1 : c.hb.StaysIn h1 := fun b o z => kp _ _ (st b o z)
 have hw : (Code.builtin "type.__call__" ⟨.ref c.C :: [.str k tk, .str x tx], []⟩).weight = 1 := by kernel_rfl
 have hd : (A.under (.builtin "type.__call__" ⟨.ref c.C :: [.str k tk, .str x tx], []⟩)).depth < recursionLimit := by
  show A.depth + (Code.builtin "type.__call__" ⟨.ref c.C :: [.str k tk, .str x tx], []⟩).weight < _
  rw [hw]; exact dp
 generalize A.under (.builtin "type.__call__" ⟨.ref c.C :: [.str k tk, .str x tx], []⟩) = A2 at hd ⊢
 refine wpAny_call ?_
 have hbind : bindArgs fd ⟨[.ref e, .str k tk, .str x tx], []⟩ = pure [(nm "self", .ref e), (nm "kind", .str k tk), (nm "text", .str x tx)] := by
  have := bindArgs_plain (vals := [.ref e, .str k tk, .str x tx]) fp fdef (by rw [fas]; decide +kernel) (by have := congrArg List.length fas; simp at this; rw [this]; rfl)
  rw [this, fas]
  rfl
 refine codeAny_call_cells (body := initBody) (s := ⟨h1, g, d, t, os⟩) hd (st1 _ _ hfI) fdat (B.lim.keeps st1) (fcr.keeps st1) fb hbind fcl (fun y m => ?_) (fun s2 X => ?_) fco fge fk
 ·rw [fnm]
  simp only [List.mem_cons, n0, or_false] at m
  rcases m with rfl | rfl | rfl <;> exact .inl (by kernel_rfl)
 ·obtain ⟨h2, tk2, rfl, kp2⟩ := X.done
  have kd : ∀ y, (callEnvC fd h1.objs.size fI).kindOf y = initNames.lookup y := fun y => by show fd.scope.names.lookup y = _; rw [fnm]
  have st2 : c.hb.StaysIn h2 := fun b o z => kp2 _ _ (st1 b o z)
  have hns2 := X.toInCall.ns
  dsimp only at hns2 kp2
  refine init_body (C := c.C) (N := N) (mg := mg) (mb := mb) (mN := mN) (e := e) (t0 := t0) (k := k) (x := x) (tk := tk) (tx := tx) fk fnm fg fbl (st2 _ _ hC) (ns_stays st2 hN) hns n1 n2 (ns_stays st2 B.g) (ns_stays st2 B.b) hmg hmb hns2 ?_ ?_ ?_ (kp2 _ _ e1) len fun h3 u oe T D mA kp3 e3 c3 d3 dd3 nD nsD hkd => ?_
  ·simp only [bL, bL0, kd]
   rfl
  ·simp only [bL, bL0, kd]
   rfl
  ·simp only [bL, bL0, kd]
   rfl
  ·refine ⟨rfl, hQ h3 u e (fun b o z => kp3 b o (fun y => by rw [y, new] at z; exact nn z) (kp2 _ _ (kp _ _ z))) ⟨⟨new, ?_⟩, oe, _, D, e3, c3, d3, ⟨dd3, ?_⟩, ⟨mA, tk, nsD, hkd⟩, .inl ⟨rfl, rfl⟩⟩ ⟨oe, _, e3, d3, rfl⟩⟩
   ·cases z : c.hb.get? e with
    | none => rfl
    | some o => have := st _ _ z; exact nox new this
   ·cases z : hp.get? D with
    | none => rfl
    | some o => have := kp2 _ _ (kp _ _ z); exact nox nD this
end
section
variable {M : Model} {A : Around} {E : VQ} {env : Env} {s : Shared}
variable {nm' q : SStr} {C N : Addr} {bs bm : List Value} {hdct : Bool} {sn : List SStr} {sub : List Value} {ab : Bool} {col : Option Bool} {dd : Option Addr} {k0 k1 k2 k3 k5 : Option Value} {newId : String}
theorem raise_stmt {x : Sem Value} {Q : FQ} (hbase : bm.contains (.type "BaseException") = true) (hh : A.handled = none)
  (h : wpAny M A x (fun v s₁ => ∃ e oe fs, v = .ref e ∧ s₁.heap.get? C = some (excClassObj nm' q C N bs bm hdct sn sub ab col dd k0 k1 k2 k3 k5 newId) ∧
   s₁.heap.get? e = some oe ∧ oe.cls = .ref C ∧ oe.data = .fields fs ∧ fs[1]? = some .none ∧ E (.ref e) s₁) E s) :
  wpAny M A (raiseStmt env (some x) none) Q E s := by
 have hcB : (Value.ref C :: bm).contains (.type "BaseException") = true := by rw [List.contains_cons, hbase, Bool.or_true]
 unfold raiseStmt
 dsimp only
 refine wB (wpAny_mono h (fun v s₁ h₁ => ?_) fun _ _ x => x)
 obtain ⟨e, oe, fs, rfl, hC, he, hcls, hd, h1, hE⟩ := h₁
 have hnt : ∀ {Q' : Bool → Shared → Prop}, Q' false s₁ → wpAny M A (isType (.ref e)) Q' E s₁ := by
  intro Q' hq
  simp only [isType, loadHead]
  refine wB (wpAny_loadPart he ?_)
  rw [hd]; exact wP hq
 refine wB (wP ?_)
 dsimp only
 refine wB (wpAny_holding ?_)
 unfold excFromValue isExcClass
 refine wB (wB (hnt ?_))
 simp only [Bool.false_eq_true, if_false]
 refine wP ?_
 simp only [Bool.false_eq_true, if_false]
 refine wB ?_
 obtain ⟨hp, g, d, tk, os⟩ := s₁
 have inst : ∀ {Q' : Bool → Shared → Prop}, Q' true ⟨hp, g, d, tk, os⟩ → wpAny M A (isInstance (.ref e) (.type "BaseException")) Q' E ⟨hp, g, d, tk, os⟩ := by
  intro Q' hq
  unfold isInstance
  repeat (first | (with_reducible refine wpAny_loadPart_at he ?_; rw [hcls]) | (with_reducible refine wpAny_isSubtype_exc hC ?_; rw [hcB]) | wp_step)
  exact hq
 refine inst ?_
 simp only [if_true]
 refine wP ?_
 refine wB (hnt ?_)
 simp only [Bool.false_eq_true, if_false]
 have raised : ∀ {Q' : VQ}, Q' (.ref e) ⟨hp, g, d, tk, os⟩ → wpAny M A (raisedInstance (.ref e)) Q' E ⟨hp, g, d, tk, os⟩ := by
  intro Q' hq
  unfold raisedInstance
  repeat (first | (with_reducible refine wpAny_loadPart_at he ?_; rw [hcls]) | with_reducible refine wpAny_loadPart_at hC ?_ | wp_step)
  exact hq
 refine wB (raised ?_)
 unfold setFlight raiseNew
 refine wB (wB (wpAny_field he hd h1 ?_))
 rw [if_neg (by decide)]
 refine wP (wB (wpAny_handled ?_))
 rw [hh]
 first
  | exact wpAny_throw hE
  | exact wB (wP (wpAny_throw hE))
end
section
variable {c : Ct} {s : Shared} {E : VQ} {mg mb : NM}
theorem st_raise {a b : Expr} {fp cp pos : Pos} {x y : MR D} {vs' : Vars} {r : Except SStr Fl} (R : Room c.A c.env c.l c.n) (B : Bs c.prog c.w c.hb c.C mg mb) (K : Cls c.hb c.C) (hn : 1 ≤ c.n) (hmg : mg (nm "Exception") = none) (hmb : mb (nm "Exception") = some (.type "Exception"))
  (g : bZ c.env.scope.names (nm "CasFail") = true) (ns : ∀ e ∈ [a, b], ∀ x p, e ≠ .Starred x p) (hx : ∀ r, x = some r → c.Tr (eval a c.env) r) (hy : ∀ r, y = some r → c.Tr (eval b c.env) r)
  (h : bndS c.vs x (fun x => bndS c.vs y fun y => (asStr x).bind fun x => (asStr y).bind fun y => match Nat.ble (x.length + y.length) 1000 with
    | true => some (c.vs, .error x)
    | false => none) = some (vs', r)) : c.Ex (exec (.Raise (some (.Call (.Name (nm "CasFail") fp) [a, b] [] cp)) none pos) c.env) vs' r := fun s Q E I p => by
 obtain ⟨nm', q, N, bs, sn, sub, ab, col, dd, k0, k1, k2, k3, k5, mN, fI, oI, as, fd, hC, _⟩ := K.ex
 rw [arm_exec_Raise]
 refine wB (wpAny_standAt ?_)
 show wpAny c.M c.A (raiseStmt c.env (some (do let v ← eval (.Call (.Name (nm "CasFail") fp) [a, b] [] cp) c.env; standAt pos; pure v)) none) Q E s
 refine raise_stmt (C := c.C) (bm := excBm) (nm' := nm') (q := q) (N := N) (bs := bs) (hdct := true) (sn := sn) (sub := sub) (ab := ab) (col := col) (dd := dd) (k0 := k0) (k1 := k1) (k2 := k2) (k3 := k3) (k5 := k5) (newId := "Exception.__new__") (by decide +kernel) R.hh ?_
 refine wB (wpAny_mono (wpAny_Call_ofName (Q := fun v s₁ => ∃ e oe fs, v = .ref e ∧ s₁.heap.get? c.C = some (excClassObj nm' q c.C N bs excBm true sn sub ab col dd k0 k1 k2 k3 k5 "Exception.__new__") ∧
   s₁.heap.get? e = some oe ∧ oe.cls = .ref c.C ∧ oe.data = .fields fs ∧ fs[1]? = some .none ∧ E (.ref e) s₁) ?_) (fun v s₃ h₃ => wB (wpAny_standAt (wP h₃))) fun _ _ x => x)
 refine global_main R B I g B.cls ?_
 rw [trees_of ns, bJ]
 unfold callWith
 refine wB (wpAny_holding (Calls.evalArgs_plain (Calls.spliced_cons (bindX hx h I p fun d v h1 tk1 e1 I1 u1 rv p1 => Calls.spliced_cons (bindX (s := { s with heap := h1, toks := tk1 }) hy e1 I1 p1 fun d2 v2 h2 tk2 e2 I2 u2 rv2 p2 => Calls.spliced_nil (wB (wpAny_standAt ?_)))))))
 obtain ⟨kx, w1, f1⟩ := obi e2
 obtain ⟨tx, w2, f2⟩ := obi f1
 obtain rfl := asStr_eq w1
 obtain rfl := asStr_eq w2
 cases gl : Nat.ble (kx.length + tx.length) 1000 with
 | false => rw [gl] at f2; exact nn f2
 | true =>
  rw [gl] at f2
  obtain ⟨rfl, rfl⟩ := sp f2
  obtain ⟨t1, rfl⟩ := rp_str_inv rv
  obtain ⟨t2, rfl⟩ := rp_str_inv rv2
  simp only [trees_plain]
  refine wB (wpAny_keeperOf_exc (I2.stay _ _ hC) ?_)
  refine wB (made_exc (s := { s with heap := h2, toks := tk2 }) B K (Nat.lt_of_le_of_lt (Nat.add_le_add_left hn _) R.dp) I2.stay hmg hmb (lb gl) fun h3 tk3 e kp X ⟨oe', fs', y1, y2, y3⟩ => wB (wpAny_holding (wpAny_point (wP ?_))))
  have u3 : Up (frs c.l) h2 h3 := Up.of_keep kp
  obtain ⟨new, oe, fs, D, z1, z2, z3, z4, z5, z6⟩ := id X
  rw [y1] at z1
  obtain rfl := si z1
  exact ⟨e, oe', fs', rfl, kp _ _ (I2.stay _ _ hC), y1, z2, y2, y3, p2 h3 tk3 e false u3.off (I2.fr.up u3) (stays_up I2.fr I2.stay u3) X⟩
end
section
open Builtin Builtin.ObjectAttr
section
variable {prog : Program} {w : World} {A : Around} {E : VQ} {h : Heap} {g : Array GenState} {d : Drawn} {t : Nat} {os : OsState} {a D : Addr} {o : Obj}
 {nm' q : SStr} {C N : Addr} {bs : List Value} {hdct : Bool} {sn : List SStr} {sub : List Value} {ab : Bool} {col : Option Bool} {dd : Option Addr} {k0 k1 k2 k3 k5 : Option Value} {newId : String} {mN mA : NM} {v : Value} {name : SStr}
theorem check_ga {M : Model} {nameV : Value} {Q : Unit → Shared → Prop} (hC : h.get? C = some (excClassObj nm' q C N bs excBm hdct sn sub ab col dd k0 k1 k2 k3 k5 newId))
  (hx : h.get? a = some o) (hc : o.cls = .ref C) (hq : Q () ⟨h, g, d, t, os⟩) : wpAny M A (checkBuiltinCall "BaseException.__getattribute__" ⟨[.ref a, nameV], []⟩) Q E ⟨h, g, d, t, os⟩ := by
 have hk : builtinKind "BaseException.__getattribute__" = some .slot := by decide +kernel
 have hsplit : splitId "BaseException.__getattribute__" = some ("BaseException", "__getattribute__") := by decide +kernel
 have hcB : (Value.ref C :: excBm).contains (.type "BaseException") = true := by rw [List.contains_cons]; simp
 have ha := PySem.F.args_bexc_ga (.ref a) nameV
 simp only [checkBuiltinCall, hk, hsplit]
 refine wB ?_
 ·unfold isInstance
  repeat (first | (with_reducible refine wpAny_loadPart_at hx ?_; rw [hc]) | (with_reducible refine wpAny_isSubtype_exc hC ?_; rw [hcB]) | wp_step)
  exact hq
theorem load_exc {expr : Bool} {Q : VQ} (hC : h.get? C = some (excClassObj nm' q C N bs excBm true sn sub ab col dd k0 k1 k2 k3 k5 newId)) (hn : h.Ns N mN) (hga : mN "__getattribute__" = none) (hgt : mN "__getattr__" = none) (hna : mN name = none)
  (hB : typeLookup (.type "Exception") name = pure none) (hx : h.get? a = some o) (hc : o.cls = .ref C) (hnc : ∀ c, o.data ≠ .cls c) (hd : o.dict = some D) (hns : h.Ns D mA) (hv : mA name = some v) (hh : handedOut v = pure v) (hq : Q v ⟨h, g, d, t + 1, os⟩) :
  wpAny (model prog w) A (getAttr (.ref a) name expr) Q E ⟨h, g, d, t, os⟩ := by
 have FB := PySem.F.attrBase_Exception
 have f3 := FB.ga.bind (.ref a)
 have hx0 : (expr && onTheHeap (Value.builtin "BaseException.__getattribute__")) = false := by cases expr <;> rfl
 have hx2 : (Value.builtin "BaseException.__getattribute__" == Value.builtin "object.__getattribute__") = false := by decide +kernel
 have hx1 : (onTheHeap (Value.ref C) && Value.builtin "BaseException.__getattribute__" == Value.builtin "object.__getattribute__") = false := by rw [hx2]; rfl
 unfold getAttr
 refine wB (wpAny_mkText ?_)
 unfold getAttrBy
 repeat (any_goals (first | assumption | (with_reducible refine wpAny_loadPart_at hx ?_; rw [hc]) | (with_reducible refine wpAny_typeLookup_exc hC hn FB.mro FB.ga.lookup ?_; rw [hga]) | (with_reducible refine wpAny_typeLookup_exc hC hn FB.mro FB.noGetattr ?_; rw [hgt]) | wp_step))
 refine codeAny_call_builtin FB.ga.plain PySem.F.entry_bexc_ga (check_ga hC hx hc ?_)
 repeat (any_goals (first | assumption | (with_reducible refine wpAny_loadPart_at hx ?_; rw [hc]) | (with_reducible refine wpAny_typeLookup_exc hC hn FB.mro hB ?_; rw [hna]) | wp_step))
 split
 ·rename_i c hcd
  exact absurd hcd (hnc c)
 unfold instanceDict
 repeat (first | (with_reducible refine wpAny_loadPart_at hx ?_; rw [hc]) | with_reducible refine wpAny_loadPart_at hC ?_ | wp_step)
 rw [hd]
 repeat (first | (with_reducible refine wpAny_nsGet hns ?_; rw [hv]) | wp_step)
 exact hq
end
end
section
variable {prog : Program} {w : World} {A : Around} {s : Shared} {env : Env} {l : List Env} {n : Nat} {hb : Heap} {S : Addr → Prop} {W : List Addr} {vs : Vars} {E : VQ}
theorem Inv.free {x : SStr} {h h' : Heap} {m m' : NM} (I : Inv prog w hb S l env W h vs) (hn : h.Ns env.locals m) (hx : lk vs x = none) (hn' : h'.Ns env.locals m') (hm : ∀ y, y ≠ x → m' y = m y) (sb : Heap.SameBut env.locals h h') :
  Inv prog w hb S l env W h' vs ∧ Off W (frs l) h h' := by
 obtain ⟨m0, hn0, pl, h1, h2, h3⟩ := I.ns
 obtain ⟨z1, z2, z3, z4, z5, off⟩ := I.one I.loc sb (ns_nf hn') (fun y e => absurd rfl (I.cel y _ e).ne)
 have eqm := ns_same hn0 hn
 have bnd : ∀ y u, y ≠ x → Bound env h m0 y u → Bound env h' m' y u := fun y u ne b => by
  rcases b with ⟨q, e⟩ | ⟨q, c, e, z⟩
  ·exact .inl ⟨q, (hm y ne).trans ((eqm y).symm.trans e)⟩
  ·exact .inr ⟨q, c, e, z.sameBut sb (I.cel y c e).ne⟩
 have ne : ∀ {y b}, lk vs y = some b → y ≠ x := fun e z => nox hx (z ▸ e)
 exact ⟨⟨z1, z2, z3, I.loc, z4, I.cl, I.cap, I.nd, z5, I.base, m', hn', pl, fun y d' e => (h1 y d' e).ch (fun u => bnd y u (ne e)) off, fun y d' e => (h2 y d' e).ch (fun u => bnd y u (ne e)) I.loc sb (h2 y d' e).notLoc, h3⟩, off⟩
end
section
variable {prog : Program} {w : World} {A : Around} {s : Shared} {env : Env} {R : Result → Shared → Prop}
theorem handlers_named {e : Value} {n : SStr} {b₀ : Stmt} {body : List Stmt} {pos : Pos}
  (h : wpAny (model prog w) A (setFlight e none) (fun _ s₁ => wpAny (model prog w) A (bindName env n e) (fun _ s₂ => wpAny (model prog w) A (execs (b₀ :: body) env) (fun f s₃ => R (.ok f) s₃) (fun _ _ => False) s₂) (fun _ _ => False) s₁) (fun _ _ => False) s) :
  codeAny (model prog w) A (.handlers e [.ExceptHandler none (some n) (b₀ :: body) pos] env) R s := by
 refine codeAny_of_tree ?_
 show wpAny _ A (do return Fin.done (← (handleWith e env [.ExceptHandler none (some n) (b₀ :: body) pos]).onRaise (fun x => do noteFrame x env; theTreesLotGoes x))) _ _ s
 refine wB (wpAny_noted ?_)
 unfold handleWith
 refine wB (wpAny_standAt (wB (wpAny_mono h (fun _ s₁ h₁ => wB (wpAny_mono h₁ (fun _ s₂ h₂ => wB (wpAny_attempt (wpAny_mono h₂ (fun f s₃ h₃ => wP (wP h₃)) fun _ _ x => x.elim))) fun _ _ x => x.elim)) fun _ _ x => x.elim)))
end
section
variable {c : Ct} {s : Shared} {E : VQ} {mg mb : NM}
noncomputable abbrev Ct.marked (c : Ct) (e : Addr) : Ct := { c with A := c.A.mark (some (.ref e)) }
theorem clause_hits {e : Addr} {cp pos : Pos} {k : SStr} {tb : Bool} {h0 : Heap} {R : Result → Shared → Prop} (Rm : Room c.A c.env c.l c.n) (B : Bs c.prog c.w c.hb c.C mg mb) (K : Cls c.hb c.C) (g : bZ c.env.scope.names (nm "CasFail") = true) (st : c.hb.StaysIn s.heap)
  (X : ExcAt c.hb h0 s.heap c.C e k tb) (h : R (.ok .brk) s) : codeAny c.M (c.marked e).A (.handlers (.ref e) [.ExceptHandler (some (.Name (nm "CasFail") cp)) none [] pos] c.env) R s := by
 obtain ⟨nm', q, N, bs, sn, sub, ab, col, dd, k0, k1, k2, k3, k5, mN, fI, oI, as, fd, hC, _⟩ := K.ex
 obtain ⟨new, oe, fs, D, z1, z2, z3, _⟩ := X
 refine codeAny_handlers_test (Calls.Name_function_global Rm.kd (lookup_isGlobal g) (Calls.loadGlobal_global (mg := mg) (Rm.gl ▸ ns_stays st B.g) B.cls ?_))
 obtain ⟨hp, gg, d, t, os⟩ := s
 exact wpAny_excMatches_sub_self (st _ _ hC) z1 z2 (by decide +kernel) h
end
theorem cmp_same {k : SStr} (g : noDict (.str k) = true) : cmp .NotEq (.str k) (.str k) = some (.bool false) := by
 have : PyData.eqv (.str k) (.str k) = true := by simp [PyData.eqv]
 show (aG (noDict (.str k) && noDict (.str k)) (some (PyData.eqv (.str k) (.str k)))).bind (fun x => some (PyData.bool (!x))) = _
 rw [g, this]
 rfl
section
variable {c : Ct} {s : Shared} {E : VQ} {mg mb : NM}
theorem up_flight {h0 h h' : Heap} {F : List Addr} (u : Up F h0 h) (v : UpOn h0 [] h h') : Up F h0 h' := UpOn.up u fun b o o0 e0 e => (v b o o0 e0 e).elim .inl fun ⟨m, _⟩ => nomatch m
theorem clause_suite {e : Addr} {en kd : SStr} {p1 ap kp cp ip pos : Pos} {kk : Nat} {sts : List Stmt} {tb : Bool} {h0 : Heap} {R : Result → Shared → Prop} (Rm : Room c.A c.env c.l c.n) (K : Cls c.hb c.C) (hl : isLoc c.env.scope.names en = true) (hen : lk c.vs en = none) (I0 : c.I h0) (u : Up (frs c.l) h0 s.heap)
  (X : ExcAt c.hb h0 s.heap c.C e kd tb) (nd : noDict (.str kd) = true)
  (h : ∀ h' tk, c.I h' → Off c.W (frs c.l) h0 h' → R (.ok .next) { s with heap := h', toks := tk }) :
  codeAny c.M (c.marked e).A (.handlers (.ref e) [.ExceptHandler none (some en) [.If (.Compare (.Attribute (.Name en p1) (nm "kind") ap) [.NotEq] [.Constant (.str kd) kk kp] cp) sts [] ip] pos] c.env) R s := by
 obtain ⟨nm', q, N, bs, sn, sub, ab, col, dd, k0, k1, k2, k3, k5, mN, fI, oI, as, fd, hC, hN, hi, hns, hga, hgt, n1, n2, _⟩ := K.ex
 have hk : c.env.kindOf en = some .local := bq hl
 refine handlers_named (setFlight_ok none X fun h1 u1 fr1 st1 X1 => ?_)
 have U1 := up_flight u u1
 have I1 : c.I h1 := I0.up U1
 obtain ⟨m, hn1, _⟩ := id I1.ns
 refine wpAny_bindName (wpAny_storeName_local (s := { s with heap := h1 }) hk hn1 (fun h2 hn2 sb2 => ?_) (by rw [Rm.kd]; rfl))
 obtain ⟨I2, o2⟩ := Inv.free I1 hn1 hen hn2 (fun y ny => if_neg ny) sb2
 have X2 := X1.same (I0.wl _ I0.loc).ex sb2
 obtain ⟨new, oe, fs, D, z1, z2, z3, ⟨z4, _⟩, ⟨mA, t, z5, z6⟩, _⟩ := X2
 have nbg : (en == dbg) = false := by
  cases y : en == dbg with
  | false => rfl
  | true =>
   rw [bq y] at hk
   rw [I0.nd.1] at hk; exact nn hk
 refine wpAny_execs_cons (wpAny_If (wpAny_isTrue_Compare1 ?_ rfl))
 rw [arm_eval_Attribute]
 refine wB (m := attributeBase _ _ _ _) ?_
 show wpAny c.M (c.marked e).A (eval (.Name en p1) c.env) _ _ _
 refine wpAny_Name (wpAny_loadName_local Rm.kd hk hn2 (if_pos rfl) ?_) nbg
 refine wB (wpAny_standAt (wB (wpAny_holding ?_)))
 have hB : typeLookup (.type "Exception") (nm "kind") = pure none := by rw [typeLookup_type, builtinLookup_eq_fast]; kernel_rfl
 refine load_exc (mN := mN) (mA := mA) (D := D) (v := .str kd t) (I2.stay _ _ hC) (ns_stays I2.stay hN) hga hgt n1 hB z1 z2 (fun cd y => by rw [z3] at y; cases y) z4 z5 z6 rfl ?_
 refine wB (wP (wP (wpAny_Constant_str ?_)))
 obtain ⟨z, ez, hz⟩ := cmp_ok (c := c.marked e) (s := { s with heap := h2, toks := s.toks + 1 + 1 + 1 }) (op := .NotEq) (a := .str kd) (b := .str kd) (by have := Rm.un; show c.A.units + 100 < cLine; omega) (cmp_same nd) (rp_str kd t) (rp_str kd _)
 cases ez
 refine hz _ _ (wpAny_truthy_bool (wpAny_execs_nil (wpAny_execs_nil ?_)))
 exact h h2 _ I2 (Off.trans U1.off o2 fun p m => .inl m)
theorem handler_ok {e : Addr} {en kd : SStr} {np p1 ap kp cp ip pos : Pos} {kk : Nat} {sts : List Stmt} {tb : Bool} {h0 : Heap} {Q : FQ} (Rm : Room c.A c.env c.l c.n) (B : Bs c.prog c.w c.hb c.C mg mb) (K : Cls c.hb c.C) (g : bZ c.env.scope.names (nm "CasFail") = true) (hl : isLoc c.env.scope.names en = true) (hen : lk c.vs en = none) (I0 : c.I h0) (u : Up (frs c.l) h0 s.heap)
  (X : ExcAt c.hb h0 s.heap c.C e kd tb) (nd : noDict (.str kd) = true)
  (h : ∀ h' tk, c.I h' → Off c.W (frs c.l) h0 h' → Q .next { s with heap := h', toks := tk }) :
  wpAny c.M c.A (handleBy (.ref e) c.env [.ExceptHandler (some (.Name (nm "CasFail") np)) (some en) [.If (.Compare (.Attribute (.Name en p1) (nm "kind") ap) [.NotEq] [.Constant (.str kd) kk kp] cp) sts [] ip] pos]) Q E s := by
 have hk : c.env.kindOf en = some .local := bq hl
 refine wpAny_handleBy_cons (clause_hits Rm B K g (I0.up u).stay X ?_) (by intro q; cases q)
 refine clause_suite Rm K hl hen I0 u X nd fun h1 tk1 I1 o1 => ?_
 obtain ⟨m, hn1, _⟩ := id I1.ns
 refine wpAny_nameGoes_keeps (s := { s with heap := h1, toks := tk1 }) hk hn1 (by rw [Rm.kd]; rfl) fun h2 v hn2 sb2 => ?_
 obtain ⟨I2, o2⟩ := Inv.free I1 hn1 hen hn2 (fun y ny => if_neg ny) sb2
 exact h h2 _ I2 (Off.trans o1 o2 fun p m => .inl m)
end
section
variable {c : Ct} {s : Shared} {E : VQ} {mg mb : NM}
noncomputable abbrev hdl (en kd : SStr) (np p1 ap kp cp ip pos : Pos) (kk : Nat) (sts : List Stmt) : ExceptHandler := .ExceptHandler (some (.Name (nm "CasFail") np)) (some en) [.If (.Compare (.Attribute (.Name en p1) (nm "kind") ap) [.NotEq] [.Constant (.str kd) kk kp] cp) sts [] ip] pos
theorem caught {en kd : SStr} {np p1 ap kp cp ip pos : Pos} {kk : Nat} {sts : List Stmt} {Q : FQ} (Rm : Room c.A c.env c.l c.n) (B : Bs c.prog c.w c.hb c.C mg mb) (K : Cls c.hb c.C) (g : bZ c.env.scope.names (nm "CasFail") = true) (hl : isLoc c.env.scope.names en = true) (hen : lk c.vs en = none) (I : c.I s.heap) (nd : noDict (.str kd) = true)
  (p : c.PS s c.vs (.ok .next) Q E) : c.PX s kd (fun e s₁ => wpAny c.M c.A (noteFrame e c.env) (fun _ s₂ => wpAny c.M c.A (setFlight e none) (fun _ s₃ => wpAny c.M c.A (handleBy e c.env [hdl en kd np p1 ap kp cp ip pos kk sts]) Q E s₃) E s₂) E s₁) := fun h1 tk1 e tb u1 fr1 st1 X1 => by
 refine noteFrame_ok (s := { s with heap := h1, toks := tk1 }) Rm fr1 st1 (fun b o z => u1.ex z) X1 fun h2 u2 fr2 st2 X2 => ?_
 refine setFlight_ok (s := { s with heap := h2, toks := tk1 }) none X2 fun h3 u3 fr3 st3 X3 => ?_
 exact handler_ok (s := { s with heap := h3, toks := tk1 }) Rm B K g hl hen I (up_flight (UpOn.up u1 u2) u3) X3 nd fun h' tk I' o => p h' tk c.W I' o fun b m => .inl m
theorem PS_try {vs' : Vars} {f : Fl} {Q : FQ} {E' : VQ} (p : c.PS s vs' (.ok f) Q E) : c.PS s vs' (.ok f) (fun f s₁ => match f with | .next => wpAny c.M c.A (execs [] c.env) Q E s₁ | f => Q f s₁) E' := by
 cases f with
 | next => exact fun h' tk W' I o k => wpAny_execs_nil (p h' tk W' I o k)
 | ret d => exact p
theorem noErr_some {x : SR} {vs' : Vars} {r : Except SStr Fl} (h : noErr x = some (vs', r)) : x = some (vs', r) ∧ ∃ f, r = .ok f := by
 unfold noErr at h
 split at h
 ·exact nn h
 ·rename_i ne
  refine ⟨h, ?_⟩
  cases r with
  | ok f => exact ⟨f, rfl⟩
  | error k => exact absurd h (ne _ _)
theorem try_value {en kd : SStr} {np pos : Pos} {hst : Stmt} {e : Bool → Names → Vars → Expr → MR D} {rc : List Stmt → Vars → SR} {hd : TryHd} {vs' : Vars} {r : Except SStr Fl} (Rm : Room c.A c.env c.l c.n) (B : Bs c.prog c.w c.hb c.C mg mb) (K : Cls c.hb c.C) (g : bZ c.env.scope.names (nm "CasFail") = true) (hl : isLoc c.env.scope.names en = true)
  (hen : lk c.vs en = none) (hif : IfIs hst (en, nm "kind", kd)) (hv : hd.vs = c.vs) (hx : ∀ r, e false c.env.scope.names c.vs hd.v = some r → c.Tr (eval hd.v c.env) r) (h : tryGo e rc c.env.scope.names kd hd = some (vs', r)) (I : c.I s.heap) {Q : FQ} (p : c.PS s vs' r Q E) {Q' : VQ}
  (ok : ∀ d, (match hd.go d with
    | some (vs2, .ok .next) => noErr (rc hd.rest vs2)
    | r => r) = some (vs', r) → ∀ h1 tk1 w, Up (frs c.l) s.heap h1 → c.Rp h1 w d → Q' w { s with heap := h1, toks := tk1 }) :
  wpAny c.M c.A (eval hd.v c.env) Q' (fun e s₁ => wpAny c.M c.A (noteFrame e c.env) (fun _ s₂ => wpAny c.M c.A (setFlight e none) (fun _ s₃ => wpAny c.M c.A (handleBy e c.env [.ExceptHandler (some (.Name (nm "CasFail") np)) (some en) [hst] pos]) Q E s₃) E s₂) E s₁) s := by
 unfold tryGo at h
 rw [hv] at h
 cases q : e false c.env.scope.names c.vs hd.v with
 | none => rw [q] at h; exact nn h
 | some y =>
  rw [q] at h
  cases y with
  | error k =>
   dsimp only at h
   cases g1 : sEq k kd && noDict (.str kd) with
   | false => rw [g1] at h; exact nn h
   | true =>
    rw [g1] at h
    obtain ⟨g1, g2⟩ := ba g1
    obtain rfl := aX.mp g1
    obtain ⟨rfl, rfl⟩ := sp h
    obtain ⟨p1, ap, kp, cp, ip, kk, st, rfl⟩ := hif
    exact hx _ q s _ _ I (caught Rm B K g hl hen I g2 p)
  | ok d => exact hx _ q s _ _ I fun h1 tk1 w u rv => ok d h h1 tk1 w u rv
theorem st_try {hs : List ExceptHandler} {t : TryPat} {tp : Pos} {body : List Stmt} {e : Bool → Names → Vars → Expr → MR D} {rc : List Stmt → Vars → SR} {hd : TryHd} {vs' : Vars} {r : Except SStr Fl}
  (Rm : Room c.A c.env c.l c.n) (B : Bs c.prog c.w c.hb c.C mg mb) (K : Cls c.hb c.C) (hh : TryIs hs t) (z1 : t.cn = nm "CasFail") (z2 : t.en = t.e1) (z3 : t.at1 = nm "kind") (g : bZ c.env.scope.names (nm "CasFail") = true) (hl : isLoc c.env.scope.names t.en = true) (hen : lk c.vs t.en = none)
  (hx : ∀ W vs x r, e false c.env.scope.names vs x = some r → (c.at W vs).Tr (eval x c.env) r) (hf : ∀ sts vs W vs' r, rc sts vs = some (vs', r) → (c.at W vs).Ex (execs sts c.env) vs' r)
  (ht : tryHead c.env.scope.names c.vs body = some hd)
  (h : tryGo e rc c.env.scope.names t.kd hd = some (vs', r)) : c.Ex (exec (.Try body hs [] [] tp) c.env) vs' r := by
 obtain ⟨np, hst, pos, hif, rfl⟩ := hh
 rw [z1]
 rw [← z2, z3] at hif
 cases body with
 | nil => exact nn ht
 | cons st rest =>
  replace ht : (match stReturn st with
   | some x => match isNil rest with
    | true => x.1.bind fun v => some (TryHd.mk v (allImm c.vs) (fun d => some (allImm c.vs, .ok (.ret d))) [])
    | false => none
   | none => (stAssign st).bind fun a => (one a.1).bind fun t => (aU t).bind fun x => match bM c.env.scope.names x.1 && !(isFresh c.env.scope.names a.2.1) && !(isComp a.2.1) with
    | true => some (TryHd.mk a.2.1 (aA c.vs (bY 20 a.2.1)) (fun d => some (upd (aA c.vs (bY 20 a.2.1)) x.1 (.imm d), .ok .next)) rest)
    | false => none) = some hd := ht
  cases q : stReturn st with
  | some x =>
   rw [q] at ht
   dsimp only at ht
   cases qn : isNil rest with
   | false => rw [qn] at ht; exact nn ht
   | true =>
    rw [qn] at ht
    obtain ⟨v, hv, ht⟩ := obi ht
    obtain rfl := si ht
    rw [stReturn_eq q, aZ qn, hv]
    refine allFrozen fun W1 s Q E I p => wpAny_Try_except (wpAny_execs_cons (wpAny_Return_some ?_))
    refine try_value (c := c.at W1 (allImm c.vs)) Rm B K g hl (by show lk (allImm c.vs) t.en = none; rw [lk_allImm, hen]; rfl) hif rfl (fun r z => hx W1 _ _ r z) h I p fun d e2 h1 tk1 w u rv => ?_
    obtain ⟨rfl, rfl⟩ := sp e2
    exact p h1 tk1 w W1 (Inv.up I u) u.off (fun b m => .inl m) rv
  | none =>
   rw [q] at ht
   obtain ⟨a, h1, ht⟩ := obi ht
   obtain ⟨tg, h2, ht⟩ := obi ht
   obtain ⟨x, h3, ht⟩ := obi ht
   cases g0 : bM c.env.scope.names x.1 && !(isFresh c.env.scope.names a.2.1) && !(isComp a.2.1) with
   | false => rw [g0] at ht; exact nn ht
   | true =>
    rw [g0] at ht
    obtain rfl := si ht
    obtain ⟨g0, g3⟩ := ba g0
    obtain ⟨g1, _⟩ := ba g0
    have g3 : isComp a.2.1 = false := by simpa using g3
    rw [stAssign_eq h1, one_eq h2, bF h3]
    refine frozen (xs := bY 20 a.2.1) fun W1 s Q E I p => wpAny_Try_except (wpAny_execs_cons (wpAny_Assign_Name ?_ (swaps_no g3)))
    refine try_value (c := c.at W1 (aA c.vs (bY 20 a.2.1))) Rm B K g hl (by show lk (aA c.vs (bY 20 a.2.1)) t.en = none; rw [lk_frzAll, hen]) hif rfl (fun r z => hx W1 _ _ r z) h I p fun d e2 h1 tk1 w u rv => ?_
    obtain ⟨h, f, rfl⟩ := noErr_some e2
    refine store_imm (s := { s with heap := h1, toks := tk1 }) Rm (Inv.up I u) (tgt_kind g1) rv fun h2 tk2 I2 o2 => ?_
    exact hf _ _ W1 _ _ h _ _ _ I2 (PS_try (PS_later (c := c.at W1 (aA c.vs (bY 20 a.2.1))) (s := s) (vs1 := upd (aA c.vs (bY 20 a.2.1)) x.1 (.imm d)) p (Off.trans (Up.off u) o2 fun p m => .inl m) fun b m => .inl m))
end
section
variable {prog : Program} {w : World} {hb : Heap} {S : Addr → Prop} {l : List Env} {env : Env} {W : List Addr} {h h' : Heap} {vs : Vars}
theorem Inv.mutates {x : SStr} {d d' : D} {a : Addr} (I : Inv prog w hb S l env W h vs) (e : lk vs x = some (.own d)) (p : PlaceOf env h x a) (o : Off [a] (frs l) h h') (st : hb.StaysIn h') (fr : Frs hb l h') (r' : OwnAt prog w S W (frs l) h' a d') :
  Inv prog w hb S l env W h' (upd vs x (.own d')) ∧ Off W (frs l) h h' := by
 obtain ⟨m, hn, pl, h1, h2, h3⟩ := I.ns
 obtain ⟨m', hn', b'⟩ := p
 obtain ⟨b, q1, q2, q3, q4, q5, r⟩ := h2 x d e
 have za : pl x = a := by have := bound_one hn hn' b b'; cases this; rfl
 rw [za] at b q1 q2 q3 q4 q5 r
 have off : Off W (frs l) h h' := fun b o' z => (o b o' z).imp (fun ⟨m, y⟩ => ⟨by rw [ms m]; exact q1, y⟩) id
 have kp : ∀ {b o'}, b ≠ a → h.get? b = some o' → Kept (frs l) h' b o' := fun {b o'} n z => (o b o' z).elim (fun ⟨m, _⟩ => absurd (ms m) n) id
 have bnd : ∀ y u, Bound env h m y u → Bound env h' m y u := fun y u b => by
  rcases b with q | ⟨q, c, e, z⟩
  ·exact .inl q
  ·exact .inr ⟨q, c, e, Kept.cell z fun _ => kp (Ne.symm (q3 y c e))⟩
 have K : KeepOkk S S W W (frs l) h h' := fun b o k z => ⟨k, (kp (fun y => k.2.1 (by rw [y]; exact q1)) z).at k.2.2⟩
 refine ⟨⟨st, fr, fun b q => let ⟨n, _, y⟩ := I.wl b q; .of n (off.ex y), I.loc, fun y c ec => (I.cel y c ec).kept fun _ => kp (Ne.symm (q3 y c ec)), I.cl, I.cap, I.nd, fun b z => I.fresh b (off.gone z), I.base, m, Kept.ns hn fun _ => kp (Ne.symm q2), pl, fun y d'' e' => (h1 y d'' (lk_own' e').2).to (bnd y) K, fun y d'' e' => ?_, fun y z d1 d2 e1 e2 q => ?_⟩, off⟩
 ·rcases lk_own e' with ⟨rfl, rfl⟩ | ⟨q, e'⟩
  ·rw [za]
   exact ⟨bnd _ _ b, q1, q2, q3, q4, q5, r'⟩
  ·exact (h2 y d'' e').to (bnd y) id id (fun o' z => (kp (fun w => q (h3 y x d'' d e' e (w.trans za.symm))) z).at (h2 y d'' e').notFr) K
 ·obtain ⟨d3, o1⟩ := lk_was e e1
  obtain ⟨d4, o2⟩ := lk_was e e2
  exact h3 y z d3 d4 o1 o2 q
end
def SoundIns (prog : Program) (w : World) (hb : Heap) (mg : NM) (n : Nat) (d k v r : D) : Prop :=
 (∃ q, fnOf ginsN = some q) ∧ ∀ (a : Addr) (A : Around) (l : List Env) (S : Addr → Prop) (s : Shared) (ad : Addr) (kv nv : Value) (as os : List Addr) (Q : VQ) (E : VQ),
  mg ginsN = some (.ref a) → A.handled = none → A.frames = some l → A.depth + n < recursionLimit → A.units + 16 * n + 100 < cLine → hb.StaysIn s.heap → Frs hb l s.heap → (∀ a, s.heap.get? a = none → S a) → (∀ a o, hb.get? a = some o → S a) →
  S ad → hb.get? ad = none → ad ∉ frs l → Rd prog w s.heap (.ref ad) d (ad :: os) → (∀ b ∈ os, Okk S [ad] (frs l) b) → RdAll prog w s.heap [kv, nv] [k, v] as → (∀ b ∈ as, Okk S [ad] (frs l) b) →
  (∀ h' tk, Off [ad] (frs l) s.heap h' → Frs hb l h' → hb.StaysIn h' → OwnAt prog w S [ad] (frs l) h' ad r → Q .none { s with heap := h', toks := tk }) → wpAny (model prog w) A (call (.ref a) [.ref ad, kv, nv]) Q E s
section
variable {c : Ct} {s : Shared} {E : VQ} {mg mb : NM}
theorem st_ginsert {x : SStr} {fp np cp pos : Pos} {a b : Expr} {y z : MR D} {ins : D → D → D → MR D} {vs' : Vars} {q : Except SStr Fl} (R : Room c.A c.env c.l c.n) (B : Bs c.prog c.w c.hb c.C mg mb)
  (hc : ∀ d k v r, ins d k v = some r → ∃ d', r = .ok d' ∧ SoundIns c.prog c.w c.hb mg c.n d k v d') (g : bZ c.env.scope.names ginsN = true) (ns : ∀ e ∈ [a, b], ∀ x p, e ≠ .Starred x p)
  (hx : ∀ W r, y = some r → (c.at W (aA c.vs (bY 20 a ++ bY 20 b))).Tr (eval a c.env) r) (hy : ∀ W r, z = some r → (c.at W (aA c.vs (bY 20 a ++ bY 20 b))).Tr (eval b c.env) r)
  {d : D} (hlk : lk (aA c.vs (bY 20 a ++ bY 20 b)) x = some (.own d))
  (h : bndS (aA c.vs (bY 20 a ++ bY 20 b)) y (fun y => bndS (aA c.vs (bY 20 a ++ bY 20 b)) z fun z => bndS (aA c.vs (bY 20 a ++ bY 20 b)) (ins d y z) fun r => some (upd (aA c.vs (bY 20 a ++ bY 20 b)) x (.own r), .ok .next)) = some (vs', q)) :
  c.Ex (exec (.Expr (.Call (.Name ginsN fp) [.Name x np, a, b] [] cp) pos) c.env) vs' q :=
 frozen fun W1 s Q E I p => by
  generalize aA c.vs (bY 20 a ++ bY 20 b) = vs1 at hx hy hlk h I p
  refine wpAny_Expr ?_ (not_interactive R.kd) rfl
  have hfn : ∃ q, fnOf ginsN = some q := ⟨_, rfl⟩
  obtain ⟨fn, hfn⟩ := hfn
  obtain ⟨ga, hga, FA⟩ := B.fn ginsN fn hfn
  have ns' : ∀ e ∈ [.Name x np, a, b], ∀ x p, e ≠ Expr.Starred x p := fun e m => by
   rcases mp m with rfl | m
   ·intro x p q; cases q
   ·exact ns e m
  refine PyProof.Rows.Call_Name (by rw [trees_of ns', bJ]) (global_main (c := c.at W1 vs1) R B I g hga ?_)
  obtain ⟨o, as, scope, pm, cd, doc, ho, hd, _⟩ := FA.ex
  refine Calls.callWith_function (o := o) (fd := dD ginsN as fn scope pm cd doc) (evalArgs_ok (c := c.at W1 vs1) (trees_plain _ _) (Calls.spliced_cons (name_place R I hlk fun ad pl => ?_)))
  refine Calls.spliced_cons (bindX (c := c.at W1 vs1) (hx W1) h I p fun kd v h1 tk1 e1 I1 u1 rv p1 => Calls.spliced_cons (bindX (c := c.at W1 vs1) (s := { s with heap := h1, toks := tk1 }) (hy W1) e1 I1 p1 fun nd v2 h2 tk2 e2 I2 u2 rv2 p2 => Calls.spliced_nil ⟨⟨I2.stay _ _ ho, hd⟩, ?_⟩))
  cases q1 : ins d kd nd with
  | none => rw [q1] at e2; cases e2
  | some r =>
   obtain ⟨d', rfl, _, H⟩ := hc _ _ _ _ q1
   rw [q1] at e2
   obtain ⟨rfl, rfl⟩ := sp e2
   have pl2 := (pl.up u1).up u2
   obtain ⟨⟨os, ro, ko⟩, nF, aW, _⟩ := Inv.mutate I2 hlk pl2
   obtain ⟨vs1', rv', kv'⟩ := rv.up u2
   obtain ⟨vs2', rv2', kv2'⟩ := rv2
   have noB : c.hb.get? ad = none := (I2.wl ad aW).n
   have ok : ∀ {b}, Okk c.S W1 (frs c.l) b → Okk (fun b => Okk c.S W1 (frs c.l) b ∨ b = ad) [ad] (frs c.l) b := fun {b} z => ⟨.inl z, fun m => z.2.1 (ms m ▸ aW), z.2.2⟩
   refine H ga c.A c.l (fun b => Okk c.S W1 (frs c.l) b ∨ b = ad) { s with heap := h2, toks := tk2 } ad v v2 (vs1' ++ (vs2' ++ [])) os _ E hga R.hh R.fr R.dp R.un I2.stay I2.fr (fun b e => .inl (new_ok (c := c.at W1 vs1) I2 (Up.refl _ _) e)) (fun b o e => .inl ?_) (.inr rfl) noB nF ro (fun b m => ok (ko b m)) (.cons rv' (.cons rv2' .nil)) (fun b m => ?_) fun h3 tk3 o3 fr3 st3 r3 => ?_
   ·refine ⟨I2.base b o e, fun q => ?_, fun q => ?_⟩
    ·rw [(I2.wl b q).n] at e; exact nn e
    ·rw [(I2.fr.ex q).n] at e; exact nn e
   ·rcases mq m with m | m
    ·exact ok (kv' b m)
    ·exact ok (kv2' b (by simpa using m))
   ·obtain ⟨os', ro', ko'⟩ := r3
    obtain ⟨I3, o4⟩ := Inv.mutates I2 hlk pl2 o3 st3 fr3 ⟨os', ro', fun b m => (ko' b m).1.elim id fun z => absurd (List.mem_singleton.mpr z) (ko' b m).2.1⟩
    exact p2 h3 tk3 W1 I3 o4 fun b m => .inl m
end
structure CxO (prog : Program) (w : World) (hb : Heap) (C : Addr) (mg : NM) (n : Nat) (cx : Cx) : Prop where
 ok : CxOk prog w hb C mg n cx
 ins : ∀ d k v r, cx.ins d k v = some r → ∃ d', r = .ok d' ∧ SoundIns prog w hb mg n d k v d'
 dict : cx.call (nm "dict") = none
structure Cl (hb : Heap) (C : Addr) (mg mb : NM) (n : Nat) : Prop where
 K : Cls hb C
 hn : 1 ≤ n
 mg : mg (nm "Exception") = none
 mb : mb (nm "Exception") = some (.type "Exception")
section
variable {c : Ct} {mg mb : NM} {cx : Cx} {m k : Nat} {rc : List Stmt → Vars → SR}
theorem noStar_one {e : Expr} (h : bI e = true) : ∀ x p, e ≠ .Starred x p := fun x p q => by rw [q] at h; cases h
theorem own_ok (R : Room c.A c.env c.l c.n) (B : Bs c.prog c.w c.hb c.C mg mb) (K : CxO c.prog c.w c.hb c.C mg c.n cx) {v : Expr} {vs : Vars} (g : isFresh c.env.scope.names v = true) : ∀ W q, ev cx m false c.env.scope.names vs v = some q → (c.at W vs).TrF (eval v c.env) q := fun W q h => by
 cases m with
 | zero => exact nn h
 | succ m => exact fresh_ok (c := c.at W vs) R B (ev_says (c := c.at W vs) B K.ok m) K.dict g h
theorem fresh_notComp {ns : Names} {v : Expr} (g : isFresh ns v = true) : isComp v = false := by
 cases v <;> first | rfl | exact ft g
theorem ex_name (R : Room c.A c.env c.l c.n) (B : Bs c.prog c.w c.hb c.C mg mb) (K : CxO c.prog c.w c.hb c.C mg c.n cx) {x : SStr} {p pos : Pos} {v : Expr} {vs' : Vars} {r : Except SStr Fl} (h : exName cx (ev cx m) c.env.scope.names c.vs x v = some (vs', r)) : c.Ex (exec (.Assign [.Name x p] v pos) c.env) vs' r := by
 unfold exName at h
 cases g : bM c.env.scope.names x with
 | false => rw [g] at h; exact nn h
 | true =>
  rw [g] at h
  dsimp only at h
  cases g2 : isFresh c.env.scope.names v with
  | true => rw [g2] at h; exact st_own R g (fresh_notComp g2) (own_ok R B K g2) h
  | false =>
   rw [g2] at h
   cases m with
   | zero =>
    exact nn h
   | succ m => exact st_assign (cx := cx) (e := ev cx m) R B (ev_says B K.ok m) (fun W r z => (ev_says (c := c.at W (aA c.vs (bY 20 v))) B K.ok (m + 1) c.S W c.env (aA c.vs (bY 20 v)) v r R).1 z) g h
theorem ex_assign (R : Room c.A c.env c.l c.n) (B : Bs c.prog c.w c.hb c.C mg mb) (K : CxO c.prog c.w c.hb c.C mg c.n cx) {tgs : List Expr} {v : Expr} {pos : Pos} {vs' : Vars} {r : Except SStr Fl}
  (h : exE cx k (ev cx m) rc c.env.scope.names c.vs (.Assign tgs v pos) = some (vs', r)) : c.Ex (exec (.Assign tgs v pos) c.env) vs' r := by
 have hx : ∀ W vs x r, ev cx m false c.env.scope.names vs x = some r → (c.at W vs).Tr (eval x c.env) r := fun W vs x r z => (ev_says (c := c.at W vs) B K.ok m c.S W c.env vs x r R).1 z
 replace h : exAssign cx (ev cx m) c.env.scope.names c.vs tgs v = some (vs', r) := h
 obtain ⟨g, hg, h⟩ := obi h
 rw [tgtOf_eq hg]
 cases g with
 | name x p => exact ex_name R B K h
 | tup ts k p =>
  replace h : exTup (ev cx m) c.env.scope.names c.vs ts v = some (vs', r) := h
  unfold exTup at h
  cases q : twoLists c.env.scope.names ts v with
  | some y =>
   rw [q] at h
   obtain ⟨rfl, rfl⟩ := sp h
   exact st_two R q
  | none =>
   rw [q] at h
   dsimp only at h
   cases g : okSwap v with
   | false => rw [g] at h; exact nn h
   | true => rw [g] at h; exact st_tuple R g (fun W r z => hx W _ _ r z) h
 | item x q i p =>
  replace h : exItem (ev cx m) c.env.scope.names c.vs x i v = some (vs', r) := h
  unfold exItem at h
  cases g : isComp v with
  | true => rw [g] at h; exact nn h
  | false => rw [g] at h; exact st_item R g (fun W r z => hx W _ _ r z) (fun W r z => hx W _ _ r z) h
theorem ex_expr (R : Room c.A c.env c.l c.n) (B : Bs c.prog c.w c.hb c.C mg mb) (K : CxO c.prog c.w c.hb c.C mg c.n cx) {v : Expr} {pos : Pos} {vs' : Vars} {r : Except SStr Fl}
  (h : exE cx k (ev cx m) rc c.env.scope.names c.vs (.Expr v pos) = some (vs', r)) : c.Ex (exec (.Expr v pos) c.env) vs' r := by
 have hx : ∀ W vs x r, ev cx m false c.env.scope.names vs x = some r → (c.at W vs).Tr (eval x c.env) r := fun W vs x r z => (ev_says (c := c.at W vs) B K.ok m c.S W c.env vs x r R).1 z
 replace h : exExpr cx (ev cx m) c.env.scope.names c.vs v = some (vs', r) := h
 unfold exExpr at h
 cases q : callOf v with
 | none =>
  rw [q] at h
  obtain ⟨y, h1, h⟩ := obi h
  rw [appOf_eq h1]
  cases g : sEq y.m (nm "append") && y.ap.endLine == y.ps.line && bI y.a with
  | false => rw [g] at h; exact nn h
  | true =>
   rw [g] at h
   obtain ⟨g, g3⟩ := ba g
   obtain ⟨g1, g2⟩ := ba g
   rw [aX.mp g1]
   obtain ⟨o, hl, h⟩ := obi h
   obtain ⟨l, ho, h⟩ := obi h
   cases g4 : Nat.ble l.length 1000 with
   | false => rw [g4] at h; exact nn h
   | true => rw [g4] at h; exact st_append R g2 (noStar_one g3) (fun W r z => hx W _ _ r z) (asL_eq ho ▸ lkOwn_eq hl) (lb g4) h
 | some z =>
  rw [q] at h
  rw [callOf_eq q]
  dsimp only at h
  cases q : insOf z.2.2.1 with
  | none => rw [q] at h; exact st_expr R rfl (fun W r z => hx W _ _ r z) h
  | some y =>
   rw [q] at h
   rw [insOf_eq q]
   dsimp only at h
   cases g : sEq z.1 (nm "ginsert") && bZ c.env.scope.names z.1 && bI y.2.2.1 && bI y.2.2.2 with
   | false => rw [g] at h; exact nn h
   | true =>
    rw [g] at h
    obtain ⟨g, g4⟩ := ba g
    obtain ⟨g, g3⟩ := ba g
    obtain ⟨g1, g2⟩ := ba g
    rw [aX.mp g1] at g2 ⊢
    obtain ⟨d, hl, h⟩ := obi h
    exact st_ginsert R B K.ins g2 (bW (by simp [g3, g4])) (fun W r z => hx W _ _ r z) (fun W r z => hx W _ _ r z) (lkOwn_eq hl) h
theorem ex_raise (R : Room c.A c.env c.l c.n) (B : Bs c.prog c.w c.hb c.C mg mb) (K : CxO c.prog c.w c.hb c.C mg c.n cx) (L : Cl c.hb c.C mg mb c.n) {x y : Option Expr} {pos : Pos} {vs' : Vars} {r : Except SStr Fl} (h : exRaise (ev cx m) c.env.scope.names c.vs x y = some (vs', r)) : c.Ex (exec (.Raise x y pos) c.env) vs' r := by
 have hx : ∀ x r, ev cx m false c.env.scope.names c.vs x = some r → c.Tr (eval x c.env) r := fun x r z => (ev_says B K.ok m c.S c.W c.env c.vs x r R).1 z
 obtain ⟨q, hq, h⟩ := obi h
 obtain ⟨z1, z2⟩ := rseOf_eq hq
 rw [z1, z2]
 cases g : sEq q.f (nm "CasFail") && bZ c.env.scope.names q.f && bI q.a && bI q.b with
 | false => rw [g] at h; exact nn h
 | true =>
  rw [g] at h
  obtain ⟨g, g4⟩ := ba g
  obtain ⟨g, g3⟩ := ba g
  obtain ⟨g1, g2⟩ := ba g
  rw [aX.mp g1] at g2 ⊢
  exact st_raise R B L.K L.hn L.mg L.mb g2 (bW (by simp [g3, g4])) (hx _) (hx _) h
theorem exTry_ok (R : Room c.A c.env c.l c.n) (B : Bs c.prog c.w c.hb c.C mg mb) (K : CxO c.prog c.w c.hb c.C mg c.n cx) (L : Cl c.hb c.C mg mb c.n)
  (IH : ∀ (S : Addr → Prop) sts vs W vs' r, rc sts vs = some (vs', r) → ({ c with S := S, W := W, vs := vs } : Ct).Ex (execs sts c.env) vs' r) {body : List Stmt} {hs : List ExceptHandler} {els fin : List Stmt} {pos : Pos} {vs' : Vars} {r : Except SStr Fl}
  (h : exTry (ev cx m) rc c.env.scope.names c.vs body hs els fin = some (vs', r)) : c.Ex (exec (.Try body hs els fin pos) c.env) vs' r := by
 unfold exTry at h
 cases g0 : isNil els && isNil fin with
 | false => rw [g0] at h; exact nn h
 | true =>
  rw [g0] at h
  obtain ⟨n1, n2⟩ := ba g0
  rw [aZ n1, aZ n2]
  obtain ⟨t, ht, h⟩ := obi h
  cases g : sEq t.cn (nm "CasFail") && bZ c.env.scope.names t.cn && sEq t.en t.e1 && sEq t.at1 (nm "kind") && isLoc c.env.scope.names t.en && (lk c.vs t.en).isNone with
  | false => rw [g] at h; exact nn h
  | true =>
   rw [g] at h
   obtain ⟨g, g6⟩ := ba g
   obtain ⟨g, g5⟩ := ba g
   obtain ⟨g, g4⟩ := ba g
   obtain ⟨g, g3⟩ := ba g
   obtain ⟨g1, g2⟩ := ba g
   obtain ⟨hd, hh, h⟩ := obi h
   exact st_try R B L.K (tryPat_eq ht) (aX.mp g1) (aX.mp g3) (aX.mp g4) (aX.mp g1 ▸ g2) g5 (ni g6) (fun W vs x r z => (ev_says (c := c.at W vs) B K.ok m c.S W c.env vs x r R).1 z) (fun sts vs W vs' r z => IH c.S sts vs W vs' r z) hh h
theorem exE_ok (R : Room c.A c.env c.l c.n) (B : Bs c.prog c.w c.hb c.C mg mb) (K : CxO c.prog c.w c.hb c.C mg c.n cx) (L : Cl c.hb c.C mg mb c.n)
  (IH : ∀ (S : Addr → Prop) sts vs W vs' r, rc sts vs = some (vs', r) → ({ c with S := S, W := W, vs := vs } : Ct).Ex (execs sts c.env) vs' r) {st : Stmt} {vs' : Vars} {r : Except SStr Fl}
  (h : exE cx k (ev cx m) rc c.env.scope.names c.vs st = some (vs', r)) : c.Ex (exec st c.env) vs' r := by
 have hx : ∀ W vs x r, ev cx m false c.env.scope.names vs x = some r → (c.at W vs).Tr (eval x c.env) r := fun W vs x r z => (ev_says (c := c.at W vs) B K.ok m c.S W c.env vs x r R).1 z
 have ht : ∀ W vs x r, ev cx m true c.env.scope.names vs x = some r → (c.at W vs).Ts (isTrue x c.env (eval x c.env)) r := fun W vs x r z => (ev_says (c := c.at W vs) B K.ok m c.S W c.env vs x r R).2 z
 cases st with
 | Assign tgs v pos => exact ex_assign R B K h
 | Expr v pos => exact ex_expr R B K h
 | If t a b pos => exact st_if (fun r z => ht c.W c.vs _ r z) (fun sts vs W vs' r z => IH c.S sts vs W vs' r z) h
 | While t body els pos =>
  replace h : exWhile k (ev cx m) rc c.env.scope.names c.vs t body els = some (vs', r) := h
  unfold exWhile at h
  cases g : isNil els with
  | false => rw [g] at h; exact nn h
  | true =>
   rw [g] at h
   rw [aZ g]
   exact st_while R (fun W vs r z => ht W vs _ r z) (fun vs W vs' r z => IH c.S _ vs W vs' r z) h
 | For tg it body els pos =>
  replace h : exFor (ev cx m) rc c.env.scope.names c.vs tg it body els = some (vs', r) := h
  unfold exFor at h
  cases g : isNil els && !(isSet it) with
  | false => rw [g] at h; exact nn h
  | true =>
   rw [g] at h
   obtain ⟨g1, g2⟩ := ba g
   rw [aZ g1]
   exact st_for R (by simpa using g2) (fun W r z => src_ok (c := c.at W (aA c.vs (bY 20 it))) R B (fun x r z => hx W _ x r z) z) (fun S vs W vs' r z => IH S _ vs W vs' r z) h
 | Return v pos =>
  cases v with
  | none =>
   obtain ⟨rfl, rfl⟩ := sp (show some (c.vs, Except.ok (Fl.ret .none)) = some (vs', r) from h)
   exact st_ret0
  | some v => exact st_ret (fun W r z => hx W _ _ r z) h
 | Raise x y pos => exact ex_raise R B K L h
 | Try body hs els fin pos => exact exTry_ok R B K L IH h
 | _ => exact nn h
theorem exS_ok (B : Bs c.prog c.w c.hb c.C mg mb) (R : Room c.A c.env c.l c.n) (K : CxO c.prog c.w c.hb c.C mg c.n cx) (L : Cl c.hb c.C mg mb c.n) : ∀ (i : Nat) (S : Addr → Prop) (st : Stmt) (vs : Vars) (W : List Addr) (vs' : Vars) (r : Except SStr Fl),
  exS cx k c.env.scope.names i st vs = some (vs', r) → ({ c with S := S, W := W, vs := vs } : Ct).Ex (exec st c.env) vs' r
 | 0, _, _, _, _, _, _, h => by exact nn h
 | i + 1, S, st, vs, W, vs', r, h => exE_ok (c := { c with S := S, W := W, vs := vs }) R B K L (fun S' sts vs1 W1 vs1' r1 z => seq_ok (c := { c with S := S', W := W1, vs := vs1 }) (fun st2 vs2 W2 vs2' r2 z2 => exS_ok B R K L i S' st2 vs2 W2 vs2' r2 z2) sts vs1 W1 vs1' r1 z) h
theorem body_ok (B : Bs c.prog c.w c.hb c.C mg mb) (R : Room c.A c.env c.l c.n) (K : CxO c.prog c.w c.hb c.C mg c.n cx) (L : Cl c.hb c.C mg mb c.n) {i : Nat} {sts : List Stmt} {vs' : Vars} {r : Except SStr Fl} (h : seqS (exS cx k c.env.scope.names i) sts c.vs = some (vs', r)) : c.Ex (execs sts c.env) vs' r :=
 seq_ok (c := c) (fun st2 vs2 W2 vs2' r2 z2 => exS_ok B R K L i c.S st2 vs2 W2 vs2' r2 z2) sts c.vs c.W vs' r h
end
theorem bindP_len : ∀ {xs : List SStr} {ds : List D} {vs : Vars}, bindP xs ds = some vs → ds.length = xs.length
 | [], [], _, _ => rfl
 | [], _ :: _, _, e => by exact nn e
 | _ :: _, [], _, e => by exact nn e
 | x :: xs, d :: ds, vs, e => by
  unfold bindP at e
  obtain ⟨r, e, _⟩ := me e
  simp [bindP_len e]
theorem resOf_some {x : SR} {r : XD} (h : resOf x = some r) : ∃ y, x = some y := by
 cases x with
 | none => exact nn h
 | some y => exact ⟨y, rfl⟩
noncomputable def retQ (Q : VQ) : Flow → Shared → Prop := fun g s' => Q (match g with | .ret v => v | _ => .none) s'
section
variable {prog : Program} {w : World} {hb : Heap} {C : Addr} {mg mb : NM} {n : Nat}
noncomputable def leaveE (prog : Program) (w : World) (A : Around) (env : Env) (E : VQ) : Value → Shared → Prop := fun e s' => wpAny (model prog w) A (leaving env e) (fun _ s'' => E e s'') (fun e' s'' => E e' s'') s'
structure CallEnv (A : Around) (fn : Fn) (L : Addr) (env : Env) : Prop where
 loc : env.locals = L
 nm : env.scope.names = fn.names
 kd : env.scope.kind = .function
 fr : env.frame = some env.locals
 cl : env.cells = cellsFrom (L + 1) env.scope.names []
 rm : ∀ {l n}, A.handled = none → A.frames = some l → A.depth + (n + 1) < recursionLimit → A.units + 16 * (n + 1) + 100 < cLine → Room (A.deeper env) env (env :: l) n
 ok : fnOk fn = true
theorem callEnv_of {A : Around} {f : SStr} {as : List Arg} {fn : Fn} {scope : Scope} {pm cd doc : Value} {L a : Addr} (hn : scope.names = fn.names) (hk : scope.kind = .function) (ok : fnOk fn = true) : CallEnv A fn L (callEnvC (dD f as fn scope pm cd doc) L a) :=
 ⟨rfl, hn, hk, rfl, rfl, fun hh hf dp un => ⟨hh, by show A.frames.map _ = _; rw [hf]; rfl, ⟨_, _, _, rfl, rfl, rfl⟩, by show A.depth + 1 + _ < _; omega, by show A.units + 3 + _ + 100 < _; omega, hk, rfl, rfl⟩, ok⟩
theorem entered {f : SStr} {fn : Fn} {a : Addr} {A : Around} {s : Shared} {vals : List Value} {Q : VQ} {E : VQ} (B : Bs prog w hb C mg mb) (hfn : fnOf f = some fn) (hma : mg f = some (.ref a)) (dp : A.depth < recursionLimit) (st : hb.StaysIn s.heap) (hl : vals.length = fn.params.length)
  (h : ∀ (env : Env) (s₁ : Shared), CallEnv A fn s.heap.objs.size env → InCallC s env.locals (bindL env.kindOf (fn.params.zip vals) fun _ => none) env.cells (bindC env.kindOf (fn.params.zip vals) fun _ => none) s₁ → wpAny (model prog w) (A.deeper env) (execs fn.body env) (retQ Q) (leaveE prog w (A.deeper env) env E) s₁) :
  wpAny (model prog w) A (call (.ref a) vals) Q E s := by
 obtain ⟨a', ha', ⟨o, as, scope, pm, cd, doc, ho, hdat, hcd, hn, hk, hco, hg, hpar⟩, ok⟩ := B.fn f fn hfn
 rw [hma] at ha'
 obtain ⟨rfl⟩ := Value.ref.inj (si ha')
 have len : vals.length = as.length := by rw [hl, ← hpar, List.length_map]
 have fo := fnOk_of ok
 have hbind : bindArgs (dD f as fn scope pm cd doc) ⟨vals, []⟩ = pure (fn.params.zip vals) := by
  have := bindArgs_plain (fd := dD f as fn scope pm cd doc) rfl rfl (by rw [hpar]; exact fo.nd) len
  rw [this, hpar]
 refine wpAny_call (codeAny_call_cells (fd := dD f as fn scope pm cd doc) dp (st _ _ ho) hdat (B.lim.keeps st) (hcd.keeps st) rfl hbind rfl (fun x m => ?_) (fun s₁ X => h _ s₁ (callEnv_of hn hk ok) X) hco hg hk)
 have := fo.loc x.1 (List.of_mem_zip m).1
 rw [← hn] at this
 exact this.imp id fun q => ⟨q, cellsFrom_has _ _ _ _ q⟩
theorem kept_tail {env : Env} {l : List Env} {s : Shared} {h' : Heap} {b : Addr} {o : Obj} (n : ∀ L ∈ frs (env :: l), L ∉ frs l → s.heap.get? L = none) (e : s.heap.get? b = some o) (k : Kept (frs (env :: l)) h' b o) : Kept (frs l) h' b o := by
 rcases k with q | ⟨m, sl, q⟩
 ·exact .inl q
 ·by_cases y : b ∈ frs l
  ·exact .inr ⟨y, sl, q⟩
  ·exact nox (n b m y) e
theorem CallEnv.frs {A : Around} {fn : Fn} {L : Addr} {env : Env} {l : List Env} (c : CallEnv A fn L env) : Mine.frs (env :: l) = env.locals :: Mine.frs l := by simp [Mine.frs, List.filterMap_cons, c.fr]
theorem CallEnv.tail {A : Around} {fn : Fn} {s : Shared} {env : Env} {l : List Env} (c : CallEnv A fn s.heap.objs.size env) : ∀ L ∈ Mine.frs (env :: l), L ∉ Mine.frs l → s.heap.get? L = none := fun b m nb => by
 rw [c.frs] at m
 rcases mp m with rfl | m
 ·rw [c.loc]
  cases q : s.heap.get? s.heap.objs.size with
  | none => rfl
  | some o => exact absurd (Heap.lt_size q) (Nat.lt_irrefl _)
 ·exact absurd m nb
theorem CallEnv.sub {A : Around} {fn : Fn} {L : Addr} {env : Env} {l : List Env} (c : CallEnv A fn L env) {b : Addr} (m : b ∈ Mine.frs l) : b ∈ Mine.frs (env :: l) := by rw [c.frs]; exact mc _ m
theorem post_in {A : Around} {l : List Env} {S : Addr → Prop} {s : Shared} {fn : Fn} {env : Env} {W : List Addr} {h1 : Heap} {tk1 : Nat} {vs vs' : Vars} {q : Except SStr Fl} {r : XD} {Q : VQ} {E : VQ} (ce : CallEnv A fn s.heap.objs.size env) (Rm : Room (A.deeper env) env (env :: l) n)
  (wn : ∀ b ∈ W, s.heap.get? b = none) (kp : ∀ b o, s.heap.get? b = some o → h1.get? b = some o) (hr : resOf (some (vs', q)) = some r) (p : PostE prog w hb C S l [] s r Q E) :
  (⟨prog, w, A.deeper env, env, env :: l, n, hb, C, S, W, vs⟩ : Ct).PS { s with heap := h1, toks := tk1 } vs' q (retQ Q) (leaveE prog w (A.deeper env) env E) := by
 have back : ∀ {h' : Heap}, Off W (frs (env :: l)) h1 h' → Up (frs l) s.heap h' := fun {h'} o b ob e => by
  rcases o b ob (kp b ob e) with ⟨m, _⟩ | q
  ·exact nox (wn b m) e
  ·exact kept_tail ce.tail e q
 cases q with
 | error kd =>
  obtain rfl := si hr
  intro h2 tk2 e tb o2 fr2 st2 X2
  refine leaving_ok (s := { s with heap := h2, toks := tk2 }) Rm fr2 st2 (fun b o z => (back o2).ex z) (X2.older fun b z => ?_) fun h3 u3 fr3 st3 X3 => ?_
  ·cases y : s.heap.get? b with
   | none => rfl
   | some ob => exact nox z (kp _ _ y)
  ·exact p h3 tk2 e true (fun b ob z => (UpOn.up (F := frs (env :: l)) (fun b ob z => (back o2 b ob z).elim .inl fun ⟨m, y⟩ => .inr ⟨ce.sub m, y⟩) u3 b ob z).elim .inl fun y => kept_tail ce.tail z (.inr y)) fr3.2.2 st3 X3
 | ok g =>
  cases g with
  | next =>
   obtain rfl := si hr
   exact fun h2 tk2 W2 I2 o2 k2 => p h2 tk2 .none (back o2) ⟨[], .none, fun _ m => nomatch m⟩
  | ret d =>
   obtain rfl := si hr
   exact fun h2 tk2 v W2 I2 o2 k2 ⟨bs, rv, kv⟩ => p h2 tk2 v (back o2) ⟨bs, rv, fun b m => ⟨(kv b m).1, n0, fun y => (kv b m).2.2 (ce.sub y)⟩⟩
theorem call_ok {f : SStr} {fn : Fn} {cx : Cx} {k i : Nat} {ds : List D} {r : XD} (B : Bs prog w hb C mg mb) (L : Cl hb C mg mb n) (K : CxO prog w hb C mg n cx) (hfn : fnOf f = some fn) (h : runFn cx k i fn ds = some r) : SoundCall prog w hb C mg (n + 1) f ds r := by
 refine ⟨⟨fn, hfn⟩, fun a A l S s vals as Q E hma hh hf hd hu st fr fresh base ra ka p => ?_⟩
 unfold runFn at h
 cases hv : bindP fn.params ds with
 | none => rw [hv] at h; exact nn h
 | some vs =>
  rw [hv] at h
  obtain ⟨⟨vs', q⟩, hq⟩ := resOf_some h
  refine entered B hfn hma (by omega) st ((aN ra).trans (bindP_len hv)) fun env s₁ ce X => ?_
  have Rm := ce.rm hh hf hd hu
  obtain ⟨W, I, wn, h1, tk1, rfl, kp⟩ := Inv.enter ce.loc rfl ce.fr ce.cl st fr fresh base ce.ok ce.nm ce.kd ra ka hv X
  refine body_ok (c := ⟨prog, w, A.deeper env, env, env :: l, n, hb, C, S, W, vs⟩) (i := i) (k := k) (cx := cx) (vs' := vs') (r := q) B Rm K L (ce.nm ▸ hq) _ _ _ I (post_in ce Rm wn kp (hq ▸ h) p)
end
noncomputable abbrev bN : SStr := nm "found"
noncomputable abbrev gKind : SStr := nm "kind"
noncomputable abbrev gNumber : SStr := nm "number"
noncomputable abbrev gTotal : SStr := nm "total"
noncomputable abbrev gvs (d k v : D) : Vars := [(bN, .own d), (gKind, .imm k), (gNumber, .imm v)]
inductive GinsIs : Prop
 | mk (fn : Fn) (e1 e2 e3 e4 : Expr) (p1 p2 p3 p4 p5 p6 : Pos) (a : List Stmt) : fnOf ginsN = some fn → fn.params = [bN, gKind, gNumber] →
  fn.body = [.Assign [.Name gTotal p1] e1 p2, .If e2 a [.Assign [.Subscript (.Name bN p3) e3 p4] e4 p5] p6] →
  fn.names.lookup bN = some .local → fn.names.lookup gKind = some .local → fn.names.lookup gNumber = some .local → fn.names.lookup gTotal = some .local →
  isFresh fn.names e1 = false → isComp e1 = false → isComp e4 = false → (∀ d k v, aA (gvs d k v) (bY 20 e1) = gvs d k v) →
  (∀ d k v t, aA (upd (gvs d k v) gTotal (.imm t)) (bY 20 e4 ++ bY 20 e3) = upd (gvs d k v) gTotal (.imm t)) → (∀ cx k1 i vs, seqS (exS cx k1 fn.names i) a vs = none) → GinsIs
theorem gins_is : GinsIs :=
 ⟨_, _, _, _, _, _, _, _, _, _, _, _, rfl, rfl, rfl, rfl, rfl, rfl, rfl, rfl, rfl, rfl, fun _ _ _ => rfl, fun _ _ _ _ => rfl, fun _ _ i _ => by
  cases i with
  | zero => rfl
  | succ i => rfl⟩
section
variable {prog : Program} {w : World} {hb : Heap} {S : Addr → Prop} {l : List Env} {env : Env} {W : List Addr} {h : Heap} {vs : Vars}
theorem Inv.addImm {x : SStr} {m : NM} {v : Value} {d : D} (I : Inv prog w hb S l env W h vs) (hn : h.Ns env.locals m) (hk : env.kindOf x = some .local) (hm : m x = some v) (r : Rep prog w S W (frs l) h v d) : Inv prog w hb S l env W h (upd vs x (.imm d)) := by
 obtain ⟨m0, hn0, pl, h1, h2, h3⟩ := I.ns
 have e0 : m0 x = some v := (ns_same hn0 hn x).trans hm
 refine ⟨I.stay, I.fr, I.wl, I.loc, I.cel, I.cl, I.cap, I.nd, I.fresh, I.base, m0, hn0, pl, fun y d' e => ?_, fun y d' e => h2 y d' (lk_imm' e).2, fun y z d1 d2 e1 e2 q => h3 y z d1 d2 (lk_imm' e1).2 (lk_imm' e2).2 q⟩
 rcases lk_imm e with ⟨rfl, rfl⟩ | ⟨_, e⟩
 ·exact ⟨v, .inl ⟨hk, e0⟩, r⟩
 ·exact h1 y d' e
theorem place_one {x : SStr} {a b : Addr} (p : PlaceOf env h x a) (q : PlaceOf env h x b) : a = b := by
 obtain ⟨m, n, z⟩ := p
 obtain ⟨m', n', z'⟩ := q
 exact Value.ref.inj (bound_one n n' z z')
theorem seqS_next {f : Stmt → Vars → SR} {s : Stmt} {r : List Stmt} {vs vs' : Vars} (h : seqS f (s :: r) vs = some (vs', .ok .next)) : ∃ vs1, f s vs = some (vs1, .ok .next) ∧ seqS f r vs1 = some (vs', .ok .next) := by
 unfold seqS at h
 cases q : f s vs with
 | none => rw [q] at h; exact nn h
 | some y =>
  obtain ⟨vs1, z⟩ := y
  rw [q] at h
  cases z with
  | error k => exact nomatch h
  | ok g => cases g with
   | next => exact ⟨vs1, rfl, h⟩
   | ret d => exact nomatch h
theorem bndS_next {α : Type} {x : MR α} {f : α → SR} {vs vs' : Vars} (h : bndS vs x f = some (vs', .ok .next)) : ∃ a, x = some (.ok a) ∧ f a = some (vs', .ok .next) := by
 cases x with
 | none => exact nn h
 | some y => cases y with
  | error k => exact nomatch h
  | ok a => exact ⟨a, rfl, h⟩
end
section
variable {c : Ct} {s : Shared} {E : VQ} {mg mb : NM} {cx : Cx} {ad : Addr} {Q : FQ}
theorem g_assign {x y : SStr} {e1 : Expr} {p1 p2 : Pos} {t : D} (R : Room c.A c.env c.l c.n) (hx : c.env.kindOf x = some .local) (hy : c.env.kindOf y = some .local) (ne : y ≠ x) (nx : lk c.vs x = none) (f2 : isComp e1 = false) (tr : c.Tr (eval e1 c.env) (.ok t)) (I : c.I s.heap) (pl : PlaceOf c.env s.heap y ad)
  (h : ∀ h' tk, (c.at c.W (upd c.vs x (.imm t))).I h' → PlaceOf c.env h' y ad → Off c.W (frs c.l) s.heap h' → Q .next { s with heap := h', toks := tk }) : wpAny c.M c.A (exec (.Assign [.Name x p1] e1 p2) c.env) Q E s := by
 refine wpAny_Assign_Name (tr s _ _ I fun h2 tk2 vv u2 rv => ?_) (swaps_no f2)
 have I2 := Inv.up I u2
 obtain ⟨m2, hn2, bd2⟩ := pl.up u2
 refine wpAny_storeName_local (s := { s with heap := h2, toks := tk2 }) hx hn2 (fun h3 hn3 sb3 => ?_) (by rw [R.kd]; rfl)
 obtain ⟨I3, o3⟩ := Inv.free I2 hn2 nx hn3 (fun y ny => if_neg ny) sb3
 refine h h3 _ (Inv.addImm I3 hn3 hx (if_pos rfl) (Rep.off rv o3 fun _ m => .inl m)) ⟨_, hn3, .inl ⟨hy, ?_⟩⟩ (Off.trans (Up.off u2) o3 fun _ m => .inl m)
 rw [if_neg ne]
 rcases bd2 with ⟨_, z⟩ | ⟨z | z, _⟩
 ·exact z
 ·rw [hy] at z; exact nomatch z
 ·rw [hy] at z; exact nomatch z
theorem g_store {x : SStr} {e3 e4 : Expr} {p3 p4 p5 : Pos} {l : List (D × D)} {k d : D} (R : Room c.A c.env c.l c.n) (f3 : isComp e4 = false) (hfd : lk c.vs x = some (.own (.dict l))) (t4 : c.Tr (eval e4 c.env) (.ok d)) (t3 : c.Tr (eval e3 c.env) (.ok k)) (g1 : isKey k = true) (g3 : l.length ≤ 1000) (I : c.I s.heap) (pl : PlaceOf c.env s.heap x ad)
  (h : ∀ h' tk, Frs c.hb c.l h' → c.hb.StaysIn h' → OwnAt c.prog c.w c.S c.W (frs c.l) h' ad (.dict (dset l k d)) → Off c.W (frs c.l) s.heap h' → Q .next { s with heap := h', toks := tk }) : wpAny c.M c.A (exec (.Assign [.Subscript (.Name x p3) e3 p4] e4 p5) c.env) Q E s := by
 refine wpAny_Assign_Subscript (t4 s _ _ I fun h5 tk5 vd u5 rvd => ?_) (swaps_no f3)
 have I6 := Inv.up I u5
 refine name_place (s := { s with heap := h5, toks := tk5 }) R I6 hfd fun ad' pl' => ?_
 obtain rfl : ad' = ad := place_one pl' (pl.up u5)
 refine t3 { s with heap := h5, toks := tk5 } _ _ I6 fun h6 tk6 va u6 rva => ?_
 obtain ⟨ky, rfl, _⟩ := key_inv g1
 exact item_core (s := { s with heap := h6, toks := tk6 }) (Nat.lt_of_le_of_lt (by omega) R.un) (Inv.up I6 u6) hfd (pl'.up u6) rva (Rep.up rvd u6) g3 fun h7 tk7 sb7 own7 I8 o8 => h h7 _ I8.fr I8.stay own7 (Off.trans (Up.off (Up.trans u5 u6)) o8 fun _ m => .inl m)
theorem gins_body {fn : Fn} {e1 e2 e3 e4 : Expr} {p1 p2 p3 p4 p5 p6 : Pos} {a : List Stmt} {d k v : D} {k1 i : Nat} {vs' : Vars} (B : Bs c.prog c.w c.hb c.C mg mb) (R : Room c.A c.env c.l c.n) (K : CxO c.prog c.w c.hb c.C mg c.n cx) (eN : c.env.scope.names = fn.names)
  (t1 : fn.names.lookup bN = some .local) (t4 : fn.names.lookup gTotal = some .local) (f1 : isFresh fn.names e1 = false) (f2 : isComp e1 = false) (f3 : isComp e4 = false) (f4 : aA (gvs d k v) (bY 20 e1) = gvs d k v)
  (f5 : ∀ t, aA (upd (gvs d k v) gTotal (.imm t)) (bY 20 e4 ++ bY 20 e3) = upd (gvs d k v) gTotal (.imm t)) (f6 : ∀ cx k1 i vs, seqS (exS cx k1 fn.names i) a vs = none)
  (hvs : c.vs = gvs d k v) (I : c.I s.heap) (pl : PlaceOf c.env s.heap bN ad)
  (h : seqS (exS cx k1 fn.names i) [.Assign [.Name gTotal p1] e1 p2, .If e2 a [.Assign [.Subscript (.Name bN p3) e3 p4] e4 p5] p6] (gvs d k v) = some (vs', .ok .next))
  (hQ : ∀ h' tk r, lk vs' bN = some (.own r) → Frs c.hb c.l h' → c.hb.StaysIn h' → OwnAt c.prog c.w c.S c.W (frs c.l) h' ad r → Off c.W (frs c.l) s.heap h' → Q .next { s with heap := h', toks := tk }) :
  wpAny c.M c.A (execs [.Assign [.Name gTotal p1] e1 p2, .If e2 a [.Assign [.Subscript (.Name bN p3) e3 p4] e4 p5] p6] c.env) Q E s := by
 have ek : ∀ y, c.env.kindOf y = fn.names.lookup y := fun y => by show c.env.scope.names.lookup y = _; rw [eN]
 have says : ∀ m vs x r, (ev cx m false fn.names vs x = some r → (c.at c.W vs).Tr (eval x c.env) r) ∧ (ev cx m true fn.names vs x = some r → (c.at c.W vs).Ts (isTrue x c.env (eval x c.env)) r) := fun m vs x r => eN ▸ ev_says (c := c) B K.ok m c.S c.W c.env vs x r R
 cases i with
 | zero => exact nn h
 | succ i =>
  obtain ⟨vs1, h1, hr⟩ := seqS_next h
  replace h1 : exName cx (ev cx i) fn.names (gvs d k v) gTotal e1 = some (vs1, .ok .next) := h1
  unfold exName at h1
  rw [show bM fn.names gTotal = true by unfold bM; rw [t4]; rfl, f1, f4] at h1
  obtain ⟨t, q1, h1⟩ := bndS_next h1
  obtain ⟨hv1, _⟩ := sp h1
  replace f5 := f5 t
  have hfd : lk vs1 bN = some (.own d) := by rw [← hv1]; rfl
  refine wpAny_execs_cons (g_assign (c := c.at c.W c.vs) R ((ek _).trans t4) ((ek _).trans t1) (by decide +kernel) (by show lk c.vs _ = none; rw [hvs]; rfl) f2 (hvs ▸ (says i _ _ _).1 q1) I pl fun h2 tk2 I2 pl2 o2 => ?_)
  replace I2 : (c.at c.W vs1).I h2 := by rw [← hv1]; exact hvs ▸ I2
  rw [hv1] at f5
  obtain ⟨vs2, h2', hr⟩ := seqS_next hr
  obtain rfl := congrArg Prod.fst (si hr)
  replace h2' : exIf (ev cx i) (seqS (exS cx k1 fn.names i)) fn.names vs1 e2 a [.Assign [.Subscript (.Name bN p3) e3 p4] e4 p5] = some (vs2, .ok .next) := h2'
  obtain ⟨tb, q2, h2'⟩ := bndS_next h2'
  refine wpAny_execs_cons (wpAny_If ((says i _ _ _).2 q2 { s with heap := h2, toks := tk2 } _ _ I2 fun h4 tk4 bv u4 rbv b eb => ?_))
  subst eb
  have hb : tb = .bool b := by
   cases tb with
   | bool x => exact congrArg PyData.bool (Value.bool.inj (bQ rbv)).symm
   | _ => exact nn h2'
  subst hb
  cases b with
  | true => exact nox (f6 _ _ _ _) h2'
  | false =>
   cases i with
   | zero => exact nn h2'
   | succ i =>
    obtain ⟨vs3, h3, hr⟩ := seqS_next h2'
    obtain rfl := congrArg Prod.fst (si hr)
    replace h3 : exItem (ev cx i) fn.names vs1 bN e3 e4 = some (vs3, .ok .next) := h3
    unfold exItem at h3
    rw [f3, f5] at h3
    obtain ⟨d', q3, z1⟩ := bndS_next h3
    obtain ⟨o, w1, z2⟩ := obi z1
    obtain ⟨l, w2, z3⟩ := obi z2
    obtain ⟨ka, q4, z4⟩ := bndS_next z3
    obtain rfl := asD_eq w2
    cases g : isKey ka && isRat d' && Nat.ble l.length 1000 with
    | false => rw [g] at z4; exact nn z4
    | true =>
     rw [g] at z4
     obtain ⟨g, g3⟩ := ba g
     obtain ⟨g1, _⟩ := ba g
     obtain ⟨rfl, _⟩ := sp z4
     exact wpAny_execs_cons (g_store (c := c.at c.W vs1) (s := { s with heap := h4, toks := tk4 }) R f3 (lkOwn_eq w1) ((says i _ _ _).1 q3) ((says i _ _ _).1 q4) g1 (lb g3) (Inv.up I2 u4) (pl2.up u4) fun h5 tk5 fr5 st5 own5 o5 => wpAny_execs_nil (wpAny_execs_nil (hQ h5 tk5 _ (by rw [lk_upd, if_pos rfl]) fr5 st5 own5 (Off.trans (Off.trans o2 (Up.off u4) fun _ m => .inl m) o5 fun _ m => .inl m))))
end
theorem gvs_lk {d k v : D} {x : SStr} {b : Bd} (h : lk (gvs d k v) x = some b) : (x = bN ∧ b = .own d) ∨ (x = gKind ∧ b = .imm k) ∨ (x = gNumber ∧ b = .imm v) := by
 unfold lk at h
 split at h
 ·rename_i q
  obtain rfl := si h
  exact .inl ⟨(aX.mp q).symm, rfl⟩
 ·unfold lk at h
  split at h
  ·rename_i q
   obtain rfl := si h
   exact .inr (.inl ⟨(aX.mp q).symm, rfl⟩)
  ·unfold lk at h
   split at h
   ·rename_i q
    obtain rfl := si h
    exact .inr (.inr ⟨(aX.mp q).symm, rfl⟩)
   ·exact nn h
theorem gbind {kd : SStr → Option NameKind} {a b c : Value} (k1 : kd bN = some .local) (k2 : kd gKind = some .local) (k3 : kd gNumber = some .local) :
  bindL kd ([bN, gKind, gNumber].zip [a, b, c]) (fun _ => none) bN = some a ∧ bindL kd ([bN, gKind, gNumber].zip [a, b, c]) (fun _ => none) gKind = some b ∧ bindL kd ([bN, gKind, gNumber].zip [a, b, c]) (fun _ => none) gNumber = some c := by
 have n1 : bN ≠ gNumber := by decide +kernel
 have n2 : bN ≠ gKind := by decide +kernel
 have n3 : gKind ≠ gNumber := by decide +kernel
 simp only [List.zip_cons_cons, List.zip_nil_right, bL, bL0, k1, k2, k3, if_true]
 exact ⟨by rw [if_neg n1, if_neg n2], by rw [if_neg n3], trivial⟩
section
variable {prog : Program} {w : World} {hb : Heap} {C : Addr} {mg mb : NM} {n : Nat}
theorem Inv.own1 {S : Addr → Prop} {l : List Env} {env : Env} {W : List Addr} {h : Heap} {vs : Vars} {m : NM} {ad : Addr} {kv nv : Value} {d k v : D} (I : Inv prog w hb S l env W h vs) (hn : h.Ns env.locals m)
  (k1 : env.kindOf bN = some .local) (k2 : env.kindOf gKind = some .local) (k3 : env.kindOf gNumber = some .local) (b1 : m bN = some (.ref ad)) (b2 : m gKind = some kv) (b3 : m gNumber = some nv)
  (nad : hb.get? ad = none) (ex : ∃ o, h.get? ad = some o) (nW : ad ∉ W) (nF : ad ∉ frs l) (Sad : S ad) (own : OwnAt prog w S (ad :: W) (frs l) h ad d) (rk : Rep prog w S (ad :: W) (frs l) h kv k) (rn : Rep prog w S (ad :: W) (frs l) h nv v) : Inv prog w hb S l env (ad :: W) h (gvs d k v) := by
 refine ⟨I.stay, I.fr, fun b q => ?_, mc _ I.loc, fun x c e => ?_, I.cl, I.cap, I.nd, I.fresh, I.base, m, hn, fun _ => ad, fun x d2 e => ?_, fun x d2 e => ?_, fun x y d1 d2 ex ey _ => ?_⟩
 ·rcases mp q with rfl | q
  ·exact .of nad ex
  ·exact I.wl b q
 ·obtain ⟨z1, z2, u, z3⟩ := I.cel x c e
  exact ⟨mc _ z1, z2, u, z3⟩
 ·rcases gvs_lk e with ⟨_, z⟩ | ⟨rfl, z⟩ | ⟨rfl, z⟩
  ·exact nomatch z
  ·exact Bd.imm.inj z ▸ ⟨kv, .inl ⟨k2, b2⟩, rk⟩
  ·exact Bd.imm.inj z ▸ ⟨nv, .inl ⟨k3, b3⟩, rn⟩
 ·rcases gvs_lk e with ⟨rfl, z⟩ | ⟨_, z⟩ | ⟨_, z⟩
  ·exact Bd.own.inj z ▸ ⟨.inl ⟨k1, b1⟩, mz, fun q => nW (q ▸ I.loc), fun y c e q => nW (q ▸ (I.cel y _ e).w), nF, Sad, own⟩
  ·exact nomatch z
  ·exact nomatch z
 ·have on : ∀ {x d1}, lk (gvs d k v) x = some (.own d1) → x = bN := fun e => (gvs_lk e).elim (·.1) fun z => z.elim (fun z => nomatch z.2) fun z => nomatch z.2
  exact (on ex).trans (on ey).symm
inductive InsAt (run : Fn → Vars → SR) (fn : Fn) (d k v : D) (r : XD) : Prop
 | mk (vs' : Vars) (d' : D) : run fn (gvs d k v) = some (vs', .ok .next) → lk vs' bN = some (.own d') → r = .ok d' → InsAt run fn d k v r
theorem insR_at {run : Fn → Vars → SR} {fn : Fn} {d k v : D} {r : XD} (hfn : fnOf ginsN = some fn) (hpar : fn.params = [bN, gKind, gNumber]) (h : insR run d k v = some r) : InsAt run fn d k v r := by
 unfold insR at h
 rw [hfn] at h
 dsimp only at h
 rw [hpar] at h
 dsimp only at h
 replace h : (match run fn (gvs d k v) with
   | some (vs, .ok .next) => match lk vs bN with
    | some (.own r) => rt r
    | _ => none
   | _ => none) = some r := h
 cases q : run fn (gvs d k v) with
 | none => rw [q] at h; exact nn h
 | some y =>
  rw [q] at h
  obtain ⟨vs, y⟩ := y
  cases y with
  | error k => exact nn h
  | ok g => cases g with
   | ret d => exact nn h
   | next =>
    replace h : (match lk vs bN with
     | some (.own r) => rt r
     | _ => none) = some r := h
    cases q2 : lk vs bN with
    | none => rw [q2] at h; exact nn h
    | some b =>
     rw [q2] at h
     cases b with
     | imm d => exact nn h
     | own d' => exact ⟨vs, d', q, q2, (si h).symm⟩
theorem ins_ok {cx : Cx} {k1 i : Nat} {d k v : D} {r : XD} (B : Bs prog w hb C mg mb) (K : CxO prog w hb C mg n cx) (h : insR (fun fn vs => seqS (exS cx k1 fn.names i) fn.body vs) d k v = some r) : ∃ d', r = .ok d' ∧ SoundIns prog w hb mg (n + 1) d k v d' := by
 obtain ⟨fn, e1, e2, e3, e4, p1, p2, p3, p4, p5, p6, a, hfn, hpar, hbody, t1, t2, t3, t4, f1, f2, f3, f4, f5, f6⟩ := gins_is
 obtain ⟨vs', d', hs, hd', hr⟩ := insR_at hfn hpar h
 refine ⟨d', hr, ⟨fn, hfn⟩, fun fa A l S s ad kv nv as os Q E hma hh hf hd hu st fr fresh base Sad nad adF ro ko ra ka p => ?_⟩
 refine entered B hfn hma (by omega) st (by rw [hpar]; rfl) fun env s₁ ce X => ?_
 have Rm := ce.rm hh hf hd hu
 have hns := X.toInCall.ns
 obtain ⟨W, I, wn, h1, tk1, rfl, kp⟩ := Inv.enter (ds := [d, k, v]) (vs := [(bN, .imm d), (gKind, .imm k), (gNumber, .imm v)]) ce.loc rfl ce.fr ce.cl st fr fresh base ce.ok ce.nm ce.kd (.cons ro ra) (fun b m => by
  rcases mq m with m | m
  ·rcases mp m with rfl | m
   ·exact ⟨Sad, n0, adF⟩
   ·exact ⟨(ko b m).1, n0, (ko b m).2.2⟩
  ·exact ⟨(ka b m).1, n0, (ka b m).2.2⟩) (by rw [hpar]; rfl) X
 have ek : ∀ y, env.kindOf y = fn.names.lookup y := fun y => by show env.scope.names.lookup y = _; rw [ce.nm]
 have old : ∀ {b}, (∃ o, s.heap.get? b = some o) → b ∉ W ∧ b ∉ [env.locals] := fun {b} ⟨o, e⟩ => ⟨fun m => nox (wn b m) e, fun m => nox (wn _ I.loc) (ms m ▸ e)⟩
 rw [hpar] at hns
 obtain ⟨b1, b2, b3⟩ := gbind (a := .ref ad) (b := kv) (c := nv) (kd := env.kindOf) ((ek _).trans t1) ((ek _).trans t2) ((ek _).trans t3)
 have notF : ∀ {b}, b ∉ frs l → (∃ o, s.heap.get? b = some o) → b ∉ frs (env :: l) := fun nF e m => (mp (ce.frs ▸ m)).elim (fun q => (old e).2 (List.mem_singleton.mpr q)) nF
 have okk : ∀ {b}, Okk S [ad] (frs l) b → (∃ o, s.heap.get? b = some o) → Okk S (ad :: W) (frs (env :: l)) b := fun {b} z e => ⟨z.1, fun m => (mp m).elim (fun q => z.2.1 (List.mem_singleton.mpr q)) (old e).1, notF z.2.2 e⟩
 have rep : ∀ {u x bs}, Rd prog w s.heap u x bs → (∀ b ∈ bs, Okk S [ad] (frs l) b) → Rep prog w S (ad :: W) (frs (env :: l)) h1 u x := fun rd z => ⟨_, Rd.keep (fun b _ o e => kp b o e) rd, fun b mb => okk (z b mb) (Rd.alive rd b mb)⟩
 obtain ⟨va, vb, vca, vcb, z1, rfl, rk, z2⟩ := bB ra
 obtain ⟨vc, vd, vce, vcf, z3, rfl, rn, z4⟩ := bB z2
 obtain ⟨rfl, rfl⟩ := List.cons.inj z1
 obtain ⟨rfl, rfl⟩ := List.cons.inj z3
 have ead := Rd.alive ro ad mz
 have I2 := Inv.own1 (d := d) I hns ((ek _).trans t1) ((ek _).trans t2) ((ek _).trans t3) b1 b2 b3 nad (ead.imp fun o e => kp _ _ e) (old ead).1 (notF adF ead) Sad ⟨os, Rd.keep (fun b _ o e => kp b o e) ro, fun b mb => okk (ko b mb) (Rd.alive ro b (mc _ mb))⟩ (rep rk fun b mb => ka b (ml _ mb)) (rep rn fun b mb => ka b (mr _ (ml _ mb)))
 rw [hbody] at hs ⊢
 refine gins_body (c := ⟨prog, w, A.deeper env, env, env :: l, n, hb, C, S, ad :: W, gvs d k v⟩) (s := { s with heap := h1, toks := tk1 }) B Rm K ce.nm t1 t4 f1 f2 f3 (f4 d k v) (f5 d k v) f6 rfl I2 ⟨_, hns, .inl ⟨(ek _).trans t1, b1⟩⟩ hs fun h2 tk2 r2 e2 fr2 st2 own2 o2 => ?_
 obtain rfl := oo (hd'.symm.trans e2)
 obtain ⟨os2, ro2, ko2⟩ := own2
 refine p h2 tk2 (fun b o e => ?_) fr2.2.2 st2 ⟨os2, ro2, fun b mb => ⟨(ko2 b mb).1, fun q => (ko2 b mb).2.1 (ms q ▸ mz), fun q => (ko2 b mb).2.2 (ce.sub q)⟩⟩
 rcases o2 b o (kp b o e) with ⟨mb, z⟩ | z
 ·rcases mp mb with rfl | mb
  ·exact .inl ⟨List.mem_singleton_self _, z⟩
  ·exact absurd mb (old ⟨_, e⟩).1
 ·exact .inr (kept_tail ce.tail e z)
theorem ctx_ok (B : Bs prog w hb C mg mb) (KC : Cls hb C) (e1 : mg (nm "Exception") = none) (e2 : mb (nm "Exception") = some (.type "Exception")) : ∀ N f g, callN N f = some g → (∃ q, fnOf f = some q) ∧ ∀ ds r, g ds = some r → SoundCall prog w hb C mg N f ds r
 | 0, _, _, h => by exact nn h
 | 1, _, _, h => by exact nn h
 | N + 2, f, g, h => by
  have h : (match fnOf f with
   | some fn => some fun as => runFn ⟨callN (N + 1), insR fun fn vs => seqS (exS ⟨callN N, fun _ _ _ => none, globD⟩ 2000 fn.names 40) fn.body vs, globD⟩ 2000 40 fn as
   | none => none) = some g := h
  cases hfn : fnOf f with
  | none => rw [hfn] at h; cases h
  | some fn =>
   rw [hfn] at h
   obtain rfl := si h
   have nodict : ∀ M, callN M (nm "dict") = none := fun M => by
    have hd : fnOf (nm "dict") = none := by kernel_rfl
    match M with
    | 0 => rfl
    | 1 => rfl
    | M + 2 => show (match fnOf (nm "dict") with | some fn => some (runFn ⟨callN (M + 1), insR fun fn vs => seqS (exS ⟨callN M, fun _ _ _ => none, globD⟩ 2000 fn.names 40) fn.body vs, globD⟩ 2000 40 fn) | none => none) = _; rw [hd]
   have K0 : CxO prog w hb C mg N ⟨callN N, fun _ _ _ => none, globD⟩ := ⟨⟨ctx_ok B KC e1 e2 N, fun x d z => z⟩, fun d k v r z => (by exact nn z), nodict N⟩
   have K1 : CxO prog w hb C mg (N + 1) ⟨callN (N + 1), insR fun fn vs => seqS (exS ⟨callN N, fun _ _ _ => none, globD⟩ 2000 fn.names 40) fn.body vs, globD⟩ := ⟨⟨ctx_ok B KC e1 e2 (N + 1), fun x d z => z⟩, fun d k v r z => ins_ok B K0 z, nodict _⟩
   exact ⟨⟨fn, rfl⟩, fun ds r z => call_ok B ⟨KC, Nat.le_add_left 1 N, e1, e2⟩ K1 hfn z⟩
theorem callR_ok (B : Bs prog w hb C mg mb) (KC : Cls hb C) (e1 : mg (nm "Exception") = none) (e2 : mb (nm "Exception") = some (.type "Exception")) {N : Nat} {f : SStr} {ds : List D} {r : XD} (h : callR N f ds = some r) : SoundCall prog w hb C mg N f ds r := by
 unfold callR at h
 split at h
 ·rename_i hg
  exact (ctx_ok B KC e1 e2 N f _ hg).2 ds r h
 ·exact nn h
end
theorem t1_ok {R : D → MR D} {run : TF} (h : ∀ a, run [a] = R a) : ∀ ds r, t1 R ds = some r → run ds = some r
 | [], _, z => nn z
 | [a], _, z => (h a).trans z
 | _ :: _ :: _, _, z => nn z
theorem t2_ok {R : D → D → MR D} {run : TF} (h : ∀ a b, run [a, b] = R a b) : ∀ ds r, t2 R ds = some r → run ds = some r
 | [], _, z => nn z
 | [_], _, z => nn z
 | [a, b], _, z => (h a b).trans z
 | _ :: _ :: _ :: _, _, z => nn z
theorem t3_ok {R : D → D → D → MR D} {run : TF} (h : ∀ a b c, run [a, b, c] = R a b c) : ∀ ds r, t3 R ds = some r → run ds = some r
 | [], _, z => nn z
 | [_], _, z => nn z
 | [_, _], _, z => nn z
 | [a, b, c], _, z => (h a b c).trans z
 | _ :: _ :: _ :: _ :: _, _, z => nn z
theorem t4_ok {R : D → D → D → D → MR D} {run : TF} (h : ∀ a b c d, run [a, b, c, d] = R a b c d) : ∀ ds r, t4 R ds = some r → run ds = some r
 | [], _, z => nn z
 | [_], _, z => nn z
 | [_, _], _, z => nn z
 | [_, _, _], _, z => nn z
 | [a, b, c, d], _, z => (h a b c d).trans z
 | _ :: _ :: _ :: _ :: _ :: _, _, z => nn z
theorem t5_ok {R : D → D → D → D → D → MR D} {run : TF} (h : ∀ a b c d e, run [a, b, c, d, e] = R a b c d e) : ∀ ds r, t5 R ds = some r → run ds = some r
 | [], _, z => nn z
 | [_], _, z => nn z
 | [_, _], _, z => nn z
 | [_, _, _], _, z => nn z
 | [_, _, _, _], _, z => nn z
 | [a, b, c, d, e], _, z => (h a b c d e).trans z
 | _ :: _ :: _ :: _ :: _ :: _ :: _, _, z => nn z
structure Ground0 (prog : Program) (w : World) (hb : Heap) (C : Addr) (mg mb : NM) : Prop where
 B : Bs prog w hb C mg mb
 K : Cls hb C
 e1 : mg (nm "Exception") = none
 e2 : mb (nm "Exception") = some (.type "Exception")
def SC (prog : Program) (w : World) (hb : Heap) (C : Addr) (mg : NM) (n : Nat) (f : SStr) (g : TF) : Prop := (∃ q, fnOf f = some q) ∧ ∀ ds r, g ds = some r → SoundCall prog w hb C mg n f ds r
section
variable {prog : Program} {w : World} {hb : Heap} {C : Addr} {mg mb : NM} {n m : Nat} {f : SStr} {g : TF}
theorem SoundCall.mono {ds : List D} {r : XD} (h : SoundCall prog w hb C mg n f ds r) (k : n ≤ m) : SoundCall prog w hb C mg m f ds r :=
 ⟨h.1, fun a A l S s vals as Q E h1 h2 h3 h4 h5 => h.2 a A l S s vals as Q E h1 h2 h3 (by omega) (by omega)⟩
theorem SoundIns.mono {d k v r : D} (h : SoundIns prog w hb mg n d k v r) (hk : n ≤ m) : SoundIns prog w hb mg m d k v r :=
 ⟨h.1, fun a A l S s ad kv nv as os Q E h1 h2 h3 h4 h5 => h.2 a A l S s ad kv nv as os Q E h1 h2 h3 (by omega) (by omega)⟩
theorem SC.mono (h : SC prog w hb C mg n f g) (k : n ≤ m) : SC prog w hb C mg m f g := ⟨h.1, fun ds r z => (h.2 ds r z).mono k⟩
def Tabs (prog : Program) (w : World) (hb : Heap) (C : Addr) (mg : NM) (n : Nat) (l : List (SStr × TF)) : Prop := ∀ x g, tab l x = some g → SC prog w hb C mg n x g
theorem tabs_nil : Tabs prog w hb C mg n [] := fun _ _ z => nn z
theorem tabs_cons {l : List (SStr × TF)} {k : Nat} (h1 : SC prog w hb C mg k f g) (hk : k ≤ n) (h2 : Tabs prog w hb C mg n l) : Tabs prog w hb C mg n ((f, g) :: l) := fun x g' z => by
 cases q : sEq f x with
 | true =>
  obtain rfl := aX.mp q
  unfold tab at z
  rw [q] at z
  exact si z ▸ h1.mono hk
 | false =>
  unfold tab at z
  rw [q] at z
  exact h2 x g' z
theorem sc_no (h : (fnOf f).isSome = true) : SC prog w hb C mg n f noF := ⟨ie h, fun _ _ z => nn z⟩
theorem no_ins : ∀ d k v r, aJ d k v = some r → ∃ d', r = .ok d' ∧ SoundIns prog w hb mg n d k v d' := fun _ _ _ _ z => nn z
theorem sc_of {l : List (SStr × TF)} {ins : D → D → D → MR D} (X : Ground0 prog w hb C mg mb) (hn : 1 ≤ n) (H : Tabs prog w hb C mg n l) (hi : ∀ d k v r, ins d k v = some r → ∃ d', r = .ok d' ∧ SoundIns prog w hb mg n d k v d') (hd : tab l (nm "dict") = none)
  (hf : (fnOf f).isSome = true) (hg : ∀ ds r, g ds = some r → runFn (cxT ins l) 2000 40 (fnO f) ds = some r) : SC prog w hb C mg (n + 1) f g := by
 obtain ⟨fn, hfn⟩ := ie hf
 have e : fnO f = fn := by unfold fnO; rw [hfn]; rfl
 refine ⟨⟨fn, hfn⟩, fun ds r z => ?_⟩
 have := hg ds r z
 rw [e] at this
 exact call_ok X.B ⟨X.K, hn, X.e1, X.e2⟩ ⟨⟨fun f g z => H f g z, fun x d z => z⟩, hi, hd⟩ hfn this
theorem gins_sound (X : Ground0 prog w hb C mg mb) (hn : 7 ≤ n) : ∀ d k v r, ginsF d k v = some r → ∃ d', r = .ok d' ∧ SoundIns prog w hb mg n d k v d' := fun d k v r z => by
 have hd : callN 6 (nm "dict") = none := by kernel_rfl
 obtain ⟨d', e, h⟩ := ins_ok (n := 6) X.B ⟨⟨ctx_ok X.B X.K X.e1 X.e2 6, fun x d z => z⟩, fun d k v r z => (by cases z), hd⟩ z
 exact ⟨d', e, h.mono hn⟩
theorem sc_root (X : Ground0 prog w hb C mg mb) : SC prog w hb C mg 5 (nm "root_of") root_of1 := ⟨ie (by kernel_rfl), fun ds r z => callR_ok X.B X.K X.e1 X.e2 z⟩
noncomputable abbrev SX (_ : Ground0 prog w hb C mg mb) (n : Nat) (f : SStr) (g : TF) : Prop := SC prog w hb C mg n f g
theorem tn : Tabs prog w hb C mg n [] := tabs_nil
theorem tc {l : List (SStr × TF)} {k : Nat} (h1 : SC prog w hb C mg k f g) (hk : Nat.ble k n = true) (h2 : Tabs prog w hb C mg n l) : Tabs prog w hb C mg n ((f, g) :: l) := tabs_cons h1 (lb hk) h2
theorem to {l : List (SStr × TF)} {k : Nat} (h1 : SC prog w hb C mg k f g) (hk : k ≤ n) (h2 : Tabs prog w hb C mg n l) : Tabs prog w hb C mg n ((f, g) :: l) := tabs_cons h1 hk h2
theorem so (h : 1 ≤ n) : Nat.ble 1 n = true := bl h
theorem aY {l : List (SStr × TF)} (X : Ground0 prog w hb C mg mb) (H : Tabs prog w hb C mg n l) (hn : Nat.ble 1 n = true) (hf : ((fnOf f).isSome && (tab l (nm "dict")).isNone) = true) (hg : ∀ ds r, g ds = some r → runFn (cxT aJ l) 2000 40 (fnO f) ds = some r) : SC prog w hb C mg (n + 1) f g := by
 obtain ⟨h1, h2⟩ := ba hf
 exact sc_of X (lb hn) H no_ins (ni h2) h1 hg
end
section
variable {prog : Program} {w : World} {hb : Heap} {C : Addr} {mg mb : NM} (X : Ground0 prog w hb C mg mb)
include X
theorem sc_gcd : SX X 2 (nm "gcd") gcdF :=
 aY X tn rfl (by kernel_rfl) gcdF_ok
theorem sc_rat : SX X 3 (nm "rat") ratF :=
 aY X (tc (sc_gcd X) rfl tn) rfl (by kernel_rfl) ratF_ok
theorem sc_radd : SX X 4 (nm "radd") raddF :=
 aY X (tc (sc_rat X) rfl tn) rfl (by kernel_rfl) raddF_ok
theorem sc_rsub : SX X 4 (nm "rsub") rsubF :=
 aY X (tc (sc_rat X) rfl tn) rfl (by kernel_rfl) rsubF_ok
theorem sc_rmul : SX X 4 (nm "rmul") rmulF :=
 aY X (tc (sc_rat X) rfl tn) rfl (by kernel_rfl) rmulF_ok
theorem sc_rdiv : SX X 4 (nm "rdiv") rdivF :=
 aY X (tc (sc_rat X) rfl tn) rfl (by kernel_rfl) rdivF_ok
theorem sc_rneg : SX X 2 (nm "rneg") rneg1 :=
 aY X tn rfl (by kernel_rfl) (t1_ok (rneg_eq))
theorem sc_rinv : SX X 4 (nm "rinv") rinv1 :=
 aY X (tc (sc_rat X) rfl tn) rfl (by kernel_rfl) (t1_ok (rinv_eq ratF))
theorem sc_bits_of : SX X 2 (nm "bits_of") bits_of1 :=
 aY X tn rfl (by kernel_rfl) (t1_ok (bits_of_eq))
theorem sc_rpower : SX X 5 (nm "rpower") rpower1 :=
 aY X (tc (sc_rinv X) rfl (tc (sc_bits_of X) rfl tn)) rfl (by kernel_rfl) (t2_ok (rpower_eq rinv1 bits_of1))
theorem sc_is_vast : SX X 3 (nm "is_vast") vastF :=
 aY X (tc (sc_bits_of X) rfl tn) rfl (by kernel_rfl) (vastF_ok bits_of1)
theorem sc_rcompare : SX X 2 (nm "rcompare") rcompare1 :=
 aY X tn rfl (by kernel_rfl) (t2_ok (rcompare_eq))
theorem sc_cut : SX X 2 (nm "cut") cut1 :=
 aY X tn rfl (by kernel_rfl) (t2_ok (cut_eq))
theorem sc_let : SX X 4 (nm "let") letF :=
 aY X (tc (sc_is_vast X) rfl tn) rfl (by kernel_rfl) letF_ok
theorem sc_sadd : SX X 5 (nm "sadd") sadd1 :=
 aY X (tc (sc_radd X) rfl tn) rfl (by kernel_rfl) (t2_ok (sadd_eq raddF))
theorem sc_sscale : SX X 5 (nm "sscale") sscale1 :=
 aY X (tc (sc_rmul X) rfl tn) rfl (by kernel_rfl) (t2_ok (sscale_eq rmulF))
theorem sc_mixed : SX X 5 (nm "mixed") mixedP :=
 aY X (tc (sc_radd X) rfl (tc (sc_rmul X) rfl tn)) rfl (by kernel_rfl) mixedP_ok
theorem sc_smul : SX X 6 (nm "smul") smulF :=
 aY X (tc (sc_let X) rfl (tc (sc_mixed X) rfl tn)) rfl (by kernel_rfl) smulF_ok
theorem sc_sinverse : SX X 5 (nm "sinverse") sinverse1 :=
 aY X (tc (sc_rsub X) rfl (tc (sc_let X) rfl (tc (sc_rmul X) rfl (tc (sc_rdiv X) rfl tn)))) rfl (by kernel_rfl) (t1_ok (sinverse_eq rsubF letF rmulF rdivF))
theorem sc_sderive : SX X 5 (nm "sderive") sderive1 :=
 aY X (tc (sc_rmul X) rfl tn) rfl (by kernel_rfl) (t1_ok (sderive_eq rmulF))
theorem sc_sintegrate : SX X 5 (nm "sintegrate") sintegrate1 :=
 aY X (tc (sc_rdiv X) rfl tn) rfl (by kernel_rfl) (t1_ok (sintegrate_eq rdivF))
theorem sc_need_begin : SX X 3 (nm "need_begin") bU :=
 aY X (tc (sc_rcompare X) rfl tn) rfl (by kernel_rfl) (t2_ok (need_begin_eq rcompare1))
theorem sc_sexp : SX X 5 (nm "sexp") sexp1 :=
 aY X (tc (sc_need_begin X) rfl (tc (sc_radd X) rfl (tc (sc_rmul X) rfl (tc (sc_let X) rfl (tc (sc_rdiv X) rfl tn))))) rfl (by kernel_rfl) (t1_ok (sexp_eq bU raddF rmulF letF rdivF))
theorem sc_slog : SX X 7 (nm "slog") slog1 :=
 aY X (tc (sc_need_begin X) rfl (tc (sc_sintegrate X) rfl (tc (sc_smul X) rfl (tc (sc_sderive X) rfl (tc (sc_sinverse X) rfl tn))))) rfl (by kernel_rfl) (t1_ok (slog_eq bU sintegrate1 smulF sderive1 sinverse1))
theorem sc_ssin_cos : SX X 5 (nm "ssin_cos") ssin_cos1 :=
 aY X (tc (sc_need_begin X) rfl (tc (sc_rmul X) rfl (tc (sc_radd X) rfl (tc (sc_rsub X) rfl (tc (sc_let X) rfl (tc (sc_rdiv X) rfl tn)))))) rfl (by kernel_rfl) (t1_ok (ssin_cos_eq bU rmulF raddF rsubF letF rdivF))
theorem sc_ssin : SX X 6 (nm "ssin") ssin1 :=
 aY X (tc (sc_ssin_cos X) rfl tn) rfl (by kernel_rfl) (t1_ok (ssin_eq ssin_cos1))
theorem sc_spower : SX X 5 (nm "spower") spower1 :=
 aY X (tc (sc_need_begin X) rfl (tc (sc_rsub X) rfl (tc (sc_radd X) rfl (tc (sc_rmul X) rfl (tc (sc_let X) rfl (tc (sc_rdiv X) rfl tn)))))) rfl (by kernel_rfl) (t2_ok (spower_eq bU rsubF raddF rmulF letF rdivF))
theorem sc_swhole_power : SX X 7 (nm "swhole_power") swhole_power1 :=
 aY X (tc (sc_sinverse X) rfl (tc (sc_cut X) rfl (tc (sc_smul X) rfl tn))) rfl (by kernel_rfl) (t2_ok (swhole_power_eq sinverse1 cut1 smulF))
theorem sc_lplain : SX X 2 (nm "lplain") lplain1 :=
 aY X tn rfl (by kernel_rfl) (t2_ok (lplain_eq))
theorem sc_ladd : SX X 6 (nm "ladd") ladd1 :=
 aY X (tc (sc_sadd X) rfl tn) rfl (by kernel_rfl) (t2_ok (ladd_eq sadd1))
theorem sc_lmul : SX X 7 (nm "lmul") lmul1 :=
 aY X (tc (sc_smul X) rfl tn) rfl (by kernel_rfl) (t2_ok (lmul_eq smulF))
theorem sc_ltrim : SX X 2 (nm "ltrim") ltrim1 :=
 aY X tn rfl (by kernel_rfl) (t1_ok (ltrim_eq))
theorem sc_linverse : SX X 6 (nm "linverse") linverse1 :=
 aY X (tc (sc_ltrim X) rfl (tc (sc_sinverse X) rfl tn)) rfl (by kernel_rfl) (t1_ok (linverse_eq ltrim1 sinverse1))
theorem sc_lpower : ∀ n, SX X (7 + n) (nm "lpower") (lpowerN n)
 | 0 => sc_no (by kernel_rfl)
 | n + 1 => aY (n := 7 + n) X (to (sc_ltrim X) (by omega) (to (sc_lpower n) (by omega) (to (sc_rpower X) (by omega) (to (sc_sscale X) (by omega) (to (sc_linverse X) (by omega) (to (sc_swhole_power X) (by omega) (to (sc_spower X) (by omega) (to (sc_rdiv X) (by omega) tn)))))))) (so (by omega)) (by kernel_rfl) (t2_ok (lpower_eq ltrim1 (lpowerN n) rpower1 sscale1 linverse1 swhole_power1 spower1 rdivF))
theorem sc_exact_root : SX X 6 (nm "exact_root") exact_root1 :=
 aY X (tc (sc_root X) rfl tn) rfl (by kernel_rfl) (t2_ok (exact_root_eq root_of1))
theorem sc_from_zero : SX X 3 (nm "from_zero") from_zero1 :=
 aY X (tc (sc_ltrim X) rfl tn) rfl (by kernel_rfl) (t2_ok (from_zero_eq ltrim1))
theorem sc_of_root : SX X 7 (nm "of_root") of_root1 :=
 aY X (tc (sc_ltrim X) rfl (tc (sc_exact_root X) rfl (tc (sc_rpower X) rfl (tc (sc_rdiv X) rfl (tc (sc_sscale X) rfl (tc (sc_spower X) rfl tn)))))) rfl (by kernel_rfl) (t2_ok (of_root_eq ltrim1 exact_root1 rpower1 rdivF sscale1 spower1))
theorem sc_of_sum : SX X 7 (nm "of_sum") of_sum1 :=
 aY X (tc (sc_lplain X) rfl (tc (sc_ladd X) rfl tn)) rfl (by kernel_rfl) (t2_ok (of_sum_eq lplain1 ladd1))
theorem sc_of_call : SX X 11 (nm "of_call") of_call1 :=
 aY X (tc (sc_ltrim X) rfl (tc (sc_from_zero X) rfl (tc (sc_lmul X) rfl (tc (sc_sexp X) rfl (tc (sc_slog X) rfl (tc (sc_ssin X) rfl (tc (sc_no (n := 0) (by kernel_rfl)) rfl (tc (sc_lpower X 3) rfl (tc (sc_no (n := 0) (by kernel_rfl)) rfl tn))))))))) rfl (by kernel_rfl) (t3_ok (of_call_eq ltrim1 from_zero1 lmul1 sexp1 slog1 ssin1 noF (lpowerN 3) noF))
theorem sc_of_term : ∀ n, SX X (11 + 2 * n) (nm "of_term") (aE n)
 | 0 => sc_no (by kernel_rfl)
 | n + 1 => aY (n := 11 + 2 * n + 1) X (to (sc_lplain X) (by omega) (to (aY (n := 11 + 2 * n) X (to (sc_of_term n) (by omega) (to (sc_of_root X) (by omega) (to (sc_lpower X 3) (by omega) tn))) (so (by omega)) (by kernel_rfl) (t4_ok (of_power_eq (aE n) of_root1 (lpowerN 3)))) (by omega) (to (sc_of_call X) (by omega) (to (sc_of_term n) (by omega) (to (sc_of_sum X) (by omega) (to (sc_lmul X) (by omega) tn)))))) (so (by omega)) (by kernel_rfl) (t3_ok (of_term_eq lplain1 (t4 (of_power_R (aE n) of_root1 (lpowerN 3))) of_call1 (aE n) of_sum1 lmul1))
theorem sc_poly_sum : SX X 5 (nm "poly_sum") poly_sum1 :=
 aY X (tc (sc_radd X) rfl tn) rfl (by kernel_rfl) (t2_ok (poly_sum_eq raddF))
theorem sc_kind_product : SX X 6 (nm "kind_product") kind_product1 :=
 aY X (tc (sc_poly_sum X) rfl (tc (sc_radd X) rfl tn)) rfl (by kernel_rfl) (t2_ok (kind_product_eq poly_sum1 raddF))
theorem sc_gadd : SX X 8 (nm "gadd") gadd1 :=
 sc_of X (by decide) tn (gins_sound X (by decide)) (by kernel_rfl) (by kernel_rfl) (t2_ok (gadd_eq ginsF))
theorem sc_gmul : SX X 8 (nm "gmul") gmul1 :=
 sc_of X (by decide) (tc (sc_kind_product X) rfl (tc (sc_rmul X) rfl tn)) (gins_sound X (by decide)) (by kernel_rfl) (by kernel_rfl) (t2_ok (gmul_eq ginsF kind_product1 rmulF))
theorem sc_kind_compare : SX X 6 (nm "kind_compare") kind_compare1 :=
 aY X (tc (sc_poly_sum X) rfl (tc (sc_rcompare X) rfl (tc (sc_rneg X) rfl tn))) rfl (by kernel_rfl) (t2_ok (kind_compare_eq poly_sum1 rcompare1 rneg1))
theorem sc_fastest : SX X 7 (nm "fastest") fastest1 :=
 aY X (tc (sc_kind_compare X) rfl tn) rfl (by kernel_rfl) (t1_ok (fastest_eq kind_compare1))
theorem sc_gpower : SX X 9 (nm "gpower") gpower1 :=
 aY X (tc (sc_gmul X) rfl (tc (sc_rpower X) rfl (tc (sc_bits_of X) rfl (tc (sc_rmul X) rfl tn)))) rfl (by kernel_rfl) (t2_ok (gpower_eq gmul1 rpower1 bits_of1 rmulF))
theorem sc_gratio_power : SX X 10 (nm "gratio_power") gratio_power1 :=
 aY X (tc (sc_gpower X) rfl tn) rfl (by kernel_rfl) (t2_ok (gratio_power_eq gpower1))
theorem sc_groot : SX X 8 (nm "groot") groot1 :=
 aY X (tc (sc_fastest X) rfl (tc (sc_rmul X) rfl tn)) rfl (by kernel_rfl) (t2_ok (groot_eq fastest1 rmulF))
theorem sc_exponent_of : SX X 2 (nm "exponent_of") exponent_of1 :=
 aY X tn rfl (by kernel_rfl) (t1_ok (exponent_of_eq))
theorem sc_growth_of : ∀ n, SX X (10 + 2 * n) (nm "growth_of") (aH n)
 | 0 => sc_no (by kernel_rfl)
 | n + 1 => aY (n := 10 + 2 * n + 1) X (to (aY (n := 10 + 2 * n) X (to (sc_growth_of n) (by omega) (to (sc_groot X) (by omega) (to (sc_gratio_power X) (by omega) (to (sc_exponent_of X) (by omega) tn)))) (so (by omega)) (by kernel_rfl) (t2_ok (growth_of_other_eq (aH n) groot1 gratio_power1 exponent_of1))) (by omega) (to (sc_growth_of n) (by omega) (to (sc_gadd X) (by omega) (to (sc_gmul X) (by omega) tn)))) (so (by omega)) (by kernel_rfl) (t2_ok (growth_of_eq (t2 (growth_of_other_R (aH n) groot1 gratio_power1 exponent_of1)) (aH n) gadd1 gmul1))
theorem sc_far_limit : SX X 8 (nm "far_limit") far_limit1 :=
 aY X (tc (sc_kind_compare X) rfl (tc (sc_rmul X) rfl (tc (sc_fastest X) rfl (tc (sc_rpower X) rfl tn)))) rfl (by kernel_rfl) (t1_ok (far_limit_eq kind_compare1 rmulF fastest1 rpower1))
theorem sc_from_begin : SX X 3 (nm "from_begin") from_begin1 :=
 aY X (tc (sc_ltrim X) rfl tn) rfl (by kernel_rfl) (t2_ok (from_begin_eq ltrim1))
theorem sc_begun_series : SX X 30 (nm "begun_series") begun_series1 :=
 aY X (tc (sc_ltrim X) rfl (tc (sc_of_term X 9) rfl tn)) rfl (by kernel_rfl) (t2_ok (begun_series_eq ltrim1 (aE 9)))
theorem sc_limit_near : ∀ n, SX X (30 + n) (nm "limit_near") (limit_nearN n)
 | 0 => sc_no (by kernel_rfl)
 | n + 1 => aY (n := 30 + n) X (to (sc_from_begin X) (by omega) (to (sc_limit_near n) (by omega) (to (sc_begun_series X) (by omega) tn))) (so (by omega)) (by kernel_rfl) (t4_ok (limit_near_eq from_begin1 (limit_nearN n) begun_series1))
theorem sc_mirrored : ∀ n, SX X (1 + n) (nm "mirrored") (aM n)
 | 0 => sc_no (by kernel_rfl)
 | n + 1 => aY (n := 1 + n) X (to (sc_mirrored n) (by omega) tn) (so (by omega)) (by kernel_rfl) (t2_ok (mirrored_eq (aM n)))
theorem sc_limit_far : SX X 31 (nm "limit_far") limit_far1 :=
 aY X (tc (sc_from_begin X) rfl (tc (sc_far_limit X) rfl (tc (sc_begun_series X) rfl (tc (sc_growth_of X 9) rfl (tc (sc_mirrored X 8) rfl tn))))) rfl (by kernel_rfl) (t3_ok (limit_far_eq from_begin1 far_limit1 begun_series1 (aH 9) (aM 8)))
theorem sc_limit : SX X 33 (nm "limit") aK :=
 aY X (tc (sc_limit_near X 2) rfl (tc (sc_limit_far X) rfl tn)) rfl (by kernel_rfl) (t4_ok (limit_eq (limit_nearN 2) limit_far1))
theorem sc_law_drawn : SX X 2 (nm "_law_drawn") aQ :=
 aY X tn rfl (by kernel_rfl) (t3_ok (law_drawn_eq))
theorem sc_law_ratio : SX X 2 (nm "_law_ratio") bD :=
 aY X tn rfl (by kernel_rfl) (t2_ok (law_ratio_eq))
theorem sc_law_num : SX X 2 (nm "_law_num") law_num1 :=
 aY X tn rfl (by kernel_rfl) (t1_ok (law_num_eq))
theorem sc_law_first : SX X 3 (nm "_law_first") bG :=
 aY X (tc (sc_law_num X) rfl tn) rfl (by kernel_rfl) (t3_ok (law_first_eq law_num1))
theorem sc_law_second : SX X 3 (nm "_law_second") aP :=
 aY X (tc (sc_law_ratio X) rfl (tc (sc_law_num X) rfl tn)) rfl (by kernel_rfl) (t5_ok (law_second_eq bD law_num1))
theorem sc_law : SX X 34 (nm "law") law1 :=
 aY X (tc (sc_law_first X) rfl (tc (sc_law_second X) rfl (tc (sc_law_drawn X) rfl (tc (sc_limit X) rfl (tc (sc_law_num X) rfl (tc (sc_law_ratio X) rfl tn)))))) rfl (by kernel_rfl) (t1_ok (law_eq bG aP aQ aK law_num1 bD))
end
theorem uncons_eq {α : Type} {l : List α} {x : α × List α} (h : uncons l = some x) : l = x.1 :: x.2 := by
 cases l with
 | nil => exact nn h
 | cons a l => exact si h ▸ rfl
theorem clsIs_eq {v : Value} {s : String} (h : clsIs v s = true) : v = .type s := by
 cases v with
 | type t => exact congrArg Value.type (bq h)
 | _ => exact ft h
theorem bltIs_eq {v : Value} {s : String} (h : bltIs v s = true) : v = .builtin s := by
 cases v with
 | builtin t => exact congrArg Value.builtin (bq h)
 | _ => exact ft h
theorem sameV_eq {v u : Value} (h : sameV v u = true) : v = u := by
 cases v with
 | builtin t => exact (bltIs_eq h).symm
 | type t => exact (clsIs_eq h).symm
 | _ => exact ft h
inductive SeqV (d : Data) (vs : List Value) : Prop
 | mk (us : Array Value) (k : Nat) : d = .seq us k → vs = us.toList → SeqV d vs
theorem seqV_eq {d : Data} {vs : List Value} (h : seqV d = some vs) : SeqV d vs := by
 cases d with
 | seq us k => exact ⟨us, k, rfl, (si h).symm⟩
 | _ => exact nn h
theorem allB_ok {prog : Program} {w : World} {h : Heap} {f : Value → D → Bool} (hf : ∀ v d, f v d = true → ∃ as, Rd prog w h v d as) : ∀ {vs : List Value} {ds : List D}, allB f vs ds = true → ∃ as, RdAll prog w h vs ds as
 | [], ds, e => by
  rw [aZ e]
  exact ⟨[], .nil⟩
 | v :: vs, ds, e => by
  obtain ⟨x, e1, e⟩ := yes_of e
  obtain ⟨e2, e3⟩ := ba e
  obtain ⟨as, r⟩ := hf v _ e2
  obtain ⟨bs, rs⟩ := allB_ok hf e3
  rw [uncons_eq e1]
  exact ⟨_, .cons r rs⟩
theorem rdB_ok {prog : Program} {w : World} {h : Heap} : ∀ (n : Nat) (v : Value) (d : D), rdB h n v d = true → ∃ as, Rd prog w h v d as
 | 0, _, _, e => ft e
 | n + 1, v, d, e => by
  cases v with
  | int j k =>
   obtain ⟨i, e1, e⟩ := yes_of e
   rw [bA e1, bq e]
   exact ⟨_, .int _ _⟩
  | str t k =>
   obtain ⟨s, e1, e⟩ := yes_of e
   rw [asStr_eq e1, aX.mp e]
   exact ⟨_, .str _ _⟩
  | ref a =>
   obtain ⟨vs, e1, e⟩ := yes_of e
   obtain ⟨ds, e2, e⟩ := yes_of e
   obtain ⟨o, ho, e6⟩ := obi e1
   obtain ⟨e3, e4⟩ := aB e6
   obtain ⟨us, k, e5, rfl⟩ := seqV_eq e4
   obtain ⟨as, r⟩ := allB_ok (fun v d => rdB_ok n v d) e
   rw [asT_eq e2]
   exact ⟨_, .tuple ho (clsIs_eq e3) e5 r⟩
  | _ => exact ft e
theorem glob_ok {prog : Program} {w : World} {h : Heap} (e : globs.all (oneB h) = true) : ∀ x d, globD x = some d → ∃ v as, h.nsMap mainGlobals x = some v ∧ Rd prog w h v d as := fun x d hd => by
 obtain ⟨v, hv, e⟩ := yes_of (la e _ (tabS_mem hd))
 obtain ⟨as, r⟩ := rdB_ok (prog := prog) (w := w) 6 v d e
 exact ⟨v, as, hv, r⟩
theorem isV_eq {v : Option Value} {u : Value} (h : isV v u = true) : v = some u := by
 obtain ⟨x, rfl, h⟩ := yes_of h
 exact congrArg some (sameV_eq h)
theorem blt_heap {h : Heap} (e : bltVals.all (bltB h) = true) : ∀ f v, bltVal f = some v → h.nsMap mainGlobals f = none ∧ h.nsMap builtinsNs f = some v := fun f v hv => by
 obtain ⟨e1, e2⟩ := ba (la e _ (tabS_mem hv))
 exact ⟨ni e1, isV_eq e2⟩
theorem funcOf_eq {d : Data} {fd : FuncData} (h : funcOf d = some fd) : d = .func fd := by
 cases d with
 | func f => exact congrArg Data.func (si h)
 | _ => exact nn h
theorem fieldsOf_eq {d : Data} {vs : Array Value} (h : fieldsOf d = some vs) : d = .fields vs := by
 cases d with
 | fields f => exact congrArg Data.fields (si h)
 | _ => exact nn h
theorem clsOf_eq {d : Data} {c : ClassData} (h : clsOf d = some c) : d = .cls c := by
 cases d with
 | cls f => exact congrArg Data.cls (si h)
 | _ => exact nn h
theorem refOf_eq {v : Value} {a : Addr} (h : refOf v = some a) : v = .ref a := by
 cases v with
 | ref f => exact congrArg Value.ref (si h)
 | _ => exact nn h
theorem strV_eq {v : Value} {q : SStr} (h : strV v q = true) : ∃ t, v = .str q t := by
 cases v with
 | str s t => exact ⟨t, by rw [aX.mp h]⟩
 | _ => exact ft h
theorem noneV_eq {v : Value} (h : noneV v = true) : v = .none := by
 cases v with
 | none => rfl
 | _ => exact ft h
inductive FnRead (h : Heap) (a : Addr) (fd : FuncData) : Prop
 | mk (o : Obj) : h.get? a = some o → o.cls = .type "function" → o.data = .func fd → FnRead h a fd
theorem fnRead_eq {h : Heap} {a : Addr} {fd : FuncData} (e : fnRead h a = some fd) : FnRead h a fd := by
 obtain ⟨o, ho, e⟩ := obi e
 obtain ⟨e1, e2⟩ := aB e
 exact ⟨o, ho, clsIs_eq e1, funcOf_eq e2⟩
theorem codeB_ok {h : Heap} {fd : FuncData} (e : codeB h fd = true) : h.CodeRec fd.code fd.qualname := by
 obtain ⟨c, e1, e⟩ := yes_of e
 obtain ⟨o, e2, e⟩ := yes_of e
 obtain ⟨vs, e3, e⟩ := yes_of e
 obtain ⟨v, e4, e⟩ := yes_of e
 obtain ⟨t, rfl⟩ := strV_eq e
 exact ⟨c, o, vs, t, refOf_eq e1, e2, fieldsOf_eq e3, e4⟩
inductive SlotsAt (sl : Array (Option Value)) : Prop
 | mk (k0 k1 k2 k3 k5) : sl = #[k0, k1, k2, k3, some (.builtin "Exception.__new__"), k5] → SlotsAt sl
theorem slotsB_ok {sl : Array (Option Value)} (h : slotsB sl.toList = true) : SlotsAt sl := by
 obtain ⟨sl⟩ := sl
 obtain ⟨a, h1, h⟩ := yes_of h
 obtain ⟨b, h2, h⟩ := yes_of h
 obtain ⟨c, h3, h⟩ := yes_of h
 obtain ⟨d, h4, h⟩ := yes_of h
 obtain ⟨e, h5, h⟩ := yes_of h
 obtain ⟨v, h6, h⟩ := yes_of h
 obtain ⟨f, h7, h⟩ := yes_of h
 obtain ⟨g1, g2⟩ := ba h
 exact ⟨a.1, b.1, c.1, d.1, f.1, congrArg Array.mk (by rw [show sl = _ from uncons_eq h1, uncons_eq h2, uncons_eq h3, uncons_eq h4, uncons_eq h5, h6, uncons_eq h7, bltIs_eq g1, aZ g2])⟩
theorem tysB_ok : ∀ {vs : List Value} {ss : List String}, tysB vs ss = true → vs = ss.map .type
 | [], ss, h => by rw [aZ h]; rfl
 | v :: vs, ss, h => by
  obtain ⟨s, e1, h⟩ := yes_of h
  obtain ⟨g1, g2⟩ := ba h
  rw [uncons_eq e1, clsIs_eq g1, tysB_ok g2]
  rfl
theorem mroB_ok {C : Addr} {l : List Value} (h : mroB C l = true) : l = .ref C :: excBm := by
 obtain ⟨x, h1, h⟩ := yes_of h
 obtain ⟨a, h2, h⟩ := yes_of h
 obtain ⟨g1, g2⟩ := ba h
 rw [uncons_eq h1, refOf_eq h2, Nat.eq_of_beq_eq_true g1, tysB_ok g2]
 rfl
theorem initParams_is : ∃ as, bP.1 = ⟨[], as, none, [], [], none, []⟩ ∧ as.map (·.arg) = [nm "self", nm "kind", nm "text"] := ⟨bP.1.args, by kernel_rfl, by kernel_rfl⟩
theorem initScope_is : bP.2.names = initNames ∧ bP.2.kind = .function ∧ bP.2.isCoroutine = false ∧ bP.2.isGenerator = false := ⟨by kernel_rfl, by kernel_rfl, by kernel_rfl, by kernel_rfl⟩
theorem cls_ok {h : Heap} {fd : FuncData} (e : clsRead h = some fd) (e1 : fd.body = .stmts initBody) (e2 : fd.params = bP.1) (e3 : fd.scope = bP.2) : ∃ C, h.nsMap mainGlobals (nm "CasFail") = some (.ref C) ∧ Cls h C := by
 obtain ⟨v, hv, e⟩ := obi e
 obtain ⟨C, hC, e⟩ := obi e
 obtain ⟨o, ho, e⟩ := obi e
 obtain ⟨cd, hcd, e⟩ := obi e
 obtain ⟨g, e⟩ := aB e
 obtain ⟨u, hu, e⟩ := obi e
 obtain ⟨f, hf, e⟩ := obi e
 obtain ⟨fd', hfd, e⟩ := obi e
 obtain ⟨k, e⟩ := aB e
 obtain rfl := si e
 obtain ⟨g, g6⟩ := ba g
 obtain ⟨g, g5⟩ := ba g
 obtain ⟨g, g4⟩ := ba g
 obtain ⟨g, g3⟩ := ba g
 obtain ⟨g1, g2⟩ := ba g
 obtain ⟨k1, k2⟩ := ba k
 obtain ⟨k2, k6⟩ := ba k2
 obtain ⟨k2, k5⟩ := ba k2
 obtain ⟨k3, k4⟩ := ba k2
 obtain ⟨g6, n5⟩ := ba g6
 obtain ⟨g6, n4⟩ := ba g6
 obtain ⟨g6, n3⟩ := ba g6
 obtain ⟨g6, n2⟩ := ba g6
 obtain ⟨n0, n1⟩ := ba g6
 obtain ⟨as, p1, p2⟩ := initParams_is
 obtain ⟨s1, s2, s3, s4⟩ := initScope_is
 obtain ⟨k0, k1', k2', k3', k5', hs⟩ := slotsB_ok g5
 obtain ⟨oI, o1, o2, o3⟩ := fnRead_eq hfd
 have hd := clsOf_eq hcd
 have ht := clsIs_eq g1
 obtain ⟨oc, od, odat, osl⟩ := o
 obtain ⟨cn, cb, cm, cns, cq, chd, csn, csub, cab, ccol, cdel⟩ := cd
 have hm : cm = _ := mroB_ok g2
 have hdl : cdel = false := by simpa using g4
 obtain rfl : chd = true := g3
 obtain rfl : odat = _ := hd
 obtain rfl : oc = _ := ht
 obtain rfl : osl = _ := hs
 subst hm hdl
 exact ⟨C, refOf_eq hC ▸ hv, ⟨cn, cq, cns, cb, csn, csub, cab, ccol, od, k0, k1', k2', k3', k5', h.nsMap cns, f, oI, as, fd', ho, .of_isNs n0, refOf_eq hf ▸ hu, ni n1, ni n2, ni n3, ni n4, ni n5, o1, o2, o3, e2.trans p1, p2, noneV_eq k3, e1, List.isEmpty_iff.mp k4, (congrArg Scope.names e3).trans s1, (congrArg Scope.kind e3).trans s2, (congrArg Scope.isCoroutine e3).trans s3, (congrArg Scope.isGenerator e3).trans s4, Nat.eq_of_beq_eq_true k5, Nat.eq_of_beq_eq_true k6, codeB_ok k1⟩⟩
end Mine
open PySem.W
namespace Mine
noncomputable def fnRec (s : Stmt) : Option (SStr × Arguments × List Stmt × Scope) := (stFunctionDef s).bind fun x => aG (isNil x.2.2.2.1 && x.2.2.2.2.1.isNone && isNil x.2.2.2.2.2.1) (some (x.1, x.2.1, x.2.2.1, x.2.2.2.2.2.2.1))
noncomputable def fnsOf (l : List Stmt) : List (SStr × Arguments × List Stmt × Scope) := l.filterMap fnRec
inductive FnIn (f : SStr) (fn : Fn) (l : List Stmt) : Prop
 | mk (as sc) : (f, as, fn.body, sc) ∈ fnsOf l → fn = ⟨as.args.map (·.arg), fn.body, sc.names⟩ → FnIn f fn l
theorem findFn_hit {f : SStr} {fn : Fn} : ∀ {l : List Stmt}, findFn f l = some fn → ∃ s, s ∈ l ∧ fnHit f s = some fn
 | [], e => nn e
 | s :: r, e => by
  unfold findFn at e
  cases q : fnHit f s with
  | some g => rw [q] at e; exact ⟨s, mz, q.trans e⟩
  | none =>
   rw [q] at e
   obtain ⟨s', m, z⟩ := findFn_hit e
   exact ⟨s', mc _ m, z⟩
theorem findFn_mem {f : SStr} {fn : Fn} {l : List Stmt} (e : findFn f l = some fn) : FnIn f fn l := by
 obtain ⟨s, m, h⟩ := findFn_hit e
 obtain ⟨x, h1, h⟩ := obi h
 obtain ⟨g, h⟩ := aB h
 obtain ⟨k, g4⟩ := ba g
 obtain rfl := si h
 obtain rfl := aX.mp g4
 refine ⟨x.2.1, x.2.2.2.2.2.2.1, List.mem_filterMap.mpr ⟨s, m, ?_⟩, rfl⟩
 unfold fnRec
 rw [h1]
 exact congrArg (fun b => aG b _) k
theorem recs_eq : (recsOf q).map (fun d => (d.name, d.params, d.body, d.scope)) = fnsOf pg.main.body := by kernel_rfl
theorem forms_eq : (fnsOf pg.main.body).map (fun x => x.2.1) = (fnsOf pg.main.body).map (fun x => (⟨[], x.2.1.args, none, [], [], none, []⟩ : Arguments)) := by kernel_rfl
theorem scopes_ok : ((fnsOf pg.main.body).all fun x => x.2.2.2.kind == .function && !x.2.2.2.isCoroutine && !x.2.2.2.isGenerator && fnOk ⟨x.2.1.args.map (·.arg), x.2.2.1, x.2.2.2.names⟩) = true := by kernel_rfl
structure HeadOk (hb : Heap) : Prop where
 g : hb.isNs mainGlobals = true
 b : hb.isNs builtinsNs = true
 low : ∃ o, hb.get? sysModules = some o
 glob : globs.all (oneB hb) = true
 blt : bltVals.all (bltB hb) = true
 cls : ∃ fd, clsRead hb = some fd ∧ fd.body = .stmts initBody ∧ fd.params = bP.1 ∧ fd.scope = bP.2
 x1 : hb.nsMap mainGlobals (nm "Exception") = none
 x2 : hb.nsMap builtinsNs (nm "Exception") = some (.type "Exception")
theorem ns_unique {h : Heap} {a : Addr} {m m' : NM} (x : h.Ns a m) (y : h.Ns a m') : m = m' := by
 exact funext (ns_same x y)
theorem Cls.keeps {hb h : Heap} {C : Addr} (K : Cls hb C) (k : hb.StaysIn h) : Cls h C := by
 obtain ⟨nm', q, N, bs, sn, sub, ab, col, dd, k0, k1, k2, k3, k5, mN, fI, oI, as, fd, hC, hN, h1, h2, h3, h4, h5, h6, hf, r1, r2, r3, r4, r5, r6, r7, r8, r9, r10, r11, r12, r13, hcr⟩ := K.ex
 exact ⟨nm', q, N, bs, sn, sub, ab, col, dd, k0, k1, k2, k3, k5, mN, fI, oI, as, fd, k _ _ hC, ns_stays k hN, h1, h2, h3, h4, h5, h6, k _ _ hf, r1, r2, r3, r4, r5, r6, r7, r8, r9, r10, r11, r12, r13, hcr.keeps k⟩
theorem ground0_of {R : WRecords} {XP : (NM) → Heap → Prop} {w : World} {s₀ : Shared} {mg mb : NM} {hb h : Heap} (G : Ground q ls R XP w s₀ mg mb h) (k : hb.StaysIn h) (H : HeadOk hb) : ∃ C, Ground0 pg w h C mg mb := by
 have eg : mg = hb.nsMap mainGlobals := ns_unique G.T.g (ns_stays k (.of_isNs H.g))
 have eb : mb = hb.nsMap builtinsNs := ns_unique G.T.b (ns_stays k (.of_isNs H.b))
 obtain ⟨fd, c1, c2, c3, c4⟩ := H.cls
 obtain ⟨C, hC, K⟩ := cls_ok c1 c2 c3 c4
 refine ⟨C, ⟨⟨?_, G.T.nolimit, G.T.g, G.T.b, fun x d e => ?_, fun f fn e => ?_, fun f v e => ?_, by rw [eg]; exact hC⟩, K.keeps k, by rw [eg]; exact H.x1, by rw [eb]; exact H.x2⟩⟩
 ·obtain ⟨o, e⟩ := H.low
  exact ⟨o, k _ _ e⟩
 ·obtain ⟨v, as, e1, r⟩ := glob_ok (prog := pg) (w := w) H.glob x d e
  exact ⟨v, as, by rw [eg]; exact e1, Rd.keep (fun a _ o z => k a o z) r⟩
 ·obtain ⟨as, sc, m, p⟩ := findFn_mem e
  have m' := m
  rw [← recs_eq] at m'
  obtain ⟨d, hd, hq⟩ := List.mem_map.mp m'
  obtain ⟨a, o, pm, cd, doc, h1, h2, h3, h4⟩ := G.T.fn d hd
  have ef : as = ⟨[], as.args, none, [], [], none, []⟩ := by
   have := List.map_inj_left.mp forms_eq _ m
   exact this
  have es := la scopes_ok _ m
  obtain ⟨es, s4⟩ := ba es
  obtain ⟨es, s3⟩ := ba es
  obtain ⟨s1, s2⟩ := ba es
  have q1 : d.name = f := congrArg Prod.fst hq
  have q2 : d.params = as := congrArg (fun x => x.2.1) hq
  have q3 : d.body = fn.body := congrArg (fun x => x.2.2.1) hq
  have q4 : d.scope = sc := congrArg (fun x => x.2.2.2) hq
  rw [q1] at h1 h4
  rw [q1, q2, q3, q4, ef] at h3
  refine ⟨a, h1, ⟨o, as.args, sc, pm, cd, doc, h2, h3, h4, congrArg Fn.names p.symm, bq s1, by simpa using s2, by simpa using s3, congrArg Fn.params p.symm⟩, ?_⟩
  rw [p]
  exact s4
 ·obtain ⟨e1, e2⟩ := blt_heap H.blt f v e
  exact ⟨by rw [eg]; exact e1, by rw [eb]; exact e2⟩
theorem keys_np : keysAll rows_np = true := by decide +kernel
theorem brow_np : (rows_np.all (bRow uN1 (uN5 (1)))) = true := by decide +kernel
theorem nrow_np : (rows_np.all (nRow (1))) = true := by decide +kernel
noncomputable abbrev k_np := aRow uN1 (uN5 (1)) (1) rows_np
theorem a_np_00 : k_np 0 1 er (l5 (-1) [0, 1, 1, 1, 1, 2, 1, 6]) = true := by decide +kernel
theorem a_np_01 : k_np 0 2 er (l5 (-1) [0, 1, 2, 1, 2, 1, 4, 3]) = true := by decide +kernel
theorem a_np_02 : k_np 0 3 er (l5 (-1) [0, 1, 3, 1, 9, 2, 9, 2]) = true := by decide +kernel
theorem a_np_03 : k_np 0 (-1) er (l5 (-1) [0, 1, -1, 1, 1, 2, -1, 6]) = true := by decide +kernel
theorem a_np_04 : k_np 0 (-2) er (l5 (-1) [0, 1, -2, 1, 2, 1, -4, 3]) = true := by decide +kernel
theorem a_np_05 : k_np 0 (-3) er (l5 (-1) [0, 1, -3, 1, 9, 2, -9, 2]) = true := by decide +kernel
theorem a_np_10 : k_np 1 1 er (l5 (-1) [0, 1, 1, 1, 0, 1, -1, 6]) = true := by decide +kernel
theorem a_np_11 : k_np 1 2 er (l5 (-1) [0, 1, 2, 1, 0, 1, -4, 3]) = true := by decide +kernel
theorem a_np_12 : k_np 1 3 er (l5 (-1) [0, 1, 3, 1, 0, 1, -9, 2]) = true := by decide +kernel
theorem a_np_13 : k_np 1 (-1) er (l5 (-1) [0, 1, -1, 1, 0, 1, 1, 6]) = true := by decide +kernel
theorem a_np_14 : k_np 1 (-2) er (l5 (-1) [0, 1, -2, 1, 0, 1, 4, 3]) = true := by decide +kernel
theorem a_np_15 : k_np 1 (-3) er (l5 (-1) [0, 1, -3, 1, 0, 1, 9, 2]) = true := by decide +kernel
theorem a_np_20 : k_np 2 1 er (l5 (-1) [0, 1, 1, 1, -1, 2, 1, 3]) = true := by decide +kernel
theorem a_np_21 : k_np 2 2 er (l5 (-1) [0, 1, 2, 1, -2, 1, 8, 3]) = true := by decide +kernel
theorem a_np_22 : k_np 2 3 er (l5 (-1) [0, 1, 3, 1, -9, 2, 9, 1]) = true := by decide +kernel
theorem a_np_23 : k_np 2 (-1) er (l5 (-1) [0, 1, -1, 1, -1, 2, -1, 3]) = true := by decide +kernel
theorem a_np_24 : k_np 2 (-2) er (l5 (-1) [0, 1, -2, 1, -2, 1, -8, 3]) = true := by decide +kernel
theorem a_np_25 : k_np 2 (-3) er (l5 (-1) [0, 1, -3, 1, -9, 2, -9, 1]) = true := by decide +kernel
theorem a_np_30 : k_np 3 1 (l5 0 [1, 1]) (l5 0 [1, 1, 1, 1, 1, 2, 1, 6, 1, 24]) = true := by decide +kernel
theorem a_np_31 : k_np 3 2 (l5 0 [1, 1]) (l5 0 [1, 1, 2, 1, 2, 1, 4, 3, 2, 3]) = true := by decide +kernel
theorem a_np_32 : k_np 3 3 (l5 0 [1, 1]) (l5 0 [1, 1, 3, 1, 9, 2, 9, 2, 27, 8]) = true := by decide +kernel
theorem a_np_33 : k_np 3 (-1) (l5 0 [1, 1]) (l5 0 [1, 1, -1, 1, 1, 2, -1, 6, 1, 24]) = true := by decide +kernel
theorem a_np_34 : k_np 3 (-2) (l5 0 [1, 1]) (l5 0 [1, 1, -2, 1, 2, 1, -4, 3, 2, 3]) = true := by decide +kernel
theorem a_np_35 : k_np 3 (-3) (l5 0 [1, 1]) (l5 0 [1, 1, -3, 1, 9, 2, -9, 2, 27, 8]) = true := by decide +kernel
theorem checked_np : Checked uN1 (uN5 (1)) (1) := checked_of keys_np brow_np (rows4 (fun h => rows6 h ⟨_, _, a_np_00⟩ ⟨_, _, a_np_01⟩ ⟨_, _, a_np_02⟩ ⟨_, _, a_np_03⟩ ⟨_, _, a_np_04⟩ ⟨_, _, a_np_05⟩) (fun h => rows6 h ⟨_, _, a_np_10⟩ ⟨_, _, a_np_11⟩ ⟨_, _, a_np_12⟩ ⟨_, _, a_np_13⟩ ⟨_, _, a_np_14⟩ ⟨_, _, a_np_15⟩) (fun h => rows6 h ⟨_, _, a_np_20⟩ ⟨_, _, a_np_21⟩ ⟨_, _, a_np_22⟩ ⟨_, _, a_np_23⟩ ⟨_, _, a_np_24⟩ ⟨_, _, a_np_25⟩) (fun h => rows6 h ⟨_, _, a_np_30⟩ ⟨_, _, a_np_31⟩ ⟨_, _, a_np_32⟩ ⟨_, _, a_np_33⟩ ⟨_, _, a_np_34⟩ ⟨_, _, a_np_35⟩))
theorem keys_nm : keysAll rows_nm = true := by decide +kernel
theorem brow_nm : (rows_nm.all (bRow uN1 (uN5 (-1)))) = true := by decide +kernel
theorem nrow_nm : (rows_nm.all (nRow (-1))) = true := by decide +kernel
noncomputable abbrev k_nm := aRow uN1 (uN5 (-1)) (-1) rows_nm
theorem a_nm_00 : k_nm 0 1 er (l5 (-1) [0, 1, 1, 1, -1, 2, 1, 6]) = true := by decide +kernel
theorem a_nm_01 : k_nm 0 2 er (l5 (-1) [0, 1, 2, 1, -2, 1, 4, 3]) = true := by decide +kernel
theorem a_nm_02 : k_nm 0 3 er (l5 (-1) [0, 1, 3, 1, -9, 2, 9, 2]) = true := by decide +kernel
theorem a_nm_03 : k_nm 0 (-1) er (l5 (-1) [0, 1, -1, 1, -1, 2, -1, 6]) = true := by decide +kernel
theorem a_nm_04 : k_nm 0 (-2) er (l5 (-1) [0, 1, -2, 1, -2, 1, -4, 3]) = true := by decide +kernel
theorem a_nm_05 : k_nm 0 (-3) er (l5 (-1) [0, 1, -3, 1, -9, 2, -9, 2]) = true := by decide +kernel
theorem a_nm_10 : k_nm 1 1 er (l5 (-1) [0, 1, 1, 1, 0, 1, -1, 6]) = true := by decide +kernel
theorem a_nm_11 : k_nm 1 2 er (l5 (-1) [0, 1, 2, 1, 0, 1, -4, 3]) = true := by decide +kernel
theorem a_nm_12 : k_nm 1 3 er (l5 (-1) [0, 1, 3, 1, 0, 1, -9, 2]) = true := by decide +kernel
theorem a_nm_13 : k_nm 1 (-1) er (l5 (-1) [0, 1, -1, 1, 0, 1, 1, 6]) = true := by decide +kernel
theorem a_nm_14 : k_nm 1 (-2) er (l5 (-1) [0, 1, -2, 1, 0, 1, 4, 3]) = true := by decide +kernel
theorem a_nm_15 : k_nm 1 (-3) er (l5 (-1) [0, 1, -3, 1, 0, 1, 9, 2]) = true := by decide +kernel
theorem a_nm_20 : k_nm 2 1 er (l5 (-1) [0, 1, 1, 1, 1, 2, 1, 3]) = true := by decide +kernel
theorem a_nm_21 : k_nm 2 2 er (l5 (-1) [0, 1, 2, 1, 2, 1, 8, 3]) = true := by decide +kernel
theorem a_nm_22 : k_nm 2 3 er (l5 (-1) [0, 1, 3, 1, 9, 2, 9, 1]) = true := by decide +kernel
theorem a_nm_23 : k_nm 2 (-1) er (l5 (-1) [0, 1, -1, 1, 1, 2, -1, 3]) = true := by decide +kernel
theorem a_nm_24 : k_nm 2 (-2) er (l5 (-1) [0, 1, -2, 1, 2, 1, -8, 3]) = true := by decide +kernel
theorem a_nm_25 : k_nm 2 (-3) er (l5 (-1) [0, 1, -3, 1, 9, 2, -9, 1]) = true := by decide +kernel
theorem a_nm_30 : k_nm 3 1 (l5 0 [1, 1]) (l5 0 [1, 1, -1, 1, 1, 2, -1, 6, 1, 24]) = true := by decide +kernel
theorem a_nm_31 : k_nm 3 2 (l5 0 [1, 1]) (l5 0 [1, 1, -2, 1, 2, 1, -4, 3, 2, 3]) = true := by decide +kernel
theorem a_nm_32 : k_nm 3 3 (l5 0 [1, 1]) (l5 0 [1, 1, -3, 1, 9, 2, -9, 2, 27, 8]) = true := by decide +kernel
theorem a_nm_33 : k_nm 3 (-1) (l5 0 [1, 1]) (l5 0 [1, 1, 1, 1, 1, 2, 1, 6, 1, 24]) = true := by decide +kernel
theorem a_nm_34 : k_nm 3 (-2) (l5 0 [1, 1]) (l5 0 [1, 1, 2, 1, 2, 1, 4, 3, 2, 3]) = true := by decide +kernel
theorem a_nm_35 : k_nm 3 (-3) (l5 0 [1, 1]) (l5 0 [1, 1, 3, 1, 9, 2, 9, 2, 27, 8]) = true := by decide +kernel
theorem checked_nm : Checked uN1 (uN5 (-1)) (-1) := checked_of keys_nm brow_nm (rows4 (fun h => rows6 h ⟨_, _, a_nm_00⟩ ⟨_, _, a_nm_01⟩ ⟨_, _, a_nm_02⟩ ⟨_, _, a_nm_03⟩ ⟨_, _, a_nm_04⟩ ⟨_, _, a_nm_05⟩) (fun h => rows6 h ⟨_, _, a_nm_10⟩ ⟨_, _, a_nm_11⟩ ⟨_, _, a_nm_12⟩ ⟨_, _, a_nm_13⟩ ⟨_, _, a_nm_14⟩ ⟨_, _, a_nm_15⟩) (fun h => rows6 h ⟨_, _, a_nm_20⟩ ⟨_, _, a_nm_21⟩ ⟨_, _, a_nm_22⟩ ⟨_, _, a_nm_23⟩ ⟨_, _, a_nm_24⟩ ⟨_, _, a_nm_25⟩) (fun h => rows6 h ⟨_, _, a_nm_30⟩ ⟨_, _, a_nm_31⟩ ⟨_, _, a_nm_32⟩ ⟨_, _, a_nm_33⟩ ⟨_, _, a_nm_34⟩ ⟨_, _, a_nm_35⟩))
theorem keys_fp : keysAll rows_fp = true := by decide +kernel
theorem brow_fp : (rows_fp.all (bRow (uF1 (1)) (uF5 (1)))) = true := by decide +kernel
noncomputable abbrev k_fp := aRow (uF1 (1)) (uF5 (1)) (1) rows_fp
theorem a_fp_00 : k_fp 0 1 (l5 (-1) [0, 1]) (l5 (-1) [0, 1, 1, 1, 1, 2, 1, 6, 1, 24]) = true := by decide +kernel
theorem a_fp_01 : k_fp 0 2 (l5 (-1) [0, 1]) (l5 (-1) [0, 1, 2, 1, 2, 1, 4, 3, 2, 3]) = true := by decide +kernel
theorem a_fp_02 : k_fp 0 3 (l5 (-1) [0, 1]) (l5 (-1) [0, 1, 3, 1, 9, 2, 9, 2, 27, 8]) = true := by decide +kernel
theorem a_fp_03 : k_fp 0 (-1) (l5 (-1) [0, 1]) (l5 (-1) [0, 1, -1, 1, 1, 2, -1, 6, 1, 24]) = true := by decide +kernel
theorem a_fp_04 : k_fp 0 (-2) (l5 (-1) [0, 1]) (l5 (-1) [0, 1, -2, 1, 2, 1, -4, 3, 2, 3]) = true := by decide +kernel
theorem a_fp_05 : k_fp 0 (-3) (l5 (-1) [0, 1]) (l5 (-1) [0, 1, -3, 1, 9, 2, -9, 2, 27, 8]) = true := by decide +kernel
theorem a_fp_10 : k_fp 1 1 (l5 (-1) [0, 1]) (l5 (-1) [0, 1, 1, 1, 0, 1, -1, 6, 0, 1]) = true := by decide +kernel
theorem a_fp_11 : k_fp 1 2 (l5 (-1) [0, 1]) (l5 (-1) [0, 1, 2, 1, 0, 1, -4, 3, 0, 1]) = true := by decide +kernel
theorem a_fp_12 : k_fp 1 3 (l5 (-1) [0, 1]) (l5 (-1) [0, 1, 3, 1, 0, 1, -9, 2, 0, 1]) = true := by decide +kernel
theorem a_fp_13 : k_fp 1 (-1) (l5 (-1) [0, 1]) (l5 (-1) [0, 1, -1, 1, 0, 1, 1, 6, 0, 1]) = true := by decide +kernel
theorem a_fp_14 : k_fp 1 (-2) (l5 (-1) [0, 1]) (l5 (-1) [0, 1, -2, 1, 0, 1, 4, 3, 0, 1]) = true := by decide +kernel
theorem a_fp_15 : k_fp 1 (-3) (l5 (-1) [0, 1]) (l5 (-1) [0, 1, -3, 1, 0, 1, 9, 2, 0, 1]) = true := by decide +kernel
theorem a_fp_20 : k_fp 2 1 (l5 (-1) [0, 1]) (l5 (-1) [0, 1, 1, 1, -1, 2, 1, 3, -1, 4]) = true := by decide +kernel
theorem a_fp_21 : k_fp 2 2 (l5 (-1) [0, 1]) (l5 (-1) [0, 1, 2, 1, -2, 1, 8, 3, -4, 1]) = true := by decide +kernel
theorem a_fp_22 : k_fp 2 3 (l5 (-1) [0, 1]) (l5 (-1) [0, 1, 3, 1, -9, 2, 9, 1, -81, 4]) = true := by decide +kernel
theorem a_fp_23 : k_fp 2 (-1) (l5 (-1) [0, 1]) (l5 (-1) [0, 1, -1, 1, -1, 2, -1, 3, -1, 4]) = true := by decide +kernel
theorem a_fp_24 : k_fp 2 (-2) (l5 (-1) [0, 1]) (l5 (-1) [0, 1, -2, 1, -2, 1, -8, 3, -4, 1]) = true := by decide +kernel
theorem a_fp_25 : k_fp 2 (-3) (l5 (-1) [0, 1]) (l5 (-1) [0, 1, -3, 1, -9, 2, -9, 1, -81, 4]) = true := by decide +kernel
theorem a_fp_30 : k_fp 3 1 (l5 0 [1, 1, 1, 1]) (l5 0 [1, 1, 1, 1, 1, 2, 1, 6, 1, 24, 1, 120]) = true := by decide +kernel
theorem a_fp_31 : k_fp 3 2 (l5 0 [1, 1, 2, 1]) (l5 0 [1, 1, 2, 1, 2, 1, 4, 3, 2, 3, 4, 15]) = true := by decide +kernel
theorem a_fp_32 : k_fp 3 3 (l5 0 [1, 1, 3, 1]) (l5 0 [1, 1, 3, 1, 9, 2, 9, 2, 27, 8, 81, 40]) = true := by decide +kernel
theorem a_fp_33 : k_fp 3 (-1) (l5 0 [1, 1, -1, 1]) (l5 0 [1, 1, -1, 1, 1, 2, -1, 6, 1, 24, -1, 120]) = true := by decide +kernel
theorem a_fp_34 : k_fp 3 (-2) (l5 0 [1, 1, -2, 1]) (l5 0 [1, 1, -2, 1, 2, 1, -4, 3, 2, 3, -4, 15]) = true := by decide +kernel
theorem a_fp_35 : k_fp 3 (-3) (l5 0 [1, 1, -3, 1]) (l5 0 [1, 1, -3, 1, 9, 2, -9, 2, 27, 8, -81, 40]) = true := by decide +kernel
theorem checked_fp : Checked (uF1 (1)) (uF5 (1)) (1) := checked_of keys_fp brow_fp (rows4 (fun h => rows6 h ⟨_, _, a_fp_00⟩ ⟨_, _, a_fp_01⟩ ⟨_, _, a_fp_02⟩ ⟨_, _, a_fp_03⟩ ⟨_, _, a_fp_04⟩ ⟨_, _, a_fp_05⟩) (fun h => rows6 h ⟨_, _, a_fp_10⟩ ⟨_, _, a_fp_11⟩ ⟨_, _, a_fp_12⟩ ⟨_, _, a_fp_13⟩ ⟨_, _, a_fp_14⟩ ⟨_, _, a_fp_15⟩) (fun h => rows6 h ⟨_, _, a_fp_20⟩ ⟨_, _, a_fp_21⟩ ⟨_, _, a_fp_22⟩ ⟨_, _, a_fp_23⟩ ⟨_, _, a_fp_24⟩ ⟨_, _, a_fp_25⟩) (fun h => rows6 h ⟨_, _, a_fp_30⟩ ⟨_, _, a_fp_31⟩ ⟨_, _, a_fp_32⟩ ⟨_, _, a_fp_33⟩ ⟨_, _, a_fp_34⟩ ⟨_, _, a_fp_35⟩))
theorem keys_fm : keysAll rows_fm = true := by decide +kernel
theorem brow_fm : (rows_fm.all (bRow (uF1 (-1)) (uF5 (-1)))) = true := by decide +kernel
noncomputable abbrev k_fm := aRow (uF1 (-1)) (uF5 (-1)) (-1) rows_fm
theorem a_fm_00 : k_fm 0 1 (l5 (-1) [0, 1]) (l5 (-1) [0, 1, 1, 1, -1, 2, 1, 6, -1, 24]) = true := by decide +kernel
theorem a_fm_01 : k_fm 0 2 (l5 (-1) [0, 1]) (l5 (-1) [0, 1, 2, 1, -2, 1, 4, 3, -2, 3]) = true := by decide +kernel
theorem a_fm_02 : k_fm 0 3 (l5 (-1) [0, 1]) (l5 (-1) [0, 1, 3, 1, -9, 2, 9, 2, -27, 8]) = true := by decide +kernel
theorem a_fm_03 : k_fm 0 (-1) (l5 (-1) [0, 1]) (l5 (-1) [0, 1, -1, 1, -1, 2, -1, 6, -1, 24]) = true := by decide +kernel
theorem a_fm_04 : k_fm 0 (-2) (l5 (-1) [0, 1]) (l5 (-1) [0, 1, -2, 1, -2, 1, -4, 3, -2, 3]) = true := by decide +kernel
theorem a_fm_05 : k_fm 0 (-3) (l5 (-1) [0, 1]) (l5 (-1) [0, 1, -3, 1, -9, 2, -9, 2, -27, 8]) = true := by decide +kernel
theorem a_fm_10 : k_fm 1 1 (l5 (-1) [0, 1]) (l5 (-1) [0, 1, 1, 1, 0, 1, -1, 6, 0, 1]) = true := by decide +kernel
theorem a_fm_11 : k_fm 1 2 (l5 (-1) [0, 1]) (l5 (-1) [0, 1, 2, 1, 0, 1, -4, 3, 0, 1]) = true := by decide +kernel
theorem a_fm_12 : k_fm 1 3 (l5 (-1) [0, 1]) (l5 (-1) [0, 1, 3, 1, 0, 1, -9, 2, 0, 1]) = true := by decide +kernel
theorem a_fm_13 : k_fm 1 (-1) (l5 (-1) [0, 1]) (l5 (-1) [0, 1, -1, 1, 0, 1, 1, 6, 0, 1]) = true := by decide +kernel
theorem a_fm_14 : k_fm 1 (-2) (l5 (-1) [0, 1]) (l5 (-1) [0, 1, -2, 1, 0, 1, 4, 3, 0, 1]) = true := by decide +kernel
theorem a_fm_15 : k_fm 1 (-3) (l5 (-1) [0, 1]) (l5 (-1) [0, 1, -3, 1, 0, 1, 9, 2, 0, 1]) = true := by decide +kernel
theorem a_fm_20 : k_fm 2 1 (l5 (-1) [0, 1]) (l5 (-1) [0, 1, 1, 1, 1, 2, 1, 3, 1, 4]) = true := by decide +kernel
theorem a_fm_21 : k_fm 2 2 (l5 (-1) [0, 1]) (l5 (-1) [0, 1, 2, 1, 2, 1, 8, 3, 4, 1]) = true := by decide +kernel
theorem a_fm_22 : k_fm 2 3 (l5 (-1) [0, 1]) (l5 (-1) [0, 1, 3, 1, 9, 2, 9, 1, 81, 4]) = true := by decide +kernel
theorem a_fm_23 : k_fm 2 (-1) (l5 (-1) [0, 1]) (l5 (-1) [0, 1, -1, 1, 1, 2, -1, 3, 1, 4]) = true := by decide +kernel
theorem a_fm_24 : k_fm 2 (-2) (l5 (-1) [0, 1]) (l5 (-1) [0, 1, -2, 1, 2, 1, -8, 3, 4, 1]) = true := by decide +kernel
theorem a_fm_25 : k_fm 2 (-3) (l5 (-1) [0, 1]) (l5 (-1) [0, 1, -3, 1, 9, 2, -9, 1, 81, 4]) = true := by decide +kernel
theorem a_fm_30 : k_fm 3 1 (l5 0 [1, 1, -1, 1]) (l5 0 [1, 1, -1, 1, 1, 2, -1, 6, 1, 24, -1, 120]) = true := by decide +kernel
theorem a_fm_31 : k_fm 3 2 (l5 0 [1, 1, -2, 1]) (l5 0 [1, 1, -2, 1, 2, 1, -4, 3, 2, 3, -4, 15]) = true := by decide +kernel
theorem a_fm_32 : k_fm 3 3 (l5 0 [1, 1, -3, 1]) (l5 0 [1, 1, -3, 1, 9, 2, -9, 2, 27, 8, -81, 40]) = true := by decide +kernel
theorem a_fm_33 : k_fm 3 (-1) (l5 0 [1, 1, 1, 1]) (l5 0 [1, 1, 1, 1, 1, 2, 1, 6, 1, 24, 1, 120]) = true := by decide +kernel
theorem a_fm_34 : k_fm 3 (-2) (l5 0 [1, 1, 2, 1]) (l5 0 [1, 1, 2, 1, 2, 1, 4, 3, 2, 3, 4, 15]) = true := by decide +kernel
theorem a_fm_35 : k_fm 3 (-3) (l5 0 [1, 1, 3, 1]) (l5 0 [1, 1, 3, 1, 9, 2, 9, 2, 27, 8, 81, 40]) = true := by decide +kernel
theorem checked_fm : Checked (uF1 (-1)) (uF5 (-1)) (-1) := checked_of keys_fm brow_fm (rows4 (fun h => rows6 h ⟨_, _, a_fm_00⟩ ⟨_, _, a_fm_01⟩ ⟨_, _, a_fm_02⟩ ⟨_, _, a_fm_03⟩ ⟨_, _, a_fm_04⟩ ⟨_, _, a_fm_05⟩) (fun h => rows6 h ⟨_, _, a_fm_10⟩ ⟨_, _, a_fm_11⟩ ⟨_, _, a_fm_12⟩ ⟨_, _, a_fm_13⟩ ⟨_, _, a_fm_14⟩ ⟨_, _, a_fm_15⟩) (fun h => rows6 h ⟨_, _, a_fm_20⟩ ⟨_, _, a_fm_21⟩ ⟨_, _, a_fm_22⟩ ⟨_, _, a_fm_23⟩ ⟨_, _, a_fm_24⟩ ⟨_, _, a_fm_25⟩) (fun h => rows6 h ⟨_, _, a_fm_30⟩ ⟨_, _, a_fm_31⟩ ⟨_, _, a_fm_32⟩ ⟨_, _, a_fm_33⟩ ⟨_, _, a_fm_34⟩ ⟨_, _, a_fm_35⟩))
noncomputable def fB (f : Nat) (c mm : Int) : Bool := okR (aK [bT f (cT f c) mm uF, sD "x", sD "inf", .int 1]) (topI f c mm 1) (botI f c)
noncomputable def fL (f : Nat) (c mm : Int) : Bool := okR (aK [bT f (cT f c) mm uF, sD "x", sD "-inf", .int (-1)]) (topI f c mm (-1)) (botI f c)
noncomputable def cfs (f : Nat) : List Int := match f with
 | 0 => [-2, -1, 0, 1, 2]
 | 1 => [-2, -1, 0, 1, 2]
 | _ => [0]
theorem fB_0 : ((cfs 0).all fun c => ([1, 2, -1] : List Int).all fun m => fB 0 c m) = true := by decide +kernel
theorem fB_1 : ((cfs 1).all fun c => ([1, 2, -1] : List Int).all fun m => fB 1 c m) = true := by decide +kernel
theorem fB_2 : ((cfs 2).all fun c => ([1, 2, -1] : List Int).all fun m => fB 2 c m) = true := by decide +kernel
theorem fL_0 : ((cfs 0).all fun c => ([1, 2, -1] : List Int).all fun m => fL 0 c m) = true := by decide +kernel
theorem fL_1 : ((cfs 1).all fun c => ([1, 2, -1] : List Int).all fun m => fL 1 c m) = true := by decide +kernel
theorem fL_2 : ((cfs 2).all fun c => ([1, 2, -1] : List Int).all fun m => fL 2 c m) = true := by decide +kernel
theorem in_cs {f : Nat} {c m : Int} (h : isC f c m) : cN f c ∈ cfs f ∧ m ∈ ([1, 2, -1] : List Int) :=
 ⟨in3 (P := fun f => cN f c ∈ cfs f) h.1 (by rcases h.2.1 with rfl | rfl | rfl | rfl | rfl <;> decide) (by rcases h.2.1 with rfl | rfl | rfl | rfl | rfl <;> decide) (List.mem_singleton_self 0), by rcases h.2.2 with rfl | rfl | rfl <;> decide⟩
theorem tree_cN {f : Nat} (c m : Int) (u : D) (h : f < 3) : bT f (cT f (cN f c)) m u = bT f (cT f c) m u := by
 exact in3 (P := fun f => bT f (cT f (cN f c)) m u = bT f (cT f c) m u) h rfl rfl rfl
theorem far_B1 : ∀ f c mm, isC f c mm → aK [bT f (cT f c) mm uF, sD "x", sD "inf", .int 1] = rt (rD (topI f c mm 1) (botI f c)) := fun f c mm hc => by
 have hi := in_cs hc
 have q := la (la (in3 (P := fun f => ((cfs f).all fun c => ([1, 2, -1] : List Int).all fun m => fB f c m) = true) hc.1 fB_0 fB_1 fB_2) _ hi.1) _ hi.2
 have e := okR_eq q
 obtain ⟨e1, e2, _⟩ := top_cN c mm 1 hc.1
 rw [tree_cN c mm uF hc.1, e1, e2] at e
 exact e
theorem far_B2 : ∀ f c mm, isC f c mm → aK [bT f (cT f c) mm uF, sD "x", sD "-inf", .int (-1)] = rt (rD (topI f c mm (-1)) (botI f c)) := fun f c mm hc => by
 have hi := in_cs hc
 have q := la (la (in3 (P := fun f => ((cfs f).all fun c => ([1, 2, -1] : List Int).all fun m => fL f c m) = true) hc.1 fL_0 fL_1 fL_2) _ hi.1) _ hi.2
 have e := okR_eq q
 obtain ⟨e1, e2, _⟩ := top_cN c mm (-1) hc.1
 rw [tree_cN c mm uF hc.1, e1, e2] at e
 exact e
theorem far_all : Far (uF1 1) (uF5 1) (uF1 (-1)) (uF5 (-1)) := far_of far_B1 far_B2
theorem near_B : NearB := ⟨nearB_of keys_np brow_np nrow_np, nearB_of keys_nm brow_nm nrow_nm⟩
theorem law_pure (l : List Int) (hl : l.length ≤ 63) : law1 [.list (l.map .int)] = rt (.bool true) :=
 law_true (near_0 near_B) (near_1 near_B) (near_2 near_B) (near_3 near_B) far_all checked_np checked_nm checked_fp checked_fm l hl
set_option maxHeartbeats 0
theorem head_ok {s : Shared} (e : headObs s = headVal) : HeadOk s.heap := by
 have e1 : boolsB s.heap = true := congrArg Prod.fst e
 have e2 : (clsRead s.heap).map (fun fd => (fd.body, fd.params, fd.scope)) = some (.stmts initBody, bP.1, bP.2) := congrArg Prod.snd e
 unfold boolsB at e1
 obtain ⟨e1, z7⟩ := ba e1
 obtain ⟨e1, z6⟩ := ba e1
 obtain ⟨e1, z5⟩ := ba e1
 obtain ⟨e1, z4⟩ := ba e1
 obtain ⟨e1, z3⟩ := ba e1
 obtain ⟨z1, z2⟩ := ba e1
 obtain ⟨fd, hfd, hq⟩ := me e2
 exact ⟨z1, z2, ie z3, z4, z5, ⟨fd, hfd, congrArg Prod.fst hq, congrArg (fun x => x.2.1) hq, congrArg (fun x => x.2.2) hq⟩, by simpa using z6, isV_eq z7⟩
theorem topRun_of {tb : String → Option Builtin} {p : Program} {w : World} {n₀ : Nat} {ann : Option Value} : ∀ {n : Nat} {s s' : SharedT} {t : Thread}, topRunT tb p w n₀ ann n s t = some s' → topRun tb p w n₀ ann n s.abs t = some s'.abs
 | 0, _, _, _, h => by cases h
 | n + 1, s, s', t, h => by
  unfold topRunT at h
  unfold topRun
  cases he : through t with
  | true => rw [he] at h; cases h; rfl
  | false =>
   rw [he] at h
   cases hk : stepOk n₀ ann t with
   | false => rw [hk] at h; cases h
   | true =>
    rw [hk] at h
    cases hs : stepT (denote tb) p w s t with
    | none => rw [hs] at h; cases h
    | some r => obtain ⟨s₂, t₂⟩ := r; rw [hs] at h; rw [stepT_spec hs]; exact topRun_of h
theorem boot_abs : ∀ (w : World) (os : OsState), (bootS w os).abs = ⟨boot_heap w.params, Array.mk [], boot_drawn, boot_toks, os⟩ := by
 intro w os
 kernel_rfl
theorem top_end (w : World) (os : OsState) : ∃ s : Shared, topRun treeTable pg w ((boot_heap w.params).objs.size) ((boot_heap w.params).nsMap mainGlobals "__annotations__") 2700 (bootS w os).abs (topStub pg) = some s ∧
  (staticsOk mods (bootS w os).abs.heap s.heap && namesBound pg s.heap && gensDone s && laidKept (bootS w os).abs.heap s.heap) = true ∧ openSeen q ls mods Xt true s = openGood q ls ∧ headObs s = headVal := by
 have h1 := top_1 w os
 have h2 := top_2 w os
 cases he : endOf w os with
 | none => rw [he] at h1; cases h1
 | some s =>
  rw [he] at h1 h2
  have h1 := si h1
  have h2 := si h2
  unfold tests1 at h1
  unfold tests2 at h2
  simp only [Prod.mk.injEq] at h1 h2
  obtain ⟨a0, a1, a2, a4⟩ := h1
  obtain ⟨a3, a5, c1, c2, c3, c4, c5⟩ := h2
  refine ⟨s.abs, topRun_of he, a0, ?_, a5⟩
  unfold openSeen openGood
  rw [a1, a2, a4, c1, c2, c3, c4, c5]
  simp only [if_true]
  rw [a3]
theorem items_int : ∀ {xs : List WData}, WShape.hasItems [] xs .int = true → ∃ l : List Int, xs = l.map .int
 | [], _ => ⟨[], rfl⟩
 | x :: xs, h => by
  obtain ⟨h1, h2⟩ := ba h
  obtain ⟨l, rfl⟩ := items_int h2
  obtain ⟨i, rfl⟩ := hasW_int h1
  exact ⟨i :: l, rfl⟩
theorem args_list {args : List WData} (h : WShape.hasAll [] args [.list .int] = true) : ∃ l : List Int, args = [.list (l.map .int)] := by
 cases args with
 | nil => exact ft h
 | cons x xs =>
  obtain ⟨h1, h2⟩ := ba h
  cases xs with
  | cons y ys => exact ft h2
  | nil =>
   obtain ⟨ys, rfl, hy⟩ := hasW_list h1
   obtain ⟨l, rfl⟩ := items_int hy
   exact ⟨l, rfl⟩
theorem well_ints {prog : Program} {w : World} {P : Params} {h : Heap} : ∀ {l : List Int} {vs : List Value}, WellAll P h vs (l.map .int) → RdAll prog w h vs (l.map .int) []
 | [], _, x => by
  cases x
  exact .nil
 | i :: l, _, x => by
  cases x with
  | cons x1 x2 =>
   cases x1
   exact .cons (as := []) (.int _ _) (well_ints x2)
theorem well_list {prog : Program} {w : World} {P : Params} {h : Heap} {l : List Int} {vals : List Value} (x : WellAll P h vals [.list (l.map .int)]) : ∃ a, RdAll prog w h vals [.list (l.map .int)] [a] := by
 cases x with
 | cons x1 x2 =>
  cases x2
  cases x1 with
  | list e y => exact ⟨_, .cons (.list e rfl rfl rfl (well_ints (prog := prog) (w := w) y)) .nil⟩
theorem pre_len {l : List Int} (h : (PySem.Challenge.rw_sa0124_01.row.toRowW.claim.pre [.list (l.map .int)]) = true) : l.length ≤ 63 := by
 obtain ⟨_, h2⟩ := ba h
 have e : (PySem.Challenge.rw_sa0124_01.row.toRowW.pre.holds PySem.Challenge.rw_sa0124_01.row.toRowW.records { args := [.list (l.map .int)] }) = WTm.holds [] (.and (.not (.lit (.bool (decide ((63 : Int) < Int.ofNat (l.map WData.int).length))))) (.lit (.bool true))) { args := [] } := by kernel_rfl
 rw [e] at h2
 cases hd : decide ((63 : Int) < Int.ofNat (l.map WData.int).length) with
 | true =>
  rw [hd] at h2
  cases h2
 | false =>
  have := of_decide_eq_false hd
  rw [List.length_map] at this
  have e : Int.ofNat l.length = (l.length : Int) := rfl
  omega
theorem post_ok (args : List WData) : (PySem.Challenge.rw_sa0124_01.row.toRowW.claim.post args (.bool true) args) = true := by kernel_rfl
theorem pre_args {args : List WData} (h : (PySem.Challenge.rw_sa0124_01.row.toRowW.claim.pre args) = true) : ∃ l : List Int, args = [.list (l.map .int)] := args_list (ba h).1
noncomputable def YP : World → Heap → Prop := fun _ h => ∃ hb : Heap, hb.StaysIn h ∧ HeadOk hb
theorem the_call {XP : (NM) → Heap → Prop} {d : DefRec} {kwd : List (SStr × Expr)} (hd : d.name = nm "law") : WalkO q ls XP YP PySem.Challenge.rw_sa0124_01.row.toRowW d kwd fun f vs => PySem.call f vs := by
 intro w s₀ s₁ mg mb G Y a o pm cd doc dV kV ho hdat hcd hD hmg hg args vals as hpre hlay hrd hwl hlo
 obtain ⟨hb, st, H⟩ := Y
 obtain ⟨C, X⟩ := ground0_of G st H
 obtain ⟨l, rfl⟩ := pre_args hpre
 have hl := pre_len hpre
 obtain ⟨la, ra⟩ := well_list (prog := pg) (w := w) hwl
 rw [hd] at hmg
 have hs := (sc_law X).2 _ _ (law_pure l hl)
 refine hs.2 a callerA [] (fun _ => True) s₁ vals [la] _ _ hmg rfl rfl (by show 1 + claimMargin + 34 < recursionLimit; decide) (by show 4 + 16 * 34 + 100 < cLine; decide) (fun _ _ e => e) trivial (fun _ _ => trivial) (fun _ _ _ => trivial) ra (fun _ _ => ⟨trivial, n0, n0⟩) fun h' tk v u ⟨bs, rv, _⟩ => ?_
 obtain ⟨rfl, _⟩ := rd_bool rv
 have keep : ∀ b o, s₁.heap.get? b = some o → h'.get? b = some o := fun b o e => u.at e n0
 exact GoodW.toG ⟨.inl ⟨.bool true, .bool true, [], rfl, fun _ => rfl, .bool true, post_ok _, fun _ => ⟨List.nodup_nil, fun _ m => nomatch m⟩⟩, keep, rfl, hg⟩
theorem boot_isNs (P : Params) : ((boot_heap P).isNs mainGlobals && (Array.mk ([] : List GenState)).size == 0) = true := by kernel_rfl
theorem opening_is : opening pg = plainProg pg.main.scope.names := by kernel_rfl
theorem fence_is (s : Shared) : fenceModules? pg s = some s := by kernel_rfl
theorem row_of_left {α : Type} {Yf : Shared → α} {Ya : World → α} (left : LeftO pg q ls Xt Yf Ya 2700) (hy : ∀ w s, Yf s = Ya w → YP w s.heap) (said : PySem.Challenge.rw_sa0124_01.row.wellSaid = true) : PySem.Challenge.rw_sa0124_01.row.Holds := by
 refine holds_open (r := PySem.Challenge.rw_sa0124_01.row) (q := q) (loose := ls) (Xt := Xt) (XP := XL q lv') (Yf := Yf) (Ya := Ya) (YP := YP) (N := 2700) left hy (fun w h h' ⟨hb, st, H⟩ k => ⟨hb, fun b o z => k b o (st b o z), H⟩) (fun s e => xl_of s (ba e).1) XL.keeps (by rfl) (by rfl) (by rfl) (fun s e => recFacts_of (ba e).2) (by rfl) said (by decide +kernel) ⟨rfl, rfl, rfl, rfl, rfl, whole_ok⟩ ?_ (the_call rfl)
 exact ⟨[.list []], by decide +kernel, by decide +kernel⟩
theorem ends_of {p : Program} {w : World} {N : Nat} {s₀ s : Shared} (hs : fencedOpening treeTable p w N = some s₀) (h0 : (s₀.heap.isNs mainGlobals && s₀.gens.size == 0) = true) (hr : topRun treeTable p w s₀.heap.objs.size (s₀.heap.nsMap mainGlobals "__annotations__") N s₀ (topStub p) = some s)
  (ht : (staticsOk (importedModules p.main.body) s₀.heap s.heap && namesBound p s.heap && gensDone s && laidKept s₀.heap s.heap) = true) : openEnds treeTable p w N = some s := by
 unfold openEnds
 rw [hs]
 show topFrom treeTable p w N s₀ = _
 unfold topFrom
 rw [h0]
 dsimp only
 rw [hr]
 show (match staticsOk (importedModules p.main.body) s₀.heap s.heap && namesBound p s.heap && gensDone s && laidKept s₀.heap s.heap with | true => some s | false => none) = _
 rw [ht]
theorem left_ok : LeftO pg q ls Xt headObs (fun _ => headVal) 2700 := fun w => by
 obtain ⟨s₀, hs, hv⟩ := me (boot_open (p := pg) (N := 2700) opening_is (by decide) fence_is w)
 obtain ⟨hp, g, dr, tk, os⟩ := s₀
 simp only [Prod.mk.injEq] at hv
 obtain ⟨rfl, rfl, rfl, rfl⟩ := hv
 obtain ⟨s, hr, ht, ho, hh⟩ := top_end w os
 rw [boot_abs] at hr ht
 rw [ends_of hs (boot_isNs w.params) hr ht]
 show some (openSeen q ls mods Xt true s, headObs s) = _
 rw [ho, hh]
theorem law_holds : PySem.Challenge.rw_sa0124_01.Holds := holds_law law_said (row_of_left left_ok fun w s e => ⟨s.heap, fun _ _ z => z, head_ok e⟩)
end Mine
theorem PySem.Challenge.cw_sa0124_01_holds : PySem.Challenge.rw_sa0124_01.Holds :=
  Mine.law_holds
