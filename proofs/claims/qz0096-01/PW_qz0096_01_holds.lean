import PyProof.Rows.All
import Wide.All
import OpenK.AllK
import Wide.FinOn
import Lean
import PySem.Challenge.RW_qz0096_01
set_option Elab.async false
set_option maxRecDepth 100000
set_option rowWalk.seconds 0
set_option linter.all false

open PySem PySem.W PySem.Calls PyProof.Rows
namespace Mine
def Stop (p : Prop) : Prop := p
theorem stop_of {p : Prop} (h : Stop p) : p := h
theorem Stop.go {p : Prop} (h : p) : Stop p := h
end Mine
local macro_rules | `(tactic| walk_at "call ref") => `(tactic| ((with_reducible show wpAny _ _ (call (Value.ref 491) _) _ _ _); k_extra "DIP"))
local macro_rules | `(tactic| walk_at "call ref") => `(tactic| ((with_reducible show wpAny _ _ (call (Value.ref 491) _) _ _ _); k_extra "L491"))
local macro_rules | `(tactic| walk_at "call ref") => `(tactic| ((with_reducible show wpAny _ _ (call (Value.ref 496) _) _ _ _); k_extra "LET"))
local macro_rules | `(tactic| walk_at "call ref") => `(tactic| ((with_reducible show wpAny _ _ (call (Value.ref 503) _) _ _ _); k_extra "BEGIN"))
local macro_rules | `(tactic| walk_at "call ref") => `(tactic| ((with_reducible show wpAny _ _ (call (Value.ref 508) _) _ _ _); k_extra "CUT"))
local macro_rules | `(tactic| walk_at "call ref") => `(tactic| ((with_reducible show wpAny _ _ (call (Value.ref 310) _) _ _ _); k_extra "SPAN"))
local macro_rules | `(tactic| walk_at "call ref") => `(tactic| ((with_reducible show wpAny _ _ (call (Value.ref 345) _) _ _ _); k_extra "LVB"))
local macro_rules | `(tactic| walk_at "call ref") => `(tactic| ((with_reducible show wpAny _ _ (call (Value.ref 257) _) _ _ _); k_extra "VOF"))
local macro_rules | `(tactic| walk_at "call ref") => `(tactic| ((with_reducible show wpAny _ _ (call (Value.ref 264) _) _ _ _); k_extra "TOT"))
local macro_rules | `(tactic| walk_at "call ref") => `(tactic| ((with_reducible show wpAny _ _ (call (Value.ref 324) _) _ _ _); k_extra "SPUT"))
local macro_rules | `(tactic| walk_at "call ref") => `(tactic| ((with_reducible show wpAny _ _ (call (Value.ref 420) _) _ _ _); k_extra "STORE"))
local macro_rules | `(tactic| walk_at "call ref") => `(tactic| ((with_reducible show wpAny _ _ (call (Value.ref 301) _) _ _ _); k_extra "DIE"))
local macro_rules | `(tactic| walk_at "call ref") => `(tactic| ((with_reducible show wpAny _ _ (call (Value.ref 352) _) _ _ _); k_extra "GET"))
local macro_rules | `(tactic| walk_at "call ref") => `(tactic| ((with_reducible show wpAny _ _ (call (Value.ref 515) _) _ _ _); k_extra "LPUT"))
local macro_rules | `(tactic| walk_at "call ref") => `(tactic| ((with_reducible show wpAny _ _ (call (Value.ref 359) _) _ _ _); k_extra "PUT"))
local macro_rules | `(tactic| walk_at "CompSrc") => `(tactic| (k_extra "STOPCOMP"))
local macro_rules | `(tactic| walk_at "CompSrcT") => `(tactic| (k_extra "STOPCOMP"))
local macro_rules | `(tactic| walk_at "CompEnd") => `(tactic| (k_extra "STOPCOMP"))
local macro_rules | `(tactic| walk_at "last call builtin:str.join") => `(tactic| (k_extra "STOPCOMP"))
local macro_rules | `(tactic| walk_at "setAttr ref") => `(tactic| (k_extra "SETE"))
local macro_rules | `(tactic| walk_at "call builtin:Exception.__init__") => `(tactic| (k_extra "EXCINIT"))
local macro_rules | `(tactic| walk_at "getMethod type:Exception") => `(tactic| (k_extra "GME"))
local macro_rules | `(tactic| walk_at "exec Raise some none") => `(tactic| (k_extra "RAISE"))
local macro_rules | `(tactic| walk_at "leaving ref") => `(tactic| (k_extra "LEAVE"))
local macro_rules | `(tactic| walk_at "subscriptTail Name Name ref int") => `(tactic| (k_extra "ITEM"))
local macro_rules | `(tactic| walk_at "exec For Name Call cons nil") => `(tactic| (k_extra "FOR3"))
local macro_rules | `(tactic| walk_at "call builtin:len") => `(tactic| (k_extra "LEN3"))
local macro_rules | `(tactic| walk_at "pyIter ref") => `(tactic| (k_extra "ITER3"))
local macro_rules | `(tactic| walk_at "noteFrame ref") => `(tactic| (k_extra "CAUGHT"))
local macro_rules | `(tactic| walk_at "execs cons") => `(tactic| ((with_reducible show wpAny _ _ (execs (Stmt.For _ _ _ _ _ :: _) _) _ _ _); k_extra "STOPFOR"))
local macro_rules | `(tactic| walk_at "execs cons") => `(tactic| ((with_reducible show wpAny _ _ (execs (Stmt.Assign [Expr.Name (Str.ofString "due") _] _ _ :: _) _) _ _ _); k_extra "STOPDUE"))

section
open PySem PySem.W PySem.Calls PyProof.Rows
namespace Mine.Hd
section
set_option linter.unusedVariables false
set_option maxRecDepth 100000

noncomputable abbrev prg : Program := PySem.Challenge.rw_qz0096_01.row.toRowW.prog
/- parts of the row's own text -/
noncomputable def bodyOf : Stmt → List Stmt
  | .FunctionDef _ _ b _ _ _ _ _ _ _ => b
  | .ClassDef _ _ _ b _ _ _ _ _ _ _ => b
  | _ => []
noncomputable def argsOf : Stmt → Arguments
  | .FunctionDef _ a _ _ _ _ _ _ _ _ => a
  | _ => default
noncomputable def scopeOf : Stmt → Scope
  | .FunctionDef _ _ _ _ _ _ sc _ _ _ => sc
  | _ => default
noncomputable def at1 (i : Nat) : Stmt := (PySem.Challenge.pw_qz0096_01.main.body[i]?).getD default
noncomputable def at2 (i j : Nat) : Stmt := ((bodyOf (at1 i))[j]?).getD default
noncomputable abbrev sS (x : String) : Str := Str.ofString x
noncomputable abbrev vS (x : String) (t : Nat) : Value := .str (Str.ofString x) t
noncomputable abbrev kE (P : Params) (x : String) (t : Nat) (v : Value) : DictEntry := DictEntry.mk (PyData.keyHash P (Str.ofString x)) (.str (Str.ofString x) t) v
noncomputable abbrev tQ (t : String) (xs : Array Value) : Obj := Obj.mk (.type t) none (.seq xs 0) #[]
noncomputable abbrev fQ (t : String) (xs : Array Value) : Obj := Obj.mk (.type t) none (.fields xs) #[]


noncomputable def fa1_0 : Arguments := by
  refine' (?g : ∀ x : Arguments, x = argsOf (at1 0) → Arguments) _ ?h
  case g => exact fun x _ => x
  case h => conv => rhs; whnf
noncomputable def fa1_14 : Arguments := by
  refine' (?g : ∀ x : Arguments, x = argsOf (at1 14) → Arguments) _ ?h
  case g => exact fun x _ => x
  case h => conv => rhs; whnf
noncomputable def fa1_15 : Arguments := by
  refine' (?g : ∀ x : Arguments, x = argsOf (at1 15) → Arguments) _ ?h
  case g => exact fun x _ => x
  case h => conv => rhs; whnf
noncomputable def fa1_16 : Arguments := by
  refine' (?g : ∀ x : Arguments, x = argsOf (at1 16) → Arguments) _ ?h
  case g => exact fun x _ => x
  case h => conv => rhs; whnf
noncomputable def fa1_18 : Arguments := by
  refine' (?g : ∀ x : Arguments, x = argsOf (at1 18) → Arguments) _ ?h
  case g => exact fun x _ => x
  case h => conv => rhs; whnf
noncomputable def fa1_19 : Arguments := by
  refine' (?g : ∀ x : Arguments, x = argsOf (at1 19) → Arguments) _ ?h
  case g => exact fun x _ => x
  case h => conv => rhs; whnf
noncomputable def fa1_24 : Arguments := by
  refine' (?g : ∀ x : Arguments, x = argsOf (at1 24) → Arguments) _ ?h
  case g => exact fun x _ => x
  case h => conv => rhs; whnf
noncomputable def fa1_25 : Arguments := by
  refine' (?g : ∀ x : Arguments, x = argsOf (at1 25) → Arguments) _ ?h
  case g => exact fun x _ => x
  case h => conv => rhs; whnf
noncomputable def fa1_26 : Arguments := by
  refine' (?g : ∀ x : Arguments, x = argsOf (at1 26) → Arguments) _ ?h
  case g => exact fun x _ => x
  case h => conv => rhs; whnf
noncomputable def fa1_3 : Arguments := by
  refine' (?g : ∀ x : Arguments, x = argsOf (at1 3) → Arguments) _ ?h
  case g => exact fun x _ => x
  case h => conv => rhs; whnf
noncomputable def fa1_34 : Arguments := by
  refine' (?g : ∀ x : Arguments, x = argsOf (at1 34) → Arguments) _ ?h
  case g => exact fun x _ => x
  case h => conv => rhs; whnf
noncomputable def fa1_35 : Arguments := by
  refine' (?g : ∀ x : Arguments, x = argsOf (at1 35) → Arguments) _ ?h
  case g => exact fun x _ => x
  case h => conv => rhs; whnf
noncomputable def fa1_36 : Arguments := by
  refine' (?g : ∀ x : Arguments, x = argsOf (at1 36) → Arguments) _ ?h
  case g => exact fun x _ => x
  case h => conv => rhs; whnf
noncomputable def fa1_37 : Arguments := by
  refine' (?g : ∀ x : Arguments, x = argsOf (at1 37) → Arguments) _ ?h
  case g => exact fun x _ => x
  case h => conv => rhs; whnf
noncomputable def fa1_38 : Arguments := by
  refine' (?g : ∀ x : Arguments, x = argsOf (at1 38) → Arguments) _ ?h
  case g => exact fun x _ => x
  case h => conv => rhs; whnf
noncomputable def fa1_39 : Arguments := by
  refine' (?g : ∀ x : Arguments, x = argsOf (at1 39) → Arguments) _ ?h
  case g => exact fun x _ => x
  case h => conv => rhs; whnf
noncomputable def fa2_10_0 : Arguments := by
  refine' (?g : ∀ x : Arguments, x = argsOf (at2 10 0) → Arguments) _ ?h
  case g => exact fun x _ => x
  case h => conv => rhs; whnf
noncomputable def fa2_11_0 : Arguments := by
  refine' (?g : ∀ x : Arguments, x = argsOf (at2 11 0) → Arguments) _ ?h
  case g => exact fun x _ => x
  case h => conv => rhs; whnf
noncomputable def fa2_12_0 : Arguments := by
  refine' (?g : ∀ x : Arguments, x = argsOf (at2 12 0) → Arguments) _ ?h
  case g => exact fun x _ => x
  case h => conv => rhs; whnf
noncomputable def fa2_13_0 : Arguments := by
  refine' (?g : ∀ x : Arguments, x = argsOf (at2 13 0) → Arguments) _ ?h
  case g => exact fun x _ => x
  case h => conv => rhs; whnf
noncomputable def fa2_13_1 : Arguments := by
  refine' (?g : ∀ x : Arguments, x = argsOf (at2 13 1) → Arguments) _ ?h
  case g => exact fun x _ => x
  case h => conv => rhs; whnf
noncomputable def fa2_13_2 : Arguments := by
  refine' (?g : ∀ x : Arguments, x = argsOf (at2 13 2) → Arguments) _ ?h
  case g => exact fun x _ => x
  case h => conv => rhs; whnf
noncomputable def fa2_13_3 : Arguments := by
  refine' (?g : ∀ x : Arguments, x = argsOf (at2 13 3) → Arguments) _ ?h
  case g => exact fun x _ => x
  case h => conv => rhs; whnf
noncomputable def fa2_13_4 : Arguments := by
  refine' (?g : ∀ x : Arguments, x = argsOf (at2 13 4) → Arguments) _ ?h
  case g => exact fun x _ => x
  case h => conv => rhs; whnf
noncomputable def fa2_13_5 : Arguments := by
  refine' (?g : ∀ x : Arguments, x = argsOf (at2 13 5) → Arguments) _ ?h
  case g => exact fun x _ => x
  case h => conv => rhs; whnf
noncomputable def fa2_13_6 : Arguments := by
  refine' (?g : ∀ x : Arguments, x = argsOf (at2 13 6) → Arguments) _ ?h
  case g => exact fun x _ => x
  case h => conv => rhs; whnf
noncomputable def fa2_21_0 : Arguments := by
  refine' (?g : ∀ x : Arguments, x = argsOf (at2 21 0) → Arguments) _ ?h
  case g => exact fun x _ => x
  case h => conv => rhs; whnf
noncomputable def fa2_22_0 : Arguments := by
  refine' (?g : ∀ x : Arguments, x = argsOf (at2 22 0) → Arguments) _ ?h
  case g => exact fun x _ => x
  case h => conv => rhs; whnf
noncomputable def fa2_28_0 : Arguments := by
  refine' (?g : ∀ x : Arguments, x = argsOf (at2 28 0) → Arguments) _ ?h
  case g => exact fun x _ => x
  case h => conv => rhs; whnf
noncomputable def fa2_28_1 : Arguments := by
  refine' (?g : ∀ x : Arguments, x = argsOf (at2 28 1) → Arguments) _ ?h
  case g => exact fun x _ => x
  case h => conv => rhs; whnf
noncomputable def fa2_28_2 : Arguments := by
  refine' (?g : ∀ x : Arguments, x = argsOf (at2 28 2) → Arguments) _ ?h
  case g => exact fun x _ => x
  case h => conv => rhs; whnf
noncomputable def fa2_28_3 : Arguments := by
  refine' (?g : ∀ x : Arguments, x = argsOf (at2 28 3) → Arguments) _ ?h
  case g => exact fun x _ => x
  case h => conv => rhs; whnf
noncomputable def fa2_30_0 : Arguments := by
  refine' (?g : ∀ x : Arguments, x = argsOf (at2 30 0) → Arguments) _ ?h
  case g => exact fun x _ => x
  case h => conv => rhs; whnf
noncomputable def fa2_30_1 : Arguments := by
  refine' (?g : ∀ x : Arguments, x = argsOf (at2 30 1) → Arguments) _ ?h
  case g => exact fun x _ => x
  case h => conv => rhs; whnf
noncomputable def fa2_30_10 : Arguments := by
  refine' (?g : ∀ x : Arguments, x = argsOf (at2 30 10) → Arguments) _ ?h
  case g => exact fun x _ => x
  case h => conv => rhs; whnf
noncomputable def fa2_30_11 : Arguments := by
  refine' (?g : ∀ x : Arguments, x = argsOf (at2 30 11) → Arguments) _ ?h
  case g => exact fun x _ => x
  case h => conv => rhs; whnf
noncomputable def fa2_30_2 : Arguments := by
  refine' (?g : ∀ x : Arguments, x = argsOf (at2 30 2) → Arguments) _ ?h
  case g => exact fun x _ => x
  case h => conv => rhs; whnf
noncomputable def fa2_30_3 : Arguments := by
  refine' (?g : ∀ x : Arguments, x = argsOf (at2 30 3) → Arguments) _ ?h
  case g => exact fun x _ => x
  case h => conv => rhs; whnf
noncomputable def fa2_30_4 : Arguments := by
  refine' (?g : ∀ x : Arguments, x = argsOf (at2 30 4) → Arguments) _ ?h
  case g => exact fun x _ => x
  case h => conv => rhs; whnf
noncomputable def fa2_30_5 : Arguments := by
  refine' (?g : ∀ x : Arguments, x = argsOf (at2 30 5) → Arguments) _ ?h
  case g => exact fun x _ => x
  case h => conv => rhs; whnf
noncomputable def fa2_30_6 : Arguments := by
  refine' (?g : ∀ x : Arguments, x = argsOf (at2 30 6) → Arguments) _ ?h
  case g => exact fun x _ => x
  case h => conv => rhs; whnf
noncomputable def fa2_30_7 : Arguments := by
  refine' (?g : ∀ x : Arguments, x = argsOf (at2 30 7) → Arguments) _ ?h
  case g => exact fun x _ => x
  case h => conv => rhs; whnf
noncomputable def fa2_30_8 : Arguments := by
  refine' (?g : ∀ x : Arguments, x = argsOf (at2 30 8) → Arguments) _ ?h
  case g => exact fun x _ => x
  case h => conv => rhs; whnf
noncomputable def fa2_30_9 : Arguments := by
  refine' (?g : ∀ x : Arguments, x = argsOf (at2 30 9) → Arguments) _ ?h
  case g => exact fun x _ => x
  case h => conv => rhs; whnf
noncomputable def fa2_32_0 : Arguments := by
  refine' (?g : ∀ x : Arguments, x = argsOf (at2 32 0) → Arguments) _ ?h
  case g => exact fun x _ => x
  case h => conv => rhs; whnf
noncomputable def fa2_6_0 : Arguments := by
  refine' (?g : ∀ x : Arguments, x = argsOf (at2 6 0) → Arguments) _ ?h
  case g => exact fun x _ => x
  case h => conv => rhs; whnf
noncomputable def fa2_7_0 : Arguments := by
  refine' (?g : ∀ x : Arguments, x = argsOf (at2 7 0) → Arguments) _ ?h
  case g => exact fun x _ => x
  case h => conv => rhs; whnf
noncomputable def fa2_8_0 : Arguments := by
  refine' (?g : ∀ x : Arguments, x = argsOf (at2 8 0) → Arguments) _ ?h
  case g => exact fun x _ => x
  case h => conv => rhs; whnf
noncomputable def fa2_9_0 : Arguments := by
  refine' (?g : ∀ x : Arguments, x = argsOf (at2 9 0) → Arguments) _ ?h
  case g => exact fun x _ => x
  case h => conv => rhs; whnf
noncomputable def fb1_0 : List Stmt := by
  refine' (?g : ∀ x : List Stmt, x = bodyOf (at1 0) → List Stmt) _ ?h
  case g => exact fun x _ => x
  case h => conv => rhs; whnf
noncomputable def fb1_14 : List Stmt := by
  refine' (?g : ∀ x : List Stmt, x = bodyOf (at1 14) → List Stmt) _ ?h
  case g => exact fun x _ => x
  case h => conv => rhs; whnf
noncomputable def fb1_15 : List Stmt := by
  refine' (?g : ∀ x : List Stmt, x = bodyOf (at1 15) → List Stmt) _ ?h
  case g => exact fun x _ => x
  case h => conv => rhs; whnf
noncomputable def fb1_16 : List Stmt := by
  refine' (?g : ∀ x : List Stmt, x = bodyOf (at1 16) → List Stmt) _ ?h
  case g => exact fun x _ => x
  case h => conv => rhs; whnf
noncomputable def fb1_18 : List Stmt := by
  refine' (?g : ∀ x : List Stmt, x = bodyOf (at1 18) → List Stmt) _ ?h
  case g => exact fun x _ => x
  case h => conv => rhs; whnf
noncomputable def fb1_19 : List Stmt := by
  refine' (?g : ∀ x : List Stmt, x = bodyOf (at1 19) → List Stmt) _ ?h
  case g => exact fun x _ => x
  case h => conv => rhs; whnf
noncomputable def fb1_24 : List Stmt := by
  refine' (?g : ∀ x : List Stmt, x = bodyOf (at1 24) → List Stmt) _ ?h
  case g => exact fun x _ => x
  case h => conv => rhs; whnf
noncomputable def fb1_25 : List Stmt := by
  refine' (?g : ∀ x : List Stmt, x = bodyOf (at1 25) → List Stmt) _ ?h
  case g => exact fun x _ => x
  case h => conv => rhs; whnf
noncomputable def fb1_26 : List Stmt := by
  refine' (?g : ∀ x : List Stmt, x = bodyOf (at1 26) → List Stmt) _ ?h
  case g => exact fun x _ => x
  case h => conv => rhs; whnf
noncomputable def fb1_3 : List Stmt := by
  refine' (?g : ∀ x : List Stmt, x = bodyOf (at1 3) → List Stmt) _ ?h
  case g => exact fun x _ => x
  case h => conv => rhs; whnf
noncomputable def fb1_34 : List Stmt := by
  refine' (?g : ∀ x : List Stmt, x = bodyOf (at1 34) → List Stmt) _ ?h
  case g => exact fun x _ => x
  case h => conv => rhs; whnf
noncomputable def fb1_35 : List Stmt := by
  refine' (?g : ∀ x : List Stmt, x = bodyOf (at1 35) → List Stmt) _ ?h
  case g => exact fun x _ => x
  case h => conv => rhs; whnf
noncomputable def fb1_36 : List Stmt := by
  refine' (?g : ∀ x : List Stmt, x = bodyOf (at1 36) → List Stmt) _ ?h
  case g => exact fun x _ => x
  case h => conv => rhs; whnf
noncomputable def fb1_37 : List Stmt := by
  refine' (?g : ∀ x : List Stmt, x = bodyOf (at1 37) → List Stmt) _ ?h
  case g => exact fun x _ => x
  case h => conv => rhs; whnf
noncomputable def fb1_38 : List Stmt := by
  refine' (?g : ∀ x : List Stmt, x = bodyOf (at1 38) → List Stmt) _ ?h
  case g => exact fun x _ => x
  case h => conv => rhs; whnf
noncomputable def fb1_39 : List Stmt := by
  refine' (?g : ∀ x : List Stmt, x = bodyOf (at1 39) → List Stmt) _ ?h
  case g => exact fun x _ => x
  case h => conv => rhs; whnf
noncomputable def fb2_10_0 : List Stmt := by
  refine' (?g : ∀ x : List Stmt, x = bodyOf (at2 10 0) → List Stmt) _ ?h
  case g => exact fun x _ => x
  case h => conv => rhs; whnf
noncomputable def fb2_11_0 : List Stmt := by
  refine' (?g : ∀ x : List Stmt, x = bodyOf (at2 11 0) → List Stmt) _ ?h
  case g => exact fun x _ => x
  case h => conv => rhs; whnf
noncomputable def fb2_12_0 : List Stmt := by
  refine' (?g : ∀ x : List Stmt, x = bodyOf (at2 12 0) → List Stmt) _ ?h
  case g => exact fun x _ => x
  case h => conv => rhs; whnf
noncomputable def fb2_13_0 : List Stmt := by
  refine' (?g : ∀ x : List Stmt, x = bodyOf (at2 13 0) → List Stmt) _ ?h
  case g => exact fun x _ => x
  case h => conv => rhs; whnf
noncomputable def fb2_13_1 : List Stmt := by
  refine' (?g : ∀ x : List Stmt, x = bodyOf (at2 13 1) → List Stmt) _ ?h
  case g => exact fun x _ => x
  case h => conv => rhs; whnf
noncomputable def fb2_13_2 : List Stmt := by
  refine' (?g : ∀ x : List Stmt, x = bodyOf (at2 13 2) → List Stmt) _ ?h
  case g => exact fun x _ => x
  case h => conv => rhs; whnf
noncomputable def fb2_13_3 : List Stmt := by
  refine' (?g : ∀ x : List Stmt, x = bodyOf (at2 13 3) → List Stmt) _ ?h
  case g => exact fun x _ => x
  case h => conv => rhs; whnf
noncomputable def fb2_13_4 : List Stmt := by
  refine' (?g : ∀ x : List Stmt, x = bodyOf (at2 13 4) → List Stmt) _ ?h
  case g => exact fun x _ => x
  case h => conv => rhs; whnf
noncomputable def fb2_13_5 : List Stmt := by
  refine' (?g : ∀ x : List Stmt, x = bodyOf (at2 13 5) → List Stmt) _ ?h
  case g => exact fun x _ => x
  case h => conv => rhs; whnf
noncomputable def fb2_13_6 : List Stmt := by
  refine' (?g : ∀ x : List Stmt, x = bodyOf (at2 13 6) → List Stmt) _ ?h
  case g => exact fun x _ => x
  case h => conv => rhs; whnf
noncomputable def fb2_21_0 : List Stmt := by
  refine' (?g : ∀ x : List Stmt, x = bodyOf (at2 21 0) → List Stmt) _ ?h
  case g => exact fun x _ => x
  case h => conv => rhs; whnf
noncomputable def fb2_22_0 : List Stmt := by
  refine' (?g : ∀ x : List Stmt, x = bodyOf (at2 22 0) → List Stmt) _ ?h
  case g => exact fun x _ => x
  case h => conv => rhs; whnf
noncomputable def fb2_28_0 : List Stmt := by
  refine' (?g : ∀ x : List Stmt, x = bodyOf (at2 28 0) → List Stmt) _ ?h
  case g => exact fun x _ => x
  case h => conv => rhs; whnf
noncomputable def fb2_28_1 : List Stmt := by
  refine' (?g : ∀ x : List Stmt, x = bodyOf (at2 28 1) → List Stmt) _ ?h
  case g => exact fun x _ => x
  case h => conv => rhs; whnf
noncomputable def fb2_28_2 : List Stmt := by
  refine' (?g : ∀ x : List Stmt, x = bodyOf (at2 28 2) → List Stmt) _ ?h
  case g => exact fun x _ => x
  case h => conv => rhs; whnf
noncomputable def fb2_28_3 : List Stmt := by
  refine' (?g : ∀ x : List Stmt, x = bodyOf (at2 28 3) → List Stmt) _ ?h
  case g => exact fun x _ => x
  case h => conv => rhs; whnf
noncomputable def fb2_30_0 : List Stmt := by
  refine' (?g : ∀ x : List Stmt, x = bodyOf (at2 30 0) → List Stmt) _ ?h
  case g => exact fun x _ => x
  case h => conv => rhs; whnf
noncomputable def fb2_30_1 : List Stmt := by
  refine' (?g : ∀ x : List Stmt, x = bodyOf (at2 30 1) → List Stmt) _ ?h
  case g => exact fun x _ => x
  case h => conv => rhs; whnf
noncomputable def fb2_30_10 : List Stmt := by
  refine' (?g : ∀ x : List Stmt, x = bodyOf (at2 30 10) → List Stmt) _ ?h
  case g => exact fun x _ => x
  case h => conv => rhs; whnf
noncomputable def fb2_30_11 : List Stmt := by
  refine' (?g : ∀ x : List Stmt, x = bodyOf (at2 30 11) → List Stmt) _ ?h
  case g => exact fun x _ => x
  case h => conv => rhs; whnf
noncomputable def fb2_30_2 : List Stmt := by
  refine' (?g : ∀ x : List Stmt, x = bodyOf (at2 30 2) → List Stmt) _ ?h
  case g => exact fun x _ => x
  case h => conv => rhs; whnf
noncomputable def fb2_30_3 : List Stmt := by
  refine' (?g : ∀ x : List Stmt, x = bodyOf (at2 30 3) → List Stmt) _ ?h
  case g => exact fun x _ => x
  case h => conv => rhs; whnf
noncomputable def fb2_30_4 : List Stmt := by
  refine' (?g : ∀ x : List Stmt, x = bodyOf (at2 30 4) → List Stmt) _ ?h
  case g => exact fun x _ => x
  case h => conv => rhs; whnf
noncomputable def fb2_30_5 : List Stmt := by
  refine' (?g : ∀ x : List Stmt, x = bodyOf (at2 30 5) → List Stmt) _ ?h
  case g => exact fun x _ => x
  case h => conv => rhs; whnf
noncomputable def fb2_30_6 : List Stmt := by
  refine' (?g : ∀ x : List Stmt, x = bodyOf (at2 30 6) → List Stmt) _ ?h
  case g => exact fun x _ => x
  case h => conv => rhs; whnf
noncomputable def fb2_30_7 : List Stmt := by
  refine' (?g : ∀ x : List Stmt, x = bodyOf (at2 30 7) → List Stmt) _ ?h
  case g => exact fun x _ => x
  case h => conv => rhs; whnf
noncomputable def fb2_30_8 : List Stmt := by
  refine' (?g : ∀ x : List Stmt, x = bodyOf (at2 30 8) → List Stmt) _ ?h
  case g => exact fun x _ => x
  case h => conv => rhs; whnf
noncomputable def fb2_30_9 : List Stmt := by
  refine' (?g : ∀ x : List Stmt, x = bodyOf (at2 30 9) → List Stmt) _ ?h
  case g => exact fun x _ => x
  case h => conv => rhs; whnf
noncomputable def fb2_32_0 : List Stmt := by
  refine' (?g : ∀ x : List Stmt, x = bodyOf (at2 32 0) → List Stmt) _ ?h
  case g => exact fun x _ => x
  case h => conv => rhs; whnf
noncomputable def fb2_6_0 : List Stmt := by
  refine' (?g : ∀ x : List Stmt, x = bodyOf (at2 6 0) → List Stmt) _ ?h
  case g => exact fun x _ => x
  case h => conv => rhs; whnf
noncomputable def fb2_7_0 : List Stmt := by
  refine' (?g : ∀ x : List Stmt, x = bodyOf (at2 7 0) → List Stmt) _ ?h
  case g => exact fun x _ => x
  case h => conv => rhs; whnf
noncomputable def fb2_8_0 : List Stmt := by
  refine' (?g : ∀ x : List Stmt, x = bodyOf (at2 8 0) → List Stmt) _ ?h
  case g => exact fun x _ => x
  case h => conv => rhs; whnf
noncomputable def fb2_9_0 : List Stmt := by
  refine' (?g : ∀ x : List Stmt, x = bodyOf (at2 9 0) → List Stmt) _ ?h
  case g => exact fun x _ => x
  case h => conv => rhs; whnf
noncomputable def fc1_0 : Scope := by
  refine' (?g : ∀ x : Scope, x = scopeOf (at1 0) → Scope) _ ?h
  case g => exact fun x _ => x
  case h => conv => rhs; whnf
noncomputable def fc1_14 : Scope := by
  refine' (?g : ∀ x : Scope, x = scopeOf (at1 14) → Scope) _ ?h
  case g => exact fun x _ => x
  case h => conv => rhs; whnf
noncomputable def fc1_15 : Scope := by
  refine' (?g : ∀ x : Scope, x = scopeOf (at1 15) → Scope) _ ?h
  case g => exact fun x _ => x
  case h => conv => rhs; whnf
noncomputable def fc1_16 : Scope := by
  refine' (?g : ∀ x : Scope, x = scopeOf (at1 16) → Scope) _ ?h
  case g => exact fun x _ => x
  case h => conv => rhs; whnf
noncomputable def fc1_18 : Scope := by
  refine' (?g : ∀ x : Scope, x = scopeOf (at1 18) → Scope) _ ?h
  case g => exact fun x _ => x
  case h => conv => rhs; whnf
noncomputable def fc1_19 : Scope := by
  refine' (?g : ∀ x : Scope, x = scopeOf (at1 19) → Scope) _ ?h
  case g => exact fun x _ => x
  case h => conv => rhs; whnf
noncomputable def fc1_24 : Scope := by
  refine' (?g : ∀ x : Scope, x = scopeOf (at1 24) → Scope) _ ?h
  case g => exact fun x _ => x
  case h => conv => rhs; whnf
noncomputable def fc1_25 : Scope := by
  refine' (?g : ∀ x : Scope, x = scopeOf (at1 25) → Scope) _ ?h
  case g => exact fun x _ => x
  case h => conv => rhs; whnf
noncomputable def fc1_26 : Scope := by
  refine' (?g : ∀ x : Scope, x = scopeOf (at1 26) → Scope) _ ?h
  case g => exact fun x _ => x
  case h => conv => rhs; whnf
noncomputable def fc1_3 : Scope := by
  refine' (?g : ∀ x : Scope, x = scopeOf (at1 3) → Scope) _ ?h
  case g => exact fun x _ => x
  case h => conv => rhs; whnf
noncomputable def fc1_34 : Scope := by
  refine' (?g : ∀ x : Scope, x = scopeOf (at1 34) → Scope) _ ?h
  case g => exact fun x _ => x
  case h => conv => rhs; whnf
noncomputable def fc1_35 : Scope := by
  refine' (?g : ∀ x : Scope, x = scopeOf (at1 35) → Scope) _ ?h
  case g => exact fun x _ => x
  case h => conv => rhs; whnf
noncomputable def fc1_36 : Scope := by
  refine' (?g : ∀ x : Scope, x = scopeOf (at1 36) → Scope) _ ?h
  case g => exact fun x _ => x
  case h => conv => rhs; whnf
noncomputable def fc1_37 : Scope := by
  refine' (?g : ∀ x : Scope, x = scopeOf (at1 37) → Scope) _ ?h
  case g => exact fun x _ => x
  case h => conv => rhs; whnf
noncomputable def fc1_38 : Scope := by
  refine' (?g : ∀ x : Scope, x = scopeOf (at1 38) → Scope) _ ?h
  case g => exact fun x _ => x
  case h => conv => rhs; whnf
noncomputable def fc1_39 : Scope := by
  refine' (?g : ∀ x : Scope, x = scopeOf (at1 39) → Scope) _ ?h
  case g => exact fun x _ => x
  case h => conv => rhs; whnf
noncomputable def fc2_10_0 : Scope := by
  refine' (?g : ∀ x : Scope, x = scopeOf (at2 10 0) → Scope) _ ?h
  case g => exact fun x _ => x
  case h => conv => rhs; whnf
noncomputable def fc2_11_0 : Scope := by
  refine' (?g : ∀ x : Scope, x = scopeOf (at2 11 0) → Scope) _ ?h
  case g => exact fun x _ => x
  case h => conv => rhs; whnf
noncomputable def fc2_12_0 : Scope := by
  refine' (?g : ∀ x : Scope, x = scopeOf (at2 12 0) → Scope) _ ?h
  case g => exact fun x _ => x
  case h => conv => rhs; whnf
noncomputable def fc2_13_0 : Scope := by
  refine' (?g : ∀ x : Scope, x = scopeOf (at2 13 0) → Scope) _ ?h
  case g => exact fun x _ => x
  case h => conv => rhs; whnf
noncomputable def fc2_13_1 : Scope := by
  refine' (?g : ∀ x : Scope, x = scopeOf (at2 13 1) → Scope) _ ?h
  case g => exact fun x _ => x
  case h => conv => rhs; whnf
noncomputable def fc2_13_2 : Scope := by
  refine' (?g : ∀ x : Scope, x = scopeOf (at2 13 2) → Scope) _ ?h
  case g => exact fun x _ => x
  case h => conv => rhs; whnf
noncomputable def fc2_13_4 : Scope := by
  refine' (?g : ∀ x : Scope, x = scopeOf (at2 13 4) → Scope) _ ?h
  case g => exact fun x _ => x
  case h => conv => rhs; whnf
noncomputable def fc2_13_5 : Scope := by
  refine' (?g : ∀ x : Scope, x = scopeOf (at2 13 5) → Scope) _ ?h
  case g => exact fun x _ => x
  case h => conv => rhs; whnf
noncomputable def fc2_13_6 : Scope := by
  refine' (?g : ∀ x : Scope, x = scopeOf (at2 13 6) → Scope) _ ?h
  case g => exact fun x _ => x
  case h => conv => rhs; whnf
noncomputable def fc2_21_0 : Scope := by
  refine' (?g : ∀ x : Scope, x = scopeOf (at2 21 0) → Scope) _ ?h
  case g => exact fun x _ => x
  case h => conv => rhs; whnf
noncomputable def fc2_22_0 : Scope := by
  refine' (?g : ∀ x : Scope, x = scopeOf (at2 22 0) → Scope) _ ?h
  case g => exact fun x _ => x
  case h => conv => rhs; whnf
noncomputable def fc2_28_0 : Scope := by
  refine' (?g : ∀ x : Scope, x = scopeOf (at2 28 0) → Scope) _ ?h
  case g => exact fun x _ => x
  case h => conv => rhs; whnf
noncomputable def fc2_28_1 : Scope := by
  refine' (?g : ∀ x : Scope, x = scopeOf (at2 28 1) → Scope) _ ?h
  case g => exact fun x _ => x
  case h => conv => rhs; whnf
noncomputable def fc2_28_2 : Scope := by
  refine' (?g : ∀ x : Scope, x = scopeOf (at2 28 2) → Scope) _ ?h
  case g => exact fun x _ => x
  case h => conv => rhs; whnf
noncomputable def fc2_28_3 : Scope := by
  refine' (?g : ∀ x : Scope, x = scopeOf (at2 28 3) → Scope) _ ?h
  case g => exact fun x _ => x
  case h => conv => rhs; whnf
noncomputable def fc2_30_0 : Scope := by
  refine' (?g : ∀ x : Scope, x = scopeOf (at2 30 0) → Scope) _ ?h
  case g => exact fun x _ => x
  case h => conv => rhs; whnf
noncomputable def fc2_30_11 : Scope := by
  refine' (?g : ∀ x : Scope, x = scopeOf (at2 30 11) → Scope) _ ?h
  case g => exact fun x _ => x
  case h => conv => rhs; whnf
noncomputable def fc2_30_2 : Scope := by
  refine' (?g : ∀ x : Scope, x = scopeOf (at2 30 2) → Scope) _ ?h
  case g => exact fun x _ => x
  case h => conv => rhs; whnf
noncomputable def fc2_30_4 : Scope := by
  refine' (?g : ∀ x : Scope, x = scopeOf (at2 30 4) → Scope) _ ?h
  case g => exact fun x _ => x
  case h => conv => rhs; whnf
noncomputable def fc2_30_5 : Scope := by
  refine' (?g : ∀ x : Scope, x = scopeOf (at2 30 5) → Scope) _ ?h
  case g => exact fun x _ => x
  case h => conv => rhs; whnf
noncomputable def fc2_30_6 : Scope := by
  refine' (?g : ∀ x : Scope, x = scopeOf (at2 30 6) → Scope) _ ?h
  case g => exact fun x _ => x
  case h => conv => rhs; whnf
noncomputable def fc2_30_7 : Scope := by
  refine' (?g : ∀ x : Scope, x = scopeOf (at2 30 7) → Scope) _ ?h
  case g => exact fun x _ => x
  case h => conv => rhs; whnf
noncomputable def fc2_30_8 : Scope := by
  refine' (?g : ∀ x : Scope, x = scopeOf (at2 30 8) → Scope) _ ?h
  case g => exact fun x _ => x
  case h => conv => rhs; whnf
noncomputable def fc2_30_9 : Scope := by
  refine' (?g : ∀ x : Scope, x = scopeOf (at2 30 9) → Scope) _ ?h
  case g => exact fun x _ => x
  case h => conv => rhs; whnf
noncomputable def fc2_32_0 : Scope := by
  refine' (?g : ∀ x : Scope, x = scopeOf (at2 32 0) → Scope) _ ?h
  case g => exact fun x _ => x
  case h => conv => rhs; whnf
noncomputable def fc2_6_0 : Scope := by
  refine' (?g : ∀ x : Scope, x = scopeOf (at2 6 0) → Scope) _ ?h
  case g => exact fun x _ => x
  case h => conv => rhs; whnf
noncomputable def fc2_7_0 : Scope := by
  refine' (?g : ∀ x : Scope, x = scopeOf (at2 7 0) → Scope) _ ?h
  case g => exact fun x _ => x
  case h => conv => rhs; whnf
noncomputable def fc2_9_0 : Scope := by
  refine' (?g : ∀ x : Scope, x = scopeOf (at2 9 0) → Scope) _ ?h
  case g => exact fun x _ => x
  case h => conv => rhs; whnf
noncomputable def o2 (P : Params) : Obj := (Obj.mk .none none (.dict #[(kE P "type.__subclasses__.Exception.0" 558 (.int 281 0)), (kE P "type.__subclasses__.Exception.n" 559 (.int 1 0))] 2) #[])
noncomputable def o3 (P : Params) : Obj := (Obj.mk (.type "dict") none (.dict #[(kE P "__name__" 165 (vS "law_qz0096_01" 861)), (kE P "__doc__" 166 .none), (kE P "__package__" 167 .none), (kE P "__loader__" 168 (.builtin "__main__.__loader__#opaque")), (kE P "__spec__" 169 .none), (kE P "__annotations__" 170 (.ref 6)), (kE P "__builtins__" 171 (.ref 4)), (kE P "__file__" 173 (vS "/claim/cut.py" 172)), (kE P "__cached__" 174 .none), (kE P "_wall" 193 (.ref 21)), (kE P "FIGURES" 197 (vS "0123456789" 196)), (kE P "number_text" 205 (.ref 28)), (kE P "HEX_FIGURES" 209 (vS "0123456789abcdef" 208)), (kE P "Thing" 243 (.ref 45)), (kE P "Scalar" 270 (.ref 66)), (kE P "Array" 296 (.ref 85)), (kE P "Hash" 323 (.ref 104)), (kE P "Code" 353 (.ref 123)), (kE P "Glob" 383 (.ref 142)), (kE P "Ref" 414 (.ref 162)), (kE P "Heap" 491 (.ref 225)), (kE P "thing_word" 498 (.ref 236)), (kE P "hex_of" 506 (.ref 243)), (kE P "ref_text" 514 (.ref 250)), (kE P "value_of" 523 (.ref 257)), (kE P "to_text" 530 (.ref 264)), (kE P "PerlError" 561 (.ref 281)), (kE P "Die" 586 (.ref 301)), (kE P "substr_span" 599 (.ref 310)), (kE P "substr_value" 609 (.ref 317)), (kE P "substr_put" 620 (.ref 324)), (kE P "LvText" 686 (.ref 362)), (kE P "Counter" 810 (.ref 458)), (kE P "Limits" 860 (.ref 480)), (kE P "_law_dip" 871 (.ref 491)), (kE P "_law_letters" 877 (.ref 496)), (kE P "_law_begin" 885 (.ref 503)), (kE P "_law_cut" 891 (.ref 508)), (kE P "_law_put" 902 (.ref 515)), (kE P "law" 926 (.ref 522))] 40) #[])
noncomputable def o11 (P : Params) : Obj := (tQ "tuple" #[])
noncomputable def o12 (P : Params) : Obj := (Obj.mk .none none (.fields #[(.int 1 0), (.int 0 0), (.ref 20), (.int 6 0), (.int 0 0), (.ref 27), (.int 16 0), (.int 0 0), (.ref 34), (.int 25 0), (.int 0 0), (.ref 55), (.int 31 0), (.int 0 0), (.ref 74), (.int 37 0), (.int 0 0), (.ref 93), (.int 44 0), (.int 0 0), (.ref 112), (.int 52 0), (.int 0 0), (.ref 131), (.int 61 0), (.int 0 0), (.ref 150), (.int 66 0), (.int 0 0), (.ref 172), (.int 91 0), (.int 0 0), (.ref 235), (.int 103 0), (.int 0 0), (.ref 242), (.int 109 0), (.int 0 0), (.ref 249), (.int 115 0), (.int 0 0), (.ref 256), (.int 121 0), (.int 0 0), (.ref 263), (.int 130 0), (.int 0 0), (.ref 270), (.int 135 0), (.int 0 0), (.ref 290), (.int 141 0), (.int 0 0), (.ref 309), (.int 157 0), (.int 0 0), (.ref 316), (.int 162 0), (.int 0 0), (.ref 323), (.int 168 0), (.int 0 0), (.ref 330), (.int 198 0), (.int 0 0), (.ref 372), (.int 260 0), (.int 0 0), (.ref 468), (.int 269 0), (.int 0 0), (.ref 490), (.int 273 0), (.int 0 0), (.ref 495), (.int 275 0), (.int 0 0), (.ref 502), (.int 277 0), (.int 0 0), (.ref 507), (.int 283 0), (.int 0 0), (.ref 514), (.int 292 0), (.int 0 0), (.ref 521)]) #[])
noncomputable def o13 (P : Params) : Obj := (fQ "code" #[(vS "<module>" 182), (vS "<module>" 183), (vS "/claim/cut.py" 184), (.int 1 0), (.int 0 0), (.int 0 0), (.int 0 0), (.int 0 0), (.ref 11), (.bool false), (.int 181 0), (.ref 12), .none, .none, .none, .none, (.int 185 0), (.int 1 0), (vS "/claim/cut.py" 186)])
noncomputable def o14 (P : Params) : Obj := (Obj.mk (.type "frame") none .plain #[(some (.ref 13)), (some (.ref 3)), (some (.ref 3)), none, (some (vS "__main__" 164)), none, (some (.ref 0))])
noncomputable def o15 (P : Params) : Obj := (tQ "tuple" #[])
noncomputable def o16 (P : Params) : Obj := (Obj.mk .none none (.fields #[]) #[])
noncomputable def o17 (P : Params) : Obj := (tQ "tuple" #[(vS "k" 190)])
noncomputable def o18 (P : Params) : Obj := (tQ "tuple" #[])
noncomputable def o19 (P : Params) : Obj := (Obj.mk .none none (.func (FuncData.mk (sS "_wall") (sS "_wall") fa1_0 (FuncBody.stmts fb1_0) fc1_0 0 [] .none .none .none .none none .none .none 0)) #[])
noncomputable def o20 (P : Params) : Obj := (fQ "code" #[(vS "_wall" 187), (vS "_wall" 188), (vS "/claim/cut.py" 189), (.int 1 0), (.int 1 0), (.int 0 0), (.int 0 0), (.int 3 0), (.ref 15), (.bool true), (.int 181 0), (.ref 16), .none, (.ref 17), (.ref 18), (.ref 19), (.int 191 0), (.int 1 0), (vS "/claim/cut.py" 192)])
noncomputable def o21 (P : Params) : Obj := (Obj.mk (.type "function") none (.func (FuncData.mk (sS "_wall") (sS "_wall") fa1_0 (FuncBody.stmts fb1_0) fc1_0 3 [] .none .none .none (vS "__main__" 164) none (.ref 20) .none 0)) #[])
noncomputable def o22 (P : Params) : Obj := (tQ "tuple" #[])
noncomputable def o23 (P : Params) : Obj := (Obj.mk .none none (.fields #[]) #[])
noncomputable def o24 (P : Params) : Obj := (tQ "tuple" #[(vS "n" 201), (vS "text" 202)])
noncomputable def o25 (P : Params) : Obj := (tQ "tuple" #[])
noncomputable def o26 (P : Params) : Obj := (Obj.mk .none none (.func (FuncData.mk (sS "number_text") (sS "number_text") fa1_3 (FuncBody.stmts fb1_3) fc1_3 0 [] .none .none .none .none none .none .none 0)) #[])
noncomputable def o27 (P : Params) : Obj := (fQ "code" #[(vS "number_text" 198), (vS "number_text" 199), (vS "/claim/cut.py" 200), (.int 6 0), (.int 1 0), (.int 0 0), (.int 0 0), (.int 3 0), (.ref 22), (.bool true), (.int 181 0), (.ref 23), .none, (.ref 24), (.ref 25), (.ref 26), (.int 203 0), (.int 6 0), (vS "/claim/cut.py" 204)])
noncomputable def o28 (P : Params) : Obj := (Obj.mk (.type "function") none (.func (FuncData.mk (sS "number_text") (sS "number_text") fa1_3 (FuncBody.stmts fb1_3) fc1_3 3 [] .none .none .none (vS "perlcore.numbers" 194) none (.ref 27) .none 0)) #[])
noncomputable def o29 (P : Params) : Obj := (tQ "tuple" #[])
noncomputable def o30 (P : Params) : Obj := (fQ "builtin_function_or_method" #[(.builtin "type.__prepare__"), (.type "type")])
noncomputable def o31 (P : Params) : Obj := (Obj.mk (.type "dict") none (.dict #[(kE P "__module__" 217 (vS "perlcore.values" 206)), (kE P "__qualname__" 219 (vS "Thing" 218)), (kE P "__firstlineno__" 221 (.int 16 220)), (kE P "__init__" 229 (.ref 42)), (kE P "__static_attributes__" 236 (.ref 43))] 5) #[])
noncomputable def o32 (P : Params) : Obj := (tQ "tuple" #[])
noncomputable def o33 (P : Params) : Obj := (Obj.mk .none none (.fields #[(.int 18 0), (.int 4 0), (.ref 41)]) #[])
noncomputable def o34 (P : Params) : Obj := (fQ "code" #[(vS "Thing" 212), (vS "Thing" 213), (vS "/claim/cut.py" 214), (.int 16 0), (.int 0 0), (.int 0 0), (.int 0 0), (.int 0 0), (.ref 32), (.bool false), (.int 181 0), (.ref 33), .none, .none, .none, .none, (.int 215 0), (.int 16 0), (vS "/claim/cut.py" 216)])
noncomputable def o35 (P : Params) : Obj := (Obj.mk (.type "frame") none .plain #[(some (.ref 34)), (some (.ref 3)), (some (.ref 31)), none, (some (vS "perlcore.values" 206)), none, (some (.ref 0))])
noncomputable def o36 (P : Params) : Obj := (tQ "tuple" #[])
noncomputable def o37 (P : Params) : Obj := (Obj.mk .none none (.fields #[]) #[])
noncomputable def o38 (P : Params) : Obj := (tQ "tuple" #[(vS "self" 225), (vS "number" 226)])
noncomputable def o39 (P : Params) : Obj := (tQ "tuple" #[])
noncomputable def o40 (P : Params) : Obj := (Obj.mk .none none (.func (FuncData.mk (sS "__init__") (sS "Thing.__init__") fa2_6_0 (FuncBody.stmts fb2_6_0) fc2_6_0 0 [] .none .none .none .none none .none .none 0)) #[])
noncomputable def o41 (P : Params) : Obj := (fQ "code" #[(vS "__init__" 222), (vS "Thing.__init__" 223), (vS "/claim/cut.py" 224), (.int 18 0), (.int 2 0), (.int 0 0), (.int 0 0), (.int 3 0), (.ref 36), (.bool true), (.int 181 0), (.ref 37), .none, (.ref 38), (.ref 39), (.ref 40), (.int 227 0), (.int 18 0), (vS "/claim/cut.py" 228)])
noncomputable def o42 (P : Params) : Obj := (Obj.mk (.type "function") none (.func (FuncData.mk (sS "__init__") (sS "Thing.__init__") fa2_6_0 (FuncBody.stmts fb2_6_0) fc2_6_0 3 [] .none .none .none (vS "perlcore.values" 206) none (.ref 41) .none 0)) #[])
noncomputable def o43 (P : Params) : Obj := (tQ "tuple" #[(vS "blessed" 230), (vS "count" 231), (vS "is_destroyed" 232), (vS "is_freed" 233), (vS "number" 234), (vS "weak" 235)])
noncomputable def o44 (P : Params) : Obj := (Obj.mk (.type "dict") none (.dict #[(kE P "__module__" 217 (vS "perlcore.values" 206)), (kE P "__firstlineno__" 221 (.int 16 220)), (kE P "__init__" 229 (.ref 42)), (kE P "__static_attributes__" 236 (.ref 43)), (kE P "__dict__" 238 (.ref 46)), (kE P "__weakref__" 240 (.ref 47)), (kE P "__doc__" 241 .none)] 4) #[])
noncomputable def o45 (P : Params) : Obj := (Obj.mk (.type "type") none (.cls (ClassData.mk (sS "Thing") [(.type "object")] [(.ref 45), (.type "object")] 44 (sS "Thing") true [] [(.ref 66), (.ref 85), (.ref 104), (.ref 123), (.ref 142)] false none false)) #[none, none, (some (vS "Thing" 210)), (some (vS "Thing" 218)), (some (.builtin "object.__new__")), (some (.bool true))])
noncomputable def o46 (P : Params) : Obj := (fQ "getset_descriptor" #[(vS "__dict__" 237), (.ref 45), (.builtin "function.__dict__"), (.builtin "function.__dict__#set")])
noncomputable def o47 (P : Params) : Obj := (fQ "getset_descriptor" #[(vS "__weakref__" 239), (.ref 45), (.builtin "ExceptionGroup.__weakref__"), .none])
noncomputable def o48 (P : Params) : Obj := (fQ "super" #[(.ref 45), (.ref 45), (.ref 45)])
noncomputable def o49 (P : Params) : Obj := (fQ "builtin_function_or_method" #[(.builtin "object.__init_subclass__"), (.ref 45)])
noncomputable def o50 (P : Params) : Obj := (tQ "tuple" #[(.ref 45)])
noncomputable def o51 (P : Params) : Obj := (fQ "builtin_function_or_method" #[(.builtin "type.__prepare__"), (.type "type")])
noncomputable def o52 (P : Params) : Obj := (Obj.mk (.type "dict") none (.dict #[(kE P "__module__" 251 (vS "perlcore.values" 206)), (kE P "__qualname__" 253 (vS "Scalar" 252)), (kE P "__firstlineno__" 255 (.int 25 254)), (kE P "__init__" 264 (.ref 63)), (kE P "__static_attributes__" 267 (.ref 64))] 5) #[])
noncomputable def o53 (P : Params) : Obj := (tQ "tuple" #[])
noncomputable def o54 (P : Params) : Obj := (Obj.mk .none none (.fields #[(.int 27 0), (.int 4 0), (.ref 62)]) #[])
noncomputable def o55 (P : Params) : Obj := (fQ "code" #[(vS "Scalar" 246), (vS "Scalar" 247), (vS "/claim/cut.py" 248), (.int 25 0), (.int 0 0), (.int 0 0), (.int 0 0), (.int 0 0), (.ref 53), (.bool false), (.int 181 0), (.ref 54), .none, .none, .none, .none, (.int 249 0), (.int 25 0), (vS "/claim/cut.py" 250)])
noncomputable def o56 (P : Params) : Obj := (Obj.mk (.type "frame") none .plain #[(some (.ref 55)), (some (.ref 3)), (some (.ref 52)), none, (some (vS "perlcore.values" 206)), none, (some (.ref 0))])
noncomputable def o57 (P : Params) : Obj := (tQ "tuple" #[])
noncomputable def o58 (P : Params) : Obj := (Obj.mk .none none (.fields #[]) #[])
noncomputable def o59 (P : Params) : Obj := (tQ "tuple" #[(vS "self" 259), (vS "number" 260), (vS "value" 261)])
noncomputable def o60 (P : Params) : Obj := (tQ "tuple" #[])
noncomputable def o61 (P : Params) : Obj := (Obj.mk .none none (.func (FuncData.mk (sS "__init__") (sS "Scalar.__init__") fa2_7_0 (FuncBody.stmts fb2_7_0) fc2_7_0 0 [] .none .none .none .none none .none .none 0)) #[])
noncomputable def o62 (P : Params) : Obj := (fQ "code" #[(vS "__init__" 256), (vS "Scalar.__init__" 257), (vS "/claim/cut.py" 258), (.int 27 0), (.int 3 0), (.int 0 0), (.int 0 0), (.int 3 0), (.ref 57), (.bool true), (.int 181 0), (.ref 58), .none, (.ref 59), (.ref 60), (.ref 61), (.int 262 0), (.int 27 0), (vS "/claim/cut.py" 263)])
noncomputable def o63 (P : Params) : Obj := (Obj.mk (.type "function") none (.func (FuncData.mk (sS "__init__") (sS "Scalar.__init__") fa2_7_0 (FuncBody.stmts fb2_7_0) fc2_7_0 3 [] .none .none .none (vS "perlcore.values" 206) none (.ref 62) .none 0)) #[])
noncomputable def o64 (P : Params) : Obj := (tQ "tuple" #[(vS "magic" 265), (vS "value" 266)])
noncomputable def o65 (P : Params) : Obj := (Obj.mk (.type "dict") none (.dict #[(kE P "__module__" 251 (vS "perlcore.values" 206)), (kE P "__firstlineno__" 255 (.int 25 254)), (kE P "__init__" 264 (.ref 63)), (kE P "__static_attributes__" 267 (.ref 64)), (kE P "__doc__" 268 .none)] 2) #[])
noncomputable def o66 (P : Params) : Obj := (Obj.mk (.type "type") none (.cls (ClassData.mk (sS "Scalar") [(.ref 45)] [(.ref 66), (.ref 45), (.type "object")] 65 (sS "Scalar") true [] [] false none false)) #[(some (.ref 50)), none, (some (vS "Scalar" 244)), (some (vS "Scalar" 252)), (some (.builtin "object.__new__")), (some (.bool true))])
noncomputable def o67 (P : Params) : Obj := (fQ "super" #[(.ref 66), (.ref 66), (.ref 66)])
noncomputable def o68 (P : Params) : Obj := (fQ "builtin_function_or_method" #[(.builtin "object.__init_subclass__"), (.ref 66)])
noncomputable def o69 (P : Params) : Obj := (tQ "tuple" #[(.ref 45)])
noncomputable def o70 (P : Params) : Obj := (fQ "builtin_function_or_method" #[(.builtin "type.__prepare__"), (.type "type")])
noncomputable def o71 (P : Params) : Obj := (Obj.mk (.type "dict") none (.dict #[(kE P "__module__" 278 (vS "perlcore.values" 206)), (kE P "__qualname__" 280 (vS "Array" 279)), (kE P "__firstlineno__" 282 (.int 31 281)), (kE P "__init__" 290 (.ref 82)), (kE P "__static_attributes__" 293 (.ref 83))] 5) #[])
noncomputable def o72 (P : Params) : Obj := (tQ "tuple" #[])
noncomputable def o73 (P : Params) : Obj := (Obj.mk .none none (.fields #[(.int 33 0), (.int 4 0), (.ref 81)]) #[])
noncomputable def o74 (P : Params) : Obj := (fQ "code" #[(vS "Array" 273), (vS "Array" 274), (vS "/claim/cut.py" 275), (.int 31 0), (.int 0 0), (.int 0 0), (.int 0 0), (.int 0 0), (.ref 72), (.bool false), (.int 181 0), (.ref 73), .none, .none, .none, .none, (.int 276 0), (.int 31 0), (vS "/claim/cut.py" 277)])
noncomputable def o75 (P : Params) : Obj := (Obj.mk (.type "frame") none .plain #[(some (.ref 74)), (some (.ref 3)), (some (.ref 71)), none, (some (vS "perlcore.values" 206)), none, (some (.ref 0))])
noncomputable def o76 (P : Params) : Obj := (tQ "tuple" #[])
noncomputable def o77 (P : Params) : Obj := (Obj.mk .none none (.fields #[]) #[])
noncomputable def o78 (P : Params) : Obj := (tQ "tuple" #[(vS "self" 286), (vS "number" 287)])
noncomputable def o79 (P : Params) : Obj := (tQ "tuple" #[])
noncomputable def o80 (P : Params) : Obj := (Obj.mk .none none (.func (FuncData.mk (sS "__init__") (sS "Array.__init__") fa2_8_0 (FuncBody.stmts fb2_8_0) fc2_9_0 0 [] .none .none .none .none none .none .none 0)) #[])
noncomputable def o81 (P : Params) : Obj := (fQ "code" #[(vS "__init__" 283), (vS "Array.__init__" 284), (vS "/claim/cut.py" 285), (.int 33 0), (.int 2 0), (.int 0 0), (.int 0 0), (.int 3 0), (.ref 76), (.bool true), (.int 181 0), (.ref 77), .none, (.ref 78), (.ref 79), (.ref 80), (.int 288 0), (.int 33 0), (vS "/claim/cut.py" 289)])
noncomputable def o82 (P : Params) : Obj := (Obj.mk (.type "function") none (.func (FuncData.mk (sS "__init__") (sS "Array.__init__") fa2_8_0 (FuncBody.stmts fb2_8_0) fc2_9_0 3 [] .none .none .none (vS "perlcore.values" 206) none (.ref 81) .none 0)) #[])
noncomputable def o83 (P : Params) : Obj := (tQ "tuple" #[(vS "items" 291), (vS "tied" 292)])
noncomputable def o84 (P : Params) : Obj := (Obj.mk (.type "dict") none (.dict #[(kE P "__module__" 278 (vS "perlcore.values" 206)), (kE P "__firstlineno__" 282 (.int 31 281)), (kE P "__init__" 290 (.ref 82)), (kE P "__static_attributes__" 293 (.ref 83)), (kE P "__doc__" 294 .none)] 2) #[])
noncomputable def o85 (P : Params) : Obj := (Obj.mk (.type "type") none (.cls (ClassData.mk (sS "Array") [(.ref 45)] [(.ref 85), (.ref 45), (.type "object")] 84 (sS "Array") true [] [] false none false)) #[(some (.ref 69)), none, (some (vS "Array" 271)), (some (vS "Array" 279)), (some (.builtin "object.__new__")), (some (.bool true))])
noncomputable def o86 (P : Params) : Obj := (fQ "super" #[(.ref 85), (.ref 85), (.ref 85)])
noncomputable def o87 (P : Params) : Obj := (fQ "builtin_function_or_method" #[(.builtin "object.__init_subclass__"), (.ref 85)])
noncomputable def o88 (P : Params) : Obj := (tQ "tuple" #[(.ref 45)])
noncomputable def o89 (P : Params) : Obj := (fQ "builtin_function_or_method" #[(.builtin "type.__prepare__"), (.type "type")])
noncomputable def o90 (P : Params) : Obj := (Obj.mk (.type "dict") none (.dict #[(kE P "__module__" 304 (vS "perlcore.values" 206)), (kE P "__qualname__" 306 (vS "Hash" 305)), (kE P "__firstlineno__" 308 (.int 37 307)), (kE P "__init__" 316 (.ref 101)), (kE P "__static_attributes__" 320 (.ref 102))] 5) #[])
noncomputable def o91 (P : Params) : Obj := (tQ "tuple" #[])
noncomputable def o92 (P : Params) : Obj := (Obj.mk .none none (.fields #[(.int 39 0), (.int 4 0), (.ref 100)]) #[])
noncomputable def o93 (P : Params) : Obj := (fQ "code" #[(vS "Hash" 299), (vS "Hash" 300), (vS "/claim/cut.py" 301), (.int 37 0), (.int 0 0), (.int 0 0), (.int 0 0), (.int 0 0), (.ref 91), (.bool false), (.int 181 0), (.ref 92), .none, .none, .none, .none, (.int 302 0), (.int 37 0), (vS "/claim/cut.py" 303)])
noncomputable def o94 (P : Params) : Obj := (Obj.mk (.type "frame") none .plain #[(some (.ref 93)), (some (.ref 3)), (some (.ref 90)), none, (some (vS "perlcore.values" 206)), none, (some (.ref 0))])
noncomputable def o95 (P : Params) : Obj := (tQ "tuple" #[])
noncomputable def o96 (P : Params) : Obj := (Obj.mk .none none (.fields #[]) #[])
noncomputable def o97 (P : Params) : Obj := (tQ "tuple" #[(vS "self" 312), (vS "number" 313)])
noncomputable def o98 (P : Params) : Obj := (tQ "tuple" #[])
noncomputable def o99 (P : Params) : Obj := (Obj.mk .none none (.func (FuncData.mk (sS "__init__") (sS "Hash.__init__") fa2_9_0 (FuncBody.stmts fb2_9_0) fc2_9_0 0 [] .none .none .none .none none .none .none 0)) #[])
noncomputable def o100 (P : Params) : Obj := (fQ "code" #[(vS "__init__" 309), (vS "Hash.__init__" 310), (vS "/claim/cut.py" 311), (.int 39 0), (.int 2 0), (.int 0 0), (.int 0 0), (.int 3 0), (.ref 95), (.bool true), (.int 181 0), (.ref 96), .none, (.ref 97), (.ref 98), (.ref 99), (.int 314 0), (.int 39 0), (vS "/claim/cut.py" 315)])
noncomputable def o101 (P : Params) : Obj := (Obj.mk (.type "function") none (.func (FuncData.mk (sS "__init__") (sS "Hash.__init__") fa2_9_0 (FuncBody.stmts fb2_9_0) fc2_9_0 3 [] .none .none .none (vS "perlcore.values" 206) none (.ref 100) .none 0)) #[])
noncomputable def o102 (P : Params) : Obj := (tQ "tuple" #[(vS "at" 317), (vS "table" 318), (vS "tied" 319)])
noncomputable def o103 (P : Params) : Obj := (Obj.mk (.type "dict") none (.dict #[(kE P "__module__" 304 (vS "perlcore.values" 206)), (kE P "__firstlineno__" 308 (.int 37 307)), (kE P "__init__" 316 (.ref 101)), (kE P "__static_attributes__" 320 (.ref 102)), (kE P "__doc__" 321 .none)] 2) #[])
noncomputable def o104 (P : Params) : Obj := (Obj.mk (.type "type") none (.cls (ClassData.mk (sS "Hash") [(.ref 45)] [(.ref 104), (.ref 45), (.type "object")] 103 (sS "Hash") true [] [] false none false)) #[(some (.ref 88)), none, (some (vS "Hash" 297)), (some (vS "Hash" 305)), (some (.builtin "object.__new__")), (some (.bool true))])
noncomputable def o105 (P : Params) : Obj := (fQ "super" #[(.ref 104), (.ref 104), (.ref 104)])
noncomputable def o106 (P : Params) : Obj := (fQ "builtin_function_or_method" #[(.builtin "object.__init_subclass__"), (.ref 104)])
noncomputable def o107 (P : Params) : Obj := (tQ "tuple" #[(.ref 45)])
noncomputable def o108 (P : Params) : Obj := (fQ "builtin_function_or_method" #[(.builtin "type.__prepare__"), (.type "type")])
noncomputable def o109 (P : Params) : Obj := (Obj.mk (.type "dict") none (.dict #[(kE P "__module__" 331 (vS "perlcore.values" 206)), (kE P "__qualname__" 333 (vS "Code" 332)), (kE P "__firstlineno__" 335 (.int 44 334)), (kE P "__init__" 345 (.ref 120)), (kE P "__static_attributes__" 350 (.ref 121))] 5) #[])
noncomputable def o110 (P : Params) : Obj := (tQ "tuple" #[])
noncomputable def o111 (P : Params) : Obj := (Obj.mk .none none (.fields #[(.int 46 0), (.int 4 0), (.ref 119)]) #[])
noncomputable def o112 (P : Params) : Obj := (fQ "code" #[(vS "Code" 326), (vS "Code" 327), (vS "/claim/cut.py" 328), (.int 44 0), (.int 0 0), (.int 0 0), (.int 0 0), (.int 0 0), (.ref 110), (.bool false), (.int 181 0), (.ref 111), .none, .none, .none, .none, (.int 329 0), (.int 44 0), (vS "/claim/cut.py" 330)])
noncomputable def o113 (P : Params) : Obj := (Obj.mk (.type "frame") none .plain #[(some (.ref 112)), (some (.ref 3)), (some (.ref 109)), none, (some (vS "perlcore.values" 206)), none, (some (.ref 0))])
noncomputable def o114 (P : Params) : Obj := (tQ "tuple" #[])
noncomputable def o115 (P : Params) : Obj := (Obj.mk .none none (.fields #[]) #[])
noncomputable def o116 (P : Params) : Obj := (tQ "tuple" #[(vS "self" 339), (vS "number" 340), (vS "sub" 341), (vS "captures" 342)])
noncomputable def o117 (P : Params) : Obj := (tQ "tuple" #[])
noncomputable def o118 (P : Params) : Obj := (Obj.mk .none none (.func (FuncData.mk (sS "__init__") (sS "Code.__init__") fa2_10_0 (FuncBody.stmts fb2_10_0) fc2_10_0 0 [] .none .none .none .none none .none .none 0)) #[])
noncomputable def o119 (P : Params) : Obj := (fQ "code" #[(vS "__init__" 336), (vS "Code.__init__" 337), (vS "/claim/cut.py" 338), (.int 46 0), (.int 4 0), (.int 0 0), (.int 0 0), (.int 3 0), (.ref 114), (.bool true), (.int 181 0), (.ref 115), .none, (.ref 116), (.ref 117), (.ref 118), (.int 343 0), (.int 46 0), (vS "/claim/cut.py" 344)])
noncomputable def o120 (P : Params) : Obj := (Obj.mk (.type "function") none (.func (FuncData.mk (sS "__init__") (sS "Code.__init__") fa2_10_0 (FuncBody.stmts fb2_10_0) fc2_10_0 3 [] .none .none .none (vS "perlcore.values" 206) none (.ref 119) .none 0)) #[])
noncomputable def o121 (P : Params) : Obj := (tQ "tuple" #[(vS "builtin" 346), (vS "captures" 347), (vS "package" 348), (vS "sub" 349)])
noncomputable def o122 (P : Params) : Obj := (Obj.mk (.type "dict") none (.dict #[(kE P "__module__" 331 (vS "perlcore.values" 206)), (kE P "__firstlineno__" 335 (.int 44 334)), (kE P "__init__" 345 (.ref 120)), (kE P "__static_attributes__" 350 (.ref 121)), (kE P "__doc__" 351 .none)] 2) #[])
noncomputable def o123 (P : Params) : Obj := (Obj.mk (.type "type") none (.cls (ClassData.mk (sS "Code") [(.ref 45)] [(.ref 123), (.ref 45), (.type "object")] 122 (sS "Code") true [] [] false none false)) #[(some (.ref 107)), none, (some (vS "Code" 324)), (some (vS "Code" 332)), (some (.builtin "object.__new__")), (some (.bool true))])
noncomputable def o124 (P : Params) : Obj := (fQ "super" #[(.ref 123), (.ref 123), (.ref 123)])
noncomputable def o125 (P : Params) : Obj := (fQ "builtin_function_or_method" #[(.builtin "object.__init_subclass__"), (.ref 123)])
noncomputable def o126 (P : Params) : Obj := (tQ "tuple" #[(.ref 45)])
noncomputable def o127 (P : Params) : Obj := (fQ "builtin_function_or_method" #[(.builtin "type.__prepare__"), (.type "type")])
noncomputable def o128 (P : Params) : Obj := (Obj.mk (.type "dict") none (.dict #[(kE P "__module__" 361 (vS "perlcore.values" 206)), (kE P "__qualname__" 363 (vS "Glob" 362)), (kE P "__firstlineno__" 365 (.int 52 364)), (kE P "__init__" 374 (.ref 139)), (kE P "__static_attributes__" 380 (.ref 140))] 5) #[])
noncomputable def o129 (P : Params) : Obj := (tQ "tuple" #[])
noncomputable def o130 (P : Params) : Obj := (Obj.mk .none none (.fields #[(.int 54 0), (.int 4 0), (.ref 138)]) #[])
noncomputable def o131 (P : Params) : Obj := (fQ "code" #[(vS "Glob" 356), (vS "Glob" 357), (vS "/claim/cut.py" 358), (.int 52 0), (.int 0 0), (.int 0 0), (.int 0 0), (.int 0 0), (.ref 129), (.bool false), (.int 181 0), (.ref 130), .none, .none, .none, .none, (.int 359 0), (.int 52 0), (vS "/claim/cut.py" 360)])
noncomputable def o132 (P : Params) : Obj := (Obj.mk (.type "frame") none .plain #[(some (.ref 131)), (some (.ref 3)), (some (.ref 128)), none, (some (vS "perlcore.values" 206)), none, (some (.ref 0))])
noncomputable def o133 (P : Params) : Obj := (tQ "tuple" #[])
noncomputable def o134 (P : Params) : Obj := (Obj.mk .none none (.fields #[]) #[])
noncomputable def o135 (P : Params) : Obj := (tQ "tuple" #[(vS "self" 369), (vS "number" 370), (vS "name" 371)])
noncomputable def o136 (P : Params) : Obj := (tQ "tuple" #[])
noncomputable def o137 (P : Params) : Obj := (Obj.mk .none none (.func (FuncData.mk (sS "__init__") (sS "Glob.__init__") fa2_11_0 (FuncBody.stmts fb2_11_0) fc2_11_0 0 [] .none .none .none .none none .none .none 0)) #[])
noncomputable def o138 (P : Params) : Obj := (fQ "code" #[(vS "__init__" 366), (vS "Glob.__init__" 367), (vS "/claim/cut.py" 368), (.int 54 0), (.int 3 0), (.int 0 0), (.int 0 0), (.int 3 0), (.ref 133), (.bool true), (.int 181 0), (.ref 134), .none, (.ref 135), (.ref 136), (.ref 137), (.int 372 0), (.int 54 0), (vS "/claim/cut.py" 373)])
noncomputable def o139 (P : Params) : Obj := (Obj.mk (.type "function") none (.func (FuncData.mk (sS "__init__") (sS "Glob.__init__") fa2_11_0 (FuncBody.stmts fb2_11_0) fc2_11_0 3 [] .none .none .none (vS "perlcore.values" 206) none (.ref 138) .none 0)) #[])
noncomputable def o140 (P : Params) : Obj := (tQ "tuple" #[(vS "array" 375), (vS "code" 376), (vS "hash" 377), (vS "name" 378), (vS "scalar" 379)])
noncomputable def o141 (P : Params) : Obj := (Obj.mk (.type "dict") none (.dict #[(kE P "__module__" 361 (vS "perlcore.values" 206)), (kE P "__firstlineno__" 365 (.int 52 364)), (kE P "__init__" 374 (.ref 139)), (kE P "__static_attributes__" 380 (.ref 140)), (kE P "__doc__" 381 .none)] 2) #[])
noncomputable def o142 (P : Params) : Obj := (Obj.mk (.type "type") none (.cls (ClassData.mk (sS "Glob") [(.ref 45)] [(.ref 142), (.ref 45), (.type "object")] 141 (sS "Glob") true [] [] false none false)) #[(some (.ref 126)), none, (some (vS "Glob" 354)), (some (vS "Glob" 362)), (some (.builtin "object.__new__")), (some (.bool true))])
noncomputable def o143 (P : Params) : Obj := (fQ "super" #[(.ref 142), (.ref 142), (.ref 142)])
noncomputable def o144 (P : Params) : Obj := (fQ "builtin_function_or_method" #[(.builtin "object.__init_subclass__"), (.ref 142)])
noncomputable def o145 (P : Params) : Obj := (tQ "tuple" #[])
noncomputable def o146 (P : Params) : Obj := (fQ "builtin_function_or_method" #[(.builtin "type.__prepare__"), (.type "type")])
noncomputable def o147 (P : Params) : Obj := (Obj.mk (.type "dict") none (.dict #[(kE P "__module__" 391 (vS "perlcore.values" 206)), (kE P "__qualname__" 393 (vS "Ref" 392)), (kE P "__firstlineno__" 395 (.int 61 394)), (kE P "__init__" 404 (.ref 159)), (kE P "__static_attributes__" 407 (.ref 160))] 5) #[])
noncomputable def o148 (P : Params) : Obj := (tQ "tuple" #[])
noncomputable def o149 (P : Params) : Obj := (Obj.mk .none none (.fields #[(.int 63 0), (.int 4 0), (.ref 158)]) #[])
noncomputable def o150 (P : Params) : Obj := (fQ "code" #[(vS "Ref" 386), (vS "Ref" 387), (vS "/claim/cut.py" 388), (.int 61 0), (.int 0 0), (.int 0 0), (.int 0 0), (.int 0 0), (.ref 148), (.bool false), (.int 181 0), (.ref 149), .none, .none, .none, .none, (.int 389 0), (.int 61 0), (vS "/claim/cut.py" 390)])
noncomputable def o151 (P : Params) : Obj := (Obj.mk (.type "frame") none .plain #[(some (.ref 150)), (some (.ref 3)), (some (.ref 147)), none, (some (vS "perlcore.values" 206)), none, (some (.ref 0))])
noncomputable def o152 (P : Params) : Obj := (tQ "tuple" #[(.bool false)])
noncomputable def o153 (P : Params) : Obj := (tQ "tuple" #[])
noncomputable def o154 (P : Params) : Obj := (Obj.mk .none none (.fields #[]) #[])
noncomputable def o155 (P : Params) : Obj := (tQ "tuple" #[(vS "self" 399), (vS "target" 400), (vS "is_weak" 401)])
noncomputable def o156 (P : Params) : Obj := (tQ "tuple" #[])
noncomputable def o157 (P : Params) : Obj := (Obj.mk .none none (.func (FuncData.mk (sS "__init__") (sS "Ref.__init__") fa2_12_0 (FuncBody.stmts fb2_12_0) fc2_12_0 0 [] .none .none .none .none none .none .none 0)) #[])
noncomputable def o158 (P : Params) : Obj := (fQ "code" #[(vS "__init__" 396), (vS "Ref.__init__" 397), (vS "/claim/cut.py" 398), (.int 63 0), (.int 3 0), (.int 0 0), (.int 0 0), (.int 3 0), (.ref 153), (.bool true), (.int 181 0), (.ref 154), .none, (.ref 155), (.ref 156), (.ref 157), (.int 402 0), (.int 63 0), (vS "/claim/cut.py" 403)])
noncomputable def o159 (P : Params) : Obj := (Obj.mk (.type "function") none (.func (FuncData.mk (sS "__init__") (sS "Ref.__init__") fa2_12_0 (FuncBody.stmts fb2_12_0) fc2_12_0 3 [] (.ref 152) .none .none (vS "perlcore.values" 206) none (.ref 158) .none 0)) #[])
noncomputable def o160 (P : Params) : Obj := (tQ "tuple" #[(vS "is_weak" 405), (vS "target" 406)])
noncomputable def o161 (P : Params) : Obj := (Obj.mk (.type "dict") none (.dict #[(kE P "__module__" 391 (vS "perlcore.values" 206)), (kE P "__firstlineno__" 395 (.int 61 394)), (kE P "__init__" 404 (.ref 159)), (kE P "__static_attributes__" 407 (.ref 160)), (kE P "__dict__" 409 (.ref 163)), (kE P "__weakref__" 411 (.ref 164)), (kE P "__doc__" 412 .none)] 4) #[])
noncomputable def o162 (P : Params) : Obj := (Obj.mk (.type "type") none (.cls (ClassData.mk (sS "Ref") [(.type "object")] [(.ref 162), (.type "object")] 161 (sS "Ref") true [] [] false none false)) #[none, none, (some (vS "Ref" 384)), (some (vS "Ref" 392)), (some (.builtin "object.__new__")), (some (.bool true))])
noncomputable def o163 (P : Params) : Obj := (fQ "getset_descriptor" #[(vS "__dict__" 408), (.ref 162), (.builtin "function.__dict__"), (.builtin "function.__dict__#set")])
noncomputable def o164 (P : Params) : Obj := (fQ "getset_descriptor" #[(vS "__weakref__" 410), (.ref 162), (.builtin "ExceptionGroup.__weakref__"), .none])
noncomputable def o165 (P : Params) : Obj := (fQ "super" #[(.ref 162), (.ref 162), (.ref 162)])
noncomputable def o166 (P : Params) : Obj := (fQ "builtin_function_or_method" #[(.builtin "object.__init_subclass__"), (.ref 162)])
noncomputable def o167 (P : Params) : Obj := (tQ "tuple" #[])
noncomputable def o168 (P : Params) : Obj := (fQ "builtin_function_or_method" #[(.builtin "type.__prepare__"), (.type "type")])
noncomputable def o169 (P : Params) : Obj := (Obj.mk (.type "dict") none (.dict #[(kE P "__module__" 422 (vS "perlcore.values" 206)), (kE P "__qualname__" 424 (vS "Heap" 423)), (kE P "__firstlineno__" 426 (.int 66 425)), (kE P "__init__" 434 (.ref 180)), (kE P "next_number" 441 (.ref 187)), (kE P "new_scalar" 449 (.ref 194)), (kE P "new_array" 456 (.ref 201)), (kE P "new_hash" 463 (.ref 208)), (kE P "new_code" 472 (.ref 215)), (kE P "new_glob" 480 (.ref 222)), (kE P "__static_attributes__" 484 (.ref 223))] 11) #[])
noncomputable def o170 (P : Params) : Obj := (tQ "tuple" #[])
noncomputable def o171 (P : Params) : Obj := (Obj.mk .none none (.fields #[(.int 68 0), (.int 4 0), (.ref 179), (.int 73 0), (.int 4 0), (.ref 186), (.int 77 0), (.int 4 0), (.ref 193), (.int 80 0), (.int 4 0), (.ref 200), (.int 83 0), (.int 4 0), (.ref 207), (.int 86 0), (.int 4 0), (.ref 214), (.int 89 0), (.int 4 0), (.ref 221)]) #[])
noncomputable def o172 (P : Params) : Obj := (fQ "code" #[(vS "Heap" 417), (vS "Heap" 418), (vS "/claim/cut.py" 419), (.int 66 0), (.int 0 0), (.int 0 0), (.int 0 0), (.int 0 0), (.ref 170), (.bool false), (.int 181 0), (.ref 171), .none, .none, .none, .none, (.int 420 0), (.int 66 0), (vS "/claim/cut.py" 421)])
noncomputable def o173 (P : Params) : Obj := (Obj.mk (.type "frame") none .plain #[(some (.ref 172)), (some (.ref 3)), (some (.ref 169)), none, (some (vS "perlcore.values" 206)), none, (some (.ref 0))])
noncomputable def o174 (P : Params) : Obj := (tQ "tuple" #[])
noncomputable def o175 (P : Params) : Obj := (Obj.mk .none none (.fields #[]) #[])
noncomputable def o176 (P : Params) : Obj := (tQ "tuple" #[(vS "self" 430), (vS "limits" 431)])
noncomputable def o177 (P : Params) : Obj := (tQ "tuple" #[])
noncomputable def o178 (P : Params) : Obj := (Obj.mk .none none (.func (FuncData.mk (sS "__init__") (sS "Heap.__init__") fa2_13_0 (FuncBody.stmts fb2_13_0) fc2_13_0 0 [] .none .none .none .none none .none .none 0)) #[])
noncomputable def o179 (P : Params) : Obj := (fQ "code" #[(vS "__init__" 427), (vS "Heap.__init__" 428), (vS "/claim/cut.py" 429), (.int 68 0), (.int 2 0), (.int 0 0), (.int 0 0), (.int 3 0), (.ref 174), (.bool true), (.int 181 0), (.ref 175), .none, (.ref 176), (.ref 177), (.ref 178), (.int 432 0), (.int 68 0), (vS "/claim/cut.py" 433)])
noncomputable def o180 (P : Params) : Obj := (Obj.mk (.type "function") none (.func (FuncData.mk (sS "__init__") (sS "Heap.__init__") fa2_13_0 (FuncBody.stmts fb2_13_0) fc2_13_0 3 [] .none .none .none (vS "perlcore.values" 206) none (.ref 179) .none 0)) #[])
noncomputable def o181 (P : Params) : Obj := (tQ "tuple" #[])
noncomputable def o182 (P : Params) : Obj := (Obj.mk .none none (.fields #[]) #[])
noncomputable def o183 (P : Params) : Obj := (tQ "tuple" #[(vS "self" 438)])
noncomputable def o184 (P : Params) : Obj := (tQ "tuple" #[])
noncomputable def o185 (P : Params) : Obj := (Obj.mk .none none (.func (FuncData.mk (sS "next_number") (sS "Heap.next_number") fa2_13_1 (FuncBody.stmts fb2_13_1) fc2_13_1 0 [] .none .none .none .none none .none .none 0)) #[])
noncomputable def o186 (P : Params) : Obj := (fQ "code" #[(vS "next_number" 435), (vS "Heap.next_number" 436), (vS "/claim/cut.py" 437), (.int 73 0), (.int 1 0), (.int 0 0), (.int 0 0), (.int 3 0), (.ref 181), (.bool true), (.int 181 0), (.ref 182), .none, (.ref 183), (.ref 184), (.ref 185), (.int 439 0), (.int 73 0), (vS "/claim/cut.py" 440)])
noncomputable def o187 (P : Params) : Obj := (Obj.mk (.type "function") none (.func (FuncData.mk (sS "next_number") (sS "Heap.next_number") fa2_13_1 (FuncBody.stmts fb2_13_1) fc2_13_1 3 [] .none .none .none (vS "perlcore.values" 206) none (.ref 186) .none 0)) #[])
noncomputable def o188 (P : Params) : Obj := (tQ "tuple" #[])
noncomputable def o189 (P : Params) : Obj := (Obj.mk .none none (.fields #[]) #[])
noncomputable def o190 (P : Params) : Obj := (tQ "tuple" #[(vS "self" 445), (vS "value" 446)])
noncomputable def o191 (P : Params) : Obj := (tQ "tuple" #[])
noncomputable def o192 (P : Params) : Obj := (Obj.mk .none none (.func (FuncData.mk (sS "new_scalar") (sS "Heap.new_scalar") fa2_13_2 (FuncBody.stmts fb2_13_2) fc2_13_2 0 [] .none .none .none .none none .none .none 0)) #[])
noncomputable def o193 (P : Params) : Obj := (fQ "code" #[(vS "new_scalar" 442), (vS "Heap.new_scalar" 443), (vS "/claim/cut.py" 444), (.int 77 0), (.int 2 0), (.int 0 0), (.int 0 0), (.int 3 0), (.ref 188), (.bool true), (.int 181 0), (.ref 189), .none, (.ref 190), (.ref 191), (.ref 192), (.int 447 0), (.int 77 0), (vS "/claim/cut.py" 448)])
noncomputable def o194 (P : Params) : Obj := (Obj.mk (.type "function") none (.func (FuncData.mk (sS "new_scalar") (sS "Heap.new_scalar") fa2_13_2 (FuncBody.stmts fb2_13_2) fc2_13_2 3 [] .none .none .none (vS "perlcore.values" 206) none (.ref 193) .none 0)) #[])
noncomputable def o195 (P : Params) : Obj := (tQ "tuple" #[])
noncomputable def o196 (P : Params) : Obj := (Obj.mk .none none (.fields #[]) #[])
noncomputable def o197 (P : Params) : Obj := (tQ "tuple" #[(vS "self" 453)])
noncomputable def o198 (P : Params) : Obj := (tQ "tuple" #[])
noncomputable def o199 (P : Params) : Obj := (Obj.mk .none none (.func (FuncData.mk (sS "new_array") (sS "Heap.new_array") fa2_13_3 (FuncBody.stmts fb2_13_3) fc2_13_4 0 [] .none .none .none .none none .none .none 0)) #[])
noncomputable def o200 (P : Params) : Obj := (fQ "code" #[(vS "new_array" 450), (vS "Heap.new_array" 451), (vS "/claim/cut.py" 452), (.int 80 0), (.int 1 0), (.int 0 0), (.int 0 0), (.int 3 0), (.ref 195), (.bool true), (.int 181 0), (.ref 196), .none, (.ref 197), (.ref 198), (.ref 199), (.int 454 0), (.int 80 0), (vS "/claim/cut.py" 455)])
noncomputable def o201 (P : Params) : Obj := (Obj.mk (.type "function") none (.func (FuncData.mk (sS "new_array") (sS "Heap.new_array") fa2_13_3 (FuncBody.stmts fb2_13_3) fc2_13_4 3 [] .none .none .none (vS "perlcore.values" 206) none (.ref 200) .none 0)) #[])
noncomputable def o202 (P : Params) : Obj := (tQ "tuple" #[])
noncomputable def o203 (P : Params) : Obj := (Obj.mk .none none (.fields #[]) #[])
noncomputable def o204 (P : Params) : Obj := (tQ "tuple" #[(vS "self" 460)])
noncomputable def o205 (P : Params) : Obj := (tQ "tuple" #[])
noncomputable def o206 (P : Params) : Obj := (Obj.mk .none none (.func (FuncData.mk (sS "new_hash") (sS "Heap.new_hash") fa2_13_4 (FuncBody.stmts fb2_13_4) fc2_13_4 0 [] .none .none .none .none none .none .none 0)) #[])
noncomputable def o207 (P : Params) : Obj := (fQ "code" #[(vS "new_hash" 457), (vS "Heap.new_hash" 458), (vS "/claim/cut.py" 459), (.int 83 0), (.int 1 0), (.int 0 0), (.int 0 0), (.int 3 0), (.ref 202), (.bool true), (.int 181 0), (.ref 203), .none, (.ref 204), (.ref 205), (.ref 206), (.int 461 0), (.int 83 0), (vS "/claim/cut.py" 462)])
noncomputable def o208 (P : Params) : Obj := (Obj.mk (.type "function") none (.func (FuncData.mk (sS "new_hash") (sS "Heap.new_hash") fa2_13_4 (FuncBody.stmts fb2_13_4) fc2_13_4 3 [] .none .none .none (vS "perlcore.values" 206) none (.ref 207) .none 0)) #[])
noncomputable def o209 (P : Params) : Obj := (tQ "tuple" #[])
noncomputable def o210 (P : Params) : Obj := (Obj.mk .none none (.fields #[]) #[])
noncomputable def o211 (P : Params) : Obj := (tQ "tuple" #[(vS "self" 467), (vS "sub" 468), (vS "captures" 469)])
noncomputable def o212 (P : Params) : Obj := (tQ "tuple" #[])
noncomputable def o213 (P : Params) : Obj := (Obj.mk .none none (.func (FuncData.mk (sS "new_code") (sS "Heap.new_code") fa2_13_5 (FuncBody.stmts fb2_13_5) fc2_13_5 0 [] .none .none .none .none none .none .none 0)) #[])
noncomputable def o214 (P : Params) : Obj := (fQ "code" #[(vS "new_code" 464), (vS "Heap.new_code" 465), (vS "/claim/cut.py" 466), (.int 86 0), (.int 3 0), (.int 0 0), (.int 0 0), (.int 3 0), (.ref 209), (.bool true), (.int 181 0), (.ref 210), .none, (.ref 211), (.ref 212), (.ref 213), (.int 470 0), (.int 86 0), (vS "/claim/cut.py" 471)])
noncomputable def o215 (P : Params) : Obj := (Obj.mk (.type "function") none (.func (FuncData.mk (sS "new_code") (sS "Heap.new_code") fa2_13_5 (FuncBody.stmts fb2_13_5) fc2_13_5 3 [] .none .none .none (vS "perlcore.values" 206) none (.ref 214) .none 0)) #[])
noncomputable def o216 (P : Params) : Obj := (tQ "tuple" #[])
noncomputable def o217 (P : Params) : Obj := (Obj.mk .none none (.fields #[]) #[])
noncomputable def o218 (P : Params) : Obj := (tQ "tuple" #[(vS "self" 476), (vS "name" 477)])
noncomputable def o219 (P : Params) : Obj := (tQ "tuple" #[])
noncomputable def o220 (P : Params) : Obj := (Obj.mk .none none (.func (FuncData.mk (sS "new_glob") (sS "Heap.new_glob") fa2_13_6 (FuncBody.stmts fb2_13_6) fc2_13_6 0 [] .none .none .none .none none .none .none 0)) #[])
noncomputable def o221 (P : Params) : Obj := (fQ "code" #[(vS "new_glob" 473), (vS "Heap.new_glob" 474), (vS "/claim/cut.py" 475), (.int 89 0), (.int 2 0), (.int 0 0), (.int 0 0), (.int 3 0), (.ref 216), (.bool true), (.int 181 0), (.ref 217), .none, (.ref 218), (.ref 219), (.ref 220), (.int 478 0), (.int 89 0), (vS "/claim/cut.py" 479)])
noncomputable def o222 (P : Params) : Obj := (Obj.mk (.type "function") none (.func (FuncData.mk (sS "new_glob") (sS "Heap.new_glob") fa2_13_6 (FuncBody.stmts fb2_13_6) fc2_13_6 3 [] .none .none .none (vS "perlcore.values" 206) none (.ref 221) .none 0)) #[])
noncomputable def o223 (P : Params) : Obj := (tQ "tuple" #[(vS "last" 481), (vS "limits" 482), (vS "zero" 483)])
noncomputable def o224 (P : Params) : Obj := (Obj.mk (.type "dict") none (.dict #[(kE P "__module__" 422 (vS "perlcore.values" 206)), (kE P "__firstlineno__" 426 (.int 66 425)), (kE P "__init__" 434 (.ref 180)), (kE P "next_number" 441 (.ref 187)), (kE P "new_scalar" 449 (.ref 194)), (kE P "new_array" 456 (.ref 201)), (kE P "new_hash" 463 (.ref 208)), (kE P "new_code" 472 (.ref 215)), (kE P "new_glob" 480 (.ref 222)), (kE P "__static_attributes__" 484 (.ref 223)), (kE P "__dict__" 486 (.ref 226)), (kE P "__weakref__" 488 (.ref 227)), (kE P "__doc__" 489 .none)] 4) #[])
noncomputable def o225 (P : Params) : Obj := (Obj.mk (.type "type") none (.cls (ClassData.mk (sS "Heap") [(.type "object")] [(.ref 225), (.type "object")] 224 (sS "Heap") true [] [] false none false)) #[none, none, (some (vS "Heap" 415)), (some (vS "Heap" 423)), (some (.builtin "object.__new__")), (some (.bool true))])
noncomputable def o226 (P : Params) : Obj := (fQ "getset_descriptor" #[(vS "__dict__" 485), (.ref 225), (.builtin "function.__dict__"), (.builtin "function.__dict__#set")])
noncomputable def o227 (P : Params) : Obj := (fQ "getset_descriptor" #[(vS "__weakref__" 487), (.ref 225), (.builtin "ExceptionGroup.__weakref__"), .none])
noncomputable def o228 (P : Params) : Obj := (fQ "super" #[(.ref 225), (.ref 225), (.ref 225)])
noncomputable def o229 (P : Params) : Obj := (fQ "builtin_function_or_method" #[(.builtin "object.__init_subclass__"), (.ref 225)])
noncomputable def o230 (P : Params) : Obj := (tQ "tuple" #[])
noncomputable def o231 (P : Params) : Obj := (Obj.mk .none none (.fields #[]) #[])
noncomputable def o232 (P : Params) : Obj := (tQ "tuple" #[(vS "thing" 495)])
noncomputable def o233 (P : Params) : Obj := (tQ "tuple" #[])
noncomputable def o234 (P : Params) : Obj := (Obj.mk .none none (.func (FuncData.mk (sS "thing_word") (sS "thing_word") fa1_14 (FuncBody.stmts fb1_14) fc1_14 0 [] .none .none .none .none none .none .none 0)) #[])
noncomputable def o235 (P : Params) : Obj := (fQ "code" #[(vS "thing_word" 492), (vS "thing_word" 493), (vS "/claim/cut.py" 494), (.int 91 0), (.int 1 0), (.int 0 0), (.int 0 0), (.int 3 0), (.ref 230), (.bool true), (.int 181 0), (.ref 231), .none, (.ref 232), (.ref 233), (.ref 234), (.int 496 0), (.int 91 0), (vS "/claim/cut.py" 497)])
noncomputable def o236 (P : Params) : Obj := (Obj.mk (.type "function") none (.func (FuncData.mk (sS "thing_word") (sS "thing_word") fa1_14 (FuncBody.stmts fb1_14) fc1_14 3 [] .none .none .none (vS "perlcore.values" 206) none (.ref 235) .none 0)) #[])
noncomputable def o237 (P : Params) : Obj := (tQ "tuple" #[])
noncomputable def o238 (P : Params) : Obj := (Obj.mk .none none (.fields #[]) #[])
noncomputable def o239 (P : Params) : Obj := (tQ "tuple" #[(vS "number" 502), (vS "text" 503)])
noncomputable def o240 (P : Params) : Obj := (tQ "tuple" #[])
noncomputable def o241 (P : Params) : Obj := (Obj.mk .none none (.func (FuncData.mk (sS "hex_of") (sS "hex_of") fa1_15 (FuncBody.stmts fb1_15) fc1_15 0 [] .none .none .none .none none .none .none 0)) #[])
noncomputable def o242 (P : Params) : Obj := (fQ "code" #[(vS "hex_of" 499), (vS "hex_of" 500), (vS "/claim/cut.py" 501), (.int 103 0), (.int 1 0), (.int 0 0), (.int 0 0), (.int 3 0), (.ref 237), (.bool true), (.int 181 0), (.ref 238), .none, (.ref 239), (.ref 240), (.ref 241), (.int 504 0), (.int 103 0), (vS "/claim/cut.py" 505)])
noncomputable def o243 (P : Params) : Obj := (Obj.mk (.type "function") none (.func (FuncData.mk (sS "hex_of") (sS "hex_of") fa1_15 (FuncBody.stmts fb1_15) fc1_15 3 [] .none .none .none (vS "perlcore.values" 206) none (.ref 242) .none 0)) #[])
noncomputable def o244 (P : Params) : Obj := (tQ "tuple" #[])
noncomputable def o245 (P : Params) : Obj := (Obj.mk .none none (.fields #[]) #[])
noncomputable def o246 (P : Params) : Obj := (tQ "tuple" #[(vS "ref" 510), (vS "text" 511)])
noncomputable def o247 (P : Params) : Obj := (tQ "tuple" #[])
noncomputable def o248 (P : Params) : Obj := (Obj.mk .none none (.func (FuncData.mk (sS "ref_text") (sS "ref_text") fa1_16 (FuncBody.stmts fb1_16) fc1_16 0 [] .none .none .none .none none .none .none 0)) #[])
noncomputable def o249 (P : Params) : Obj := (fQ "code" #[(vS "ref_text" 507), (vS "ref_text" 508), (vS "/claim/cut.py" 509), (.int 109 0), (.int 1 0), (.int 0 0), (.int 0 0), (.int 3 0), (.ref 244), (.bool true), (.int 181 0), (.ref 245), .none, (.ref 246), (.ref 247), (.ref 248), (.int 512 0), (.int 109 0), (vS "/claim/cut.py" 513)])
noncomputable def o250 (P : Params) : Obj := (Obj.mk (.type "function") none (.func (FuncData.mk (sS "ref_text") (sS "ref_text") fa1_16 (FuncBody.stmts fb1_16) fc1_16 3 [] .none .none .none (vS "perlcore.values" 206) none (.ref 249) .none 0)) #[])
noncomputable def o251 (P : Params) : Obj := (tQ "tuple" #[])
noncomputable def o252 (P : Params) : Obj := (Obj.mk .none none (.fields #[]) #[])
noncomputable def o253 (P : Params) : Obj := (tQ "tuple" #[(vS "x" 520)])
noncomputable def o254 (P : Params) : Obj := (tQ "tuple" #[])
noncomputable def o255 (P : Params) : Obj := (Obj.mk .none none (.func (FuncData.mk (sS "value_of") (sS "value_of") fa1_18 (FuncBody.stmts fb1_18) fc1_18 0 [] .none .none .none .none none .none .none 0)) #[])
noncomputable def o256 (P : Params) : Obj := (fQ "code" #[(vS "value_of" 517), (vS "value_of" 518), (vS "/claim/cut.py" 519), (.int 115 0), (.int 1 0), (.int 0 0), (.int 0 0), (.int 3 0), (.ref 251), (.bool true), (.int 181 0), (.ref 252), .none, (.ref 253), (.ref 254), (.ref 255), (.int 521 0), (.int 115 0), (vS "/claim/cut.py" 522)])
noncomputable def o257 (P : Params) : Obj := (Obj.mk (.type "function") none (.func (FuncData.mk (sS "value_of") (sS "value_of") fa1_18 (FuncBody.stmts fb1_18) fc1_18 3 [] .none .none .none (vS "perlcore.convert" 515) none (.ref 256) .none 0)) #[])
noncomputable def o258 (P : Params) : Obj := (tQ "tuple" #[])
noncomputable def o259 (P : Params) : Obj := (Obj.mk .none none (.fields #[]) #[])
noncomputable def o260 (P : Params) : Obj := (tQ "tuple" #[(vS "value" 527)])
noncomputable def o261 (P : Params) : Obj := (tQ "tuple" #[])
noncomputable def o262 (P : Params) : Obj := (Obj.mk .none none (.func (FuncData.mk (sS "to_text") (sS "to_text") fa1_19 (FuncBody.stmts fb1_19) fc1_19 0 [] .none .none .none .none none .none .none 0)) #[])
noncomputable def o263 (P : Params) : Obj := (fQ "code" #[(vS "to_text" 524), (vS "to_text" 525), (vS "/claim/cut.py" 526), (.int 121 0), (.int 1 0), (.int 0 0), (.int 0 0), (.int 3 0), (.ref 258), (.bool true), (.int 181 0), (.ref 259), .none, (.ref 260), (.ref 261), (.ref 262), (.int 528 0), (.int 121 0), (vS "/claim/cut.py" 529)])
noncomputable def o264 (P : Params) : Obj := (Obj.mk (.type "function") none (.func (FuncData.mk (sS "to_text") (sS "to_text") fa1_19 (FuncBody.stmts fb1_19) fc1_19 3 [] .none .none .none (vS "perlcore.convert" 515) none (.ref 263) .none 0)) #[])
noncomputable def o265 (P : Params) : Obj := (tQ "tuple" #[(.type "Exception")])
noncomputable def o266 (P : Params) : Obj := (fQ "builtin_function_or_method" #[(.builtin "type.__prepare__"), (.type "type")])
noncomputable def o267 (P : Params) : Obj := (Obj.mk (.type "dict") none (.dict #[(kE P "__module__" 540 (vS "perlcore.errors" 531)), (kE P "__qualname__" 542 (vS "PerlError" 541)), (kE P "__firstlineno__" 544 (.int 130 543)), (kE P "__init__" 552 (.ref 278)), (kE P "__static_attributes__" 554 (.ref 279))] 5) #[])
noncomputable def o268 (P : Params) : Obj := (tQ "tuple" #[])
noncomputable def o269 (P : Params) : Obj := (Obj.mk .none none (.fields #[(.int 132 0), (.int 4 0), (.ref 277)]) #[])
noncomputable def o270 (P : Params) : Obj := (fQ "code" #[(vS "PerlError" 535), (vS "PerlError" 536), (vS "/claim/cut.py" 537), (.int 130 0), (.int 0 0), (.int 0 0), (.int 0 0), (.int 0 0), (.ref 268), (.bool false), (.int 181 0), (.ref 269), .none, .none, .none, .none, (.int 538 0), (.int 130 0), (vS "/claim/cut.py" 539)])
noncomputable def o271 (P : Params) : Obj := (Obj.mk (.type "frame") none .plain #[(some (.ref 270)), (some (.ref 3)), (some (.ref 267)), none, (some (vS "perlcore.errors" 531)), none, (some (.ref 0))])
noncomputable def o272 (P : Params) : Obj := (tQ "tuple" #[])
noncomputable def o273 (P : Params) : Obj := (Obj.mk .none none (.fields #[]) #[])
noncomputable def o274 (P : Params) : Obj := (tQ "tuple" #[(vS "self" 548), (vS "text" 549)])
noncomputable def o275 (P : Params) : Obj := (tQ "tuple" #[])
noncomputable def o276 (P : Params) : Obj := (Obj.mk .none none (.func (FuncData.mk (sS "__init__") (sS "PerlError.__init__") fa2_21_0 (FuncBody.stmts fb2_21_0) fc2_21_0 0 [] .none .none .none .none none .none .none 0)) #[])
noncomputable def o277 (P : Params) : Obj := (fQ "code" #[(vS "__init__" 545), (vS "PerlError.__init__" 546), (vS "/claim/cut.py" 547), (.int 132 0), (.int 2 0), (.int 0 0), (.int 0 0), (.int 3 0), (.ref 272), (.bool true), (.int 181 0), (.ref 273), .none, (.ref 274), (.ref 275), (.ref 276), (.int 550 0), (.int 132 0), (vS "/claim/cut.py" 551)])
noncomputable def o278 (P : Params) : Obj := (Obj.mk (.type "function") none (.func (FuncData.mk (sS "__init__") (sS "PerlError.__init__") fa2_21_0 (FuncBody.stmts fb2_21_0) fc2_21_0 3 [] .none .none .none (vS "perlcore.errors" 531) none (.ref 277) .none 0)) #[])
noncomputable def o279 (P : Params) : Obj := (tQ "tuple" #[(vS "text" 553)])
noncomputable def o280 (P : Params) : Obj := (Obj.mk (.type "dict") none (.dict #[(kE P "__module__" 540 (vS "perlcore.errors" 531)), (kE P "__firstlineno__" 544 (.int 130 543)), (kE P "__init__" 552 (.ref 278)), (kE P "__static_attributes__" 554 (.ref 279)), (kE P "__weakref__" 556 (.ref 282)), (kE P "__doc__" 557 .none)] 3) #[])
noncomputable def o281 (P : Params) : Obj := (Obj.mk (.type "type") none (.cls (ClassData.mk (sS "PerlError") [(.type "Exception")] [(.ref 281), (.type "Exception"), (.type "BaseException"), (.type "object")] 280 (sS "PerlError") true [] [(.ref 301)] false none false)) #[(some (.ref 265)), none, (some (vS "PerlError" 533)), (some (vS "PerlError" 541)), (some (.builtin "Exception.__new__")), (some (.bool true))])
noncomputable def o282 (P : Params) : Obj := (fQ "getset_descriptor" #[(vS "__weakref__" 555), (.ref 281), (.builtin "ExceptionGroup.__weakref__"), .none])
noncomputable def o283 (P : Params) : Obj := (fQ "super" #[(.ref 281), (.ref 281), (.ref 281)])
noncomputable def o284 (P : Params) : Obj := (fQ "builtin_function_or_method" #[(.builtin "object.__init_subclass__"), (.ref 281)])
noncomputable def o285 (P : Params) : Obj := (tQ "tuple" #[(.ref 281)])
noncomputable def o286 (P : Params) : Obj := (fQ "builtin_function_or_method" #[(.builtin "type.__prepare__"), (.type "type")])
noncomputable def o287 (P : Params) : Obj := (Obj.mk (.type "dict") none (.dict #[(kE P "__module__" 569 (vS "perlcore.errors" 531)), (kE P "__qualname__" 571 (vS "Die" 570)), (kE P "__firstlineno__" 573 (.int 135 572)), (kE P "__init__" 581 (.ref 298)), (kE P "__static_attributes__" 583 (.ref 299))] 5) #[])
noncomputable def o288 (P : Params) : Obj := (tQ "tuple" #[])
noncomputable def o289 (P : Params) : Obj := (Obj.mk .none none (.fields #[(.int 137 0), (.int 4 0), (.ref 297)]) #[])
noncomputable def o290 (P : Params) : Obj := (fQ "code" #[(vS "Die" 564), (vS "Die" 565), (vS "/claim/cut.py" 566), (.int 135 0), (.int 0 0), (.int 0 0), (.int 0 0), (.int 0 0), (.ref 288), (.bool false), (.int 181 0), (.ref 289), .none, .none, .none, .none, (.int 567 0), (.int 135 0), (vS "/claim/cut.py" 568)])
noncomputable def o291 (P : Params) : Obj := (Obj.mk (.type "frame") none .plain #[(some (.ref 290)), (some (.ref 3)), (some (.ref 287)), none, (some (vS "perlcore.errors" 531)), none, (some (.ref 0))])
noncomputable def o292 (P : Params) : Obj := (tQ "tuple" #[])
noncomputable def o293 (P : Params) : Obj := (Obj.mk .none none (.fields #[]) #[])
noncomputable def o294 (P : Params) : Obj := (tQ "tuple" #[(vS "self" 577), (vS "value" 578)])
noncomputable def o295 (P : Params) : Obj := (tQ "tuple" #[])
noncomputable def o296 (P : Params) : Obj := (Obj.mk .none none (.func (FuncData.mk (sS "__init__") (sS "Die.__init__") fa2_22_0 (FuncBody.stmts fb2_22_0) fc2_22_0 0 [] .none .none .none .none none .none .none 0)) #[])
noncomputable def o297 (P : Params) : Obj := (fQ "code" #[(vS "__init__" 574), (vS "Die.__init__" 575), (vS "/claim/cut.py" 576), (.int 137 0), (.int 2 0), (.int 0 0), (.int 0 0), (.int 3 0), (.ref 292), (.bool true), (.int 181 0), (.ref 293), .none, (.ref 294), (.ref 295), (.ref 296), (.int 579 0), (.int 137 0), (vS "/claim/cut.py" 580)])
noncomputable def o298 (P : Params) : Obj := (Obj.mk (.type "function") none (.func (FuncData.mk (sS "__init__") (sS "Die.__init__") fa2_22_0 (FuncBody.stmts fb2_22_0) fc2_22_0 3 [] .none .none .none (vS "perlcore.errors" 531) none (.ref 297) .none 0)) #[])
noncomputable def o299 (P : Params) : Obj := (tQ "tuple" #[(vS "value" 582)])
noncomputable def o300 (P : Params) : Obj := (Obj.mk (.type "dict") none (.dict #[(kE P "__module__" 569 (vS "perlcore.errors" 531)), (kE P "__firstlineno__" 573 (.int 135 572)), (kE P "__init__" 581 (.ref 298)), (kE P "__static_attributes__" 583 (.ref 299)), (kE P "__doc__" 584 .none)] 2) #[])
noncomputable def o301 (P : Params) : Obj := (Obj.mk (.type "type") none (.cls (ClassData.mk (sS "Die") [(.ref 281)] [(.ref 301), (.ref 281), (.type "Exception"), (.type "BaseException"), (.type "object")] 300 (sS "Die") true [] [] false none false)) #[(some (.ref 285)), none, (some (vS "Die" 562)), (some (vS "Die" 570)), (some (.builtin "Exception.__new__")), (some (.bool true))])
noncomputable def o302 (P : Params) : Obj := (fQ "super" #[(.ref 301), (.ref 301), (.ref 301)])
noncomputable def o303 (P : Params) : Obj := (fQ "builtin_function_or_method" #[(.builtin "object.__init_subclass__"), (.ref 301)])
noncomputable def o304 (P : Params) : Obj := (tQ "tuple" #[])
noncomputable def o305 (P : Params) : Obj := (Obj.mk .none none (.fields #[]) #[])
noncomputable def o306 (P : Params) : Obj := (tQ "tuple" #[(vS "length" 592), (vS "offset" 593), (vS "count" 594), (vS "begin" 595), (vS "end" 596)])
noncomputable def o307 (P : Params) : Obj := (tQ "tuple" #[])
noncomputable def o308 (P : Params) : Obj := (Obj.mk .none none (.func (FuncData.mk (sS "substr_span") (sS "substr_span") fa1_24 (FuncBody.stmts fb1_24) fc1_24 0 [] .none .none .none .none none .none .none 0)) #[])
noncomputable def o309 (P : Params) : Obj := (fQ "code" #[(vS "substr_span" 589), (vS "substr_span" 590), (vS "/claim/cut.py" 591), (.int 141 0), (.int 3 0), (.int 0 0), (.int 0 0), (.int 3 0), (.ref 304), (.bool true), (.int 181 0), (.ref 305), .none, (.ref 306), (.ref 307), (.ref 308), (.int 597 0), (.int 141 0), (vS "/claim/cut.py" 598)])
noncomputable def o310 (P : Params) : Obj := (Obj.mk (.type "function") none (.func (FuncData.mk (sS "substr_span") (sS "substr_span") fa1_24 (FuncBody.stmts fb1_24) fc1_24 3 [] .none .none .none (vS "perlcore.textops" 587) none (.ref 309) .none 0)) #[])
noncomputable def o311 (P : Params) : Obj := (tQ "tuple" #[])
noncomputable def o312 (P : Params) : Obj := (Obj.mk .none none (.fields #[]) #[])
noncomputable def o313 (P : Params) : Obj := (tQ "tuple" #[(vS "text" 603), (vS "offset" 604), (vS "count" 605), (vS "span" 606)])
noncomputable def o314 (P : Params) : Obj := (tQ "tuple" #[])
noncomputable def o315 (P : Params) : Obj := (Obj.mk .none none (.func (FuncData.mk (sS "substr_value") (sS "substr_value") fa1_25 (FuncBody.stmts fb1_25) fc1_25 0 [] .none .none .none .none none .none .none 0)) #[])
noncomputable def o316 (P : Params) : Obj := (fQ "code" #[(vS "substr_value" 600), (vS "substr_value" 601), (vS "/claim/cut.py" 602), (.int 157 0), (.int 3 0), (.int 0 0), (.int 0 0), (.int 3 0), (.ref 311), (.bool true), (.int 181 0), (.ref 312), .none, (.ref 313), (.ref 314), (.ref 315), (.int 607 0), (.int 157 0), (vS "/claim/cut.py" 608)])
noncomputable def o317 (P : Params) : Obj := (Obj.mk (.type "function") none (.func (FuncData.mk (sS "substr_value") (sS "substr_value") fa1_25 (FuncBody.stmts fb1_25) fc1_25 3 [] .none .none .none (vS "perlcore.textops" 587) none (.ref 316) .none 0)) #[])
noncomputable def o318 (P : Params) : Obj := (tQ "tuple" #[])
noncomputable def o319 (P : Params) : Obj := (Obj.mk .none none (.fields #[]) #[])
noncomputable def o320 (P : Params) : Obj := (tQ "tuple" #[(vS "text" 613), (vS "offset" 614), (vS "count" 615), (vS "new" 616), (vS "span" 617)])
noncomputable def o321 (P : Params) : Obj := (tQ "tuple" #[])
noncomputable def o322 (P : Params) : Obj := (Obj.mk .none none (.func (FuncData.mk (sS "substr_put") (sS "substr_put") fa1_26 (FuncBody.stmts fb1_26) fc1_26 0 [] .none .none .none .none none .none .none 0)) #[])
noncomputable def o323 (P : Params) : Obj := (fQ "code" #[(vS "substr_put" 610), (vS "substr_put" 611), (vS "/claim/cut.py" 612), (.int 162 0), (.int 4 0), (.int 0 0), (.int 0 0), (.int 3 0), (.ref 318), (.bool true), (.int 181 0), (.ref 319), .none, (.ref 320), (.ref 321), (.ref 322), (.int 618 0), (.int 162 0), (vS "/claim/cut.py" 619)])
noncomputable def o324 (P : Params) : Obj := (Obj.mk (.type "function") none (.func (FuncData.mk (sS "substr_put") (sS "substr_put") fa1_26 (FuncBody.stmts fb1_26) fc1_26 3 [] .none .none .none (vS "perlcore.textops" 587) none (.ref 323) .none 0)) #[])
noncomputable def o325 (P : Params) : Obj := (tQ "tuple" #[])
noncomputable def o326 (P : Params) : Obj := (fQ "builtin_function_or_method" #[(.builtin "type.__prepare__"), (.type "type")])
noncomputable def o327 (P : Params) : Obj := (Obj.mk (.type "dict") none (.dict #[(kE P "__module__" 630 (vS "perlcore.lvalues" 621)), (kE P "__qualname__" 632 (vS "LvText" 631)), (kE P "__firstlineno__" 634 (.int 168 633)), (kE P "__init__" 645 (.ref 338)), (kE P "begin" 653 (.ref 345)), (kE P "get" 661 (.ref 352)), (kE P "put" 673 (.ref 359)), (kE P "__static_attributes__" 679 (.ref 360))] 8) #[])
noncomputable def o328 (P : Params) : Obj := (tQ "tuple" #[])
noncomputable def o329 (P : Params) : Obj := (Obj.mk .none none (.fields #[(.int 170 0), (.int 4 0), (.ref 337), (.int 177 0), (.int 4 0), (.ref 344), (.int 182 0), (.int 4 0), (.ref 351), (.int 186 0), (.int 4 0), (.ref 358)]) #[])
noncomputable def o330 (P : Params) : Obj := (fQ "code" #[(vS "LvText" 625), (vS "LvText" 626), (vS "/claim/cut.py" 627), (.int 168 0), (.int 0 0), (.int 0 0), (.int 0 0), (.int 0 0), (.ref 328), (.bool false), (.int 181 0), (.ref 329), .none, .none, .none, .none, (.int 628 0), (.int 168 0), (vS "/claim/cut.py" 629)])
noncomputable def o331 (P : Params) : Obj := (Obj.mk (.type "frame") none .plain #[(some (.ref 330)), (some (.ref 3)), (some (.ref 327)), none, (some (vS "perlcore.lvalues" 621)), none, (some (.ref 0))])
noncomputable def o332 (P : Params) : Obj := (tQ "tuple" #[])
noncomputable def o333 (P : Params) : Obj := (Obj.mk .none none (.fields #[]) #[])
noncomputable def o334 (P : Params) : Obj := (tQ "tuple" #[(vS "self" 638), (vS "counter" 639), (vS "target" 640), (vS "offset" 641), (vS "count" 642)])
noncomputable def o335 (P : Params) : Obj := (tQ "tuple" #[])
noncomputable def o336 (P : Params) : Obj := (Obj.mk .none none (.func (FuncData.mk (sS "__init__") (sS "LvText.__init__") fa2_28_0 (FuncBody.stmts fb2_28_0) fc2_28_0 0 [] .none .none .none .none none .none .none 0)) #[])
noncomputable def o337 (P : Params) : Obj := (fQ "code" #[(vS "__init__" 635), (vS "LvText.__init__" 636), (vS "/claim/cut.py" 637), (.int 170 0), (.int 5 0), (.int 0 0), (.int 0 0), (.int 3 0), (.ref 332), (.bool true), (.int 181 0), (.ref 333), .none, (.ref 334), (.ref 335), (.ref 336), (.int 643 0), (.int 170 0), (vS "/claim/cut.py" 644)])
noncomputable def o338 (P : Params) : Obj := (Obj.mk (.type "function") none (.func (FuncData.mk (sS "__init__") (sS "LvText.__init__") fa2_28_0 (FuncBody.stmts fb2_28_0) fc2_28_0 3 [] .none .none .none (vS "perlcore.lvalues" 621) none (.ref 337) .none 0)) #[])
noncomputable def o339 (P : Params) : Obj := (tQ "tuple" #[])
noncomputable def o340 (P : Params) : Obj := (Obj.mk .none none (.fields #[]) #[])
noncomputable def o341 (P : Params) : Obj := (tQ "tuple" #[(vS "self" 649), (vS "size" 650)])
noncomputable def o342 (P : Params) : Obj := (tQ "tuple" #[])
noncomputable def o343 (P : Params) : Obj := (Obj.mk .none none (.func (FuncData.mk (sS "begin") (sS "LvText.begin") fa2_28_1 (FuncBody.stmts fb2_28_1) fc2_28_1 0 [] .none .none .none .none none .none .none 0)) #[])
noncomputable def o344 (P : Params) : Obj := (fQ "code" #[(vS "begin" 646), (vS "LvText.begin" 647), (vS "/claim/cut.py" 648), (.int 177 0), (.int 2 0), (.int 0 0), (.int 0 0), (.int 3 0), (.ref 339), (.bool true), (.int 181 0), (.ref 340), .none, (.ref 341), (.ref 342), (.ref 343), (.int 651 0), (.int 177 0), (vS "/claim/cut.py" 652)])
noncomputable def o345 (P : Params) : Obj := (Obj.mk (.type "function") none (.func (FuncData.mk (sS "begin") (sS "LvText.begin") fa2_28_1 (FuncBody.stmts fb2_28_1) fc2_28_1 3 [] .none .none .none (vS "perlcore.lvalues" 621) none (.ref 344) .none 0)) #[])
noncomputable def o346 (P : Params) : Obj := (tQ "tuple" #[])
noncomputable def o347 (P : Params) : Obj := (Obj.mk .none none (.fields #[]) #[])
noncomputable def o348 (P : Params) : Obj := (tQ "tuple" #[(vS "self" 657), (vS "text" 658)])
noncomputable def o349 (P : Params) : Obj := (tQ "tuple" #[])
noncomputable def o350 (P : Params) : Obj := (Obj.mk .none none (.func (FuncData.mk (sS "get") (sS "LvText.get") fa2_28_2 (FuncBody.stmts fb2_28_2) fc2_28_2 0 [] .none .none .none .none none .none .none 0)) #[])
noncomputable def o351 (P : Params) : Obj := (fQ "code" #[(vS "get" 654), (vS "LvText.get" 655), (vS "/claim/cut.py" 656), (.int 182 0), (.int 1 0), (.int 0 0), (.int 0 0), (.int 3 0), (.ref 346), (.bool true), (.int 181 0), (.ref 347), .none, (.ref 348), (.ref 349), (.ref 350), (.int 659 0), (.int 182 0), (vS "/claim/cut.py" 660)])
noncomputable def o352 (P : Params) : Obj := (Obj.mk (.type "function") none (.func (FuncData.mk (sS "get") (sS "LvText.get") fa2_28_2 (FuncBody.stmts fb2_28_2) fc2_28_2 3 [] .none .none .none (vS "perlcore.lvalues" 621) none (.ref 351) .none 0)) #[])
noncomputable def o353 (P : Params) : Obj := (tQ "tuple" #[])
noncomputable def o354 (P : Params) : Obj := (Obj.mk .none none (.fields #[]) #[])
noncomputable def o355 (P : Params) : Obj := (tQ "tuple" #[(vS "self" 665), (vS "value" 666), (vS "text" 667), (vS "new" 668), (vS "old" 669), (vS "whole" 670)])
noncomputable def o356 (P : Params) : Obj := (tQ "tuple" #[])
noncomputable def o357 (P : Params) : Obj := (Obj.mk .none none (.func (FuncData.mk (sS "put") (sS "LvText.put") fa2_28_3 (FuncBody.stmts fb2_28_3) fc2_28_3 0 [] .none .none .none .none none .none .none 0)) #[])
noncomputable def o358 (P : Params) : Obj := (fQ "code" #[(vS "put" 662), (vS "LvText.put" 663), (vS "/claim/cut.py" 664), (.int 186 0), (.int 2 0), (.int 0 0), (.int 0 0), (.int 3 0), (.ref 353), (.bool true), (.int 181 0), (.ref 354), .none, (.ref 355), (.ref 356), (.ref 357), (.int 671 0), (.int 186 0), (vS "/claim/cut.py" 672)])
noncomputable def o359 (P : Params) : Obj := (Obj.mk (.type "function") none (.func (FuncData.mk (sS "put") (sS "LvText.put") fa2_28_3 (FuncBody.stmts fb2_28_3) fc2_28_3 3 [] .none .none .none (vS "perlcore.lvalues" 621) none (.ref 358) .none 0)) #[])
noncomputable def o360 (P : Params) : Obj := (tQ "tuple" #[(vS "count" 674), (vS "counter" 675), (vS "is_from_end" 676), (vS "offset" 677), (vS "target" 678)])
noncomputable def o361 (P : Params) : Obj := (Obj.mk (.type "dict") none (.dict #[(kE P "__module__" 630 (vS "perlcore.lvalues" 621)), (kE P "__firstlineno__" 634 (.int 168 633)), (kE P "__init__" 645 (.ref 338)), (kE P "begin" 653 (.ref 345)), (kE P "get" 661 (.ref 352)), (kE P "put" 673 (.ref 359)), (kE P "__static_attributes__" 679 (.ref 360)), (kE P "__dict__" 681 (.ref 363)), (kE P "__weakref__" 683 (.ref 364)), (kE P "__doc__" 684 .none)] 4) #[])
noncomputable def o362 (P : Params) : Obj := (Obj.mk (.type "type") none (.cls (ClassData.mk (sS "LvText") [(.type "object")] [(.ref 362), (.type "object")] 361 (sS "LvText") true [] [] false none false)) #[none, none, (some (vS "LvText" 623)), (some (vS "LvText" 631)), (some (.builtin "object.__new__")), (some (.bool true))])
noncomputable def o363 (P : Params) : Obj := (fQ "getset_descriptor" #[(vS "__dict__" 680), (.ref 362), (.builtin "function.__dict__"), (.builtin "function.__dict__#set")])
noncomputable def o364 (P : Params) : Obj := (fQ "getset_descriptor" #[(vS "__weakref__" 682), (.ref 362), (.builtin "ExceptionGroup.__weakref__"), .none])
noncomputable def o365 (P : Params) : Obj := (fQ "super" #[(.ref 362), (.ref 362), (.ref 362)])
noncomputable def o366 (P : Params) : Obj := (fQ "builtin_function_or_method" #[(.builtin "object.__init_subclass__"), (.ref 362)])
noncomputable def o367 (P : Params) : Obj := (tQ "tuple" #[])
noncomputable def o368 (P : Params) : Obj := (fQ "builtin_function_or_method" #[(.builtin "type.__prepare__"), (.type "type")])
noncomputable def o369 (P : Params) : Obj := (Obj.mk (.type "dict") none (.dict #[(kE P "__module__" 696 (vS "perlcore.counts" 687)), (kE P "__qualname__" 698 (vS "Counter" 697)), (kE P "__firstlineno__" 700 (.int 198 699)), (kE P "__init__" 709 (.ref 380)), (kE P "hold" 717 (.ref 387)), (kE P "let_go" 725 (.ref 394)), (kE P "note" 733 (.ref 401)), (kE P "take" 741 (.ref 408)), (kE P "put_off" 747 (.ref 413)), (kE P "store" 757 (.ref 420)), (kE P "fresh" 766 (.ref 427)), (kE P "drop" 774 (.ref 434)), (kE P "settle" 782 (.ref 441)), (kE P "finish" 790 (.ref 448)), (kE P "free" 798 (.ref 455)), (kE P "__static_attributes__" 803 (.ref 456))] 16) #[])
noncomputable def o370 (P : Params) : Obj := (tQ "tuple" #[])
noncomputable def o371 (P : Params) : Obj := (Obj.mk .none none (.fields #[(.int 200 0), (.int 4 0), (.ref 379), (.int 206 0), (.int 4 0), (.ref 386), (.int 209 0), (.int 4 0), (.ref 393), (.int 214 0), (.int 4 0), (.ref 400), (.int 217 0), (.int 4 0), (.ref 407), (.int 225 0), (.int 4 0), (.ref 412), (.int 233 0), (.int 4 0), (.ref 419), (.int 243 0), (.int 4 0), (.ref 426), (.int 248 0), (.int 4 0), (.ref 433), (.int 251 0), (.int 4 0), (.ref 440), (.int 254 0), (.int 4 0), (.ref 447), (.int 257 0), (.int 4 0), (.ref 454)]) #[])
noncomputable def o372 (P : Params) : Obj := (fQ "code" #[(vS "Counter" 691), (vS "Counter" 692), (vS "/claim/cut.py" 693), (.int 198 0), (.int 0 0), (.int 0 0), (.int 0 0), (.int 0 0), (.ref 370), (.bool false), (.int 181 0), (.ref 371), .none, .none, .none, .none, (.int 694 0), (.int 198 0), (vS "/claim/cut.py" 695)])
noncomputable def o373 (P : Params) : Obj := (Obj.mk (.type "frame") none .plain #[(some (.ref 372)), (some (.ref 3)), (some (.ref 369)), none, (some (vS "perlcore.counts" 687)), none, (some (.ref 0))])
noncomputable def o374 (P : Params) : Obj := (tQ "tuple" #[])
noncomputable def o375 (P : Params) : Obj := (Obj.mk .none none (.fields #[]) #[])
noncomputable def o376 (P : Params) : Obj := (tQ "tuple" #[(vS "self" 704), (vS "heap" 705), (vS "destroy" 706)])
noncomputable def o377 (P : Params) : Obj := (tQ "tuple" #[])
noncomputable def o378 (P : Params) : Obj := (Obj.mk .none none (.func (FuncData.mk (sS "__init__") (sS "Counter.__init__") fa2_30_0 (FuncBody.stmts fb2_30_0) fc2_30_0 0 [] .none .none .none .none none .none .none 0)) #[])
noncomputable def o379 (P : Params) : Obj := (fQ "code" #[(vS "__init__" 701), (vS "Counter.__init__" 702), (vS "/claim/cut.py" 703), (.int 200 0), (.int 3 0), (.int 0 0), (.int 0 0), (.int 3 0), (.ref 374), (.bool true), (.int 181 0), (.ref 375), .none, (.ref 376), (.ref 377), (.ref 378), (.int 707 0), (.int 200 0), (vS "/claim/cut.py" 708)])
noncomputable def o380 (P : Params) : Obj := (Obj.mk (.type "function") none (.func (FuncData.mk (sS "__init__") (sS "Counter.__init__") fa2_30_0 (FuncBody.stmts fb2_30_0) fc2_30_0 3 [] .none .none .none (vS "perlcore.counts" 687) none (.ref 379) .none 0)) #[])
noncomputable def o381 (P : Params) : Obj := (tQ "tuple" #[])
noncomputable def o382 (P : Params) : Obj := (Obj.mk .none none (.fields #[]) #[])
noncomputable def o383 (P : Params) : Obj := (tQ "tuple" #[(vS "self" 713), (vS "thing" 714)])
noncomputable def o384 (P : Params) : Obj := (tQ "tuple" #[])
noncomputable def o385 (P : Params) : Obj := (Obj.mk .none none (.func (FuncData.mk (sS "hold") (sS "Counter.hold") fa2_30_1 (FuncBody.stmts fb2_30_1) fc2_30_2 0 [] .none .none .none .none none .none .none 0)) #[])
noncomputable def o386 (P : Params) : Obj := (fQ "code" #[(vS "hold" 710), (vS "Counter.hold" 711), (vS "/claim/cut.py" 712), (.int 206 0), (.int 2 0), (.int 0 0), (.int 0 0), (.int 3 0), (.ref 381), (.bool true), (.int 181 0), (.ref 382), .none, (.ref 383), (.ref 384), (.ref 385), (.int 715 0), (.int 206 0), (vS "/claim/cut.py" 716)])
noncomputable def o387 (P : Params) : Obj := (Obj.mk (.type "function") none (.func (FuncData.mk (sS "hold") (sS "Counter.hold") fa2_30_1 (FuncBody.stmts fb2_30_1) fc2_30_2 3 [] .none .none .none (vS "perlcore.counts" 687) none (.ref 386) .none 0)) #[])
noncomputable def o388 (P : Params) : Obj := (tQ "tuple" #[])
noncomputable def o389 (P : Params) : Obj := (Obj.mk .none none (.fields #[]) #[])
noncomputable def o390 (P : Params) : Obj := (tQ "tuple" #[(vS "self" 721), (vS "thing" 722)])
noncomputable def o391 (P : Params) : Obj := (tQ "tuple" #[])
noncomputable def o392 (P : Params) : Obj := (Obj.mk .none none (.func (FuncData.mk (sS "let_go") (sS "Counter.let_go") fa2_30_2 (FuncBody.stmts fb2_30_2) fc2_30_2 0 [] .none .none .none .none none .none .none 0)) #[])
noncomputable def o393 (P : Params) : Obj := (fQ "code" #[(vS "let_go" 718), (vS "Counter.let_go" 719), (vS "/claim/cut.py" 720), (.int 209 0), (.int 2 0), (.int 0 0), (.int 0 0), (.int 3 0), (.ref 388), (.bool true), (.int 181 0), (.ref 389), .none, (.ref 390), (.ref 391), (.ref 392), (.int 723 0), (.int 209 0), (vS "/claim/cut.py" 724)])
noncomputable def o394 (P : Params) : Obj := (Obj.mk (.type "function") none (.func (FuncData.mk (sS "let_go") (sS "Counter.let_go") fa2_30_2 (FuncBody.stmts fb2_30_2) fc2_30_2 3 [] .none .none .none (vS "perlcore.counts" 687) none (.ref 393) .none 0)) #[])
noncomputable def o395 (P : Params) : Obj := (tQ "tuple" #[])
noncomputable def o396 (P : Params) : Obj := (Obj.mk .none none (.fields #[]) #[])
noncomputable def o397 (P : Params) : Obj := (tQ "tuple" #[(vS "self" 729), (vS "thing" 730)])
noncomputable def o398 (P : Params) : Obj := (tQ "tuple" #[])
noncomputable def o399 (P : Params) : Obj := (Obj.mk .none none (.func (FuncData.mk (sS "note") (sS "Counter.note") fa2_30_3 (FuncBody.stmts fb2_30_3) fc2_30_11 0 [] .none .none .none .none none .none .none 0)) #[])
noncomputable def o400 (P : Params) : Obj := (fQ "code" #[(vS "note" 726), (vS "Counter.note" 727), (vS "/claim/cut.py" 728), (.int 214 0), (.int 2 0), (.int 0 0), (.int 0 0), (.int 3 0), (.ref 395), (.bool true), (.int 181 0), (.ref 396), .none, (.ref 397), (.ref 398), (.ref 399), (.int 731 0), (.int 214 0), (vS "/claim/cut.py" 732)])
noncomputable def o401 (P : Params) : Obj := (Obj.mk (.type "function") none (.func (FuncData.mk (sS "note") (sS "Counter.note") fa2_30_3 (FuncBody.stmts fb2_30_3) fc2_30_11 3 [] .none .none .none (vS "perlcore.counts" 687) none (.ref 400) .none 0)) #[])
noncomputable def o402 (P : Params) : Obj := (tQ "tuple" #[])
noncomputable def o403 (P : Params) : Obj := (Obj.mk .none none (.fields #[]) #[])
noncomputable def o404 (P : Params) : Obj := (tQ "tuple" #[(vS "self" 737), (vS "value" 738)])
noncomputable def o405 (P : Params) : Obj := (tQ "tuple" #[])
noncomputable def o406 (P : Params) : Obj := (Obj.mk .none none (.func (FuncData.mk (sS "take") (sS "Counter.take") fa2_30_4 (FuncBody.stmts fb2_30_4) fc2_30_4 0 [] .none .none .none .none none .none .none 0)) #[])
noncomputable def o407 (P : Params) : Obj := (fQ "code" #[(vS "take" 734), (vS "Counter.take" 735), (vS "/claim/cut.py" 736), (.int 217 0), (.int 2 0), (.int 0 0), (.int 0 0), (.int 3 0), (.ref 402), (.bool true), (.int 181 0), (.ref 403), .none, (.ref 404), (.ref 405), (.ref 406), (.int 739 0), (.int 217 0), (vS "/claim/cut.py" 740)])
noncomputable def o408 (P : Params) : Obj := (Obj.mk (.type "function") none (.func (FuncData.mk (sS "take") (sS "Counter.take") fa2_30_4 (FuncBody.stmts fb2_30_4) fc2_30_4 3 [] .none .none .none (vS "perlcore.counts" 687) none (.ref 407) .none 0)) #[])
noncomputable def o409 (P : Params) : Obj := (tQ "tuple" #[])
noncomputable def o410 (P : Params) : Obj := (Obj.mk .none none (.fields #[]) #[])
noncomputable def o411 (P : Params) : Obj := (Obj.mk .none none (.func (FuncData.mk (sS "put_off") (sS "Counter.put_off") fa2_30_5 (FuncBody.stmts fb2_30_5) fc2_30_5 0 [] .none .none .none .none none .none .none 0)) #[])
noncomputable def o412 (P : Params) : Obj := (fQ "code" #[(vS "put_off" 742), (vS "Counter.put_off" 743), (vS "/claim/cut.py" 744), (.int 225 0), (.int 3 0), (.int 0 0), (.int 0 0), (.int 3 0), (.ref 409), (.bool true), (.int 181 0), (.ref 410), .none, .none, .none, (.ref 411), (.int 745 0), (.int 225 0), (vS "/claim/cut.py" 746)])
noncomputable def o413 (P : Params) : Obj := (Obj.mk (.type "function") none (.func (FuncData.mk (sS "put_off") (sS "Counter.put_off") fa2_30_5 (FuncBody.stmts fb2_30_5) fc2_30_5 3 [] .none .none .none (vS "perlcore.counts" 687) none (.ref 412) .none 0)) #[])
noncomputable def o414 (P : Params) : Obj := (tQ "tuple" #[])
noncomputable def o415 (P : Params) : Obj := (Obj.mk .none none (.fields #[]) #[])
noncomputable def o416 (P : Params) : Obj := (tQ "tuple" #[(vS "self" 751), (vS "scalar" 752), (vS "value" 753), (vS "old" 754)])
noncomputable def o417 (P : Params) : Obj := (tQ "tuple" #[])
noncomputable def o418 (P : Params) : Obj := (Obj.mk .none none (.func (FuncData.mk (sS "store") (sS "Counter.store") fa2_30_6 (FuncBody.stmts fb2_30_6) fc2_30_6 0 [] .none .none .none .none none .none .none 0)) #[])
noncomputable def o419 (P : Params) : Obj := (fQ "code" #[(vS "store" 748), (vS "Counter.store" 749), (vS "/claim/cut.py" 750), (.int 233 0), (.int 3 0), (.int 0 0), (.int 0 0), (.int 3 0), (.ref 414), (.bool true), (.int 181 0), (.ref 415), .none, (.ref 416), (.ref 417), (.ref 418), (.int 755 0), (.int 233 0), (vS "/claim/cut.py" 756)])
noncomputable def o420 (P : Params) : Obj := (Obj.mk (.type "function") none (.func (FuncData.mk (sS "store") (sS "Counter.store") fa2_30_6 (FuncBody.stmts fb2_30_6) fc2_30_6 3 [] .none .none .none (vS "perlcore.counts" 687) none (.ref 419) .none 0)) #[])
noncomputable def o421 (P : Params) : Obj := (tQ "tuple" #[])
noncomputable def o422 (P : Params) : Obj := (Obj.mk .none none (.fields #[]) #[])
noncomputable def o423 (P : Params) : Obj := (tQ "tuple" #[(vS "self" 761), (vS "value" 762), (vS "scalar" 763)])
noncomputable def o424 (P : Params) : Obj := (tQ "tuple" #[])
noncomputable def o425 (P : Params) : Obj := (Obj.mk .none none (.func (FuncData.mk (sS "fresh") (sS "Counter.fresh") fa2_30_7 (FuncBody.stmts fb2_30_7) fc2_30_7 0 [] .none .none .none .none none .none .none 0)) #[])
noncomputable def o426 (P : Params) : Obj := (fQ "code" #[(vS "fresh" 758), (vS "Counter.fresh" 759), (vS "/claim/cut.py" 760), (.int 243 0), (.int 2 0), (.int 0 0), (.int 0 0), (.int 3 0), (.ref 421), (.bool true), (.int 181 0), (.ref 422), .none, (.ref 423), (.ref 424), (.ref 425), (.int 764 0), (.int 243 0), (vS "/claim/cut.py" 765)])
noncomputable def o427 (P : Params) : Obj := (Obj.mk (.type "function") none (.func (FuncData.mk (sS "fresh") (sS "Counter.fresh") fa2_30_7 (FuncBody.stmts fb2_30_7) fc2_30_7 3 [] .none .none .none (vS "perlcore.counts" 687) none (.ref 426) .none 0)) #[])
noncomputable def o428 (P : Params) : Obj := (tQ "tuple" #[])
noncomputable def o429 (P : Params) : Obj := (Obj.mk .none none (.fields #[]) #[])
noncomputable def o430 (P : Params) : Obj := (tQ "tuple" #[(vS "self" 770), (vS "scalar" 771)])
noncomputable def o431 (P : Params) : Obj := (tQ "tuple" #[])
noncomputable def o432 (P : Params) : Obj := (Obj.mk .none none (.func (FuncData.mk (sS "drop") (sS "Counter.drop") fa2_30_8 (FuncBody.stmts fb2_30_8) fc2_30_8 0 [] .none .none .none .none none .none .none 0)) #[])
noncomputable def o433 (P : Params) : Obj := (fQ "code" #[(vS "drop" 767), (vS "Counter.drop" 768), (vS "/claim/cut.py" 769), (.int 248 0), (.int 2 0), (.int 0 0), (.int 0 0), (.int 3 0), (.ref 428), (.bool true), (.int 181 0), (.ref 429), .none, (.ref 430), (.ref 431), (.ref 432), (.int 772 0), (.int 248 0), (vS "/claim/cut.py" 773)])
noncomputable def o434 (P : Params) : Obj := (Obj.mk (.type "function") none (.func (FuncData.mk (sS "drop") (sS "Counter.drop") fa2_30_8 (FuncBody.stmts fb2_30_8) fc2_30_8 3 [] .none .none .none (vS "perlcore.counts" 687) none (.ref 433) .none 0)) #[])
noncomputable def o435 (P : Params) : Obj := (tQ "tuple" #[])
noncomputable def o436 (P : Params) : Obj := (Obj.mk .none none (.fields #[]) #[])
noncomputable def o437 (P : Params) : Obj := (tQ "tuple" #[(vS "self" 778), (vS "start" 779)])
noncomputable def o438 (P : Params) : Obj := (tQ "tuple" #[])
noncomputable def o439 (P : Params) : Obj := (Obj.mk .none none (.func (FuncData.mk (sS "settle") (sS "Counter.settle") fa2_30_9 (FuncBody.stmts fb2_30_9) fc2_30_9 0 [] .none .none .none .none none .none .none 0)) #[])
noncomputable def o440 (P : Params) : Obj := (fQ "code" #[(vS "settle" 775), (vS "Counter.settle" 776), (vS "/claim/cut.py" 777), (.int 251 0), (.int 2 0), (.int 0 0), (.int 0 0), (.int 3 0), (.ref 435), (.bool true), (.int 181 0), (.ref 436), .none, (.ref 437), (.ref 438), (.ref 439), (.int 780 0), (.int 251 0), (vS "/claim/cut.py" 781)])
noncomputable def o441 (P : Params) : Obj := (Obj.mk (.type "function") none (.func (FuncData.mk (sS "settle") (sS "Counter.settle") fa2_30_9 (FuncBody.stmts fb2_30_9) fc2_30_9 3 [] .none .none .none (vS "perlcore.counts" 687) none (.ref 440) .none 0)) #[])
noncomputable def o442 (P : Params) : Obj := (tQ "tuple" #[])
noncomputable def o443 (P : Params) : Obj := (Obj.mk .none none (.fields #[]) #[])
noncomputable def o444 (P : Params) : Obj := (tQ "tuple" #[(vS "self" 786), (vS "thing" 787)])
noncomputable def o445 (P : Params) : Obj := (tQ "tuple" #[])
noncomputable def o446 (P : Params) : Obj := (Obj.mk .none none (.func (FuncData.mk (sS "finish") (sS "Counter.finish") fa2_30_10 (FuncBody.stmts fb2_30_10) fc2_30_11 0 [] .none .none .none .none none .none .none 0)) #[])
noncomputable def o447 (P : Params) : Obj := (fQ "code" #[(vS "finish" 783), (vS "Counter.finish" 784), (vS "/claim/cut.py" 785), (.int 254 0), (.int 2 0), (.int 0 0), (.int 0 0), (.int 3 0), (.ref 442), (.bool true), (.int 181 0), (.ref 443), .none, (.ref 444), (.ref 445), (.ref 446), (.int 788 0), (.int 254 0), (vS "/claim/cut.py" 789)])
noncomputable def o448 (P : Params) : Obj := (Obj.mk (.type "function") none (.func (FuncData.mk (sS "finish") (sS "Counter.finish") fa2_30_10 (FuncBody.stmts fb2_30_10) fc2_30_11 3 [] .none .none .none (vS "perlcore.counts" 687) none (.ref 447) .none 0)) #[])
noncomputable def o449 (P : Params) : Obj := (tQ "tuple" #[])
noncomputable def o450 (P : Params) : Obj := (Obj.mk .none none (.fields #[]) #[])
noncomputable def o451 (P : Params) : Obj := (tQ "tuple" #[(vS "self" 794), (vS "thing" 795)])
noncomputable def o452 (P : Params) : Obj := (tQ "tuple" #[])
noncomputable def o453 (P : Params) : Obj := (Obj.mk .none none (.func (FuncData.mk (sS "free") (sS "Counter.free") fa2_30_11 (FuncBody.stmts fb2_30_11) fc2_30_11 0 [] .none .none .none .none none .none .none 0)) #[])
noncomputable def o454 (P : Params) : Obj := (fQ "code" #[(vS "free" 791), (vS "Counter.free" 792), (vS "/claim/cut.py" 793), (.int 257 0), (.int 2 0), (.int 0 0), (.int 0 0), (.int 3 0), (.ref 449), (.bool true), (.int 181 0), (.ref 450), .none, (.ref 451), (.ref 452), (.ref 453), (.int 796 0), (.int 257 0), (vS "/claim/cut.py" 797)])
noncomputable def o455 (P : Params) : Obj := (Obj.mk (.type "function") none (.func (FuncData.mk (sS "free") (sS "Counter.free") fa2_30_11 (FuncBody.stmts fb2_30_11) fc2_30_11 3 [] .none .none .none (vS "perlcore.counts" 687) none (.ref 454) .none 0)) #[])
noncomputable def o456 (P : Params) : Obj := (tQ "tuple" #[(vS "destroy" 799), (vS "empties" 800), (vS "heap" 801), (vS "places" 802)])
noncomputable def o457 (P : Params) : Obj := (Obj.mk (.type "dict") none (.dict #[(kE P "__module__" 696 (vS "perlcore.counts" 687)), (kE P "__firstlineno__" 700 (.int 198 699)), (kE P "__init__" 709 (.ref 380)), (kE P "hold" 717 (.ref 387)), (kE P "let_go" 725 (.ref 394)), (kE P "note" 733 (.ref 401)), (kE P "take" 741 (.ref 408)), (kE P "put_off" 747 (.ref 413)), (kE P "store" 757 (.ref 420)), (kE P "fresh" 766 (.ref 427)), (kE P "drop" 774 (.ref 434)), (kE P "settle" 782 (.ref 441)), (kE P "finish" 790 (.ref 448)), (kE P "free" 798 (.ref 455)), (kE P "__static_attributes__" 803 (.ref 456)), (kE P "__dict__" 805 (.ref 459)), (kE P "__weakref__" 807 (.ref 460)), (kE P "__doc__" 808 .none)] 4) #[])
noncomputable def o458 (P : Params) : Obj := (Obj.mk (.type "type") none (.cls (ClassData.mk (sS "Counter") [(.type "object")] [(.ref 458), (.type "object")] 457 (sS "Counter") true [] [] false none false)) #[none, none, (some (vS "Counter" 689)), (some (vS "Counter" 697)), (some (.builtin "object.__new__")), (some (.bool true))])
noncomputable def o459 (P : Params) : Obj := (fQ "getset_descriptor" #[(vS "__dict__" 804), (.ref 458), (.builtin "function.__dict__"), (.builtin "function.__dict__#set")])
noncomputable def o460 (P : Params) : Obj := (fQ "getset_descriptor" #[(vS "__weakref__" 806), (.ref 458), (.builtin "ExceptionGroup.__weakref__"), .none])
noncomputable def o461 (P : Params) : Obj := (fQ "super" #[(.ref 458), (.ref 458), (.ref 458)])
noncomputable def o462 (P : Params) : Obj := (fQ "builtin_function_or_method" #[(.builtin "object.__init_subclass__"), (.ref 458)])
noncomputable def o463 (P : Params) : Obj := (tQ "tuple" #[])
noncomputable def o464 (P : Params) : Obj := (fQ "builtin_function_or_method" #[(.builtin "type.__prepare__"), (.type "type")])
noncomputable def o465 (P : Params) : Obj := (Obj.mk (.type "dict") none (.dict #[(kE P "__module__" 820 (vS "perlcore.limits" 811)), (kE P "__qualname__" 822 (vS "Limits" 821)), (kE P "__firstlineno__" 824 (.int 260 823)), (kE P "__init__" 847 (.ref 477)), (kE P "__static_attributes__" 853 (.ref 478))] 5) #[])
noncomputable def o466 (P : Params) : Obj := (tQ "tuple" #[])
noncomputable def o467 (P : Params) : Obj := (Obj.mk .none none (.fields #[(.int 262 0), (.int 4 0), (.ref 476)]) #[])
noncomputable def o468 (P : Params) : Obj := (fQ "code" #[(vS "Limits" 815), (vS "Limits" 816), (vS "/claim/cut.py" 817), (.int 260 0), (.int 0 0), (.int 0 0), (.int 0 0), (.int 0 0), (.ref 466), (.bool false), (.int 181 0), (.ref 467), .none, .none, .none, .none, (.int 818 0), (.int 260 0), (vS "/claim/cut.py" 819)])
noncomputable def o469 (P : Params) : Obj := (Obj.mk (.type "frame") none .plain #[(some (.ref 468)), (some (.ref 3)), (some (.ref 465)), none, (some (vS "perlcore.limits" 811)), none, (some (.ref 0))])
noncomputable def o470 (P : Params) : Obj := (tQ "tuple" #[(.int 64 825), (.int 50 826), (.int 1000000 829), (.int 100000 832), (.int 10000 835)])
noncomputable def o471 (P : Params) : Obj := (tQ "tuple" #[])
noncomputable def o472 (P : Params) : Obj := (Obj.mk .none none (.fields #[]) #[])
noncomputable def o473 (P : Params) : Obj := (tQ "tuple" #[(vS "self" 839), (vS "width" 840), (vS "depth" 841), (vS "steps" 842), (vS "text" 843), (vS "items" 844)])
noncomputable def o474 (P : Params) : Obj := (tQ "tuple" #[])
noncomputable def o475 (P : Params) : Obj := (Obj.mk .none none (.func (FuncData.mk (sS "__init__") (sS "Limits.__init__") fa2_32_0 (FuncBody.stmts fb2_32_0) fc2_32_0 0 [] .none .none .none .none none .none .none 0)) #[])
noncomputable def o476 (P : Params) : Obj := (fQ "code" #[(vS "__init__" 836), (vS "Limits.__init__" 837), (vS "/claim/cut.py" 838), (.int 262 0), (.int 6 0), (.int 0 0), (.int 0 0), (.int 3 0), (.ref 471), (.bool true), (.int 181 0), (.ref 472), .none, (.ref 473), (.ref 474), (.ref 475), (.int 845 0), (.int 262 0), (vS "/claim/cut.py" 846)])
noncomputable def o477 (P : Params) : Obj := (Obj.mk (.type "function") none (.func (FuncData.mk (sS "__init__") (sS "Limits.__init__") fa2_32_0 (FuncBody.stmts fb2_32_0) fc2_32_0 3 [] (.ref 470) .none .none (vS "perlcore.limits" 811) none (.ref 476) .none 0)) #[])
noncomputable def o478 (P : Params) : Obj := (tQ "tuple" #[(vS "depth" 848), (vS "items" 849), (vS "steps" 850), (vS "text" 851), (vS "width" 852)])
noncomputable def o479 (P : Params) : Obj := (Obj.mk (.type "dict") none (.dict #[(kE P "__module__" 820 (vS "perlcore.limits" 811)), (kE P "__firstlineno__" 824 (.int 260 823)), (kE P "__init__" 847 (.ref 477)), (kE P "__static_attributes__" 853 (.ref 478)), (kE P "__dict__" 855 (.ref 481)), (kE P "__weakref__" 857 (.ref 482)), (kE P "__doc__" 858 .none)] 4) #[])
noncomputable def o480 (P : Params) : Obj := (Obj.mk (.type "type") none (.cls (ClassData.mk (sS "Limits") [(.type "object")] [(.ref 480), (.type "object")] 479 (sS "Limits") true [] [] false none false)) #[none, none, (some (vS "Limits" 813)), (some (vS "Limits" 821)), (some (.builtin "object.__new__")), (some (.bool true))])
noncomputable def o481 (P : Params) : Obj := (fQ "getset_descriptor" #[(vS "__dict__" 854), (.ref 480), (.builtin "function.__dict__"), (.builtin "function.__dict__#set")])
noncomputable def o482 (P : Params) : Obj := (fQ "getset_descriptor" #[(vS "__weakref__" 856), (.ref 480), (.builtin "ExceptionGroup.__weakref__"), .none])
noncomputable def o483 (P : Params) : Obj := (fQ "super" #[(.ref 480), (.ref 480), (.ref 480)])
noncomputable def o484 (P : Params) : Obj := (fQ "builtin_function_or_method" #[(.builtin "object.__init_subclass__"), (.ref 480)])
noncomputable def o485 (P : Params) : Obj := (tQ "tuple" #[])
noncomputable def o486 (P : Params) : Obj := (Obj.mk .none none (.fields #[]) #[])
noncomputable def o487 (P : Params) : Obj := (tQ "tuple" #[(vS "tub" 866), (vS "many" 867), (vS "at" 868)])
noncomputable def o488 (P : Params) : Obj := (tQ "tuple" #[])
noncomputable def o489 (P : Params) : Obj := (Obj.mk .none none (.func (FuncData.mk (sS "_law_dip") (sS "_law_dip") fa1_34 (FuncBody.stmts fb1_34) fc1_34 0 [] .none .none .none .none none .none .none 0)) #[])
noncomputable def o490 (P : Params) : Obj := (fQ "code" #[(vS "_law_dip" 863), (vS "_law_dip" 864), (vS "/claim/cut.py" 865), (.int 269 0), (.int 2 0), (.int 0 0), (.int 0 0), (.int 3 0), (.ref 485), (.bool true), (.int 181 0), (.ref 486), .none, (.ref 487), (.ref 488), (.ref 489), (.int 869 0), (.int 269 0), (vS "/claim/cut.py" 870)])
noncomputable def o491 (P : Params) : Obj := (Obj.mk (.type "function") none (.func (FuncData.mk (sS "_law_dip") (sS "_law_dip") fa1_34 (FuncBody.stmts fb1_34) fc1_34 3 [] .none .none .none (vS "law_qz0096_01" 861) none (.ref 490) .none 0)) #[])
noncomputable def o492 (P : Params) : Obj := (tQ "tuple" #[])
noncomputable def o493 (P : Params) : Obj := (Obj.mk .none none (.fields #[]) #[])
noncomputable def o494 (P : Params) : Obj := (Obj.mk .none none (.func (FuncData.mk (sS "_law_letters") (sS "_law_letters") fa1_35 (FuncBody.stmts fb1_35) fc1_35 0 [] .none .none .none .none none .none .none 0)) #[])
noncomputable def o495 (P : Params) : Obj := (fQ "code" #[(vS "_law_letters" 872), (vS "_law_letters" 873), (vS "/claim/cut.py" 874), (.int 273 0), (.int 2 0), (.int 0 0), (.int 0 0), (.int 3 0), (.ref 492), (.bool true), (.int 181 0), (.ref 493), .none, .none, .none, (.ref 494), (.int 875 0), (.int 273 0), (vS "/claim/cut.py" 876)])
noncomputable def o496 (P : Params) : Obj := (Obj.mk (.type "function") none (.func (FuncData.mk (sS "_law_letters") (sS "_law_letters") fa1_35 (FuncBody.stmts fb1_35) fc1_35 3 [] .none .none .none (vS "law_qz0096_01" 861) none (.ref 495) .none 0)) #[])
noncomputable def o497 (P : Params) : Obj := (tQ "tuple" #[])
noncomputable def o498 (P : Params) : Obj := (Obj.mk .none none (.fields #[]) #[])
noncomputable def o499 (P : Params) : Obj := (tQ "tuple" #[(vS "place" 881), (vS "size" 882)])
noncomputable def o500 (P : Params) : Obj := (tQ "tuple" #[])
noncomputable def o501 (P : Params) : Obj := (Obj.mk .none none (.func (FuncData.mk (sS "_law_begin") (sS "_law_begin") fa1_36 (FuncBody.stmts fb1_36) fc1_36 0 [] .none .none .none .none none .none .none 0)) #[])
noncomputable def o502 (P : Params) : Obj := (fQ "code" #[(vS "_law_begin" 878), (vS "_law_begin" 879), (vS "/claim/cut.py" 880), (.int 275 0), (.int 2 0), (.int 0 0), (.int 0 0), (.int 3 0), (.ref 497), (.bool true), (.int 181 0), (.ref 498), .none, (.ref 499), (.ref 500), (.ref 501), (.int 883 0), (.int 275 0), (vS "/claim/cut.py" 884)])
noncomputable def o503 (P : Params) : Obj := (Obj.mk (.type "function") none (.func (FuncData.mk (sS "_law_begin") (sS "_law_begin") fa1_36 (FuncBody.stmts fb1_36) fc1_36 3 [] .none .none .none (vS "law_qz0096_01" 861) none (.ref 502) .none 0)) #[])
noncomputable def o504 (P : Params) : Obj := (tQ "tuple" #[])
noncomputable def o505 (P : Params) : Obj := (Obj.mk .none none (.fields #[]) #[])
noncomputable def o506 (P : Params) : Obj := (Obj.mk .none none (.func (FuncData.mk (sS "_law_cut") (sS "_law_cut") fa1_37 (FuncBody.stmts fb1_37) fc1_37 0 [] .none .none .none .none none .none .none 0)) #[])
noncomputable def o507 (P : Params) : Obj := (fQ "code" #[(vS "_law_cut" 886), (vS "_law_cut" 887), (vS "/claim/cut.py" 888), (.int 277 0), (.int 2 0), (.int 0 0), (.int 0 0), (.int 3 0), (.ref 504), (.bool true), (.int 181 0), (.ref 505), .none, .none, .none, (.ref 506), (.int 889 0), (.int 277 0), (vS "/claim/cut.py" 890)])
noncomputable def o508 (P : Params) : Obj := (Obj.mk (.type "function") none (.func (FuncData.mk (sS "_law_cut") (sS "_law_cut") fa1_37 (FuncBody.stmts fb1_37) fc1_37 3 [] .none .none .none (vS "law_qz0096_01" 861) none (.ref 507) .none 0)) #[])
noncomputable def o509 (P : Params) : Obj := (tQ "tuple" #[])
noncomputable def o510 (P : Params) : Obj := (Obj.mk .none none (.fields #[]) #[])
noncomputable def o511 (P : Params) : Obj := (tQ "tuple" #[(vS "place" 895), (vS "text" 896), (vS "new" 897), (vS "most" 898), (vS "found" 899)])
noncomputable def o512 (P : Params) : Obj := (tQ "tuple" #[])
noncomputable def o513 (P : Params) : Obj := (Obj.mk .none none (.func (FuncData.mk (sS "_law_put") (sS "_law_put") fa1_38 (FuncBody.stmts fb1_38) fc1_38 0 [] .none .none .none .none none .none .none 0)) #[])
noncomputable def o514 (P : Params) : Obj := (fQ "code" #[(vS "_law_put" 892), (vS "_law_put" 893), (vS "/claim/cut.py" 894), (.int 283 0), (.int 4 0), (.int 0 0), (.int 0 0), (.int 3 0), (.ref 509), (.bool true), (.int 181 0), (.ref 510), .none, (.ref 511), (.ref 512), (.ref 513), (.int 900 0), (.int 283 0), (vS "/claim/cut.py" 901)])
noncomputable def o515 (P : Params) : Obj := (Obj.mk (.type "function") none (.func (FuncData.mk (sS "_law_put") (sS "_law_put") fa1_38 (FuncBody.stmts fb1_38) fc1_38 3 [] .none .none .none (vS "law_qz0096_01" 861) none (.ref 514) .none 0)) #[])
noncomputable def o516 (P : Params) : Obj := (tQ "tuple" #[])
noncomputable def o517 (P : Params) : Obj := (Obj.mk .none none (.fields #[]) #[])
noncomputable def o518 (P : Params) : Obj := (tQ "tuple" #[(vS "script" 906), (vS "tub" 907), (vS "most" 908), (vS "counter" 909), (vS "text" 910), (vS "scalar" 911), (vS "places" 912), (vS "parts" 913), (vS "turn" 914), (vS "offset" 915), (vS "way" 916), (vS "count" 917), (vS "which" 918), (vS "new" 919), (vS "due" 920), (vS "is_let" 921), (vS "at" 922), (vS "found" 923)])
noncomputable def o519 (P : Params) : Obj := (tQ "tuple" #[])
noncomputable def o520 (P : Params) : Obj := (Obj.mk .none none (.func (FuncData.mk (sS "law") (sS "law") fa1_39 (FuncBody.stmts fb1_39) fc1_39 0 [] .none .none .none .none none .none .none 0)) #[])
noncomputable def o521 (P : Params) : Obj := (fQ "code" #[(vS "law" 903), (vS "law" 904), (vS "/claim/cut.py" 905), (.int 292 0), (.int 1 0), (.int 0 0), (.int 0 0), (.int 3 0), (.ref 516), (.bool true), (.int 181 0), (.ref 517), .none, (.ref 518), (.ref 519), (.ref 520), (.int 924 0), (.int 292 0), (vS "/claim/cut.py" 925)])
noncomputable def o522 (P : Params) : Obj := (Obj.mk (.type "function") none (.func (FuncData.mk (sS "law") (sS "law") fa1_39 (FuncBody.stmts fb1_39) fc1_39 3 [] .none .none .none (vS "law_qz0096_01" 861) none (.ref 521) .none 0)) #[])
noncomputable def m12v1 (P : Params) : Obj := (Obj.mk .none none (.fields #[]) #[])
noncomputable def m3v2 (P : Params) : Obj := (Obj.mk (.type "dict") none (.dict #[(kE P "__name__" 165 (vS "perlcore.values" 206)), (kE P "__doc__" 166 .none), (kE P "__package__" 167 .none), (kE P "__loader__" 168 (.builtin "__main__.__loader__#opaque")), (kE P "__spec__" 169 .none), (kE P "__annotations__" 170 (.ref 6)), (kE P "__builtins__" 171 (.ref 4)), (kE P "__file__" 173 (vS "/claim/cut.py" 172)), (kE P "__cached__" 174 .none), (kE P "_wall" 193 (.ref 21)), (kE P "FIGURES" 197 (vS "0123456789" 196)), (kE P "number_text" 205 (.ref 28)), (kE P "HEX_FIGURES" 209 (vS "0123456789abcdef" 208)), (kE P "Thing" 243 (.ref 45)), (kE P "Scalar" 270 (.ref 66))] 15) #[])
noncomputable def m12v3 (P : Params) : Obj := (Obj.mk .none none (.fields #[(.int 1 0), (.int 0 0), (.ref 20), (.int 6 0), (.int 0 0), (.ref 27), (.int 16 0), (.int 0 0), (.ref 34), (.int 25 0), (.int 0 0), (.ref 55)]) #[])
noncomputable def m45v4 (P : Params) : Obj := (Obj.mk (.type "type") none (.cls (ClassData.mk (sS "Thing") [(.type "object")] [(.ref 45), (.type "object")] 44 (sS "Thing") true [] [(.ref 66)] false none false)) #[none, none, (some (vS "Thing" 210)), (some (vS "Thing" 218)), (some (.builtin "object.__new__")), (some (.bool true))])
noncomputable def m3v5 (P : Params) : Obj := (Obj.mk (.type "dict") none (.dict #[(kE P "__name__" 165 (vS "perlcore.values" 206)), (kE P "__doc__" 166 .none), (kE P "__package__" 167 .none), (kE P "__loader__" 168 (.builtin "__main__.__loader__#opaque")), (kE P "__spec__" 169 .none), (kE P "__annotations__" 170 (.ref 6)), (kE P "__builtins__" 171 (.ref 4)), (kE P "__file__" 173 (vS "/claim/cut.py" 172)), (kE P "__cached__" 174 .none), (kE P "_wall" 193 (.ref 21)), (kE P "FIGURES" 197 (vS "0123456789" 196)), (kE P "number_text" 205 (.ref 28)), (kE P "HEX_FIGURES" 209 (vS "0123456789abcdef" 208)), (kE P "Thing" 243 (.ref 45)), (kE P "Scalar" 270 (.ref 66)), (kE P "Array" 296 (.ref 85)), (kE P "Hash" 323 (.ref 104))] 17) #[])
noncomputable def m12v6 (P : Params) : Obj := (Obj.mk .none none (.fields #[(.int 1 0), (.int 0 0), (.ref 20), (.int 6 0), (.int 0 0), (.ref 27), (.int 16 0), (.int 0 0), (.ref 34), (.int 25 0), (.int 0 0), (.ref 55), (.int 31 0), (.int 0 0), (.ref 74), (.int 37 0), (.int 0 0), (.ref 93)]) #[])
noncomputable def m45v7 (P : Params) : Obj := (Obj.mk (.type "type") none (.cls (ClassData.mk (sS "Thing") [(.type "object")] [(.ref 45), (.type "object")] 44 (sS "Thing") true [] [(.ref 66), (.ref 85), (.ref 104)] false none false)) #[none, none, (some (vS "Thing" 210)), (some (vS "Thing" 218)), (some (.builtin "object.__new__")), (some (.bool true))])
noncomputable def m3v8 (P : Params) : Obj := (Obj.mk (.type "dict") none (.dict #[(kE P "__name__" 165 (vS "perlcore.values" 206)), (kE P "__doc__" 166 .none), (kE P "__package__" 167 .none), (kE P "__loader__" 168 (.builtin "__main__.__loader__#opaque")), (kE P "__spec__" 169 .none), (kE P "__annotations__" 170 (.ref 6)), (kE P "__builtins__" 171 (.ref 4)), (kE P "__file__" 173 (vS "/claim/cut.py" 172)), (kE P "__cached__" 174 .none), (kE P "_wall" 193 (.ref 21)), (kE P "FIGURES" 197 (vS "0123456789" 196)), (kE P "number_text" 205 (.ref 28)), (kE P "HEX_FIGURES" 209 (vS "0123456789abcdef" 208)), (kE P "Thing" 243 (.ref 45)), (kE P "Scalar" 270 (.ref 66)), (kE P "Array" 296 (.ref 85)), (kE P "Hash" 323 (.ref 104)), (kE P "Code" 353 (.ref 123)), (kE P "Glob" 383 (.ref 142))] 19) #[])
noncomputable def m12v9 (P : Params) : Obj := (Obj.mk .none none (.fields #[(.int 1 0), (.int 0 0), (.ref 20), (.int 6 0), (.int 0 0), (.ref 27), (.int 16 0), (.int 0 0), (.ref 34), (.int 25 0), (.int 0 0), (.ref 55), (.int 31 0), (.int 0 0), (.ref 74), (.int 37 0), (.int 0 0), (.ref 93), (.int 44 0), (.int 0 0), (.ref 112), (.int 52 0), (.int 0 0), (.ref 131)]) #[])
noncomputable def m3v10 (P : Params) : Obj := (Obj.mk (.type "dict") none (.dict #[(kE P "__name__" 165 (vS "perlcore.values" 206)), (kE P "__doc__" 166 .none), (kE P "__package__" 167 .none), (kE P "__loader__" 168 (.builtin "__main__.__loader__#opaque")), (kE P "__spec__" 169 .none), (kE P "__annotations__" 170 (.ref 6)), (kE P "__builtins__" 171 (.ref 4)), (kE P "__file__" 173 (vS "/claim/cut.py" 172)), (kE P "__cached__" 174 .none), (kE P "_wall" 193 (.ref 21)), (kE P "FIGURES" 197 (vS "0123456789" 196)), (kE P "number_text" 205 (.ref 28)), (kE P "HEX_FIGURES" 209 (vS "0123456789abcdef" 208)), (kE P "Thing" 243 (.ref 45)), (kE P "Scalar" 270 (.ref 66)), (kE P "Array" 296 (.ref 85)), (kE P "Hash" 323 (.ref 104)), (kE P "Code" 353 (.ref 123)), (kE P "Glob" 383 (.ref 142)), (kE P "Ref" 414 (.ref 162)), (kE P "Heap" 491 (.ref 225))] 21) #[])
noncomputable def m12v11 (P : Params) : Obj := (Obj.mk .none none (.fields #[(.int 1 0), (.int 0 0), (.ref 20), (.int 6 0), (.int 0 0), (.ref 27), (.int 16 0), (.int 0 0), (.ref 34), (.int 25 0), (.int 0 0), (.ref 55), (.int 31 0), (.int 0 0), (.ref 74), (.int 37 0), (.int 0 0), (.ref 93), (.int 44 0), (.int 0 0), (.ref 112), (.int 52 0), (.int 0 0), (.ref 131), (.int 61 0), (.int 0 0), (.ref 150), (.int 66 0), (.int 0 0), (.ref 172)]) #[])
noncomputable def m3v12 (P : Params) : Obj := (Obj.mk (.type "dict") none (.dict #[(kE P "__name__" 165 (vS "perlcore.errors" 531)), (kE P "__doc__" 166 .none), (kE P "__package__" 167 .none), (kE P "__loader__" 168 (.builtin "__main__.__loader__#opaque")), (kE P "__spec__" 169 .none), (kE P "__annotations__" 170 (.ref 6)), (kE P "__builtins__" 171 (.ref 4)), (kE P "__file__" 173 (vS "/claim/cut.py" 172)), (kE P "__cached__" 174 .none), (kE P "_wall" 193 (.ref 21)), (kE P "FIGURES" 197 (vS "0123456789" 196)), (kE P "number_text" 205 (.ref 28)), (kE P "HEX_FIGURES" 209 (vS "0123456789abcdef" 208)), (kE P "Thing" 243 (.ref 45)), (kE P "Scalar" 270 (.ref 66)), (kE P "Array" 296 (.ref 85)), (kE P "Hash" 323 (.ref 104)), (kE P "Code" 353 (.ref 123)), (kE P "Glob" 383 (.ref 142)), (kE P "Ref" 414 (.ref 162)), (kE P "Heap" 491 (.ref 225)), (kE P "thing_word" 498 (.ref 236)), (kE P "hex_of" 506 (.ref 243)), (kE P "ref_text" 514 (.ref 250)), (kE P "value_of" 523 (.ref 257)), (kE P "to_text" 530 (.ref 264)), (kE P "PerlError" 561 (.ref 281)), (kE P "Die" 586 (.ref 301))] 28) #[])
noncomputable def m12v13 (P : Params) : Obj := (Obj.mk .none none (.fields #[(.int 1 0), (.int 0 0), (.ref 20), (.int 6 0), (.int 0 0), (.ref 27), (.int 16 0), (.int 0 0), (.ref 34), (.int 25 0), (.int 0 0), (.ref 55), (.int 31 0), (.int 0 0), (.ref 74), (.int 37 0), (.int 0 0), (.ref 93), (.int 44 0), (.int 0 0), (.ref 112), (.int 52 0), (.int 0 0), (.ref 131), (.int 61 0), (.int 0 0), (.ref 150), (.int 66 0), (.int 0 0), (.ref 172), (.int 91 0), (.int 0 0), (.ref 235), (.int 103 0), (.int 0 0), (.ref 242), (.int 109 0), (.int 0 0), (.ref 249), (.int 115 0), (.int 0 0), (.ref 256), (.int 121 0), (.int 0 0), (.ref 263), (.int 130 0), (.int 0 0), (.ref 270), (.int 135 0), (.int 0 0), (.ref 290)]) #[])
noncomputable def m3v14 (P : Params) : Obj := (Obj.mk (.type "dict") none (.dict #[(kE P "__name__" 165 (vS "perlcore.counts" 687)), (kE P "__doc__" 166 .none), (kE P "__package__" 167 .none), (kE P "__loader__" 168 (.builtin "__main__.__loader__#opaque")), (kE P "__spec__" 169 .none), (kE P "__annotations__" 170 (.ref 6)), (kE P "__builtins__" 171 (.ref 4)), (kE P "__file__" 173 (vS "/claim/cut.py" 172)), (kE P "__cached__" 174 .none), (kE P "_wall" 193 (.ref 21)), (kE P "FIGURES" 197 (vS "0123456789" 196)), (kE P "number_text" 205 (.ref 28)), (kE P "HEX_FIGURES" 209 (vS "0123456789abcdef" 208)), (kE P "Thing" 243 (.ref 45)), (kE P "Scalar" 270 (.ref 66)), (kE P "Array" 296 (.ref 85)), (kE P "Hash" 323 (.ref 104)), (kE P "Code" 353 (.ref 123)), (kE P "Glob" 383 (.ref 142)), (kE P "Ref" 414 (.ref 162)), (kE P "Heap" 491 (.ref 225)), (kE P "thing_word" 498 (.ref 236)), (kE P "hex_of" 506 (.ref 243)), (kE P "ref_text" 514 (.ref 250)), (kE P "value_of" 523 (.ref 257)), (kE P "to_text" 530 (.ref 264)), (kE P "PerlError" 561 (.ref 281)), (kE P "Die" 586 (.ref 301)), (kE P "substr_span" 599 (.ref 310)), (kE P "substr_value" 609 (.ref 317)), (kE P "substr_put" 620 (.ref 324)), (kE P "LvText" 686 (.ref 362))] 32) #[])
noncomputable def m12v15 (P : Params) : Obj := (Obj.mk .none none (.fields #[(.int 1 0), (.int 0 0), (.ref 20), (.int 6 0), (.int 0 0), (.ref 27), (.int 16 0), (.int 0 0), (.ref 34), (.int 25 0), (.int 0 0), (.ref 55), (.int 31 0), (.int 0 0), (.ref 74), (.int 37 0), (.int 0 0), (.ref 93), (.int 44 0), (.int 0 0), (.ref 112), (.int 52 0), (.int 0 0), (.ref 131), (.int 61 0), (.int 0 0), (.ref 150), (.int 66 0), (.int 0 0), (.ref 172), (.int 91 0), (.int 0 0), (.ref 235), (.int 103 0), (.int 0 0), (.ref 242), (.int 109 0), (.int 0 0), (.ref 249), (.int 115 0), (.int 0 0), (.ref 256), (.int 121 0), (.int 0 0), (.ref 263), (.int 130 0), (.int 0 0), (.ref 270), (.int 135 0), (.int 0 0), (.ref 290), (.int 141 0), (.int 0 0), (.ref 309), (.int 157 0), (.int 0 0), (.ref 316), (.int 162 0), (.int 0 0), (.ref 323), (.int 168 0), (.int 0 0), (.ref 330)]) #[])
noncomputable def m3v16 (P : Params) : Obj := (Obj.mk (.type "dict") none (.dict #[(kE P "__name__" 165 (vS "perlcore.counts" 687)), (kE P "__doc__" 166 .none), (kE P "__package__" 167 .none), (kE P "__loader__" 168 (.builtin "__main__.__loader__#opaque")), (kE P "__spec__" 169 .none), (kE P "__annotations__" 170 (.ref 6)), (kE P "__builtins__" 171 (.ref 4)), (kE P "__file__" 173 (vS "/claim/cut.py" 172)), (kE P "__cached__" 174 .none), (kE P "_wall" 193 (.ref 21)), (kE P "FIGURES" 197 (vS "0123456789" 196)), (kE P "number_text" 205 (.ref 28)), (kE P "HEX_FIGURES" 209 (vS "0123456789abcdef" 208)), (kE P "Thing" 243 (.ref 45)), (kE P "Scalar" 270 (.ref 66)), (kE P "Array" 296 (.ref 85)), (kE P "Hash" 323 (.ref 104)), (kE P "Code" 353 (.ref 123)), (kE P "Glob" 383 (.ref 142)), (kE P "Ref" 414 (.ref 162)), (kE P "Heap" 491 (.ref 225)), (kE P "thing_word" 498 (.ref 236)), (kE P "hex_of" 506 (.ref 243)), (kE P "ref_text" 514 (.ref 250)), (kE P "value_of" 523 (.ref 257)), (kE P "to_text" 530 (.ref 264)), (kE P "PerlError" 561 (.ref 281)), (kE P "Die" 586 (.ref 301)), (kE P "substr_span" 599 (.ref 310)), (kE P "substr_value" 609 (.ref 317)), (kE P "substr_put" 620 (.ref 324)), (kE P "LvText" 686 (.ref 362)), (kE P "Counter" 810 (.ref 458))] 33) #[])
noncomputable def m12v17 (P : Params) : Obj := (Obj.mk .none none (.fields #[(.int 1 0), (.int 0 0), (.ref 20), (.int 6 0), (.int 0 0), (.ref 27), (.int 16 0), (.int 0 0), (.ref 34), (.int 25 0), (.int 0 0), (.ref 55), (.int 31 0), (.int 0 0), (.ref 74), (.int 37 0), (.int 0 0), (.ref 93), (.int 44 0), (.int 0 0), (.ref 112), (.int 52 0), (.int 0 0), (.ref 131), (.int 61 0), (.int 0 0), (.ref 150), (.int 66 0), (.int 0 0), (.ref 172), (.int 91 0), (.int 0 0), (.ref 235), (.int 103 0), (.int 0 0), (.ref 242), (.int 109 0), (.int 0 0), (.ref 249), (.int 115 0), (.int 0 0), (.ref 256), (.int 121 0), (.int 0 0), (.ref 263), (.int 130 0), (.int 0 0), (.ref 270), (.int 135 0), (.int 0 0), (.ref 290), (.int 141 0), (.int 0 0), (.ref 309), (.int 157 0), (.int 0 0), (.ref 316), (.int 162 0), (.int 0 0), (.ref 323), (.int 168 0), (.int 0 0), (.ref 330), (.int 198 0), (.int 0 0), (.ref 372)]) #[])
noncomputable def t0 (P : Params) : BT := (.node (boot_o_0 P) (.node (boot_o_1 P) (.node (boot_o_3 P) (.node (boot_o_7 P) .nil .nil) .nil) (.node (boot_o_5 P) (.node (boot_o_9 P) .nil .nil) .nil)) (.node (boot_o_2 P) (.node (boot_o_4 P) (.node (boot_o_8 P) .nil .nil) .nil) (.node (boot_o_6 P) (.node (boot_o_10 P) .nil .nil) .nil)))
noncomputable def tB (P : Params) : BT := (.node (boot_o_0 P) (.node (boot_o_1 P) (.node (boot_o_3 P) (.node (boot_o_7 P) .nil .nil) (.node (o11 P) .nil .nil)) (.node (boot_o_5 P) (.node (boot_o_9 P) .nil .nil) (.node (o13 P) .nil .nil))) (.node (boot_o_2 P) (.node (boot_o_4 P) (.node (boot_o_8 P) .nil .nil) (.node (m12v1 P) .nil .nil)) (.node (boot_o_6 P) (.node (boot_o_10 P) .nil .nil) (.node (o14 P) .nil .nil))))
noncomputable def tG0 (P : Params) : BT := (.node (boot_o_0 P) (.node (boot_o_1 P) (.node (m3v2 P) (.node (boot_o_7 P) (.node (o15 P) (.node (o31 P) (.node (o63 P) .nil .nil) .nil) (.node (o47 P) .nil .nil)) (.node (o23 P) (.node (o39 P) .nil .nil) (.node (o55 P) .nil .nil))) (.node (o11 P) (.node (o19 P) (.node (o35 P) (.node (o67 P) .nil .nil) .nil) (.node (o51 P) .nil .nil)) (.node (o27 P) (.node (o43 P) .nil .nil) (.node (o59 P) .nil .nil)))) (.node (boot_o_5 P) (.node (boot_o_9 P) (.node (o17 P) (.node (o33 P) (.node (o65 P) .nil .nil) .nil) (.node (o49 P) .nil .nil)) (.node (o25 P) (.node (o41 P) .nil .nil) (.node (o57 P) .nil .nil))) (.node (o13 P) (.node (o21 P) (.node (o37 P) .nil .nil) (.node (o53 P) .nil .nil)) (.node (o29 P) (.node (m45v4 P) .nil .nil) (.node (o61 P) .nil .nil))))) (.node (boot_o_2 P) (.node (boot_o_4 P) (.node (boot_o_8 P) (.node (o16 P) (.node (o32 P) (.node (o64 P) .nil .nil) .nil) (.node (o48 P) .nil .nil)) (.node (o24 P) (.node (o40 P) .nil .nil) (.node (o56 P) .nil .nil))) (.node (m12v3 P) (.node (o20 P) (.node (o36 P) (.node (o68 P) .nil .nil) .nil) (.node (o52 P) .nil .nil)) (.node (o28 P) (.node (o44 P) .nil .nil) (.node (o60 P) .nil .nil)))) (.node (boot_o_6 P) (.node (boot_o_10 P) (.node (o18 P) (.node (o34 P) (.node (o66 P) .nil .nil) .nil) (.node (o50 P) .nil .nil)) (.node (o26 P) (.node (o42 P) .nil .nil) (.node (o58 P) .nil .nil))) (.node (o14 P) (.node (o22 P) (.node (o38 P) .nil .nil) (.node (o54 P) .nil .nil)) (.node (o30 P) (.node (o46 P) .nil .nil) (.node (o62 P) .nil .nil))))))
noncomputable def tG1 (P : Params) : BT := (.node (boot_o_0 P) (.node (boot_o_1 P) (.node (m3v5 P) (.node (boot_o_7 P) (.node (o15 P) (.node (o31 P) (.node (o63 P) .nil .nil) (.node (o95 P) .nil .nil)) (.node (o47 P) (.node (o79 P) .nil .nil) .nil)) (.node (o23 P) (.node (o39 P) (.node (o71 P) .nil .nil) (.node (o103 P) .nil .nil)) (.node (o55 P) (.node (o87 P) .nil .nil) .nil))) (.node (o11 P) (.node (o19 P) (.node (o35 P) (.node (o67 P) .nil .nil) (.node (o99 P) .nil .nil)) (.node (o51 P) (.node (o83 P) .nil .nil) .nil)) (.node (o27 P) (.node (o43 P) (.node (o75 P) .nil .nil) .nil) (.node (o59 P) (.node (o91 P) .nil .nil) .nil)))) (.node (boot_o_5 P) (.node (boot_o_9 P) (.node (o17 P) (.node (o33 P) (.node (o65 P) .nil .nil) (.node (o97 P) .nil .nil)) (.node (o49 P) (.node (o81 P) .nil .nil) .nil)) (.node (o25 P) (.node (o41 P) (.node (o73 P) .nil .nil) (.node (o105 P) .nil .nil)) (.node (o57 P) (.node (o89 P) .nil .nil) .nil))) (.node (o13 P) (.node (o21 P) (.node (o37 P) (.node (o69 P) .nil .nil) (.node (o101 P) .nil .nil)) (.node (o53 P) (.node (o85 P) .nil .nil) .nil)) (.node (o29 P) (.node (m45v7 P) (.node (o77 P) .nil .nil) .nil) (.node (o61 P) (.node (o93 P) .nil .nil) .nil))))) (.node (boot_o_2 P) (.node (boot_o_4 P) (.node (boot_o_8 P) (.node (o16 P) (.node (o32 P) (.node (o64 P) .nil .nil) (.node (o96 P) .nil .nil)) (.node (o48 P) (.node (o80 P) .nil .nil) .nil)) (.node (o24 P) (.node (o40 P) (.node (o72 P) .nil .nil) (.node (o104 P) .nil .nil)) (.node (o56 P) (.node (o88 P) .nil .nil) .nil))) (.node (m12v6 P) (.node (o20 P) (.node (o36 P) (.node (o68 P) .nil .nil) (.node (o100 P) .nil .nil)) (.node (o52 P) (.node (o84 P) .nil .nil) .nil)) (.node (o28 P) (.node (o44 P) (.node (o76 P) .nil .nil) .nil) (.node (o60 P) (.node (o92 P) .nil .nil) .nil)))) (.node (boot_o_6 P) (.node (boot_o_10 P) (.node (o18 P) (.node (o34 P) (.node (o66 P) .nil .nil) (.node (o98 P) .nil .nil)) (.node (o50 P) (.node (o82 P) .nil .nil) .nil)) (.node (o26 P) (.node (o42 P) (.node (o74 P) .nil .nil) (.node (o106 P) .nil .nil)) (.node (o58 P) (.node (o90 P) .nil .nil) .nil))) (.node (o14 P) (.node (o22 P) (.node (o38 P) (.node (o70 P) .nil .nil) (.node (o102 P) .nil .nil)) (.node (o54 P) (.node (o86 P) .nil .nil) .nil)) (.node (o30 P) (.node (o46 P) (.node (o78 P) .nil .nil) .nil) (.node (o62 P) (.node (o94 P) .nil .nil) .nil))))))
noncomputable def tG2 (P : Params) : BT := (.node (boot_o_0 P) (.node (boot_o_1 P) (.node (m3v8 P) (.node (boot_o_7 P) (.node (o15 P) (.node (o31 P) (.node (o63 P) (.node (o127 P) .nil .nil) .nil) (.node (o95 P) .nil .nil)) (.node (o47 P) (.node (o79 P) (.node (o143 P) .nil .nil) .nil) (.node (o111 P) .nil .nil))) (.node (o23 P) (.node (o39 P) (.node (o71 P) (.node (o135 P) .nil .nil) .nil) (.node (o103 P) .nil .nil)) (.node (o55 P) (.node (o87 P) .nil .nil) (.node (o119 P) .nil .nil)))) (.node (o11 P) (.node (o19 P) (.node (o35 P) (.node (o67 P) (.node (o131 P) .nil .nil) .nil) (.node (o99 P) .nil .nil)) (.node (o51 P) (.node (o83 P) .nil .nil) (.node (o115 P) .nil .nil))) (.node (o27 P) (.node (o43 P) (.node (o75 P) (.node (o139 P) .nil .nil) .nil) (.node (o107 P) .nil .nil)) (.node (o59 P) (.node (o91 P) .nil .nil) (.node (o123 P) .nil .nil))))) (.node (boot_o_5 P) (.node (boot_o_9 P) (.node (o17 P) (.node (o33 P) (.node (o65 P) (.node (o129 P) .nil .nil) .nil) (.node (o97 P) .nil .nil)) (.node (o49 P) (.node (o81 P) .nil .nil) (.node (o113 P) .nil .nil))) (.node (o25 P) (.node (o41 P) (.node (o73 P) (.node (o137 P) .nil .nil) .nil) (.node (o105 P) .nil .nil)) (.node (o57 P) (.node (o89 P) .nil .nil) (.node (o121 P) .nil .nil)))) (.node (o13 P) (.node (o21 P) (.node (o37 P) (.node (o69 P) (.node (o133 P) .nil .nil) .nil) (.node (o101 P) .nil .nil)) (.node (o53 P) (.node (o85 P) .nil .nil) (.node (o117 P) .nil .nil))) (.node (o29 P) (.node (o45 P) (.node (o77 P) (.node (o141 P) .nil .nil) .nil) (.node (o109 P) .nil .nil)) (.node (o61 P) (.node (o93 P) .nil .nil) (.node (o125 P) .nil .nil)))))) (.node (boot_o_2 P) (.node (boot_o_4 P) (.node (boot_o_8 P) (.node (o16 P) (.node (o32 P) (.node (o64 P) (.node (o128 P) .nil .nil) .nil) (.node (o96 P) .nil .nil)) (.node (o48 P) (.node (o80 P) (.node (o144 P) .nil .nil) .nil) (.node (o112 P) .nil .nil))) (.node (o24 P) (.node (o40 P) (.node (o72 P) (.node (o136 P) .nil .nil) .nil) (.node (o104 P) .nil .nil)) (.node (o56 P) (.node (o88 P) .nil .nil) (.node (o120 P) .nil .nil)))) (.node (m12v9 P) (.node (o20 P) (.node (o36 P) (.node (o68 P) (.node (o132 P) .nil .nil) .nil) (.node (o100 P) .nil .nil)) (.node (o52 P) (.node (o84 P) .nil .nil) (.node (o116 P) .nil .nil))) (.node (o28 P) (.node (o44 P) (.node (o76 P) (.node (o140 P) .nil .nil) .nil) (.node (o108 P) .nil .nil)) (.node (o60 P) (.node (o92 P) .nil .nil) (.node (o124 P) .nil .nil))))) (.node (boot_o_6 P) (.node (boot_o_10 P) (.node (o18 P) (.node (o34 P) (.node (o66 P) (.node (o130 P) .nil .nil) .nil) (.node (o98 P) .nil .nil)) (.node (o50 P) (.node (o82 P) .nil .nil) (.node (o114 P) .nil .nil))) (.node (o26 P) (.node (o42 P) (.node (o74 P) (.node (o138 P) .nil .nil) .nil) (.node (o106 P) .nil .nil)) (.node (o58 P) (.node (o90 P) .nil .nil) (.node (o122 P) .nil .nil)))) (.node (o14 P) (.node (o22 P) (.node (o38 P) (.node (o70 P) (.node (o134 P) .nil .nil) .nil) (.node (o102 P) .nil .nil)) (.node (o54 P) (.node (o86 P) .nil .nil) (.node (o118 P) .nil .nil))) (.node (o30 P) (.node (o46 P) (.node (o78 P) (.node (o142 P) .nil .nil) .nil) (.node (o110 P) .nil .nil)) (.node (o62 P) (.node (o94 P) .nil .nil) (.node (o126 P) .nil .nil)))))))
noncomputable def tG3 (P : Params) : BT := (.node (boot_o_0 P) (.node (boot_o_1 P) (.node (m3v10 P) (.node (boot_o_7 P) (.node (o15 P) (.node (o31 P) (.node (o63 P) (.node (o127 P) .nil .nil) (.node (o191 P) .nil .nil)) (.node (o95 P) (.node (o159 P) .nil .nil) (.node (o223 P) .nil .nil))) (.node (o47 P) (.node (o79 P) (.node (o143 P) .nil .nil) (.node (o207 P) .nil .nil)) (.node (o111 P) (.node (o175 P) .nil .nil) .nil))) (.node (o23 P) (.node (o39 P) (.node (o71 P) (.node (o135 P) .nil .nil) (.node (o199 P) .nil .nil)) (.node (o103 P) (.node (o167 P) .nil .nil) .nil)) (.node (o55 P) (.node (o87 P) (.node (o151 P) .nil .nil) (.node (o215 P) .nil .nil)) (.node (o119 P) (.node (o183 P) .nil .nil) .nil)))) (.node (o11 P) (.node (o19 P) (.node (o35 P) (.node (o67 P) (.node (o131 P) .nil .nil) (.node (o195 P) .nil .nil)) (.node (o99 P) (.node (o163 P) .nil .nil) (.node (o227 P) .nil .nil))) (.node (o51 P) (.node (o83 P) (.node (o147 P) .nil .nil) (.node (o211 P) .nil .nil)) (.node (o115 P) (.node (o179 P) .nil .nil) .nil))) (.node (o27 P) (.node (o43 P) (.node (o75 P) (.node (o139 P) .nil .nil) (.node (o203 P) .nil .nil)) (.node (o107 P) (.node (o171 P) .nil .nil) .nil)) (.node (o59 P) (.node (o91 P) (.node (o155 P) .nil .nil) (.node (o219 P) .nil .nil)) (.node (o123 P) (.node (o187 P) .nil .nil) .nil))))) (.node (boot_o_5 P) (.node (boot_o_9 P) (.node (o17 P) (.node (o33 P) (.node (o65 P) (.node (o129 P) .nil .nil) (.node (o193 P) .nil .nil)) (.node (o97 P) (.node (o161 P) .nil .nil) (.node (o225 P) .nil .nil))) (.node (o49 P) (.node (o81 P) (.node (o145 P) .nil .nil) (.node (o209 P) .nil .nil)) (.node (o113 P) (.node (o177 P) .nil .nil) .nil))) (.node (o25 P) (.node (o41 P) (.node (o73 P) (.node (o137 P) .nil .nil) (.node (o201 P) .nil .nil)) (.node (o105 P) (.node (o169 P) .nil .nil) .nil)) (.node (o57 P) (.node (o89 P) (.node (o153 P) .nil .nil) (.node (o217 P) .nil .nil)) (.node (o121 P) (.node (o185 P) .nil .nil) .nil)))) (.node (o13 P) (.node (o21 P) (.node (o37 P) (.node (o69 P) (.node (o133 P) .nil .nil) (.node (o197 P) .nil .nil)) (.node (o101 P) (.node (o165 P) .nil .nil) (.node (o229 P) .nil .nil))) (.node (o53 P) (.node (o85 P) (.node (o149 P) .nil .nil) (.node (o213 P) .nil .nil)) (.node (o117 P) (.node (o181 P) .nil .nil) .nil))) (.node (o29 P) (.node (o45 P) (.node (o77 P) (.node (o141 P) .nil .nil) (.node (o205 P) .nil .nil)) (.node (o109 P) (.node (o173 P) .nil .nil) .nil)) (.node (o61 P) (.node (o93 P) (.node (o157 P) .nil .nil) (.node (o221 P) .nil .nil)) (.node (o125 P) (.node (o189 P) .nil .nil) .nil)))))) (.node (boot_o_2 P) (.node (boot_o_4 P) (.node (boot_o_8 P) (.node (o16 P) (.node (o32 P) (.node (o64 P) (.node (o128 P) .nil .nil) (.node (o192 P) .nil .nil)) (.node (o96 P) (.node (o160 P) .nil .nil) (.node (o224 P) .nil .nil))) (.node (o48 P) (.node (o80 P) (.node (o144 P) .nil .nil) (.node (o208 P) .nil .nil)) (.node (o112 P) (.node (o176 P) .nil .nil) .nil))) (.node (o24 P) (.node (o40 P) (.node (o72 P) (.node (o136 P) .nil .nil) (.node (o200 P) .nil .nil)) (.node (o104 P) (.node (o168 P) .nil .nil) .nil)) (.node (o56 P) (.node (o88 P) (.node (o152 P) .nil .nil) (.node (o216 P) .nil .nil)) (.node (o120 P) (.node (o184 P) .nil .nil) .nil)))) (.node (m12v11 P) (.node (o20 P) (.node (o36 P) (.node (o68 P) (.node (o132 P) .nil .nil) (.node (o196 P) .nil .nil)) (.node (o100 P) (.node (o164 P) .nil .nil) (.node (o228 P) .nil .nil))) (.node (o52 P) (.node (o84 P) (.node (o148 P) .nil .nil) (.node (o212 P) .nil .nil)) (.node (o116 P) (.node (o180 P) .nil .nil) .nil))) (.node (o28 P) (.node (o44 P) (.node (o76 P) (.node (o140 P) .nil .nil) (.node (o204 P) .nil .nil)) (.node (o108 P) (.node (o172 P) .nil .nil) .nil)) (.node (o60 P) (.node (o92 P) (.node (o156 P) .nil .nil) (.node (o220 P) .nil .nil)) (.node (o124 P) (.node (o188 P) .nil .nil) .nil))))) (.node (boot_o_6 P) (.node (boot_o_10 P) (.node (o18 P) (.node (o34 P) (.node (o66 P) (.node (o130 P) .nil .nil) (.node (o194 P) .nil .nil)) (.node (o98 P) (.node (o162 P) .nil .nil) (.node (o226 P) .nil .nil))) (.node (o50 P) (.node (o82 P) (.node (o146 P) .nil .nil) (.node (o210 P) .nil .nil)) (.node (o114 P) (.node (o178 P) .nil .nil) .nil))) (.node (o26 P) (.node (o42 P) (.node (o74 P) (.node (o138 P) .nil .nil) (.node (o202 P) .nil .nil)) (.node (o106 P) (.node (o170 P) .nil .nil) .nil)) (.node (o58 P) (.node (o90 P) (.node (o154 P) .nil .nil) (.node (o218 P) .nil .nil)) (.node (o122 P) (.node (o186 P) .nil .nil) .nil)))) (.node (o14 P) (.node (o22 P) (.node (o38 P) (.node (o70 P) (.node (o134 P) .nil .nil) (.node (o198 P) .nil .nil)) (.node (o102 P) (.node (o166 P) .nil .nil) .nil)) (.node (o54 P) (.node (o86 P) (.node (o150 P) .nil .nil) (.node (o214 P) .nil .nil)) (.node (o118 P) (.node (o182 P) .nil .nil) .nil))) (.node (o30 P) (.node (o46 P) (.node (o78 P) (.node (o142 P) .nil .nil) (.node (o206 P) .nil .nil)) (.node (o110 P) (.node (o174 P) .nil .nil) .nil)) (.node (o62 P) (.node (o94 P) (.node (o158 P) .nil .nil) (.node (o222 P) .nil .nil)) (.node (o126 P) (.node (o190 P) .nil .nil) .nil)))))))
noncomputable def tG4 (P : Params) : BT := (.node (boot_o_0 P) (.node (boot_o_1 P) (.node (m3v12 P) (.node (boot_o_7 P) (.node (o15 P) (.node (o31 P) (.node (o63 P) (.node (o127 P) (.node (o255 P) .nil .nil) .nil) (.node (o191 P) .nil .nil)) (.node (o95 P) (.node (o159 P) (.node (o287 P) .nil .nil) .nil) (.node (o223 P) .nil .nil))) (.node (o47 P) (.node (o79 P) (.node (o143 P) (.node (o271 P) .nil .nil) .nil) (.node (o207 P) .nil .nil)) (.node (o111 P) (.node (o175 P) (.node (o303 P) .nil .nil) .nil) (.node (o239 P) .nil .nil)))) (.node (o23 P) (.node (o39 P) (.node (o71 P) (.node (o135 P) (.node (o263 P) .nil .nil) .nil) (.node (o199 P) .nil .nil)) (.node (o103 P) (.node (o167 P) (.node (o295 P) .nil .nil) .nil) (.node (o231 P) .nil .nil))) (.node (o55 P) (.node (o87 P) (.node (o151 P) (.node (o279 P) .nil .nil) .nil) (.node (o215 P) .nil .nil)) (.node (o119 P) (.node (o183 P) .nil .nil) (.node (o247 P) .nil .nil))))) (.node (o11 P) (.node (o19 P) (.node (o35 P) (.node (o67 P) (.node (o131 P) (.node (o259 P) .nil .nil) .nil) (.node (o195 P) .nil .nil)) (.node (o99 P) (.node (o163 P) (.node (o291 P) .nil .nil) .nil) (.node (o227 P) .nil .nil))) (.node (o51 P) (.node (o83 P) (.node (o147 P) (.node (o275 P) .nil .nil) .nil) (.node (o211 P) .nil .nil)) (.node (o115 P) (.node (o179 P) .nil .nil) (.node (o243 P) .nil .nil)))) (.node (o27 P) (.node (o43 P) (.node (o75 P) (.node (o139 P) (.node (o267 P) .nil .nil) .nil) (.node (o203 P) .nil .nil)) (.node (o107 P) (.node (o171 P) (.node (o299 P) .nil .nil) .nil) (.node (o235 P) .nil .nil))) (.node (o59 P) (.node (o91 P) (.node (o155 P) (.node (o283 P) .nil .nil) .nil) (.node (o219 P) .nil .nil)) (.node (o123 P) (.node (o187 P) .nil .nil) (.node (o251 P) .nil .nil)))))) (.node (boot_o_5 P) (.node (boot_o_9 P) (.node (o17 P) (.node (o33 P) (.node (o65 P) (.node (o129 P) (.node (o257 P) .nil .nil) .nil) (.node (o193 P) .nil .nil)) (.node (o97 P) (.node (o161 P) (.node (o289 P) .nil .nil) .nil) (.node (o225 P) .nil .nil))) (.node (o49 P) (.node (o81 P) (.node (o145 P) (.node (o273 P) .nil .nil) .nil) (.node (o209 P) .nil .nil)) (.node (o113 P) (.node (o177 P) .nil .nil) (.node (o241 P) .nil .nil)))) (.node (o25 P) (.node (o41 P) (.node (o73 P) (.node (o137 P) (.node (o265 P) .nil .nil) .nil) (.node (o201 P) .nil .nil)) (.node (o105 P) (.node (o169 P) (.node (o297 P) .nil .nil) .nil) (.node (o233 P) .nil .nil))) (.node (o57 P) (.node (o89 P) (.node (o153 P) (.node (o281 P) .nil .nil) .nil) (.node (o217 P) .nil .nil)) (.node (o121 P) (.node (o185 P) .nil .nil) (.node (o249 P) .nil .nil))))) (.node (o13 P) (.node (o21 P) (.node (o37 P) (.node (o69 P) (.node (o133 P) (.node (o261 P) .nil .nil) .nil) (.node (o197 P) .nil .nil)) (.node (o101 P) (.node (o165 P) (.node (o293 P) .nil .nil) .nil) (.node (o229 P) .nil .nil))) (.node (o53 P) (.node (o85 P) (.node (o149 P) (.node (o277 P) .nil .nil) .nil) (.node (o213 P) .nil .nil)) (.node (o117 P) (.node (o181 P) .nil .nil) (.node (o245 P) .nil .nil)))) (.node (o29 P) (.node (o45 P) (.node (o77 P) (.node (o141 P) (.node (o269 P) .nil .nil) .nil) (.node (o205 P) .nil .nil)) (.node (o109 P) (.node (o173 P) (.node (o301 P) .nil .nil) .nil) (.node (o237 P) .nil .nil))) (.node (o61 P) (.node (o93 P) (.node (o157 P) (.node (o285 P) .nil .nil) .nil) (.node (o221 P) .nil .nil)) (.node (o125 P) (.node (o189 P) .nil .nil) (.node (o253 P) .nil .nil))))))) (.node (o2 P) (.node (boot_o_4 P) (.node (boot_o_8 P) (.node (o16 P) (.node (o32 P) (.node (o64 P) (.node (o128 P) (.node (o256 P) .nil .nil) .nil) (.node (o192 P) .nil .nil)) (.node (o96 P) (.node (o160 P) (.node (o288 P) .nil .nil) .nil) (.node (o224 P) .nil .nil))) (.node (o48 P) (.node (o80 P) (.node (o144 P) (.node (o272 P) .nil .nil) .nil) (.node (o208 P) .nil .nil)) (.node (o112 P) (.node (o176 P) .nil .nil) (.node (o240 P) .nil .nil)))) (.node (o24 P) (.node (o40 P) (.node (o72 P) (.node (o136 P) (.node (o264 P) .nil .nil) .nil) (.node (o200 P) .nil .nil)) (.node (o104 P) (.node (o168 P) (.node (o296 P) .nil .nil) .nil) (.node (o232 P) .nil .nil))) (.node (o56 P) (.node (o88 P) (.node (o152 P) (.node (o280 P) .nil .nil) .nil) (.node (o216 P) .nil .nil)) (.node (o120 P) (.node (o184 P) .nil .nil) (.node (o248 P) .nil .nil))))) (.node (m12v13 P) (.node (o20 P) (.node (o36 P) (.node (o68 P) (.node (o132 P) (.node (o260 P) .nil .nil) .nil) (.node (o196 P) .nil .nil)) (.node (o100 P) (.node (o164 P) (.node (o292 P) .nil .nil) .nil) (.node (o228 P) .nil .nil))) (.node (o52 P) (.node (o84 P) (.node (o148 P) (.node (o276 P) .nil .nil) .nil) (.node (o212 P) .nil .nil)) (.node (o116 P) (.node (o180 P) .nil .nil) (.node (o244 P) .nil .nil)))) (.node (o28 P) (.node (o44 P) (.node (o76 P) (.node (o140 P) (.node (o268 P) .nil .nil) .nil) (.node (o204 P) .nil .nil)) (.node (o108 P) (.node (o172 P) (.node (o300 P) .nil .nil) .nil) (.node (o236 P) .nil .nil))) (.node (o60 P) (.node (o92 P) (.node (o156 P) (.node (o284 P) .nil .nil) .nil) (.node (o220 P) .nil .nil)) (.node (o124 P) (.node (o188 P) .nil .nil) (.node (o252 P) .nil .nil)))))) (.node (boot_o_6 P) (.node (boot_o_10 P) (.node (o18 P) (.node (o34 P) (.node (o66 P) (.node (o130 P) (.node (o258 P) .nil .nil) .nil) (.node (o194 P) .nil .nil)) (.node (o98 P) (.node (o162 P) (.node (o290 P) .nil .nil) .nil) (.node (o226 P) .nil .nil))) (.node (o50 P) (.node (o82 P) (.node (o146 P) (.node (o274 P) .nil .nil) .nil) (.node (o210 P) .nil .nil)) (.node (o114 P) (.node (o178 P) .nil .nil) (.node (o242 P) .nil .nil)))) (.node (o26 P) (.node (o42 P) (.node (o74 P) (.node (o138 P) (.node (o266 P) .nil .nil) .nil) (.node (o202 P) .nil .nil)) (.node (o106 P) (.node (o170 P) (.node (o298 P) .nil .nil) .nil) (.node (o234 P) .nil .nil))) (.node (o58 P) (.node (o90 P) (.node (o154 P) (.node (o282 P) .nil .nil) .nil) (.node (o218 P) .nil .nil)) (.node (o122 P) (.node (o186 P) .nil .nil) (.node (o250 P) .nil .nil))))) (.node (o14 P) (.node (o22 P) (.node (o38 P) (.node (o70 P) (.node (o134 P) (.node (o262 P) .nil .nil) .nil) (.node (o198 P) .nil .nil)) (.node (o102 P) (.node (o166 P) (.node (o294 P) .nil .nil) .nil) (.node (o230 P) .nil .nil))) (.node (o54 P) (.node (o86 P) (.node (o150 P) (.node (o278 P) .nil .nil) .nil) (.node (o214 P) .nil .nil)) (.node (o118 P) (.node (o182 P) .nil .nil) (.node (o246 P) .nil .nil)))) (.node (o30 P) (.node (o46 P) (.node (o78 P) (.node (o142 P) (.node (o270 P) .nil .nil) .nil) (.node (o206 P) .nil .nil)) (.node (o110 P) (.node (o174 P) (.node (o302 P) .nil .nil) .nil) (.node (o238 P) .nil .nil))) (.node (o62 P) (.node (o94 P) (.node (o158 P) (.node (o286 P) .nil .nil) .nil) (.node (o222 P) .nil .nil)) (.node (o126 P) (.node (o190 P) .nil .nil) (.node (o254 P) .nil .nil))))))))
noncomputable def tG5 (P : Params) : BT := (.node (boot_o_0 P) (.node (boot_o_1 P) (.node (m3v14 P) (.node (boot_o_7 P) (.node (o15 P) (.node (o31 P) (.node (o63 P) (.node (o127 P) (.node (o255 P) .nil .nil) .nil) (.node (o191 P) (.node (o319 P) .nil .nil) .nil)) (.node (o95 P) (.node (o159 P) (.node (o287 P) .nil .nil) .nil) (.node (o223 P) (.node (o351 P) .nil .nil) .nil))) (.node (o47 P) (.node (o79 P) (.node (o143 P) (.node (o271 P) .nil .nil) .nil) (.node (o207 P) (.node (o335 P) .nil .nil) .nil)) (.node (o111 P) (.node (o175 P) (.node (o303 P) .nil .nil) .nil) (.node (o239 P) .nil .nil)))) (.node (o23 P) (.node (o39 P) (.node (o71 P) (.node (o135 P) (.node (o263 P) .nil .nil) .nil) (.node (o199 P) (.node (o327 P) .nil .nil) .nil)) (.node (o103 P) (.node (o167 P) (.node (o295 P) .nil .nil) .nil) (.node (o231 P) (.node (o359 P) .nil .nil) .nil))) (.node (o55 P) (.node (o87 P) (.node (o151 P) (.node (o279 P) .nil .nil) .nil) (.node (o215 P) (.node (o343 P) .nil .nil) .nil)) (.node (o119 P) (.node (o183 P) (.node (o311 P) .nil .nil) .nil) (.node (o247 P) .nil .nil))))) (.node (o11 P) (.node (o19 P) (.node (o35 P) (.node (o67 P) (.node (o131 P) (.node (o259 P) .nil .nil) .nil) (.node (o195 P) (.node (o323 P) .nil .nil) .nil)) (.node (o99 P) (.node (o163 P) (.node (o291 P) .nil .nil) .nil) (.node (o227 P) (.node (o355 P) .nil .nil) .nil))) (.node (o51 P) (.node (o83 P) (.node (o147 P) (.node (o275 P) .nil .nil) .nil) (.node (o211 P) (.node (o339 P) .nil .nil) .nil)) (.node (o115 P) (.node (o179 P) (.node (o307 P) .nil .nil) .nil) (.node (o243 P) .nil .nil)))) (.node (o27 P) (.node (o43 P) (.node (o75 P) (.node (o139 P) (.node (o267 P) .nil .nil) .nil) (.node (o203 P) (.node (o331 P) .nil .nil) .nil)) (.node (o107 P) (.node (o171 P) (.node (o299 P) .nil .nil) .nil) (.node (o235 P) (.node (o363 P) .nil .nil) .nil))) (.node (o59 P) (.node (o91 P) (.node (o155 P) (.node (o283 P) .nil .nil) .nil) (.node (o219 P) (.node (o347 P) .nil .nil) .nil)) (.node (o123 P) (.node (o187 P) (.node (o315 P) .nil .nil) .nil) (.node (o251 P) .nil .nil)))))) (.node (boot_o_5 P) (.node (boot_o_9 P) (.node (o17 P) (.node (o33 P) (.node (o65 P) (.node (o129 P) (.node (o257 P) .nil .nil) .nil) (.node (o193 P) (.node (o321 P) .nil .nil) .nil)) (.node (o97 P) (.node (o161 P) (.node (o289 P) .nil .nil) .nil) (.node (o225 P) (.node (o353 P) .nil .nil) .nil))) (.node (o49 P) (.node (o81 P) (.node (o145 P) (.node (o273 P) .nil .nil) .nil) (.node (o209 P) (.node (o337 P) .nil .nil) .nil)) (.node (o113 P) (.node (o177 P) (.node (o305 P) .nil .nil) .nil) (.node (o241 P) .nil .nil)))) (.node (o25 P) (.node (o41 P) (.node (o73 P) (.node (o137 P) (.node (o265 P) .nil .nil) .nil) (.node (o201 P) (.node (o329 P) .nil .nil) .nil)) (.node (o105 P) (.node (o169 P) (.node (o297 P) .nil .nil) .nil) (.node (o233 P) (.node (o361 P) .nil .nil) .nil))) (.node (o57 P) (.node (o89 P) (.node (o153 P) (.node (o281 P) .nil .nil) .nil) (.node (o217 P) (.node (o345 P) .nil .nil) .nil)) (.node (o121 P) (.node (o185 P) (.node (o313 P) .nil .nil) .nil) (.node (o249 P) .nil .nil))))) (.node (o13 P) (.node (o21 P) (.node (o37 P) (.node (o69 P) (.node (o133 P) (.node (o261 P) .nil .nil) .nil) (.node (o197 P) (.node (o325 P) .nil .nil) .nil)) (.node (o101 P) (.node (o165 P) (.node (o293 P) .nil .nil) .nil) (.node (o229 P) (.node (o357 P) .nil .nil) .nil))) (.node (o53 P) (.node (o85 P) (.node (o149 P) (.node (o277 P) .nil .nil) .nil) (.node (o213 P) (.node (o341 P) .nil .nil) .nil)) (.node (o117 P) (.node (o181 P) (.node (o309 P) .nil .nil) .nil) (.node (o245 P) .nil .nil)))) (.node (o29 P) (.node (o45 P) (.node (o77 P) (.node (o141 P) (.node (o269 P) .nil .nil) .nil) (.node (o205 P) (.node (o333 P) .nil .nil) .nil)) (.node (o109 P) (.node (o173 P) (.node (o301 P) .nil .nil) .nil) (.node (o237 P) (.node (o365 P) .nil .nil) .nil))) (.node (o61 P) (.node (o93 P) (.node (o157 P) (.node (o285 P) .nil .nil) .nil) (.node (o221 P) (.node (o349 P) .nil .nil) .nil)) (.node (o125 P) (.node (o189 P) (.node (o317 P) .nil .nil) .nil) (.node (o253 P) .nil .nil))))))) (.node (o2 P) (.node (boot_o_4 P) (.node (boot_o_8 P) (.node (o16 P) (.node (o32 P) (.node (o64 P) (.node (o128 P) (.node (o256 P) .nil .nil) .nil) (.node (o192 P) (.node (o320 P) .nil .nil) .nil)) (.node (o96 P) (.node (o160 P) (.node (o288 P) .nil .nil) .nil) (.node (o224 P) (.node (o352 P) .nil .nil) .nil))) (.node (o48 P) (.node (o80 P) (.node (o144 P) (.node (o272 P) .nil .nil) .nil) (.node (o208 P) (.node (o336 P) .nil .nil) .nil)) (.node (o112 P) (.node (o176 P) (.node (o304 P) .nil .nil) .nil) (.node (o240 P) .nil .nil)))) (.node (o24 P) (.node (o40 P) (.node (o72 P) (.node (o136 P) (.node (o264 P) .nil .nil) .nil) (.node (o200 P) (.node (o328 P) .nil .nil) .nil)) (.node (o104 P) (.node (o168 P) (.node (o296 P) .nil .nil) .nil) (.node (o232 P) (.node (o360 P) .nil .nil) .nil))) (.node (o56 P) (.node (o88 P) (.node (o152 P) (.node (o280 P) .nil .nil) .nil) (.node (o216 P) (.node (o344 P) .nil .nil) .nil)) (.node (o120 P) (.node (o184 P) (.node (o312 P) .nil .nil) .nil) (.node (o248 P) .nil .nil))))) (.node (m12v15 P) (.node (o20 P) (.node (o36 P) (.node (o68 P) (.node (o132 P) (.node (o260 P) .nil .nil) .nil) (.node (o196 P) (.node (o324 P) .nil .nil) .nil)) (.node (o100 P) (.node (o164 P) (.node (o292 P) .nil .nil) .nil) (.node (o228 P) (.node (o356 P) .nil .nil) .nil))) (.node (o52 P) (.node (o84 P) (.node (o148 P) (.node (o276 P) .nil .nil) .nil) (.node (o212 P) (.node (o340 P) .nil .nil) .nil)) (.node (o116 P) (.node (o180 P) (.node (o308 P) .nil .nil) .nil) (.node (o244 P) .nil .nil)))) (.node (o28 P) (.node (o44 P) (.node (o76 P) (.node (o140 P) (.node (o268 P) .nil .nil) .nil) (.node (o204 P) (.node (o332 P) .nil .nil) .nil)) (.node (o108 P) (.node (o172 P) (.node (o300 P) .nil .nil) .nil) (.node (o236 P) (.node (o364 P) .nil .nil) .nil))) (.node (o60 P) (.node (o92 P) (.node (o156 P) (.node (o284 P) .nil .nil) .nil) (.node (o220 P) (.node (o348 P) .nil .nil) .nil)) (.node (o124 P) (.node (o188 P) (.node (o316 P) .nil .nil) .nil) (.node (o252 P) .nil .nil)))))) (.node (boot_o_6 P) (.node (boot_o_10 P) (.node (o18 P) (.node (o34 P) (.node (o66 P) (.node (o130 P) (.node (o258 P) .nil .nil) .nil) (.node (o194 P) (.node (o322 P) .nil .nil) .nil)) (.node (o98 P) (.node (o162 P) (.node (o290 P) .nil .nil) .nil) (.node (o226 P) (.node (o354 P) .nil .nil) .nil))) (.node (o50 P) (.node (o82 P) (.node (o146 P) (.node (o274 P) .nil .nil) .nil) (.node (o210 P) (.node (o338 P) .nil .nil) .nil)) (.node (o114 P) (.node (o178 P) (.node (o306 P) .nil .nil) .nil) (.node (o242 P) .nil .nil)))) (.node (o26 P) (.node (o42 P) (.node (o74 P) (.node (o138 P) (.node (o266 P) .nil .nil) .nil) (.node (o202 P) (.node (o330 P) .nil .nil) .nil)) (.node (o106 P) (.node (o170 P) (.node (o298 P) .nil .nil) .nil) (.node (o234 P) (.node (o362 P) .nil .nil) .nil))) (.node (o58 P) (.node (o90 P) (.node (o154 P) (.node (o282 P) .nil .nil) .nil) (.node (o218 P) (.node (o346 P) .nil .nil) .nil)) (.node (o122 P) (.node (o186 P) (.node (o314 P) .nil .nil) .nil) (.node (o250 P) .nil .nil))))) (.node (o14 P) (.node (o22 P) (.node (o38 P) (.node (o70 P) (.node (o134 P) (.node (o262 P) .nil .nil) .nil) (.node (o198 P) (.node (o326 P) .nil .nil) .nil)) (.node (o102 P) (.node (o166 P) (.node (o294 P) .nil .nil) .nil) (.node (o230 P) (.node (o358 P) .nil .nil) .nil))) (.node (o54 P) (.node (o86 P) (.node (o150 P) (.node (o278 P) .nil .nil) .nil) (.node (o214 P) (.node (o342 P) .nil .nil) .nil)) (.node (o118 P) (.node (o182 P) (.node (o310 P) .nil .nil) .nil) (.node (o246 P) .nil .nil)))) (.node (o30 P) (.node (o46 P) (.node (o78 P) (.node (o142 P) (.node (o270 P) .nil .nil) .nil) (.node (o206 P) (.node (o334 P) .nil .nil) .nil)) (.node (o110 P) (.node (o174 P) (.node (o302 P) .nil .nil) .nil) (.node (o238 P) (.node (o366 P) .nil .nil) .nil))) (.node (o62 P) (.node (o94 P) (.node (o158 P) (.node (o286 P) .nil .nil) .nil) (.node (o222 P) (.node (o350 P) .nil .nil) .nil)) (.node (o126 P) (.node (o190 P) (.node (o318 P) .nil .nil) .nil) (.node (o254 P) .nil .nil))))))))
noncomputable def tG6 (P : Params) : BT := (.node (boot_o_0 P) (.node (boot_o_1 P) (.node (m3v16 P) (.node (boot_o_7 P) (.node (o15 P) (.node (o31 P) (.node (o63 P) (.node (o127 P) (.node (o255 P) .nil .nil) (.node (o383 P) .nil .nil)) (.node (o191 P) (.node (o319 P) .nil .nil) (.node (o447 P) .nil .nil))) (.node (o95 P) (.node (o159 P) (.node (o287 P) .nil .nil) (.node (o415 P) .nil .nil)) (.node (o223 P) (.node (o351 P) .nil .nil) .nil))) (.node (o47 P) (.node (o79 P) (.node (o143 P) (.node (o271 P) .nil .nil) (.node (o399 P) .nil .nil)) (.node (o207 P) (.node (o335 P) .nil .nil) .nil)) (.node (o111 P) (.node (o175 P) (.node (o303 P) .nil .nil) (.node (o431 P) .nil .nil)) (.node (o239 P) (.node (o367 P) .nil .nil) .nil)))) (.node (o23 P) (.node (o39 P) (.node (o71 P) (.node (o135 P) (.node (o263 P) .nil .nil) (.node (o391 P) .nil .nil)) (.node (o199 P) (.node (o327 P) .nil .nil) (.node (o455 P) .nil .nil))) (.node (o103 P) (.node (o167 P) (.node (o295 P) .nil .nil) (.node (o423 P) .nil .nil)) (.node (o231 P) (.node (o359 P) .nil .nil) .nil))) (.node (o55 P) (.node (o87 P) (.node (o151 P) (.node (o279 P) .nil .nil) (.node (o407 P) .nil .nil)) (.node (o215 P) (.node (o343 P) .nil .nil) .nil)) (.node (o119 P) (.node (o183 P) (.node (o311 P) .nil .nil) (.node (o439 P) .nil .nil)) (.node (o247 P) (.node (o375 P) .nil .nil) .nil))))) (.node (o11 P) (.node (o19 P) (.node (o35 P) (.node (o67 P) (.node (o131 P) (.node (o259 P) .nil .nil) (.node (o387 P) .nil .nil)) (.node (o195 P) (.node (o323 P) .nil .nil) (.node (o451 P) .nil .nil))) (.node (o99 P) (.node (o163 P) (.node (o291 P) .nil .nil) (.node (o419 P) .nil .nil)) (.node (o227 P) (.node (o355 P) .nil .nil) .nil))) (.node (o51 P) (.node (o83 P) (.node (o147 P) (.node (o275 P) .nil .nil) (.node (o403 P) .nil .nil)) (.node (o211 P) (.node (o339 P) .nil .nil) .nil)) (.node (o115 P) (.node (o179 P) (.node (o307 P) .nil .nil) (.node (o435 P) .nil .nil)) (.node (o243 P) (.node (o371 P) .nil .nil) .nil)))) (.node (o27 P) (.node (o43 P) (.node (o75 P) (.node (o139 P) (.node (o267 P) .nil .nil) (.node (o395 P) .nil .nil)) (.node (o203 P) (.node (o331 P) .nil .nil) (.node (o459 P) .nil .nil))) (.node (o107 P) (.node (o171 P) (.node (o299 P) .nil .nil) (.node (o427 P) .nil .nil)) (.node (o235 P) (.node (o363 P) .nil .nil) .nil))) (.node (o59 P) (.node (o91 P) (.node (o155 P) (.node (o283 P) .nil .nil) (.node (o411 P) .nil .nil)) (.node (o219 P) (.node (o347 P) .nil .nil) .nil)) (.node (o123 P) (.node (o187 P) (.node (o315 P) .nil .nil) (.node (o443 P) .nil .nil)) (.node (o251 P) (.node (o379 P) .nil .nil) .nil)))))) (.node (boot_o_5 P) (.node (boot_o_9 P) (.node (o17 P) (.node (o33 P) (.node (o65 P) (.node (o129 P) (.node (o257 P) .nil .nil) (.node (o385 P) .nil .nil)) (.node (o193 P) (.node (o321 P) .nil .nil) (.node (o449 P) .nil .nil))) (.node (o97 P) (.node (o161 P) (.node (o289 P) .nil .nil) (.node (o417 P) .nil .nil)) (.node (o225 P) (.node (o353 P) .nil .nil) .nil))) (.node (o49 P) (.node (o81 P) (.node (o145 P) (.node (o273 P) .nil .nil) (.node (o401 P) .nil .nil)) (.node (o209 P) (.node (o337 P) .nil .nil) .nil)) (.node (o113 P) (.node (o177 P) (.node (o305 P) .nil .nil) (.node (o433 P) .nil .nil)) (.node (o241 P) (.node (o369 P) .nil .nil) .nil)))) (.node (o25 P) (.node (o41 P) (.node (o73 P) (.node (o137 P) (.node (o265 P) .nil .nil) (.node (o393 P) .nil .nil)) (.node (o201 P) (.node (o329 P) .nil .nil) (.node (o457 P) .nil .nil))) (.node (o105 P) (.node (o169 P) (.node (o297 P) .nil .nil) (.node (o425 P) .nil .nil)) (.node (o233 P) (.node (o361 P) .nil .nil) .nil))) (.node (o57 P) (.node (o89 P) (.node (o153 P) (.node (o281 P) .nil .nil) (.node (o409 P) .nil .nil)) (.node (o217 P) (.node (o345 P) .nil .nil) .nil)) (.node (o121 P) (.node (o185 P) (.node (o313 P) .nil .nil) (.node (o441 P) .nil .nil)) (.node (o249 P) (.node (o377 P) .nil .nil) .nil))))) (.node (o13 P) (.node (o21 P) (.node (o37 P) (.node (o69 P) (.node (o133 P) (.node (o261 P) .nil .nil) (.node (o389 P) .nil .nil)) (.node (o197 P) (.node (o325 P) .nil .nil) (.node (o453 P) .nil .nil))) (.node (o101 P) (.node (o165 P) (.node (o293 P) .nil .nil) (.node (o421 P) .nil .nil)) (.node (o229 P) (.node (o357 P) .nil .nil) .nil))) (.node (o53 P) (.node (o85 P) (.node (o149 P) (.node (o277 P) .nil .nil) (.node (o405 P) .nil .nil)) (.node (o213 P) (.node (o341 P) .nil .nil) .nil)) (.node (o117 P) (.node (o181 P) (.node (o309 P) .nil .nil) (.node (o437 P) .nil .nil)) (.node (o245 P) (.node (o373 P) .nil .nil) .nil)))) (.node (o29 P) (.node (o45 P) (.node (o77 P) (.node (o141 P) (.node (o269 P) .nil .nil) (.node (o397 P) .nil .nil)) (.node (o205 P) (.node (o333 P) .nil .nil) (.node (o461 P) .nil .nil))) (.node (o109 P) (.node (o173 P) (.node (o301 P) .nil .nil) (.node (o429 P) .nil .nil)) (.node (o237 P) (.node (o365 P) .nil .nil) .nil))) (.node (o61 P) (.node (o93 P) (.node (o157 P) (.node (o285 P) .nil .nil) (.node (o413 P) .nil .nil)) (.node (o221 P) (.node (o349 P) .nil .nil) .nil)) (.node (o125 P) (.node (o189 P) (.node (o317 P) .nil .nil) (.node (o445 P) .nil .nil)) (.node (o253 P) (.node (o381 P) .nil .nil) .nil))))))) (.node (o2 P) (.node (boot_o_4 P) (.node (boot_o_8 P) (.node (o16 P) (.node (o32 P) (.node (o64 P) (.node (o128 P) (.node (o256 P) .nil .nil) (.node (o384 P) .nil .nil)) (.node (o192 P) (.node (o320 P) .nil .nil) (.node (o448 P) .nil .nil))) (.node (o96 P) (.node (o160 P) (.node (o288 P) .nil .nil) (.node (o416 P) .nil .nil)) (.node (o224 P) (.node (o352 P) .nil .nil) .nil))) (.node (o48 P) (.node (o80 P) (.node (o144 P) (.node (o272 P) .nil .nil) (.node (o400 P) .nil .nil)) (.node (o208 P) (.node (o336 P) .nil .nil) .nil)) (.node (o112 P) (.node (o176 P) (.node (o304 P) .nil .nil) (.node (o432 P) .nil .nil)) (.node (o240 P) (.node (o368 P) .nil .nil) .nil)))) (.node (o24 P) (.node (o40 P) (.node (o72 P) (.node (o136 P) (.node (o264 P) .nil .nil) (.node (o392 P) .nil .nil)) (.node (o200 P) (.node (o328 P) .nil .nil) (.node (o456 P) .nil .nil))) (.node (o104 P) (.node (o168 P) (.node (o296 P) .nil .nil) (.node (o424 P) .nil .nil)) (.node (o232 P) (.node (o360 P) .nil .nil) .nil))) (.node (o56 P) (.node (o88 P) (.node (o152 P) (.node (o280 P) .nil .nil) (.node (o408 P) .nil .nil)) (.node (o216 P) (.node (o344 P) .nil .nil) .nil)) (.node (o120 P) (.node (o184 P) (.node (o312 P) .nil .nil) (.node (o440 P) .nil .nil)) (.node (o248 P) (.node (o376 P) .nil .nil) .nil))))) (.node (m12v17 P) (.node (o20 P) (.node (o36 P) (.node (o68 P) (.node (o132 P) (.node (o260 P) .nil .nil) (.node (o388 P) .nil .nil)) (.node (o196 P) (.node (o324 P) .nil .nil) (.node (o452 P) .nil .nil))) (.node (o100 P) (.node (o164 P) (.node (o292 P) .nil .nil) (.node (o420 P) .nil .nil)) (.node (o228 P) (.node (o356 P) .nil .nil) .nil))) (.node (o52 P) (.node (o84 P) (.node (o148 P) (.node (o276 P) .nil .nil) (.node (o404 P) .nil .nil)) (.node (o212 P) (.node (o340 P) .nil .nil) .nil)) (.node (o116 P) (.node (o180 P) (.node (o308 P) .nil .nil) (.node (o436 P) .nil .nil)) (.node (o244 P) (.node (o372 P) .nil .nil) .nil)))) (.node (o28 P) (.node (o44 P) (.node (o76 P) (.node (o140 P) (.node (o268 P) .nil .nil) (.node (o396 P) .nil .nil)) (.node (o204 P) (.node (o332 P) .nil .nil) (.node (o460 P) .nil .nil))) (.node (o108 P) (.node (o172 P) (.node (o300 P) .nil .nil) (.node (o428 P) .nil .nil)) (.node (o236 P) (.node (o364 P) .nil .nil) .nil))) (.node (o60 P) (.node (o92 P) (.node (o156 P) (.node (o284 P) .nil .nil) (.node (o412 P) .nil .nil)) (.node (o220 P) (.node (o348 P) .nil .nil) .nil)) (.node (o124 P) (.node (o188 P) (.node (o316 P) .nil .nil) (.node (o444 P) .nil .nil)) (.node (o252 P) (.node (o380 P) .nil .nil) .nil)))))) (.node (boot_o_6 P) (.node (boot_o_10 P) (.node (o18 P) (.node (o34 P) (.node (o66 P) (.node (o130 P) (.node (o258 P) .nil .nil) (.node (o386 P) .nil .nil)) (.node (o194 P) (.node (o322 P) .nil .nil) (.node (o450 P) .nil .nil))) (.node (o98 P) (.node (o162 P) (.node (o290 P) .nil .nil) (.node (o418 P) .nil .nil)) (.node (o226 P) (.node (o354 P) .nil .nil) .nil))) (.node (o50 P) (.node (o82 P) (.node (o146 P) (.node (o274 P) .nil .nil) (.node (o402 P) .nil .nil)) (.node (o210 P) (.node (o338 P) .nil .nil) .nil)) (.node (o114 P) (.node (o178 P) (.node (o306 P) .nil .nil) (.node (o434 P) .nil .nil)) (.node (o242 P) (.node (o370 P) .nil .nil) .nil)))) (.node (o26 P) (.node (o42 P) (.node (o74 P) (.node (o138 P) (.node (o266 P) .nil .nil) (.node (o394 P) .nil .nil)) (.node (o202 P) (.node (o330 P) .nil .nil) (.node (o458 P) .nil .nil))) (.node (o106 P) (.node (o170 P) (.node (o298 P) .nil .nil) (.node (o426 P) .nil .nil)) (.node (o234 P) (.node (o362 P) .nil .nil) .nil))) (.node (o58 P) (.node (o90 P) (.node (o154 P) (.node (o282 P) .nil .nil) (.node (o410 P) .nil .nil)) (.node (o218 P) (.node (o346 P) .nil .nil) .nil)) (.node (o122 P) (.node (o186 P) (.node (o314 P) .nil .nil) (.node (o442 P) .nil .nil)) (.node (o250 P) (.node (o378 P) .nil .nil) .nil))))) (.node (o14 P) (.node (o22 P) (.node (o38 P) (.node (o70 P) (.node (o134 P) (.node (o262 P) .nil .nil) (.node (o390 P) .nil .nil)) (.node (o198 P) (.node (o326 P) .nil .nil) (.node (o454 P) .nil .nil))) (.node (o102 P) (.node (o166 P) (.node (o294 P) .nil .nil) (.node (o422 P) .nil .nil)) (.node (o230 P) (.node (o358 P) .nil .nil) .nil))) (.node (o54 P) (.node (o86 P) (.node (o150 P) (.node (o278 P) .nil .nil) (.node (o406 P) .nil .nil)) (.node (o214 P) (.node (o342 P) .nil .nil) .nil)) (.node (o118 P) (.node (o182 P) (.node (o310 P) .nil .nil) (.node (o438 P) .nil .nil)) (.node (o246 P) (.node (o374 P) .nil .nil) .nil)))) (.node (o30 P) (.node (o46 P) (.node (o78 P) (.node (o142 P) (.node (o270 P) .nil .nil) (.node (o398 P) .nil .nil)) (.node (o206 P) (.node (o334 P) .nil .nil) (.node (o462 P) .nil .nil))) (.node (o110 P) (.node (o174 P) (.node (o302 P) .nil .nil) (.node (o430 P) .nil .nil)) (.node (o238 P) (.node (o366 P) .nil .nil) .nil))) (.node (o62 P) (.node (o94 P) (.node (o158 P) (.node (o286 P) .nil .nil) (.node (o414 P) .nil .nil)) (.node (o222 P) (.node (o350 P) .nil .nil) .nil)) (.node (o126 P) (.node (o190 P) (.node (o318 P) .nil .nil) (.node (o446 P) .nil .nil)) (.node (o254 P) (.node (o382 P) .nil .nil) .nil))))))))
noncomputable def tF (P : Params) : BT := (.node (boot_o_0 P) (.node (boot_o_1 P) (.node (o3 P) (.node (boot_o_7 P) (.node (o15 P) (.node (o31 P) (.node (o63 P) (.node (o127 P) (.node (o255 P) (.node (o511 P) .nil .nil) .nil) (.node (o383 P) .nil .nil)) (.node (o191 P) (.node (o319 P) .nil .nil) (.node (o447 P) .nil .nil))) (.node (o95 P) (.node (o159 P) (.node (o287 P) .nil .nil) (.node (o415 P) .nil .nil)) (.node (o223 P) (.node (o351 P) .nil .nil) (.node (o479 P) .nil .nil)))) (.node (o47 P) (.node (o79 P) (.node (o143 P) (.node (o271 P) .nil .nil) (.node (o399 P) .nil .nil)) (.node (o207 P) (.node (o335 P) .nil .nil) (.node (o463 P) .nil .nil))) (.node (o111 P) (.node (o175 P) (.node (o303 P) .nil .nil) (.node (o431 P) .nil .nil)) (.node (o239 P) (.node (o367 P) .nil .nil) (.node (o495 P) .nil .nil))))) (.node (o23 P) (.node (o39 P) (.node (o71 P) (.node (o135 P) (.node (o263 P) (.node (o519 P) .nil .nil) .nil) (.node (o391 P) .nil .nil)) (.node (o199 P) (.node (o327 P) .nil .nil) (.node (o455 P) .nil .nil))) (.node (o103 P) (.node (o167 P) (.node (o295 P) .nil .nil) (.node (o423 P) .nil .nil)) (.node (o231 P) (.node (o359 P) .nil .nil) (.node (o487 P) .nil .nil)))) (.node (o55 P) (.node (o87 P) (.node (o151 P) (.node (o279 P) .nil .nil) (.node (o407 P) .nil .nil)) (.node (o215 P) (.node (o343 P) .nil .nil) (.node (o471 P) .nil .nil))) (.node (o119 P) (.node (o183 P) (.node (o311 P) .nil .nil) (.node (o439 P) .nil .nil)) (.node (o247 P) (.node (o375 P) .nil .nil) (.node (o503 P) .nil .nil)))))) (.node (o11 P) (.node (o19 P) (.node (o35 P) (.node (o67 P) (.node (o131 P) (.node (o259 P) (.node (o515 P) .nil .nil) .nil) (.node (o387 P) .nil .nil)) (.node (o195 P) (.node (o323 P) .nil .nil) (.node (o451 P) .nil .nil))) (.node (o99 P) (.node (o163 P) (.node (o291 P) .nil .nil) (.node (o419 P) .nil .nil)) (.node (o227 P) (.node (o355 P) .nil .nil) (.node (o483 P) .nil .nil)))) (.node (o51 P) (.node (o83 P) (.node (o147 P) (.node (o275 P) .nil .nil) (.node (o403 P) .nil .nil)) (.node (o211 P) (.node (o339 P) .nil .nil) (.node (o467 P) .nil .nil))) (.node (o115 P) (.node (o179 P) (.node (o307 P) .nil .nil) (.node (o435 P) .nil .nil)) (.node (o243 P) (.node (o371 P) .nil .nil) (.node (o499 P) .nil .nil))))) (.node (o27 P) (.node (o43 P) (.node (o75 P) (.node (o139 P) (.node (o267 P) .nil .nil) (.node (o395 P) .nil .nil)) (.node (o203 P) (.node (o331 P) .nil .nil) (.node (o459 P) .nil .nil))) (.node (o107 P) (.node (o171 P) (.node (o299 P) .nil .nil) (.node (o427 P) .nil .nil)) (.node (o235 P) (.node (o363 P) .nil .nil) (.node (o491 P) .nil .nil)))) (.node (o59 P) (.node (o91 P) (.node (o155 P) (.node (o283 P) .nil .nil) (.node (o411 P) .nil .nil)) (.node (o219 P) (.node (o347 P) .nil .nil) (.node (o475 P) .nil .nil))) (.node (o123 P) (.node (o187 P) (.node (o315 P) .nil .nil) (.node (o443 P) .nil .nil)) (.node (o251 P) (.node (o379 P) .nil .nil) (.node (o507 P) .nil .nil))))))) (.node (boot_o_5 P) (.node (boot_o_9 P) (.node (o17 P) (.node (o33 P) (.node (o65 P) (.node (o129 P) (.node (o257 P) (.node (o513 P) .nil .nil) .nil) (.node (o385 P) .nil .nil)) (.node (o193 P) (.node (o321 P) .nil .nil) (.node (o449 P) .nil .nil))) (.node (o97 P) (.node (o161 P) (.node (o289 P) .nil .nil) (.node (o417 P) .nil .nil)) (.node (o225 P) (.node (o353 P) .nil .nil) (.node (o481 P) .nil .nil)))) (.node (o49 P) (.node (o81 P) (.node (o145 P) (.node (o273 P) .nil .nil) (.node (o401 P) .nil .nil)) (.node (o209 P) (.node (o337 P) .nil .nil) (.node (o465 P) .nil .nil))) (.node (o113 P) (.node (o177 P) (.node (o305 P) .nil .nil) (.node (o433 P) .nil .nil)) (.node (o241 P) (.node (o369 P) .nil .nil) (.node (o497 P) .nil .nil))))) (.node (o25 P) (.node (o41 P) (.node (o73 P) (.node (o137 P) (.node (o265 P) (.node (o521 P) .nil .nil) .nil) (.node (o393 P) .nil .nil)) (.node (o201 P) (.node (o329 P) .nil .nil) (.node (o457 P) .nil .nil))) (.node (o105 P) (.node (o169 P) (.node (o297 P) .nil .nil) (.node (o425 P) .nil .nil)) (.node (o233 P) (.node (o361 P) .nil .nil) (.node (o489 P) .nil .nil)))) (.node (o57 P) (.node (o89 P) (.node (o153 P) (.node (o281 P) .nil .nil) (.node (o409 P) .nil .nil)) (.node (o217 P) (.node (o345 P) .nil .nil) (.node (o473 P) .nil .nil))) (.node (o121 P) (.node (o185 P) (.node (o313 P) .nil .nil) (.node (o441 P) .nil .nil)) (.node (o249 P) (.node (o377 P) .nil .nil) (.node (o505 P) .nil .nil)))))) (.node (o13 P) (.node (o21 P) (.node (o37 P) (.node (o69 P) (.node (o133 P) (.node (o261 P) (.node (o517 P) .nil .nil) .nil) (.node (o389 P) .nil .nil)) (.node (o197 P) (.node (o325 P) .nil .nil) (.node (o453 P) .nil .nil))) (.node (o101 P) (.node (o165 P) (.node (o293 P) .nil .nil) (.node (o421 P) .nil .nil)) (.node (o229 P) (.node (o357 P) .nil .nil) (.node (o485 P) .nil .nil)))) (.node (o53 P) (.node (o85 P) (.node (o149 P) (.node (o277 P) .nil .nil) (.node (o405 P) .nil .nil)) (.node (o213 P) (.node (o341 P) .nil .nil) (.node (o469 P) .nil .nil))) (.node (o117 P) (.node (o181 P) (.node (o309 P) .nil .nil) (.node (o437 P) .nil .nil)) (.node (o245 P) (.node (o373 P) .nil .nil) (.node (o501 P) .nil .nil))))) (.node (o29 P) (.node (o45 P) (.node (o77 P) (.node (o141 P) (.node (o269 P) .nil .nil) (.node (o397 P) .nil .nil)) (.node (o205 P) (.node (o333 P) .nil .nil) (.node (o461 P) .nil .nil))) (.node (o109 P) (.node (o173 P) (.node (o301 P) .nil .nil) (.node (o429 P) .nil .nil)) (.node (o237 P) (.node (o365 P) .nil .nil) (.node (o493 P) .nil .nil)))) (.node (o61 P) (.node (o93 P) (.node (o157 P) (.node (o285 P) .nil .nil) (.node (o413 P) .nil .nil)) (.node (o221 P) (.node (o349 P) .nil .nil) (.node (o477 P) .nil .nil))) (.node (o125 P) (.node (o189 P) (.node (o317 P) .nil .nil) (.node (o445 P) .nil .nil)) (.node (o253 P) (.node (o381 P) .nil .nil) (.node (o509 P) .nil .nil)))))))) (.node (o2 P) (.node (boot_o_4 P) (.node (boot_o_8 P) (.node (o16 P) (.node (o32 P) (.node (o64 P) (.node (o128 P) (.node (o256 P) (.node (o512 P) .nil .nil) .nil) (.node (o384 P) .nil .nil)) (.node (o192 P) (.node (o320 P) .nil .nil) (.node (o448 P) .nil .nil))) (.node (o96 P) (.node (o160 P) (.node (o288 P) .nil .nil) (.node (o416 P) .nil .nil)) (.node (o224 P) (.node (o352 P) .nil .nil) (.node (o480 P) .nil .nil)))) (.node (o48 P) (.node (o80 P) (.node (o144 P) (.node (o272 P) .nil .nil) (.node (o400 P) .nil .nil)) (.node (o208 P) (.node (o336 P) .nil .nil) (.node (o464 P) .nil .nil))) (.node (o112 P) (.node (o176 P) (.node (o304 P) .nil .nil) (.node (o432 P) .nil .nil)) (.node (o240 P) (.node (o368 P) .nil .nil) (.node (o496 P) .nil .nil))))) (.node (o24 P) (.node (o40 P) (.node (o72 P) (.node (o136 P) (.node (o264 P) (.node (o520 P) .nil .nil) .nil) (.node (o392 P) .nil .nil)) (.node (o200 P) (.node (o328 P) .nil .nil) (.node (o456 P) .nil .nil))) (.node (o104 P) (.node (o168 P) (.node (o296 P) .nil .nil) (.node (o424 P) .nil .nil)) (.node (o232 P) (.node (o360 P) .nil .nil) (.node (o488 P) .nil .nil)))) (.node (o56 P) (.node (o88 P) (.node (o152 P) (.node (o280 P) .nil .nil) (.node (o408 P) .nil .nil)) (.node (o216 P) (.node (o344 P) .nil .nil) (.node (o472 P) .nil .nil))) (.node (o120 P) (.node (o184 P) (.node (o312 P) .nil .nil) (.node (o440 P) .nil .nil)) (.node (o248 P) (.node (o376 P) .nil .nil) (.node (o504 P) .nil .nil)))))) (.node (o12 P) (.node (o20 P) (.node (o36 P) (.node (o68 P) (.node (o132 P) (.node (o260 P) (.node (o516 P) .nil .nil) .nil) (.node (o388 P) .nil .nil)) (.node (o196 P) (.node (o324 P) .nil .nil) (.node (o452 P) .nil .nil))) (.node (o100 P) (.node (o164 P) (.node (o292 P) .nil .nil) (.node (o420 P) .nil .nil)) (.node (o228 P) (.node (o356 P) .nil .nil) (.node (o484 P) .nil .nil)))) (.node (o52 P) (.node (o84 P) (.node (o148 P) (.node (o276 P) .nil .nil) (.node (o404 P) .nil .nil)) (.node (o212 P) (.node (o340 P) .nil .nil) (.node (o468 P) .nil .nil))) (.node (o116 P) (.node (o180 P) (.node (o308 P) .nil .nil) (.node (o436 P) .nil .nil)) (.node (o244 P) (.node (o372 P) .nil .nil) (.node (o500 P) .nil .nil))))) (.node (o28 P) (.node (o44 P) (.node (o76 P) (.node (o140 P) (.node (o268 P) .nil .nil) (.node (o396 P) .nil .nil)) (.node (o204 P) (.node (o332 P) .nil .nil) (.node (o460 P) .nil .nil))) (.node (o108 P) (.node (o172 P) (.node (o300 P) .nil .nil) (.node (o428 P) .nil .nil)) (.node (o236 P) (.node (o364 P) .nil .nil) (.node (o492 P) .nil .nil)))) (.node (o60 P) (.node (o92 P) (.node (o156 P) (.node (o284 P) .nil .nil) (.node (o412 P) .nil .nil)) (.node (o220 P) (.node (o348 P) .nil .nil) (.node (o476 P) .nil .nil))) (.node (o124 P) (.node (o188 P) (.node (o316 P) .nil .nil) (.node (o444 P) .nil .nil)) (.node (o252 P) (.node (o380 P) .nil .nil) (.node (o508 P) .nil .nil))))))) (.node (boot_o_6 P) (.node (boot_o_10 P) (.node (o18 P) (.node (o34 P) (.node (o66 P) (.node (o130 P) (.node (o258 P) (.node (o514 P) .nil .nil) .nil) (.node (o386 P) .nil .nil)) (.node (o194 P) (.node (o322 P) .nil .nil) (.node (o450 P) .nil .nil))) (.node (o98 P) (.node (o162 P) (.node (o290 P) .nil .nil) (.node (o418 P) .nil .nil)) (.node (o226 P) (.node (o354 P) .nil .nil) (.node (o482 P) .nil .nil)))) (.node (o50 P) (.node (o82 P) (.node (o146 P) (.node (o274 P) .nil .nil) (.node (o402 P) .nil .nil)) (.node (o210 P) (.node (o338 P) .nil .nil) (.node (o466 P) .nil .nil))) (.node (o114 P) (.node (o178 P) (.node (o306 P) .nil .nil) (.node (o434 P) .nil .nil)) (.node (o242 P) (.node (o370 P) .nil .nil) (.node (o498 P) .nil .nil))))) (.node (o26 P) (.node (o42 P) (.node (o74 P) (.node (o138 P) (.node (o266 P) (.node (o522 P) .nil .nil) .nil) (.node (o394 P) .nil .nil)) (.node (o202 P) (.node (o330 P) .nil .nil) (.node (o458 P) .nil .nil))) (.node (o106 P) (.node (o170 P) (.node (o298 P) .nil .nil) (.node (o426 P) .nil .nil)) (.node (o234 P) (.node (o362 P) .nil .nil) (.node (o490 P) .nil .nil)))) (.node (o58 P) (.node (o90 P) (.node (o154 P) (.node (o282 P) .nil .nil) (.node (o410 P) .nil .nil)) (.node (o218 P) (.node (o346 P) .nil .nil) (.node (o474 P) .nil .nil))) (.node (o122 P) (.node (o186 P) (.node (o314 P) .nil .nil) (.node (o442 P) .nil .nil)) (.node (o250 P) (.node (o378 P) .nil .nil) (.node (o506 P) .nil .nil)))))) (.node (o14 P) (.node (o22 P) (.node (o38 P) (.node (o70 P) (.node (o134 P) (.node (o262 P) (.node (o518 P) .nil .nil) .nil) (.node (o390 P) .nil .nil)) (.node (o198 P) (.node (o326 P) .nil .nil) (.node (o454 P) .nil .nil))) (.node (o102 P) (.node (o166 P) (.node (o294 P) .nil .nil) (.node (o422 P) .nil .nil)) (.node (o230 P) (.node (o358 P) .nil .nil) (.node (o486 P) .nil .nil)))) (.node (o54 P) (.node (o86 P) (.node (o150 P) (.node (o278 P) .nil .nil) (.node (o406 P) .nil .nil)) (.node (o214 P) (.node (o342 P) .nil .nil) (.node (o470 P) .nil .nil))) (.node (o118 P) (.node (o182 P) (.node (o310 P) .nil .nil) (.node (o438 P) .nil .nil)) (.node (o246 P) (.node (o374 P) .nil .nil) (.node (o502 P) .nil .nil))))) (.node (o30 P) (.node (o46 P) (.node (o78 P) (.node (o142 P) (.node (o270 P) .nil .nil) (.node (o398 P) .nil .nil)) (.node (o206 P) (.node (o334 P) .nil .nil) (.node (o462 P) .nil .nil))) (.node (o110 P) (.node (o174 P) (.node (o302 P) .nil .nil) (.node (o430 P) .nil .nil)) (.node (o238 P) (.node (o366 P) .nil .nil) (.node (o494 P) .nil .nil)))) (.node (o62 P) (.node (o94 P) (.node (o158 P) (.node (o286 P) .nil .nil) (.node (o414 P) .nil .nil)) (.node (o222 P) (.node (o350 P) .nil .nil) (.node (o478 P) .nil .nil))) (.node (o126 P) (.node (o190 P) (.node (o318 P) .nil .nil) (.node (o446 P) .nil .nil)) (.node (o254 P) (.node (o382 P) .nil .nil) (.node (o510 P) .nil .nil)))))))))
noncomputable def H1 (P : Params) : Heap := ⟨Array.mk (boot_o_0 P :: boot_o_1 P :: o2 P :: o3 P :: boot_o_4 P :: boot_o_5 P :: boot_o_6 P :: boot_o_7 P :: boot_o_8 P :: boot_o_9 P :: boot_o_10 P :: o11 P :: o12 P :: o13 P :: o14 P :: o15 P :: o16 P :: o17 P :: o18 P :: o19 P :: o20 P :: o21 P :: o22 P :: o23 P :: o24 P :: o25 P :: o26 P :: o27 P :: o28 P :: o29 P :: o30 P :: o31 P :: o32 P :: o33 P :: o34 P :: o35 P :: o36 P :: o37 P :: o38 P :: o39 P :: o40 P :: o41 P :: o42 P :: o43 P :: o44 P :: o45 P :: o46 P :: o47 P :: o48 P :: o49 P :: o50 P :: o51 P :: o52 P :: o53 P :: o54 P :: o55 P :: o56 P :: o57 P :: o58 P :: o59 P :: o60 P :: o61 P :: o62 P :: o63 P :: o64 P :: o65 P :: o66 P :: o67 P :: o68 P :: o69 P :: o70 P :: o71 P :: o72 P :: o73 P :: o74 P :: o75 P :: o76 P :: o77 P :: o78 P :: o79 P :: o80 P :: o81 P :: o82 P :: o83 P :: o84 P :: o85 P :: o86 P :: o87 P :: o88 P :: o89 P :: o90 P :: o91 P :: o92 P :: o93 P :: o94 P :: o95 P :: o96 P :: o97 P :: o98 P :: o99 P :: o100 P :: o101 P :: o102 P :: o103 P :: o104 P :: o105 P :: o106 P :: o107 P :: o108 P :: o109 P :: o110 P :: o111 P :: o112 P :: o113 P :: o114 P :: o115 P :: o116 P :: o117 P :: o118 P :: o119 P :: o120 P :: o121 P :: o122 P :: o123 P :: o124 P :: o125 P :: o126 P :: o127 P :: o128 P :: o129 P :: o130 P :: o131 P :: o132 P :: o133 P :: o134 P :: o135 P :: o136 P :: o137 P :: o138 P :: o139 P :: o140 P :: o141 P :: o142 P :: o143 P :: o144 P :: o145 P :: o146 P :: o147 P :: o148 P :: o149 P :: o150 P :: o151 P :: o152 P :: o153 P :: o154 P :: o155 P :: o156 P :: o157 P :: o158 P :: o159 P :: o160 P :: o161 P :: o162 P :: o163 P :: o164 P :: o165 P :: o166 P :: o167 P :: o168 P :: o169 P :: o170 P :: o171 P :: o172 P :: o173 P :: o174 P :: o175 P :: o176 P :: o177 P :: o178 P :: o179 P :: o180 P :: o181 P :: o182 P :: o183 P :: o184 P :: o185 P :: o186 P :: o187 P :: o188 P :: o189 P :: o190 P :: o191 P :: o192 P :: o193 P :: o194 P :: o195 P :: o196 P :: o197 P :: o198 P :: o199 P :: o200 P :: o201 P :: o202 P :: o203 P :: o204 P :: o205 P :: o206 P :: o207 P :: o208 P :: o209 P :: o210 P :: o211 P :: o212 P :: o213 P :: o214 P :: o215 P :: o216 P :: o217 P :: o218 P :: o219 P :: o220 P :: o221 P :: o222 P :: o223 P :: o224 P :: o225 P :: o226 P :: o227 P :: o228 P :: o229 P :: o230 P :: o231 P :: o232 P :: o233 P :: o234 P :: o235 P :: o236 P :: o237 P :: o238 P :: o239 P :: o240 P :: o241 P :: o242 P :: o243 P :: o244 P :: o245 P :: o246 P :: o247 P :: o248 P :: o249 P :: o250 P :: o251 P :: o252 P :: o253 P :: o254 P :: o255 P :: o256 P :: o257 P :: o258 P :: o259 P :: o260 P :: o261 P :: o262 P :: o263 P :: o264 P :: o265 P :: o266 P :: o267 P :: o268 P :: o269 P :: o270 P :: o271 P :: o272 P :: o273 P :: o274 P :: o275 P :: o276 P :: o277 P :: o278 P :: o279 P :: o280 P :: o281 P :: o282 P :: o283 P :: o284 P :: o285 P :: o286 P :: o287 P :: o288 P :: o289 P :: o290 P :: o291 P :: o292 P :: o293 P :: o294 P :: o295 P :: o296 P :: o297 P :: o298 P :: o299 P :: o300 P :: o301 P :: o302 P :: o303 P :: o304 P :: o305 P :: o306 P :: o307 P :: o308 P :: o309 P :: o310 P :: o311 P :: o312 P :: o313 P :: o314 P :: o315 P :: o316 P :: o317 P :: o318 P :: o319 P :: o320 P :: o321 P :: o322 P :: o323 P :: o324 P :: o325 P :: o326 P :: o327 P :: o328 P :: o329 P :: o330 P :: o331 P :: o332 P :: o333 P :: o334 P :: o335 P :: o336 P :: o337 P :: o338 P :: o339 P :: o340 P :: o341 P :: o342 P :: o343 P :: o344 P :: o345 P :: o346 P :: o347 P :: o348 P :: o349 P :: o350 P :: o351 P :: o352 P :: o353 P :: o354 P :: o355 P :: o356 P :: o357 P :: o358 P :: o359 P :: o360 P :: o361 P :: o362 P :: o363 P :: o364 P :: o365 P :: o366 P :: o367 P :: o368 P :: o369 P :: o370 P :: o371 P :: o372 P :: o373 P :: o374 P :: o375 P :: o376 P :: o377 P :: o378 P :: o379 P :: o380 P :: o381 P :: o382 P :: o383 P :: o384 P :: o385 P :: o386 P :: o387 P :: o388 P :: o389 P :: o390 P :: o391 P :: o392 P :: o393 P :: o394 P :: o395 P :: o396 P :: o397 P :: o398 P :: o399 P :: o400 P :: o401 P :: o402 P :: o403 P :: o404 P :: o405 P :: o406 P :: o407 P :: o408 P :: o409 P :: o410 P :: o411 P :: o412 P :: o413 P :: o414 P :: o415 P :: o416 P :: o417 P :: o418 P :: o419 P :: o420 P :: o421 P :: o422 P :: o423 P :: o424 P :: o425 P :: o426 P :: o427 P :: o428 P :: o429 P :: o430 P :: o431 P :: o432 P :: o433 P :: o434 P :: o435 P :: o436 P :: o437 P :: o438 P :: o439 P :: o440 P :: o441 P :: o442 P :: o443 P :: o444 P :: o445 P :: o446 P :: o447 P :: o448 P :: o449 P :: o450 P :: o451 P :: o452 P :: o453 P :: o454 P :: o455 P :: o456 P :: o457 P :: o458 P :: o459 P :: o460 P :: o461 P :: o462 P :: o463 P :: o464 P :: o465 P :: o466 P :: o467 P :: o468 P :: o469 P :: o470 P :: o471 P :: o472 P :: o473 P :: o474 P :: o475 P :: o476 P :: o477 P :: o478 P :: o479 P :: o480 P :: o481 P :: o482 P :: o483 P :: o484 P :: o485 P :: o486 P :: o487 P :: o488 P :: o489 P :: o490 P :: o491 P :: o492 P :: o493 P :: o494 P :: o495 P :: o496 P :: o497 P :: o498 P :: o499 P :: o500 P :: o501 P :: o502 P :: o503 P :: o504 P :: o505 P :: o506 P :: o507 P :: o508 P :: o509 P :: o510 P :: o511 P :: o512 P :: o513 P :: o514 P :: o515 P :: o516 P :: o517 P :: o518 P :: o519 P :: o520 P :: o521 P :: o522 P :: []), {}⟩
noncomputable def K0 (P : Params) : Frag := ((nat_lit 2 : Nat), o2 P) :: ((nat_lit 3 : Nat), o3 P) :: ((nat_lit 15 : Nat), o15 P) :: ((nat_lit 17 : Nat), o17 P) :: ((nat_lit 18 : Nat), o18 P) :: ((nat_lit 20 : Nat), o20 P) :: ((nat_lit 21 : Nat), o21 P) :: ((nat_lit 22 : Nat), o22 P) :: ((nat_lit 24 : Nat), o24 P) :: ((nat_lit 25 : Nat), o25 P) :: ((nat_lit 27 : Nat), o27 P) :: ((nat_lit 28 : Nat), o28 P) :: ((nat_lit 36 : Nat), o36 P) :: ((nat_lit 38 : Nat), o38 P) :: ((nat_lit 39 : Nat), o39 P) :: ((nat_lit 41 : Nat), o41 P) :: ((nat_lit 42 : Nat), o42 P) :: ((nat_lit 43 : Nat), o43 P) :: ((nat_lit 44 : Nat), o44 P) :: ((nat_lit 45 : Nat), o45 P) :: ((nat_lit 46 : Nat), o46 P) :: ((nat_lit 47 : Nat), o47 P) :: ((nat_lit 50 : Nat), o50 P) :: ((nat_lit 57 : Nat), o57 P) :: ((nat_lit 59 : Nat), o59 P) :: ((nat_lit 60 : Nat), o60 P) :: ((nat_lit 62 : Nat), o62 P) :: ((nat_lit 63 : Nat), o63 P) :: ((nat_lit 64 : Nat), o64 P) :: ((nat_lit 65 : Nat), o65 P) :: ((nat_lit 66 : Nat), o66 P) :: ((nat_lit 69 : Nat), o69 P) :: ((nat_lit 76 : Nat), o76 P) :: ((nat_lit 78 : Nat), o78 P) :: ((nat_lit 79 : Nat), o79 P) :: ((nat_lit 81 : Nat), o81 P) :: ((nat_lit 82 : Nat), o82 P) :: ((nat_lit 83 : Nat), o83 P) :: ((nat_lit 84 : Nat), o84 P) :: ((nat_lit 85 : Nat), o85 P) :: ((nat_lit 88 : Nat), o88 P) :: ((nat_lit 95 : Nat), o95 P) :: ((nat_lit 97 : Nat), o97 P) :: ((nat_lit 98 : Nat), o98 P) :: ((nat_lit 100 : Nat), o100 P) :: ((nat_lit 101 : Nat), o101 P) :: ((nat_lit 102 : Nat), o102 P) :: ((nat_lit 103 : Nat), o103 P) :: ((nat_lit 104 : Nat), o104 P) :: ((nat_lit 107 : Nat), o107 P) :: ((nat_lit 114 : Nat), o114 P) :: ((nat_lit 116 : Nat), o116 P) :: ((nat_lit 117 : Nat), o117 P) :: ((nat_lit 119 : Nat), o119 P) :: ((nat_lit 120 : Nat), o120 P) :: ((nat_lit 121 : Nat), o121 P) :: ((nat_lit 122 : Nat), o122 P) :: ((nat_lit 123 : Nat), o123 P) :: ((nat_lit 126 : Nat), o126 P) :: ((nat_lit 133 : Nat), o133 P) :: ((nat_lit 135 : Nat), o135 P) :: ((nat_lit 136 : Nat), o136 P) :: ((nat_lit 138 : Nat), o138 P) :: ((nat_lit 139 : Nat), o139 P) :: ((nat_lit 140 : Nat), o140 P) :: ((nat_lit 141 : Nat), o141 P) :: ((nat_lit 142 : Nat), o142 P) :: ((nat_lit 152 : Nat), o152 P) :: ((nat_lit 153 : Nat), o153 P) :: ((nat_lit 155 : Nat), o155 P) :: ((nat_lit 156 : Nat), o156 P) :: ((nat_lit 158 : Nat), o158 P) :: ((nat_lit 159 : Nat), o159 P) :: ((nat_lit 160 : Nat), o160 P) :: ((nat_lit 161 : Nat), o161 P) :: ((nat_lit 162 : Nat), o162 P) :: ((nat_lit 163 : Nat), o163 P) :: ((nat_lit 164 : Nat), o164 P) :: ((nat_lit 174 : Nat), o174 P) :: ((nat_lit 176 : Nat), o176 P) :: ((nat_lit 177 : Nat), o177 P) :: ((nat_lit 179 : Nat), o179 P) :: ((nat_lit 180 : Nat), o180 P) :: ((nat_lit 181 : Nat), o181 P) :: ((nat_lit 183 : Nat), o183 P) :: ((nat_lit 184 : Nat), o184 P) :: ((nat_lit 186 : Nat), o186 P) :: ((nat_lit 187 : Nat), o187 P) :: ((nat_lit 188 : Nat), o188 P) :: ((nat_lit 190 : Nat), o190 P) :: ((nat_lit 191 : Nat), o191 P) :: ((nat_lit 193 : Nat), o193 P) :: ((nat_lit 194 : Nat), o194 P) :: ((nat_lit 195 : Nat), o195 P) :: ((nat_lit 197 : Nat), o197 P) :: ((nat_lit 198 : Nat), o198 P) :: ((nat_lit 200 : Nat), o200 P) :: ((nat_lit 201 : Nat), o201 P) :: ((nat_lit 202 : Nat), o202 P) :: ((nat_lit 204 : Nat), o204 P) :: ((nat_lit 205 : Nat), o205 P) :: ((nat_lit 207 : Nat), o207 P) :: ((nat_lit 208 : Nat), o208 P) :: ((nat_lit 209 : Nat), o209 P) :: ((nat_lit 211 : Nat), o211 P) :: ((nat_lit 212 : Nat), o212 P) :: ((nat_lit 214 : Nat), o214 P) :: ((nat_lit 215 : Nat), o215 P) :: ((nat_lit 216 : Nat), o216 P) :: ((nat_lit 218 : Nat), o218 P) :: ((nat_lit 219 : Nat), o219 P) :: ((nat_lit 221 : Nat), o221 P) :: ((nat_lit 222 : Nat), o222 P) :: ((nat_lit 223 : Nat), o223 P) :: ((nat_lit 224 : Nat), o224 P) :: ((nat_lit 225 : Nat), o225 P) :: ((nat_lit 226 : Nat), o226 P) :: ((nat_lit 227 : Nat), o227 P) :: ((nat_lit 230 : Nat), o230 P) :: ((nat_lit 232 : Nat), o232 P) :: ((nat_lit 233 : Nat), o233 P) :: ((nat_lit 235 : Nat), o235 P) :: ((nat_lit 236 : Nat), o236 P) :: ((nat_lit 237 : Nat), o237 P) :: ((nat_lit 239 : Nat), o239 P) :: ((nat_lit 240 : Nat), o240 P) :: ((nat_lit 242 : Nat), o242 P) :: ((nat_lit 243 : Nat), o243 P) :: ((nat_lit 244 : Nat), o244 P) :: ((nat_lit 246 : Nat), o246 P) :: ((nat_lit 247 : Nat), o247 P) :: ((nat_lit 249 : Nat), o249 P) :: ((nat_lit 250 : Nat), o250 P) :: ((nat_lit 251 : Nat), o251 P) :: ((nat_lit 253 : Nat), o253 P) :: ((nat_lit 254 : Nat), o254 P) :: ((nat_lit 256 : Nat), o256 P) :: ((nat_lit 257 : Nat), o257 P) :: ((nat_lit 258 : Nat), o258 P) :: ((nat_lit 260 : Nat), o260 P) :: ((nat_lit 261 : Nat), o261 P) :: ((nat_lit 263 : Nat), o263 P) :: ((nat_lit 264 : Nat), o264 P) :: ((nat_lit 265 : Nat), o265 P) :: ((nat_lit 272 : Nat), o272 P) :: ((nat_lit 274 : Nat), o274 P) :: ((nat_lit 275 : Nat), o275 P) :: ((nat_lit 277 : Nat), o277 P) :: ((nat_lit 278 : Nat), o278 P) :: ((nat_lit 279 : Nat), o279 P) :: ((nat_lit 280 : Nat), o280 P) :: ((nat_lit 281 : Nat), o281 P) :: ((nat_lit 282 : Nat), o282 P) :: ((nat_lit 285 : Nat), o285 P) :: ((nat_lit 292 : Nat), o292 P) :: ((nat_lit 294 : Nat), o294 P) :: ((nat_lit 295 : Nat), o295 P) :: ((nat_lit 297 : Nat), o297 P) :: ((nat_lit 298 : Nat), o298 P) :: ((nat_lit 299 : Nat), o299 P) :: ((nat_lit 300 : Nat), o300 P) :: ((nat_lit 301 : Nat), o301 P) :: ((nat_lit 304 : Nat), o304 P) :: ((nat_lit 306 : Nat), o306 P) :: ((nat_lit 307 : Nat), o307 P) :: ((nat_lit 309 : Nat), o309 P) :: ((nat_lit 310 : Nat), o310 P) :: ((nat_lit 311 : Nat), o311 P) :: ((nat_lit 313 : Nat), o313 P) :: ((nat_lit 314 : Nat), o314 P) :: ((nat_lit 316 : Nat), o316 P) :: ((nat_lit 317 : Nat), o317 P) :: ((nat_lit 318 : Nat), o318 P) :: ((nat_lit 320 : Nat), o320 P) :: ((nat_lit 321 : Nat), o321 P) :: ((nat_lit 323 : Nat), o323 P) :: ((nat_lit 324 : Nat), o324 P) :: ((nat_lit 332 : Nat), o332 P) :: ((nat_lit 334 : Nat), o334 P) :: ((nat_lit 335 : Nat), o335 P) :: ((nat_lit 337 : Nat), o337 P) :: ((nat_lit 338 : Nat), o338 P) :: ((nat_lit 339 : Nat), o339 P) :: ((nat_lit 341 : Nat), o341 P) :: ((nat_lit 342 : Nat), o342 P) :: ((nat_lit 344 : Nat), o344 P) :: ((nat_lit 345 : Nat), o345 P) :: ((nat_lit 346 : Nat), o346 P) :: ((nat_lit 348 : Nat), o348 P) :: ((nat_lit 349 : Nat), o349 P) :: ((nat_lit 351 : Nat), o351 P) :: ((nat_lit 352 : Nat), o352 P) :: ((nat_lit 353 : Nat), o353 P) :: ((nat_lit 355 : Nat), o355 P) :: ((nat_lit 356 : Nat), o356 P) :: ((nat_lit 358 : Nat), o358 P) :: ((nat_lit 359 : Nat), o359 P) :: ((nat_lit 360 : Nat), o360 P) :: ((nat_lit 361 : Nat), o361 P) :: ((nat_lit 362 : Nat), o362 P) :: ((nat_lit 363 : Nat), o363 P) :: ((nat_lit 364 : Nat), o364 P) :: ((nat_lit 374 : Nat), o374 P) :: ((nat_lit 376 : Nat), o376 P) :: ((nat_lit 377 : Nat), o377 P) :: ((nat_lit 379 : Nat), o379 P) :: ((nat_lit 380 : Nat), o380 P) :: ((nat_lit 381 : Nat), o381 P) :: ((nat_lit 383 : Nat), o383 P) :: ((nat_lit 384 : Nat), o384 P) :: ((nat_lit 386 : Nat), o386 P) :: ((nat_lit 387 : Nat), o387 P) :: ((nat_lit 388 : Nat), o388 P) :: ((nat_lit 390 : Nat), o390 P) :: ((nat_lit 391 : Nat), o391 P) :: ((nat_lit 393 : Nat), o393 P) :: ((nat_lit 394 : Nat), o394 P) :: ((nat_lit 395 : Nat), o395 P) :: ((nat_lit 397 : Nat), o397 P) :: ((nat_lit 398 : Nat), o398 P) :: ((nat_lit 400 : Nat), o400 P) :: ((nat_lit 401 : Nat), o401 P) :: ((nat_lit 402 : Nat), o402 P) :: ((nat_lit 404 : Nat), o404 P) :: ((nat_lit 405 : Nat), o405 P) :: ((nat_lit 407 : Nat), o407 P) :: ((nat_lit 408 : Nat), o408 P) :: ((nat_lit 409 : Nat), o409 P) :: ((nat_lit 412 : Nat), o412 P) :: ((nat_lit 413 : Nat), o413 P) :: ((nat_lit 414 : Nat), o414 P) :: ((nat_lit 416 : Nat), o416 P) :: ((nat_lit 417 : Nat), o417 P) :: ((nat_lit 419 : Nat), o419 P) :: ((nat_lit 420 : Nat), o420 P) :: ((nat_lit 421 : Nat), o421 P) :: ((nat_lit 423 : Nat), o423 P) :: ((nat_lit 424 : Nat), o424 P) :: ((nat_lit 426 : Nat), o426 P) :: ((nat_lit 427 : Nat), o427 P) :: ((nat_lit 428 : Nat), o428 P) :: ((nat_lit 430 : Nat), o430 P) :: ((nat_lit 431 : Nat), o431 P) :: ((nat_lit 433 : Nat), o433 P) :: ((nat_lit 434 : Nat), o434 P) :: ((nat_lit 435 : Nat), o435 P) :: ((nat_lit 437 : Nat), o437 P) :: ((nat_lit 438 : Nat), o438 P) :: ((nat_lit 440 : Nat), o440 P) :: ((nat_lit 441 : Nat), o441 P) :: ((nat_lit 442 : Nat), o442 P) :: ((nat_lit 444 : Nat), o444 P) :: ((nat_lit 445 : Nat), o445 P) :: ((nat_lit 447 : Nat), o447 P) :: ((nat_lit 448 : Nat), o448 P) :: ((nat_lit 449 : Nat), o449 P) :: ((nat_lit 451 : Nat), o451 P) :: ((nat_lit 452 : Nat), o452 P) :: ((nat_lit 454 : Nat), o454 P) :: ((nat_lit 455 : Nat), o455 P) :: ((nat_lit 456 : Nat), o456 P) :: ((nat_lit 457 : Nat), o457 P) :: ((nat_lit 458 : Nat), o458 P) :: ((nat_lit 459 : Nat), o459 P) :: ((nat_lit 460 : Nat), o460 P) :: ((nat_lit 470 : Nat), o470 P) :: ((nat_lit 471 : Nat), o471 P) :: ((nat_lit 473 : Nat), o473 P) :: ((nat_lit 474 : Nat), o474 P) :: ((nat_lit 476 : Nat), o476 P) :: ((nat_lit 477 : Nat), o477 P) :: ((nat_lit 478 : Nat), o478 P) :: ((nat_lit 479 : Nat), o479 P) :: ((nat_lit 480 : Nat), o480 P) :: ((nat_lit 481 : Nat), o481 P) :: ((nat_lit 482 : Nat), o482 P) :: ((nat_lit 485 : Nat), o485 P) :: ((nat_lit 487 : Nat), o487 P) :: ((nat_lit 488 : Nat), o488 P) :: ((nat_lit 490 : Nat), o490 P) :: ((nat_lit 491 : Nat), o491 P) :: ((nat_lit 492 : Nat), o492 P) :: ((nat_lit 495 : Nat), o495 P) :: ((nat_lit 496 : Nat), o496 P) :: ((nat_lit 497 : Nat), o497 P) :: ((nat_lit 499 : Nat), o499 P) :: ((nat_lit 500 : Nat), o500 P) :: ((nat_lit 502 : Nat), o502 P) :: ((nat_lit 503 : Nat), o503 P) :: ((nat_lit 504 : Nat), o504 P) :: ((nat_lit 507 : Nat), o507 P) :: ((nat_lit 508 : Nat), o508 P) :: ((nat_lit 509 : Nat), o509 P) :: ((nat_lit 511 : Nat), o511 P) :: ((nat_lit 512 : Nat), o512 P) :: ((nat_lit 514 : Nat), o514 P) :: ((nat_lit 515 : Nat), o515 P) :: ((nat_lit 516 : Nat), o516 P) :: ((nat_lit 518 : Nat), o518 P) :: ((nat_lit 519 : Nat), o519 P) :: ((nat_lit 521 : Nat), o521 P) :: ((nat_lit 522 : Nat), o522 P) :: []
noncomputable abbrev kAs : List Nat := (nat_lit 2 : Nat) :: (nat_lit 3 : Nat) :: (nat_lit 15 : Nat) :: (nat_lit 17 : Nat) :: (nat_lit 18 : Nat) :: (nat_lit 20 : Nat) :: (nat_lit 21 : Nat) :: (nat_lit 22 : Nat) :: (nat_lit 24 : Nat) :: (nat_lit 25 : Nat) :: (nat_lit 27 : Nat) :: (nat_lit 28 : Nat) :: (nat_lit 36 : Nat) :: (nat_lit 38 : Nat) :: (nat_lit 39 : Nat) :: (nat_lit 41 : Nat) :: (nat_lit 42 : Nat) :: (nat_lit 43 : Nat) :: (nat_lit 44 : Nat) :: (nat_lit 45 : Nat) :: (nat_lit 46 : Nat) :: (nat_lit 47 : Nat) :: (nat_lit 50 : Nat) :: (nat_lit 57 : Nat) :: (nat_lit 59 : Nat) :: (nat_lit 60 : Nat) :: (nat_lit 62 : Nat) :: (nat_lit 63 : Nat) :: (nat_lit 64 : Nat) :: (nat_lit 65 : Nat) :: (nat_lit 66 : Nat) :: (nat_lit 69 : Nat) :: (nat_lit 76 : Nat) :: (nat_lit 78 : Nat) :: (nat_lit 79 : Nat) :: (nat_lit 81 : Nat) :: (nat_lit 82 : Nat) :: (nat_lit 83 : Nat) :: (nat_lit 84 : Nat) :: (nat_lit 85 : Nat) :: (nat_lit 88 : Nat) :: (nat_lit 95 : Nat) :: (nat_lit 97 : Nat) :: (nat_lit 98 : Nat) :: (nat_lit 100 : Nat) :: (nat_lit 101 : Nat) :: (nat_lit 102 : Nat) :: (nat_lit 103 : Nat) :: (nat_lit 104 : Nat) :: (nat_lit 107 : Nat) :: (nat_lit 114 : Nat) :: (nat_lit 116 : Nat) :: (nat_lit 117 : Nat) :: (nat_lit 119 : Nat) :: (nat_lit 120 : Nat) :: (nat_lit 121 : Nat) :: (nat_lit 122 : Nat) :: (nat_lit 123 : Nat) :: (nat_lit 126 : Nat) :: (nat_lit 133 : Nat) :: (nat_lit 135 : Nat) :: (nat_lit 136 : Nat) :: (nat_lit 138 : Nat) :: (nat_lit 139 : Nat) :: (nat_lit 140 : Nat) :: (nat_lit 141 : Nat) :: (nat_lit 142 : Nat) :: (nat_lit 152 : Nat) :: (nat_lit 153 : Nat) :: (nat_lit 155 : Nat) :: (nat_lit 156 : Nat) :: (nat_lit 158 : Nat) :: (nat_lit 159 : Nat) :: (nat_lit 160 : Nat) :: (nat_lit 161 : Nat) :: (nat_lit 162 : Nat) :: (nat_lit 163 : Nat) :: (nat_lit 164 : Nat) :: (nat_lit 174 : Nat) :: (nat_lit 176 : Nat) :: (nat_lit 177 : Nat) :: (nat_lit 179 : Nat) :: (nat_lit 180 : Nat) :: (nat_lit 181 : Nat) :: (nat_lit 183 : Nat) :: (nat_lit 184 : Nat) :: (nat_lit 186 : Nat) :: (nat_lit 187 : Nat) :: (nat_lit 188 : Nat) :: (nat_lit 190 : Nat) :: (nat_lit 191 : Nat) :: (nat_lit 193 : Nat) :: (nat_lit 194 : Nat) :: (nat_lit 195 : Nat) :: (nat_lit 197 : Nat) :: (nat_lit 198 : Nat) :: (nat_lit 200 : Nat) :: (nat_lit 201 : Nat) :: (nat_lit 202 : Nat) :: (nat_lit 204 : Nat) :: (nat_lit 205 : Nat) :: (nat_lit 207 : Nat) :: (nat_lit 208 : Nat) :: (nat_lit 209 : Nat) :: (nat_lit 211 : Nat) :: (nat_lit 212 : Nat) :: (nat_lit 214 : Nat) :: (nat_lit 215 : Nat) :: (nat_lit 216 : Nat) :: (nat_lit 218 : Nat) :: (nat_lit 219 : Nat) :: (nat_lit 221 : Nat) :: (nat_lit 222 : Nat) :: (nat_lit 223 : Nat) :: (nat_lit 224 : Nat) :: (nat_lit 225 : Nat) :: (nat_lit 226 : Nat) :: (nat_lit 227 : Nat) :: (nat_lit 230 : Nat) :: (nat_lit 232 : Nat) :: (nat_lit 233 : Nat) :: (nat_lit 235 : Nat) :: (nat_lit 236 : Nat) :: (nat_lit 237 : Nat) :: (nat_lit 239 : Nat) :: (nat_lit 240 : Nat) :: (nat_lit 242 : Nat) :: (nat_lit 243 : Nat) :: (nat_lit 244 : Nat) :: (nat_lit 246 : Nat) :: (nat_lit 247 : Nat) :: (nat_lit 249 : Nat) :: (nat_lit 250 : Nat) :: (nat_lit 251 : Nat) :: (nat_lit 253 : Nat) :: (nat_lit 254 : Nat) :: (nat_lit 256 : Nat) :: (nat_lit 257 : Nat) :: (nat_lit 258 : Nat) :: (nat_lit 260 : Nat) :: (nat_lit 261 : Nat) :: (nat_lit 263 : Nat) :: (nat_lit 264 : Nat) :: (nat_lit 265 : Nat) :: (nat_lit 272 : Nat) :: (nat_lit 274 : Nat) :: (nat_lit 275 : Nat) :: (nat_lit 277 : Nat) :: (nat_lit 278 : Nat) :: (nat_lit 279 : Nat) :: (nat_lit 280 : Nat) :: (nat_lit 281 : Nat) :: (nat_lit 282 : Nat) :: (nat_lit 285 : Nat) :: (nat_lit 292 : Nat) :: (nat_lit 294 : Nat) :: (nat_lit 295 : Nat) :: (nat_lit 297 : Nat) :: (nat_lit 298 : Nat) :: (nat_lit 299 : Nat) :: (nat_lit 300 : Nat) :: (nat_lit 301 : Nat) :: (nat_lit 304 : Nat) :: (nat_lit 306 : Nat) :: (nat_lit 307 : Nat) :: (nat_lit 309 : Nat) :: (nat_lit 310 : Nat) :: (nat_lit 311 : Nat) :: (nat_lit 313 : Nat) :: (nat_lit 314 : Nat) :: (nat_lit 316 : Nat) :: (nat_lit 317 : Nat) :: (nat_lit 318 : Nat) :: (nat_lit 320 : Nat) :: (nat_lit 321 : Nat) :: (nat_lit 323 : Nat) :: (nat_lit 324 : Nat) :: (nat_lit 332 : Nat) :: (nat_lit 334 : Nat) :: (nat_lit 335 : Nat) :: (nat_lit 337 : Nat) :: (nat_lit 338 : Nat) :: (nat_lit 339 : Nat) :: (nat_lit 341 : Nat) :: (nat_lit 342 : Nat) :: (nat_lit 344 : Nat) :: (nat_lit 345 : Nat) :: (nat_lit 346 : Nat) :: (nat_lit 348 : Nat) :: (nat_lit 349 : Nat) :: (nat_lit 351 : Nat) :: (nat_lit 352 : Nat) :: (nat_lit 353 : Nat) :: (nat_lit 355 : Nat) :: (nat_lit 356 : Nat) :: (nat_lit 358 : Nat) :: (nat_lit 359 : Nat) :: (nat_lit 360 : Nat) :: (nat_lit 361 : Nat) :: (nat_lit 362 : Nat) :: (nat_lit 363 : Nat) :: (nat_lit 364 : Nat) :: (nat_lit 374 : Nat) :: (nat_lit 376 : Nat) :: (nat_lit 377 : Nat) :: (nat_lit 379 : Nat) :: (nat_lit 380 : Nat) :: (nat_lit 381 : Nat) :: (nat_lit 383 : Nat) :: (nat_lit 384 : Nat) :: (nat_lit 386 : Nat) :: (nat_lit 387 : Nat) :: (nat_lit 388 : Nat) :: (nat_lit 390 : Nat) :: (nat_lit 391 : Nat) :: (nat_lit 393 : Nat) :: (nat_lit 394 : Nat) :: (nat_lit 395 : Nat) :: (nat_lit 397 : Nat) :: (nat_lit 398 : Nat) :: (nat_lit 400 : Nat) :: (nat_lit 401 : Nat) :: (nat_lit 402 : Nat) :: (nat_lit 404 : Nat) :: (nat_lit 405 : Nat) :: (nat_lit 407 : Nat) :: (nat_lit 408 : Nat) :: (nat_lit 409 : Nat) :: (nat_lit 412 : Nat) :: (nat_lit 413 : Nat) :: (nat_lit 414 : Nat) :: (nat_lit 416 : Nat) :: (nat_lit 417 : Nat) :: (nat_lit 419 : Nat) :: (nat_lit 420 : Nat) :: (nat_lit 421 : Nat) :: (nat_lit 423 : Nat) :: (nat_lit 424 : Nat) :: (nat_lit 426 : Nat) :: (nat_lit 427 : Nat) :: (nat_lit 428 : Nat) :: (nat_lit 430 : Nat) :: (nat_lit 431 : Nat) :: (nat_lit 433 : Nat) :: (nat_lit 434 : Nat) :: (nat_lit 435 : Nat) :: (nat_lit 437 : Nat) :: (nat_lit 438 : Nat) :: (nat_lit 440 : Nat) :: (nat_lit 441 : Nat) :: (nat_lit 442 : Nat) :: (nat_lit 444 : Nat) :: (nat_lit 445 : Nat) :: (nat_lit 447 : Nat) :: (nat_lit 448 : Nat) :: (nat_lit 449 : Nat) :: (nat_lit 451 : Nat) :: (nat_lit 452 : Nat) :: (nat_lit 454 : Nat) :: (nat_lit 455 : Nat) :: (nat_lit 456 : Nat) :: (nat_lit 457 : Nat) :: (nat_lit 458 : Nat) :: (nat_lit 459 : Nat) :: (nat_lit 460 : Nat) :: (nat_lit 470 : Nat) :: (nat_lit 471 : Nat) :: (nat_lit 473 : Nat) :: (nat_lit 474 : Nat) :: (nat_lit 476 : Nat) :: (nat_lit 477 : Nat) :: (nat_lit 478 : Nat) :: (nat_lit 479 : Nat) :: (nat_lit 480 : Nat) :: (nat_lit 481 : Nat) :: (nat_lit 482 : Nat) :: (nat_lit 485 : Nat) :: (nat_lit 487 : Nat) :: (nat_lit 488 : Nat) :: (nat_lit 490 : Nat) :: (nat_lit 491 : Nat) :: (nat_lit 492 : Nat) :: (nat_lit 495 : Nat) :: (nat_lit 496 : Nat) :: (nat_lit 497 : Nat) :: (nat_lit 499 : Nat) :: (nat_lit 500 : Nat) :: (nat_lit 502 : Nat) :: (nat_lit 503 : Nat) :: (nat_lit 504 : Nat) :: (nat_lit 507 : Nat) :: (nat_lit 508 : Nat) :: (nat_lit 509 : Nat) :: (nat_lit 511 : Nat) :: (nat_lit 512 : Nat) :: (nat_lit 514 : Nat) :: (nat_lit 515 : Nat) :: (nat_lit 516 : Nat) :: (nat_lit 518 : Nat) :: (nat_lit 519 : Nat) :: (nat_lit 521 : Nat) :: (nat_lit 522 : Nat) :: []
noncomputable abbrev kKeep : List Nat := [0, 2, 3, 5, 6, 7, 8, 9, 10, 11, 12, 13, 14, 15, 16, 18, 19, 21, 22, 24, 25, 26, 28, 30, 32, 34, 35, 36, 37, 38, 39]

noncomputable abbrev SF (w : World) (os : OsState) : Shared := ⟨H1 w.params, Array.mk [], {}, 927, os⟩

/- a run of the top over a tree of objects -/
noncomputable def topRunT (tb : String → Option Builtin) (p : Program) (w : World) (n₀ : Nat) (ann : Option Value) : Nat → SharedT → Thread → Option SharedT
  | 0, _, _ => none
  | n + 1, x, t => match through t with
    | true => some x
    | false => match stepOk n₀ ann t with
      | false => none
      | true => match stepT (denote tb) p w x t with
        | some (x', t') => topRunT tb p w n₀ ann n x' t'
        | none => none
theorem topRunT_of {tb : String → Option Builtin} {p : Program} {w : World} {n₀ : Nat} {ann : Option Value} : ∀ {n : Nat} {x x' : SharedT} {t : Thread}, topRunT tb p w n₀ ann n x t = some x' → topRun tb p w n₀ ann n x.abs t = some x'.abs
  | 0, _, _, _, h => by cases h
  | n + 1, x, x', t, h => by
    unfold topRunT at h
    unfold topRun
    cases he : through t with
    | true => rw [he] at h; cases h; rfl
    | false =>
      rw [he] at h
      cases hk : stepOk n₀ ann t with
      | false => rw [hk] at h; cases h
      | true =>
        rw [hk] at h
        cases hs : stepT (denote tb) p w x t with
        | none => rw [hs] at h; cases h
        | some r => obtain ⟨x₂, t₂⟩ := r; rw [hs] at h; rw [stepT_spec hs]; exact topRunT_of h

noncomputable def cells0 : List Stmt := [at1 0, at1 2, at1 3, at1 5, at1 6, at1 7, at1 8, at1 9, at1 10, at1 11, at1 12, at1 13, at1 14, at1 15, at1 16, at1 18, at1 19, at1 21, at1 22, at1 24, at1 25, at1 26, at1 28, at1 30, at1 32, at1 34, at1 35, at1 36, at1 37, at1 38, at1 39]
noncomputable def cells : List Stmt := by
  refine' (?g : ∀ x : List Stmt, x = cells0 → List Stmt) _ ?h
  case g => exact fun x _ => x
  case h =>
    conv =>
      rhs
      delta cells0
      pattern (occs := *) at1 _
      all_goals whnf
noncomputable def view_39 : Program := { prg with main := { prg.main with body := cells } }
noncomputable abbrev loose0 : List Str := [Str.ofString "Limits"]
noncomputable abbrev mods0 : List Str := importedModules prg.main.body
noncomputable abbrev Xt0 : Shared → Bool := fun x => xlAt Mine.Hd.view_39 [] x && recOk (RowW.records PySem.Challenge.rw_qz0096_01.row.toRowW) x

/- the statements -/
abbrev StT0 : Prop := ∀ w : World, absHeap (t0 w.params) 11 {} = boot_heap w.params
abbrev StTF : Prop := ∀ w : World, absHeap (tF w.params) 523 {} = H1 w.params
abbrev StSize : Prop := ∀ w : World, ((boot_heap w.params).isNs mainGlobals && (Array.mk [] : Array GenState).size == 0, (boot_heap w.params).objs.size, (boot_heap w.params).nsMap mainGlobals "__annotations__") = (true, 11, some (.ref 6))
abbrev StL1 : Prop := ∀ w : World, (fun os => staticsOk (importedModules prg.main.body) (boot_heap w.params) (H1 w.params) && namesBound prg (H1 w.params) && gensDone (SF w os) && laidKept (boot_heap w.params) (H1 w.params)) = fun _ => true
abbrev StL2 : Prop := ∀ w : World, (fun os => seen ((recsOf Mine.Hd.view_39).map (·.name)) (ownsOf Mine.Hd.view_39) [] { SF w os with gens := #[] }) = fun _ => expectedOf Mine.Hd.view_39
abbrev StL3 : Prop := ∀ w : World, (fun os => (SF w os).heap.bltView) = fun _ => bltViewBooted
abbrev StL4 : Prop := ∀ w : World, (fun os => (SF w os).heap.keysOk (looseW Mine.Hd.view_39 loose0) ((recsOf Mine.Hd.view_39).map (·.name)) ((litsOf Mine.Hd.view_39).map (·.1)) ((clssOf Mine.Hd.view_39 (looseW Mine.Hd.view_39 loose0)).map (·.name)) && (SF w os).heap.accountedOkI (importedModules prg.main.body) && (SF w os).heap.isNs mainGlobals && (SF w os).heap.isNs builtinsNs && tablesOk Mine.Hd.view_39 (SF w os).heap && Xt0 (SF w os) && (if true then (SF w os).gens.size == 0 else !leftWithCleanup (SF w os).gens)) = fun _ => true
abbrev StL5 : Prop := ∀ w : World, (fun os => tabsOk Mine.Hd.view_39 (SF w os)) = fun _ => true
abbrev StL6 : Prop := ∀ w : World, (fun os => pinSeenD Mine.Hd.view_39 (drecsOf Mine.Hd.view_39) (SF w os)) = fun _ => pinGoodD (drecsOf Mine.Hd.view_39)
abbrev StL7 : Prop := ∀ w : World, (fun os => plainSeenE Mine.Hd.view_39 (looseW Mine.Hd.view_39 loose0) (SF w os)) = fun _ => plainGoodE Mine.Hd.view_39 (looseW Mine.Hd.view_39 loose0)
abbrev StL8 : Prop := ∀ w : World, (fun os => plainSeenD Mine.Hd.view_39 loose0 (SF w os)) = fun _ => plainGoodD Mine.Hd.view_39 loose0
abbrev StL9 : Prop := ∀ w : World, (fun os => wideSeen Mine.Hd.view_39 (SF w os)) = fun _ => wideGood Mine.Hd.view_39
abbrev StL10 : Prop := ∀ w : World, (fun os => clsSeenW Mine.Hd.view_39 loose0 (SF w os)) = fun _ => clsGoodW Mine.Hd.view_39 loose0

/- the same run by the library's quick words -/
noncomputable def topRunQ (tb : String → Option Builtin) (p : Program) (w : World) (n₀ : Nat) (ann : Option Value) : Nat → SharedT → Thread → Option SharedT
  | 0, _, _ => none
  | n + 1, x, t => match through t with
    | true => some x
    | false => match PySem.W.Fast.tw6613529449190102663 n₀ ann t with
      | false => none
      | true => match PySem.W.Fast.tw10156331382660048174 (PySem.W.Fast.tw11892475500146522536 tb) p w x t with
        | some (x', t') => topRunQ tb p w n₀ ann n x' t'
        | none => none
theorem topRun_q : @topRunT = @topRunQ := by
  funext tb p w n₀ ann n x t
  induction n generalizing x t with
  | zero => rfl
  | succ n ih =>
    unfold topRunT topRunQ
    rw [PySem.W.Fast.te6613529449190102663, PySem.W.Fast.te10156331382660048174, PySem.W.Fast.te11892475500146522536]
    simp only [ih]

/- a piece of the run that ends before the top does -/
noncomputable def topGoT (tb : String → Option Builtin) (p : Program) (w : World) (n₀ : Nat) (ann : Option Value) : Nat → SharedT → Thread → Option (SharedT × Thread)
  | 0, x, t => some (x, t)
  | n + 1, x, t => match through t with
    | true => none
    | false => match stepOk n₀ ann t with
      | false => none
      | true => match stepT (denote tb) p w x t with
        | some (x', t') => topGoT tb p w n₀ ann n x' t'
        | none => none
theorem topGoT_of {tb : String → Option Builtin} {p : Program} {w : World} {n₀ : Nat} {ann : Option Value} : ∀ {n : Nat} {x x' : SharedT} {t t' : Thread}, topGoT tb p w n₀ ann n x t = some (x', t') → topGo tb p w n₀ ann n x.abs t = some (x'.abs, t')
  | 0, _, _, _, _, h => by cases h; rfl
  | n + 1, x, x', t, t', h => by
    unfold topGoT at h
    unfold topGo
    cases he : through t with
    | true => rw [he] at h; cases h
    | false =>
      rw [he] at h
      cases hk : stepOk n₀ ann t with
      | false => rw [hk] at h; cases h
      | true =>
        rw [hk] at h
        cases hs : stepT (denote tb) p w x t with
        | none => rw [hs] at h; cases h
        | some r => obtain ⟨x₂, t₂⟩ := r; rw [hs] at h; rw [stepT_spec hs]; exact topGoT_of h
noncomputable def topGoQ (tb : String → Option Builtin) (p : Program) (w : World) (n₀ : Nat) (ann : Option Value) : Nat → SharedT → Thread → Option (SharedT × Thread)
  | 0, x, t => some (x, t)
  | n + 1, x, t => match through t with
    | true => none
    | false => match PySem.W.Fast.tw6613529449190102663 n₀ ann t with
      | false => none
      | true => match PySem.W.Fast.tw10156331382660048174 (PySem.W.Fast.tw11892475500146522536 tb) p w x t with
        | some (x', t') => topGoQ tb p w n₀ ann n x' t'
        | none => none
theorem topGo_q : @topGoT = @topGoQ := by
  funext tb p w n₀ ann n x t
  induction n generalizing x t with
  | zero => rfl
  | succ n ih =>
    unfold topGoT topGoQ
    rw [PySem.W.Fast.te6613529449190102663, PySem.W.Fast.te10156331382660048174, PySem.W.Fast.te11892475500146522536]
    simp only [ih]
noncomputable abbrev env0 : Env := { scope := prg.main.scope, locals := mainNs, globals := mainNs, cells := [], code := .ref 13, frame := some 14 }
noncomputable abbrev bE : List Stmt := behindTheImports prg
noncomputable abbrev cE : Code := .body bE env0
noncomputable abbrev BB : List Frame := [topFrame ⟨0, 0, 0, 0⟩]
noncomputable def sg0 : List Stmt := [at1 0, at1 1, at1 2, at1 3, at1 4, at1 5, at1 6, at1 7]
noncomputable def sg1 : List Stmt := [at1 8, at1 9]
noncomputable def sg2 : List Stmt := [at1 10, at1 11]
noncomputable def sg3 : List Stmt := [at1 12, at1 13]
noncomputable def sg4 : List Stmt := [at1 14, at1 15, at1 16, at1 17, at1 18, at1 19, at1 20, at1 21, at1 22]
noncomputable def sg5 : List Stmt := [at1 23, at1 24, at1 25, at1 26, at1 27, at1 28, at1 29]
noncomputable def sg6 : List Stmt := [at1 30]
noncomputable def sg7 : List Stmt := [at1 31, at1 32, at1 33, at1 34, at1 35, at1 36, at1 37, at1 38, at1 39]
abbrev StPre : Prop := ∀ w : World, (fun os => topGoT treeTable prg w 11 (some (.ref 6)) 12 ⟨t0 w.params, 11, {}, Array.mk [], boot_drawn, boot_toks, os⟩ (topStub prg)) = fun os => some (⟨tB w.params, 15, {}, Array.mk [], {}, 187, os⟩, Thread.mk (denote treeTable cE) cE ⟨0, 0, 0, 0⟩ BB)
theorem stPre : StPre := by
  intro w
  rewrite [topGo_q, PySem.W.Fast.te11892475500146522536, PySem.W.Fast.te14364793385576792824]
  kernel_rfl
abbrev StBlk : Prop := ∀ w : World, (fun os => segRunT treeTable prg w 11 (some (.ref 6)) 1 1 ⟨tB w.params, 15, {}, Array.mk [], {}, 187, os⟩ (blockOf bE env0 cE ⟨0, 0, 0, 0⟩ BB)) = fun os => some (Flow.next, ⟨tB w.params, 15, {}, Array.mk [], {}, 187, os⟩, cE, ⟨0, 0, 0, 0⟩)
theorem stBlk : StBlk := by
  intro w
  rewrite [PySem.W.Fast.te10110043849684766642, PySem.W.Fast.te14364793385576792824]
  kernel_rfl
abbrev StG0 : Prop := ∀ w : World, (fun os => segRunT treeTable prg w 11 (some (.ref 6)) 1 570 ⟨tB w.params, 15, {}, Array.mk [], {}, 187, os⟩ (piecesOf sg0 env0 cE ⟨0, 0, 0, 0⟩ BB)) = fun os => some (Flow.next, ⟨tG0 w.params, 69, {}, Array.mk [], {}, 271, os⟩, cE, ⟨25, 0, 30, 25⟩)
theorem stG0 : StG0 := by
  intro w
  rewrite [PySem.W.Fast.te10110043849684766642, PySem.W.Fast.te14364793385576792824]
  kernel_rfl
abbrev StG1 : Prop := ∀ w : World, (fun os => segRunT treeTable prg w 11 (some (.ref 6)) 1 494 ⟨tG0 w.params, 69, {}, Array.mk [], {}, 271, os⟩ (piecesOf sg1 env0 cE ⟨25, 0, 30, 25⟩ BB)) = fun os => some (Flow.next, ⟨tG1 w.params, 107, {}, Array.mk [], {}, 324, os⟩, cE, ⟨37, 0, 43, 24⟩)
theorem stG1 : StG1 := by
  intro w
  rewrite [PySem.W.Fast.te10110043849684766642, PySem.W.Fast.te14364793385576792824]
  kernel_rfl
abbrev StG2 : Prop := ∀ w : World, (fun os => segRunT treeTable prg w 11 (some (.ref 6)) 1 501 ⟨tG1 w.params, 107, {}, Array.mk [], {}, 324, os⟩ (piecesOf sg2 env0 cE ⟨37, 0, 43, 24⟩ BB)) = fun os => some (Flow.next, ⟨tG2 w.params, 145, {}, Array.mk [], {}, 384, os⟩, cE, ⟨52, 0, 60, 24⟩)
theorem stG2 : StG2 := by
  intro w
  rewrite [PySem.W.Fast.te10110043849684766642, PySem.W.Fast.te14364793385576792824]
  kernel_rfl
abbrev StG3 : Prop := ∀ w : World, (fun os => segRunT treeTable prg w 11 (some (.ref 6)) 1 640 ⟨tG2 w.params, 145, {}, Array.mk [], {}, 384, os⟩ (piecesOf sg3 env0 cE ⟨52, 0, 60, 24⟩ BB)) = fun os => some (Flow.next, ⟨tG3 w.params, 230, {}, Array.mk [], {}, 492, os⟩, cE, ⟨66, 0, 90, 16⟩)
theorem stG3 : StG3 := by
  intro w
  rewrite [PySem.W.Fast.te10110043849684766642, PySem.W.Fast.te14364793385576792824]
  kernel_rfl
abbrev StG4 : Prop := ∀ w : World, (fun os => segRunT treeTable prg w 11 (some (.ref 6)) 1 639 ⟨tG3 w.params, 230, {}, Array.mk [], {}, 492, os⟩ (piecesOf sg4 env0 cE ⟨66, 0, 90, 16⟩ BB)) = fun os => some (Flow.next, ⟨tG4 w.params, 304, {}, Array.mk [], {}, 587, os⟩, cE, ⟨135, 0, 139, 26⟩)
theorem stG4 : StG4 := by
  intro w
  rewrite [PySem.W.Fast.te10110043849684766642, PySem.W.Fast.te14364793385576792824]
  kernel_rfl
abbrev StG5 : Prop := ∀ w : World, (fun os => segRunT treeTable prg w 11 (some (.ref 6)) 1 455 ⟨tG4 w.params, 304, {}, Array.mk [], {}, 587, os⟩ (piecesOf sg5 env0 cE ⟨135, 0, 139, 26⟩ BB)) = fun os => some (Flow.next, ⟨tG5 w.params, 367, {}, Array.mk [], {}, 689, os⟩, cE, ⟨197, 0, 197, 8⟩)
theorem stG5 : StG5 := by
  intro w
  rewrite [PySem.W.Fast.te10110043849684766642, PySem.W.Fast.te14364793385576792824]
  kernel_rfl
abbrev StG6 : Prop := ∀ w : World, (fun os => segRunT treeTable prg w 11 (some (.ref 6)) 1 578 ⟨tG5 w.params, 367, {}, Array.mk [], {}, 689, os⟩ (piecesOf sg6 env0 cE ⟨197, 0, 197, 8⟩ BB)) = fun os => some (Flow.next, ⟨tG6 w.params, 463, {}, Array.mk [], {}, 811, os⟩, cE, ⟨198, 0, 258, 16⟩)
theorem stG6 : StG6 := by
  intro w
  rewrite [PySem.W.Fast.te10110043849684766642, PySem.W.Fast.te14364793385576792824]
  kernel_rfl
abbrev StG7 : Prop := ∀ w : World, (fun os => segRunT treeTable prg w 11 (some (.ref 6)) 1 465 ⟨tG6 w.params, 463, {}, Array.mk [], {}, 811, os⟩ (piecesOf sg7 env0 cE ⟨198, 0, 258, 16⟩ BB)) = fun os => some (Flow.next, ⟨tF w.params, 523, {}, Array.mk [], {}, 927, os⟩, cE, ⟨292, 0, 322, 15⟩)
theorem stG7 : StG7 := by
  intro w
  rewrite [PySem.W.Fast.te10110043849684766642, PySem.W.Fast.te14364793385576792824]
  kernel_rfl
abbrev StFin : Prop := ∀ w : World, (fun os => topRunT treeTable prg w 11 (some (.ref 6)) 2 ⟨tF w.params, 523, {}, Array.mk [], {}, 927, os⟩ (Thread.mk (doneF Flow.next) cE ⟨292, 0, 322, 15⟩ BB)) = fun os => some ⟨tF w.params, 523, {}, Array.mk [], {}, 927, os⟩
theorem stFin : StFin := by
  intro w
  rewrite [topRun_q, PySem.W.Fast.te14364793385576792824]
  kernel_rfl
theorem stBody : bE = sg0 ++ (sg1 ++ (sg2 ++ (sg3 ++ (sg4 ++ (sg5 ++ (sg6 ++ (sg7 ++ []))))))) := by kernel_rfl
theorem stChain (w : World) (os : OsState) : topRun treeTable prg w 11 (some (.ref 6)) (12 + (1 + (570 + (494 + (501 + (640 + (639 + (455 + (578 + (465 + 2)))))))))) (SharedT.abs ⟨t0 w.params, 11, {}, Array.mk [], boot_drawn, boot_toks, os⟩) (topStub prg) = some (SharedT.abs ⟨tF w.params, 523, {}, Array.mk [], {}, 927, os⟩) := by
  refine go_top (topGoT_of (congrFun (stPre w) os)) ?_
  refine piece_block (segRun_of (congrFun (stBlk w) os)) ?_
  rw [show restOf bE env0 cE ⟨0, 0, 0, 0⟩ BB = restOf (sg0 ++ (sg1 ++ (sg2 ++ (sg3 ++ (sg4 ++ (sg5 ++ (sg6 ++ (sg7 ++ [])))))))) env0 cE ⟨0, 0, 0, 0⟩ BB from congrArg (fun l => restOf l env0 cE ⟨0, 0, 0, 0⟩ BB) stBody]
  exact piece_app (segRun_of (congrFun (stG0 w) os)) (piece_app (segRun_of (congrFun (stG1 w) os)) (piece_app (segRun_of (congrFun (stG2 w) os)) (piece_app (segRun_of (congrFun (stG3 w) os)) (piece_app (segRun_of (congrFun (stG4 w) os)) (piece_app (segRun_of (congrFun (stG5 w) os)) (piece_app (segRun_of (congrFun (stG6 w) os)) (piece_app (segRun_of (congrFun (stG7 w) os)) (piece_nil (topRunT_of (congrFun (stFin w) os))))))))))
theorem stT0 : StT0 := by intro w; kernel_rfl
theorem stTF : StTF := by intro w; kernel_rfl
theorem stSize : StSize := by
  intro w
  rewrite [PySem.W.Fast.te8920871248978507458]
  kernel_rfl
theorem stL1 : StL1 := by
  intro w
  rewrite [PySem.W.Fast.te5923862056798008813]
  kernel_rfl
theorem stL2 : StL2 := by
  intro w
  rewrite [PySem.W.Fast.te5160383126252970620, PySem.W.R.mapR_eq, PySem.W.Fast.te3399658132070893891, PySem.W.Fast.te5991557255702980513]
  kernel_rfl
theorem stL3 : StL3 := by intro w; kernel_rfl
theorem stL4 : StL4 := by
  intro w
  rewrite [PySem.W.Fast.te10880121769531294198, PySem.W.Fast.te821141287760084731, PySem.W.R.mapR_eq, PySem.W.Fast.te3399658132070893891, PySem.W.Fast.te7409074990110511671, PySem.W.Fast.te13664370479719496447, PySem.W.Fast.te14722251495701143533, PySem.W.Fast.te5923862056798008813, PySem.W.Fast.te10994771534591457954]
  kernel_rfl
theorem stL5 : StL5 := by
  intro w
  rewrite [PySem.W.Fast.te479339242167458305]
  kernel_rfl
theorem stL6 : StL6 := by
  intro w
  rewrite [PySem.W.Fast.te16090120013241838585, PySem.W.Fast.te3247288618530077131]
  kernel_rfl
theorem stL7 : StL7 := by
  intro w
  rewrite [PySem.W.Fast.te2386780881361962483, PySem.W.Fast.te821141287760084731]
  kernel_rfl
theorem stL8 : StL8 := by
  intro w
  rewrite [PySem.W.Fast.te11698064438423848299]
  kernel_rfl
theorem stL9 : StL9 := by
  intro w
  rewrite [PySem.W.Fast.te7317090234206586261]
  kernel_rfl
theorem stL10 : StL10 := by
  intro w
  rewrite [PySem.W.Fast.te7369524293546568484]
  kernel_rfl

/- the written part, made out of the row's own text -/
noncomputable def heap_39 : Params → Frag := by
  refine' (?g : ∀ x : Params → Frag, x = K0 → (Params → Frag)) _ ?h
  case g => exact fun x _ => x
  case h =>
    conv =>
      rhs
      delta K0 o2 o3 o15 o17 o18 o20 o21 o22 o24 o25 o27 o28 o36 o38 o39 o41 o42 o43 o44 o45 o46 o47 o50 o57 o59 o60 o62 o63 o64 o65 o66 o69 o76 o78 o79 o81 o82 o83 o84 o85 o88 o95 o97 o98 o100 o101 o102 o103 o104 o107 o114 o116 o117 o119 o120 o121 o122 o123 o126 o133 o135 o136 o138 o139 o140 o141 o142 o152 o153 o155 o156 o158 o159 o160 o161 o162 o163 o164 o174 o176 o177 o179 o180 o181 o183 o184 o186 o187 o188 o190 o191 o193 o194 o195 o197 o198 o200 o201 o202 o204 o205 o207 o208 o209 o211 o212 o214 o215 o216 o218 o219 o221 o222 o223 o224 o225 o226 o227 o230 o232 o233 o235 o236 o237 o239 o240 o242 o243 o244 o246 o247 o249 o250 o251 o253 o254 o256 o257 o258 o260 o261 o263 o264 o265 o272 o274 o275 o277 o278 o279 o280 o281 o282 o285 o292 o294 o295 o297 o298 o299 o300 o301 o304 o306 o307 o309 o310 o311 o313 o314 o316 o317 o318 o320 o321 o323 o324 o332 o334 o335 o337 o338 o339 o341 o342 o344 o345 o346 o348 o349 o351 o352 o353 o355 o356 o358 o359 o360 o361 o362 o363 o364 o374 o376 o377 o379 o380 o381 o383 o384 o386 o387 o388 o390 o391 o393 o394 o395 o397 o398 o400 o401 o402 o404 o405 o407 o408 o409 o412 o413 o414 o416 o417 o419 o420 o421 o423 o424 o426 o427 o428 o430 o431 o433 o434 o435 o437 o438 o440 o441 o442 o444 o445 o447 o448 o449 o451 o452 o454 o455 o456 o457 o458 o459 o460 o470 o471 o473 o474 o476 o477 o478 o479 o480 o481 o482 o485 o487 o488 o490 o491 o492 o495 o496 o497 o499 o500 o502 o503 o504 o507 o508 o509 o511 o512 o514 o515 o516 o518 o519 o521 o522 fa1_0 fa1_14 fa1_15 fa1_16 fa1_18 fa1_19 fa1_24 fa1_25 fa1_26 fa1_3 fa1_34 fa1_35 fa1_36 fa1_37 fa1_38 fa1_39 fa2_10_0 fa2_11_0 fa2_12_0 fa2_13_0 fa2_13_1 fa2_13_2 fa2_13_3 fa2_13_4 fa2_13_5 fa2_13_6 fa2_21_0 fa2_22_0 fa2_28_0 fa2_28_1 fa2_28_2 fa2_28_3 fa2_30_0 fa2_30_1 fa2_30_10 fa2_30_11 fa2_30_2 fa2_30_3 fa2_30_4 fa2_30_5 fa2_30_6 fa2_30_7 fa2_30_8 fa2_30_9 fa2_32_0 fa2_6_0 fa2_7_0 fa2_8_0 fa2_9_0 fb1_0 fb1_14 fb1_15 fb1_16 fb1_18 fb1_19 fb1_24 fb1_25 fb1_26 fb1_3 fb1_34 fb1_35 fb1_36 fb1_37 fb1_38 fb1_39 fb2_10_0 fb2_11_0 fb2_12_0 fb2_13_0 fb2_13_1 fb2_13_2 fb2_13_3 fb2_13_4 fb2_13_5 fb2_13_6 fb2_21_0 fb2_22_0 fb2_28_0 fb2_28_1 fb2_28_2 fb2_28_3 fb2_30_0 fb2_30_1 fb2_30_10 fb2_30_11 fb2_30_2 fb2_30_3 fb2_30_4 fb2_30_5 fb2_30_6 fb2_30_7 fb2_30_8 fb2_30_9 fb2_32_0 fb2_6_0 fb2_7_0 fb2_8_0 fb2_9_0 fc1_0 fc1_14 fc1_15 fc1_16 fc1_18 fc1_19 fc1_24 fc1_25 fc1_26 fc1_3 fc1_34 fc1_35 fc1_36 fc1_37 fc1_38 fc1_39 fc2_10_0 fc2_11_0 fc2_12_0 fc2_13_0 fc2_13_1 fc2_13_2 fc2_13_4 fc2_13_5 fc2_13_6 fc2_21_0 fc2_22_0 fc2_28_0 fc2_28_1 fc2_28_2 fc2_28_3 fc2_30_0 fc2_30_11 fc2_30_2 fc2_30_4 fc2_30_5 fc2_30_6 fc2_30_7 fc2_30_8 fc2_30_9 fc2_32_0 fc2_6_0 fc2_7_0 fc2_9_0 sS vS kE tQ fQ
theorem kEq : ∀ P, kAs = (Mine.Hd.heap_39 P).map (·.1) := fun _ => by kernel_rfl
noncomputable abbrev hook : Hook := kHook Mine.Hd.heap_39 kAs kEq
abbrev StL11 : Prop := ∀ w : World, (fun os => hook.obs (SF w os)) = fun _ => hook.val w
theorem stL11 : StL11 := by intro w; kernel_rfl

theorem nm1 : namesOk Mine.Hd.view_39 (looseW Mine.Hd.view_39 loose0) (namesW Mine.Hd.view_39 loose0) = true := by
  rewrite [PySem.W.Fast.te17448422675489707002, PySem.W.Fast.te821141287760084731]
  kernel_rfl
theorem nm2 : importsNone Mine.Hd.view_39 = true := by
  rewrite [PySem.W.Fast.te2458874890965802552]
  kernel_rfl
theorem said0 : OpenLaw.wellSaid PySem.Challenge.rw_qz0096_01 = true := by
  delta OpenLaw.wellSaid
  repeat' (first | (with_reducible refine look_both ?_ ?_) | (delta OpenRow.wellSaid; with_reducible refine look_both ?_ ?_) | (delta OpenRow.partSaid; with_reducible refine look_both ?_ ?_) | (delta looksOpen; with_reducible refine look_both ?_ ?_))
  all_goals (try rewrite [PySem.W.Fast.te8326940854005059898])
  all_goals (try rewrite [PySem.W.Fast.te8377067652309620493])
  all_goals (try rewrite [PySem.W.Fast.te17119622794617984870])
  all_goals decide +kernel
theorem stE : opening prg = plainProg prg.main.scope.names := by kernel_rfl
theorem stF : ∀ x, fenceModules? prg x = some x := by intro x; kernel_rfl
theorem stRun' (w : World) (os : OsState) : topRun treeTable prg w 11 (some (.ref 6)) (12 + (1 + (570 + (494 + (501 + (640 + (639 + (455 + (578 + (465 + 2)))))))))) ⟨boot_heap w.params, Array.mk [], boot_drawn, boot_toks, os⟩ (topStub prg) = some (SF w os) := by
  have h := stChain w os
  unfold SharedT.abs at h
  dsimp only at h
  rw [stT0 w, stTF w] at h
  exact h
theorem left : LeftO prg Mine.Hd.view_39 loose0 Xt0 hook.obs hook.val 8794 :=
  LeftO.of_pieces (H₀ := boot_heap) (H₁ := H1) (gs₀ := Array.mk []) (gs₁ := Array.mk []) (d₀ := boot_drawn) (d₁ := {}) (k₀ := boot_toks) (k₁ := 927) (m₀ := 11) (ann := some (.ref 6)) (M := 12 + (1 + (570 + (494 + (501 + (640 + (639 + (455 + (578 + (465 + 2))))))))))
    (boot_open stE (by decide +kernel) stF) stSize stRun' (by decide +kernel)
    (fun w => funext fun os => looks_pair (congrFun (stL1 w) os) (looks_pair
      (looks_pair (congrFun (stL2 w) os) (looks_pair (congrFun (stL3 w) os) (looks_pair (congrFun (stL4 w) os) (looks_pair (congrFun (stL5 w) os) (looks_pair (congrFun (stL6 w) os)
        (looks_pair (congrFun (stL7 w) os) (looks_pair (congrFun (stL8 w) os) (looks_pair (congrFun (stL9 w) os) (congrFun (stL10 w) os)))))))))
      (congrFun (stL11 w) os)))
end
end Mine.Hd
end

/- part QBase -/
section
open PySem PySem.W PySem.Calls PyProof.Rows
namespace Mine
section
theorem freshQBase : True := by
  k_with_none
  trivial
set_option maxRecDepth 100000

def Fn (w : World) (mean : ExcName → Option Value) (mg mb : Str → Option Value) (f : Addr) (vs : List Value) (cost : Nat) (led : List (Addr × Obj))
    (Post : Value → List (Addr × Obj) → Prop) : Prop :=
  ∀ (dp un : Nat) (gd : Option (List Code)) (cn : Str) (cs : Scope) (a : Addr) (ccd : Value) (cl : List (Str × Addr)) (outer : List Env) (A₀ : Around) (base h₀ : Heap) (L : Addr) (m : Str → Option Value) (s : Shared)
    (Q E : Value → Shared → Prop),
    Below A₀ base outer h₀ → Fr h₀ L s.heap m → (Hd.heap_39 w.params).In h₀ → News h₀ L s.heap led → Top Hd.view_39 (looseW Hd.view_39 [Str.ofString "Limits"]) mean mg mb h₀ → cs.kind = .function → dp + cost < recursionLimit → un + 8 * cost < cLine →
    (∀ r led' h' tk', Fr h₀ L h' m → News h₀ L h' led' → Post r led' → Q r { s with heap := h', toks := tk' }) →
    wpAny (model PySem.Challenge.rw_qz0096_01.row.prog w) (ktrTop dp un gd cn cs L a ccd cl outer) (call (.ref f) vs) Q E s

theorem Fn.use {w : World} {mean : ExcName → Option Value} {mg mb : Str → Option Value} {f : Addr} {vs : List Value} {cost : Nat} {led : List (Addr × Obj)} {Post : Value → List (Addr × Obj) → Prop}
    {dp un : Nat} {gd : Option (List Code)} {cn : Str} {cs : Scope} {a : Addr} {ccd : Value} {cl : List (Str × Addr)} {outer : List Env} {A₀ : Around} {base h₀ : Heap} {L : Addr} {m : Str → Option Value} {s : Shared}
    {Q E : Value → Shared → Prop} (B : Below A₀ base outer h₀) (F : Fr h₀ L s.heap m) (X : (Hd.heap_39 w.params).In h₀) (N : News h₀ L s.heap led) (T : Top Hd.view_39 (looseW Hd.view_39 [Str.ofString "Limits"]) mean mg mb h₀) (hk : cs.kind = .function)
    (C : Fn w mean mg mb f vs cost led Post) (hd : dp + cost < recursionLimit) (hu : un + 8 * cost < cLine)
    (ret : ∀ r led' h' tk', Fr h₀ L h' m → News h₀ L h' led' → Post r led' → Q r { s with heap := h', toks := tk' }) :
    wpAny (model PySem.Challenge.rw_qz0096_01.row.prog w) (ktrTop dp un gd cn cs L a ccd cl outer) (call (.ref f) vs) Q E s := C _ _ _ _ _ _ _ _ _ _ _ _ _ _ _ _ _ B F X N T hk hd hu ret

/- words of my own: each is said once, here, and used by k_extra -/
theorem words : True := by
  k_with "ENTER" => (
    unfold Fn
    k_fill
    intro dp un gd cn cs a ccd cl outer A₀ base h₀ L m s Q E B F X N T hk hd hu hret
    refine wpAny_call ?_
    k_dflt ktr_enter
    k_steps)
  trivial

def cval (c : Option Int) (t : Tok) : Value := match c with | none => .none | some k => .int k t
abbrev tup2 (a b : Value) : Obj := { cls := .type "tuple", data := .seq #[a, b] 0 }

def spanOf (n : Nat) (off : Int) (c : Option Int) : Option (Int × Int) :=
  let begin : Int := if off < 0 then (n : Int) + off else off
  if begin > n then none else
  let e : Int := match c with | none => (n : Int) | some k => if k < 0 then (n : Int) + k else begin + k
  if e < 0 ∧ begin < 0 then none else
  let b := max begin 0
  some (b, min (max e b) n)

def PairPost (led : List (Addr × Obj)) (o : Option (Int × Int)) (r : Value) (led' : List (Addr × Obj)) : Prop :=
  match o with
  | none => r = .none ∧ led' = led
  | some p => ∃ d t t', r = .ref d ∧ led' = (d, tup2 (.int p.1 t) (.int p.2 t')) :: led ∧ ∀ q ∈ led, q.1 < d

theorem PairPost.none {led : List (Addr × Obj)} {o : Option (Int × Int)} (h : o = Option.none) : PairPost led o .none led := by subst h; exact ⟨rfl, rfl⟩
theorem PairPost.some {led : List (Addr × Obj)} {o : Option (Int × Int)} {d : Addr} {b e : Int} {t t' : Tok} (h : o = Option.some (b, e)) (hl : ∀ q ∈ led, q.1 < d) : PairPost led o (.ref d) ((d, tup2 (.int b t) (.int e t')) :: led) := by
  subst h; exact ⟨d, t, t', rfl, rfl, hl⟩

def bgOf (n : Nat) (off : Int) : Int := if off < 0 then (n : Int) + off else off
def enOf (n : Nat) (B : Int) (c : Option Int) : Int := match c with | none => (n : Int) | some k => if k < 0 then (n : Int) + k else B + k
theorem spanOf_eq (n : Nat) (off : Int) (c : Option Int) : spanOf n off c = if bgOf n off > n then none else if enOf n (bgOf n off) c < 0 ∧ bgOf n off < 0 then none else some (max (bgOf n off) 0, min (max (enOf n (bgOf n off) c) (max (bgOf n off) 0)) n) := rfl
theorem pm_eq (B : Int) : max B 0 = if 0 > B then 0 else B := by split <;> omega
theorem qm_eq (b E n : Int) : min (max E b) n = if n < (if b > E then b else E) then n else if b > E then b else E := by
  split <;> split <;> omega
theorem span_no1 {led : List (Addr × Obj)} {n : Nat} {off : Int} {c : Option Int} {B : Int} (hB : bgOf n off = B) (h : B > n) : PairPost led (spanOf n off c) .none led := PairPost.none (by rw [spanOf_eq, hB, if_pos h])
theorem span_no2 {led : List (Addr × Obj)} {n : Nat} {off : Int} {c : Option Int} {B E : Int} (hB : bgOf n off = B) (hE : enOf n B c = E) (h1 : ¬ B > n) (h : E < 0 ∧ B < 0) : PairPost led (spanOf n off c) .none led := PairPost.none (by rw [spanOf_eq, hB, if_neg h1, hE, if_pos h])
theorem span_fin {led : List (Addr × Obj)} {n : Nat} {off : Int} {c : Option Int} {d : Addr} {B E : Int} {t t' : Tok} (hB : bgOf n off = B) (hE : enOf n B c = E) (h1 : ¬ B > n) (h : ¬ (E < 0 ∧ B < 0)) (hl : ∀ q ∈ led, q.1 < d) :
    PairPost led (spanOf n off c) (.ref d) ((d, tup2 (.int (if 0 > B then 0 else B) t) (.int (if (n : Int) < (if (if 0 > B then 0 else B) > E then (if 0 > B then 0 else B) else E) then (n : Int) else if (if 0 > B then 0 else B) > E then (if 0 > B then 0 else B) else E) t')) :: led) :=
  PairPost.some (by rw [spanOf_eq, hB, if_neg h1, hE, if_neg h, pm_eq, qm_eq]) hl

theorem span_words : True := by
  k_with "SPAN_BG" => (first | exact if_pos (by assumption) | exact if_neg (by assumption))
  k_with "SPAN_EN" => (first | exact if_pos (by assumption) | exact if_neg (by assumption) | exact if_neg (by omega) | exact if_pos (by omega) | exact rfl)
  k_with "SPAN_END" => (
    refine hret _ _ _ _ (by k_asm) (by k_asm) ?_
    first
      | (refine span_fin ?_ ?_ ?_ ?_ (by first | assumption | exact ktn_ltOf (by assumption)); k_extra "SPAN_BG"; k_extra "SPAN_EN"; omega; omega)
      | (refine' span_no1 ?h1 ?h2; (case h1 => k_extra "SPAN_BG"); (case h2 => omega))
      | (refine' span_no2 ?h1 ?h2 ?h3 ?h4; (case h1 => k_extra "SPAN_BG"); (case h2 => k_extra "SPAN_EN"); (case h3 => omega); (case h4 => omega)))
  trivial

set_option maxHeartbeats 4000000 in
theorem span_c (w : World) (mean : ExcName → Option Value) (mg mb : Str → Option Value) (n : Nat) (hn : n ≤ 100) (off : Int) (ho : -1000 ≤ off ∧ off ≤ 1000) (c : Option Int) (hc : ∀ k, c = some k → -1000 ≤ k ∧ k ≤ 1000) (t1 t2 t3 : Tok) (led : List (Addr × Obj)) :
    Fn w mean mg mb 310 [.int n t1, .int off t2, cval c t3] 1 led (PairPost led (spanOf n off c)) := by
  cases c with
  | none =>
    dsimp only [cval]
    k_extra "ENTER"
    all_goals k_extra "SPAN_END"
  | some k =>
    obtain ⟨hc1, hc2⟩ := hc k rfl
    clear hc
    dsimp only [cval]
    k_extra "ENTER"
    all_goals k_extra "SPAN_END"
end
end Mine
end

/- part QDip -/
section
open PySem PySem.W PySem.Calls PyProof.Rows
namespace Mine
section
theorem freshQDip : True := by
  k_with_none
  trivial
set_option maxRecDepth 100000

theorem getD_head (a : Int) (l : List Int) (d : Int) : (a :: l).getD (Int.toNat 0) d = a := rfl

theorem words2 : True := by
  k_with "ENTER" => (
    unfold Fn
    k_fill
    intro dp un gd cn cs a ccd cl outer A₀ base h₀ L m s Q E B F X N T hk hd hu hret
    refine wpAny_call ?_
    k_dflt ktr_enter
    k_steps)
  k_with "subscriptTail Name BinOp ref int" => (
    (with_reducible show wpAny _ _ (subscriptTail _ _ (Value.ref _) (Value.int _ _)) _ _ _)
    (simp only [getD_head, List.length_cons] at *)
    (with_unfolding_all refine' item_list_ints ?k1 ?k2 ?k3 ?k4 ?k5 ?_)
    (case k1 => is_list)
    (case k2 => l_ints)
    (case k3 => omega)
    (case k4 => (simp only [List.length_cons]; omega))
    (case k5 => omega)
    k_whole
    intro _)
  trivial

abbrev lst (vs : List Value) (n : Nat) : Obj := { cls := .type "list", data := .seq vs.toArray n }

set_option maxHeartbeats 4000000 in
theorem dip_c (w : World) (mean : ExcName → Option Value) (mg mb : Str → Option Value) (tub : Addr) (at_ : Int) (h0 : 0 ≤ at_) (h1 : at_ ≤ 100000) (ta : Tok) (vs : List Value) (ns : List Int) (hv : IntsAre vs ns) (hl : ns.length ≤ 1000) (n : Nat) (many : Int) (hm : 0 < many) (hm2 : many ≤ 1000) (tm : Tok)
    (rest : List (Addr × Obj)) (hoff : OwnOff rest [tub]) :
    Fn w mean mg mb 491 [.ref tub, .int many tm] 1 ((tub, lst (.int at_ ta :: vs) n) :: rest) (fun r led' => (∃ k t, r = .int k t ∧ 0 ≤ k ∧ k < many) ∧ ∃ t n', led' = (tub, lst (.int (at_ + 1) t :: vs) n') :: rest) := by
  k_extra "ENTER"
  all_goals (simp only [getD_head]  at *; exact hret _ _ _ _ (by k_asm) (by k_asm) ⟨⟨_, _, rfl, fmod_lo _ hm, fmod_hi _ hm⟩, _, _, rfl⟩)

end
end Mine
end

/- part QComp -/
section
open PySem PySem.W PySem.Calls PyProof.Rows
namespace Mine
section
theorem freshQComp : True := by
  k_with_none
  trivial
set_option maxRecDepth 100000

section
variable {prog : Program} {w : World} {A : Around} {h₀ : Heap} {L : Addr} {m : Str → Option Value} {env : Env} {ct elt : Expr} {x : Str} {scope : Scope} {cl : List (Str × Addr)} {s : Shared} {S : List (Addr × Obj) → Prop} {P : Nat → Value → Prop} {Fin : List Value → List (Addr × Obj) → Prop} {news : List (Addr × Obj)}

/-- a comprehension's turns by an invariant over the items so far and the ledger -/
theorem rest_inv {n : Nat} (J : Nat → List Value → List (Addr × Obj) → Prop) (h0 : J 0 [] news)
    (turn : ∀ i ys nw v I oI C oC D m₂ h tk (E' : Value → Shared → Prop), i < n → J i ys nw → P i v → LCg.NsObj oC m₂ → m₂ x = some v → Fr h₀ L h m →
      News h₀ L h ((I, oI) :: (C, oC) :: (D, LCg.lst ys) :: nw) → LCg.Off3 I C D nw → ((@Ne Nat I C) ∧ (@Ne Nat I D) ∧ (@Ne Nat C D)) →
      wpAny (model prog w) A (eval elt (compEnvC scope cl C env)) (LCg.CompEnd h₀ L m { s with heap := h, toks := tk } I oI C oC D (LCg.lst ys) S (fun y nw' => J (i + 1) (ys ++ [y]) nw')) E' { s with heap := h, toks := tk })
    (fin : ∀ ys nw, J n ys nw → Fin ys nw) : LCg.CompRest prog w A h₀ L m env elt x scope cl s S P Fin n 0 [] news := by
  have key : ∀ (j i : Nat) (ys : List Value) (nw : List (Addr × Obj)), i + j = n → J i ys nw → LCg.CompRest prog w A h₀ L m env elt x scope cl s S P Fin j i ys nw := by
    intro j
    induction j with
    | zero =>
      intro i ys nw hi hJ
      have e : i = n := by omega
      subst e
      exact LCg.CompRest.zero (fin ys nw hJ)
    | succ j ih =>
      intro i ys nw hi hJ
      refine LCg.CompRest.succ ?_
      intro v I oI C oC D m₂ h tk E' hv hC hx F N off ne
      refine wpAny_mono (turn i ys nw v I oI C oC D m₂ h tk E' (by omega) hJ hv hC hx F N off ne) (fun y s₂ hq => ?_) fun _ _ e => e
      obtain ⟨h', tk', nw', e, F', N', off', hS, hr⟩ := hq
      exact ⟨h', tk', nw', e, F', N', off', hS, ih (i + 1) _ _ (by omega) hr⟩
  exact key n 0 [] news (by omega) h0

/-- the same with one test -/
theorem restT_inv {n : Nat} (J : Nat → List Value → List (Addr × Obj) → Prop) (h0 : J 0 [] news)
    (turn : ∀ i ys nw v I oI C oC D m₂ h tk (E' : Value → Shared → Prop), i < n → J i ys nw → P i v → LCg.NsObj oC m₂ → m₂ x = some v → Fr h₀ L h m →
      News h₀ L h ((I, oI) :: (C, oC) :: (D, LCg.lst ys) :: nw) → LCg.Off3 I C D nw → ((@Ne Nat I C) ∧ (@Ne Nat I D) ∧ (@Ne Nat C D)) →
      wpAny (model prog w) A (isTrue ct (compEnvC scope cl C env) (eval ct (compEnvC scope cl C env))) (fun ok s' => if ok = true then
        wpAny (model prog w) A (eval elt (compEnvC scope cl C env)) (LCg.CompEnd h₀ L m { s with heap := h, toks := tk } I oI C oC D (LCg.lst ys) S (fun y nw' => J (i + 1) (ys ++ [y]) nw')) E' s'
        else LCg.CompEnd h₀ L m { s with heap := h, toks := tk } I oI C oC D (LCg.lst ys) S (fun _ nw' => J (i + 1) ys nw') Value.none s') E' { s with heap := h, toks := tk })
    (fin : ∀ ys nw, J n ys nw → Fin ys nw) : LCt.CompRestT prog w A h₀ L m env ct elt x scope cl s S P Fin n 0 [] news := by
  have key : ∀ (j i : Nat) (ys : List Value) (nw : List (Addr × Obj)), i + j = n → J i ys nw → LCt.CompRestT prog w A h₀ L m env ct elt x scope cl s S P Fin j i ys nw := by
    intro j
    induction j with
    | zero =>
      intro i ys nw hi hJ
      have e : i = n := by omega
      subst e
      exact LCt.CompRestT.zero (fin ys nw hJ)
    | succ j ih =>
      intro i ys nw hi hJ
      refine LCt.CompRestT.succ ?_
      intro v I oI C oC D m₂ h tk E' hv hC hx F N off ne
      refine wpAny_mono (turn i ys nw v I oI C oC D m₂ h tk E' (by omega) hJ hv hC hx F N off ne) (fun ok s₂ hq => ?_) fun _ _ e => e
      cases ok with
      | true =>
        simp only [if_true] at hq ⊢
        refine wpAny_mono hq (fun y s₃ hq => ?_) fun _ _ e => e
        obtain ⟨h', tk', nw', e, F', N', off', hS, hr⟩ := hq
        exact ⟨h', tk', nw', e, F', N', off', hS, ih (i + 1) _ _ (by omega) hr⟩
      | false =>
        simp only [Bool.false_eq_true, if_false] at hq ⊢
        obtain ⟨h', tk', nw', e, F', N', off', hS, hr⟩ := hq
        exact ⟨h', tk', nw', e, F', N', off', hS, ih (i + 1) _ _ (by omega) hr⟩
  exact key n 0 [] news (by omega) h0
end

/-- one entry taken out of a ledger -/
inductive Sel (a : Addr) (o : Obj) : List (Addr × Obj) → List (Addr × Obj) → Prop
  | head {r : List (Addr × Obj)} : Sel a o ((a, o) :: r) r
  | tail {p : Addr × Obj} {l r : List (Addr × Obj)} : Sel a o l r → Sel a o (p :: l) (p :: r)
theorem Sel.sub {a : Addr} {o : Obj} {l r : List (Addr × Obj)} (x : Sel a o l r) : ∀ p ∈ (a, o) :: r, p ∈ l := by
  induction x with
  | head => exact fun _ h => h
  | tail _ ih =>
    intro p hp
    rcases List.mem_cons.mp hp with rfl | hp
    · exact .tail _ (ih _ (.head _))
    · rcases List.mem_cons.mp hp with rfl | hp
      · exact .head _
      · exact .tail _ (ih _ (.tail _ hp))
theorem Sel.news {h₀ h : Heap} {L a : Addr} {o : Obj} {l r : List (Addr × Obj)} (x : Sel a o l r) (N : News h₀ L h l) : News h₀ L h ((a, o) :: r) := fun p hp => N p (x.sub p hp)

def AllNe (a : Addr) : List (Addr × Obj) → Prop
  | [] => True
  | p :: r => (@Ne Nat p.1 a) ∧ AllNe a r
theorem AllNe.off {a : Addr} : ∀ {l : List (Addr × Obj)}, AllNe a l → OwnOff l [a]
  | [], _ => fun _ h => nomatch h
  | q :: r, x => fun p hp b hb => by
    rw [List.mem_singleton.mp hb]
    rcases List.mem_cons.mp hp with rfl | hp
    · exact x.1
    · exact AllNe.off x.2 p hp a (.head _)
theorem AllNe.of {a : Addr} : ∀ {l : List (Addr × Obj)}, OwnOff l [a] → AllNe a l
  | [], _ => trivial
  | q :: r, x => ⟨x q (.head _) a (.head _), AllNe.of fun p hp => x p (.tail _ hp)⟩
theorem AllNe.of3 {I C D : Addr} : ∀ {l : List (Addr × Obj)}, LCg.Off3 I C D l → AllNe I l ∧ AllNe C l ∧ AllNe D l
  | [], _ => ⟨trivial, trivial, trivial⟩
  | _ :: _, x => let y := AllNe.of3 x.2; ⟨⟨x.1.1, y.1⟩, ⟨x.1.2.1, y.2.1⟩, ⟨x.1.2.2, y.2.2⟩⟩
theorem off3_of {I C D : Addr} : ∀ {l : List (Addr × Obj)}, AllNe I l → AllNe C l → AllNe D l → LCg.Off3 I C D l
  | [], _, _, _ => trivial
  | _ :: _, x, y, z => ⟨⟨x.1, y.1, z.1⟩, off3_of x.2 y.2 z.2⟩
theorem AllNe.ofLt {a : Addr} : ∀ {l : List (Addr × Obj)}, AllLt a l → AllNe a l
  | [], _ => trivial
  | _ :: _, x => ⟨Nat.ne_of_lt x.1, AllNe.ofLt x.2⟩
theorem AllNe.cons {a b : Addr} {o : Obj} {l : List (Addr × Obj)} (h : @Ne Nat b a) (r : AllNe a l) : AllNe a ((b, o) :: l) := ⟨h, r⟩
theorem AllNe.nil {a : Addr} : AllNe a [] := trivial


theorem dip_use {w : World} {mean : ExcName → Option Value} {mg mb : Str → Option Value} {tub : Addr} {at_ : Int} {ta : Tok} {vs : List Value} {ns : List Int} {n : Nat} {many : Int} {tm : Tok} {led rest : List (Addr × Obj)}
    {dp un : Nat} {gd : Option (List Code)} {cn : Str} {cs : Scope} {a : Addr} {ccd : Value} {cl : List (Str × Addr)} {outer : List Env} {A₀ : Around} {base h₀ : Heap} {L : Addr} {m : Str → Option Value} {s : Shared}
    {Q E : Value → Shared → Prop} (B : Below A₀ base outer h₀) (F : Fr h₀ L s.heap m) (X : (Hd.heap_39 w.params).In h₀) (N : News h₀ L s.heap led) (T : Top Hd.view_39 (looseW Hd.view_39 [Str.ofString "Limits"]) mean mg mb h₀) (hk : cs.kind = .function)
    (sel : Sel tub (lst (.int at_ ta :: vs) n) led rest) (hoff : AllNe tub rest) (h0 : 0 ≤ at_) (h1 : at_ ≤ 100000) (hv : IntsAre vs ns) (hl : ns.length ≤ 1000) (hm : 0 < many) (hm2 : many ≤ 1000)
    (hd : dp + 1 < recursionLimit) (hu : un + 8 * 1 < cLine)
    (ret : ∀ k t t' n' h' tk', Fr h₀ L h' m → News h₀ L h' ((tub, lst (.int (at_ + 1) t' :: vs) n') :: rest) → 0 ≤ k → k < many → Q (.int k t) { s with heap := h', toks := tk' }) :
    wpAny (model PySem.Challenge.rw_qz0096_01.row.prog w) (ktrTop dp un gd cn cs L a ccd cl outer) (call (.ref 491) [.ref tub, .int many tm]) Q E s := by
  refine Fn.use B F X (sel.news N) T hk (dip_c w mean mg mb tub at_ h0 h1 ta vs ns hv hl n many hm hm2 tm rest hoff.off) hd hu ?_
  rintro r led' h' tk' F' N' ⟨⟨k, t, rfl, hk0, hk1⟩, t', n', rfl⟩
  exact ret k t t' n' h' tk' F' N' hk0 hk1
end
end Mine
end

/- part QLet -/
section
open PySem PySem.W PySem.Calls PyProof.Rows
namespace Mine
section
theorem freshQLet : True := by
  k_with_none
  trivial
set_option maxRecDepth 100000


theorem words3 : True := by
  k_with "STOPCOMP" => (refine stop_of ?_)
  k_with "ENTERC" => (
    unfold Fn
    k_fill
    intro dp un gd cn cs a ccd cl outer A₀ base h₀ L m s Q E B F X N T hk hd hu hret
    refine wpAny_call ?_
    k_dflt (refine' code_defC ?k1 ?k2 ?k3 ?k4 ?k5 ?kA ?kF ?kK ?k6 ?k7 ?k8 ?k9 ?kB ?kD ?_ ?c2 ?c3 ?c4; (case kA => exact rfl); (case kF => exact rfl); (case kK => assumption); (case k1 => k_asm); (case k2 => k_asm); (case k3 => k_asm); (case k4 => k_asm); (case k5 => k_asm); (case k6 => k_is); (case k7 => k_is); (case k8 => ktr_room); (case k9 => exact BindsTo.of_eq rfl); (case kB => exact rfl); (case kD => decide +kernel); (case c2 => exact rfl); (case c3 => exact rfl); (case c4 => exact rfl); k_whole)
    intro g' L' h' tk' cells' FG' F' N' Y' B' X' T' l1
    (try k_lt l1)
    k_cells Y'
    (try simp only [List.cons_append, List.nil_append] at N')
    (try dsimp only)
    (try k_fold)
    k_steps)
  k_with "ALLNE" => (repeat' (first | exact AllNe.nil | assumption | exact AllNe.of (by assumption) | exact AllNe.ofLt (by assumption) | refine AllNe.cons ?_ ?_ | omega))
  k_with "SEL" => (first | exact Sel.head | (refine' Sel.tail ?b; (case b => k_extra "SEL")))
  k_with "DIP" => (
    k_here
    (with_reducible show wpAny _ _ (call (Value.ref 491) _) _ _ _)
    k_dflt (refine' dip_use ?k1 ?k2 ?k3 ?k4 ?k5 ?kK ?sel ?off ?h0 ?h1 ?hv ?hl ?hm ?hm2 ?kd ?ku ?_; (case k1 => k_asm); (case k2 => k_asm); (case k3 => k_asm); (case k4 => k_asm); (case k5 => k_asm); (case kK => first | exact rfl | assumption); (case sel => k_extra "SEL"); (case off => k_extra "ALLNE"); (case h0 => omega); (case h1 => omega); (case hv => assumption); (case hl => assumption); (case hm => omega); (case hm2 => omega); (case kd => ktr_room); (case ku => ktr_units))
    intro k9 t9 t9' n9 h9 tk9 F9 N9 hlo9 hhi9
    (try dsimp only))
  trivial

set_option maxHeartbeats 4000000 in
theorem let_c (w : World) (mean : ExcName → Option Value) (mg mb : Str → Option Value) (tub : Addr) (at_ : Int) (h0 : 0 ≤ at_) (h1 : at_ ≤ 90000) (ta : Tok) (vs : List Value) (ns : List Int) (hv : IntsAre vs ns) (hl : ns.length ≤ 1000) (n : Nat) (many : Nat) (hm2 : many ≤ 20) (tm : Tok)
    (rest : List (Addr × Obj)) (hoff : OwnOff rest [tub]) :
    Fn w mean mg mb 496 [.ref tub, .int many tm] 2 ((tub, lst (.int at_ ta :: vs) n) :: rest) (fun r led' => (∃ x t, r = .str x t ∧ x.length = many) ∧ ∃ t n', led' = (tub, lst (.int (at_ + many) t :: vs) n') :: rest) := by
  k_extra "ENTERC"
  rename_i F1 o1 d1 N1 h2 tk2 t2 u2 v2 isr F2 N2 keep2
  refine Stop.go ?_
  have d1' : o1.data = .cell (some (.ref tub)) := d1
  clear d1 F1 N1
  refine LCg.CompSrc.range (by rfl) F2 N2 isr (small_one (by omega) (by omega) (by omega) (by omega)) (rangeSize_nat _ _) (by rw [PySem.sizeLine_eq]; omega) ?_
  intro g9
  refine rest_inv (fun i ys nw => ∃ t n', nw = (L' + 1, o1) :: (tub, lst (.int (at_ + i) t :: vs) n') :: rest ∧ ∃ xs : List Str, CarriedAll ys (xs.map PyData.str) ∧ (∀ a ∈ xs, a.length = 1) ∧ xs.length = i) ?_ ?_ ?_
  · exact ⟨ta, n, by simp, [], .nil, by simp, rfl⟩
  · rintro i ys nw v I oI C oC D m₂ h tk E' hi ⟨t, n', rfl, xs, hc, h1x, hlen⟩ hv9 hC hx F3 N3 off ne
    obtain ⟨tv, rfl⟩ := hv9
    simp only [LCg.Off3] at off
    k_steps
    rename_i hlen1
    refine Stop.go ?_
    refine LCg.CompEnd.intro F9 N9 ((L' + 1, o1) :: (tub, lst (.int (at_ + i + 1) t9' :: vs) n9) :: rest) ?_ off trivial ⟨t9', n9, ?_, xs ++ [Txt.item (Str.ofString "abc") k9], ?_, ?_, ?_⟩
    · intro p hp
      simp only [List.mem_cons] at hp ⊢
      rcases hp with h | h | h | h | h | h <;> simp [h]
    · rw [show at_ + ((i + 1 : Nat) : Int) = at_ + i + 1 by omega]
    · rw [List.map_append]
      exact CarriedAll.snoc hc (.str _ _)
    · intro a ha
      rcases List.mem_append.mp ha with h | h
      · exact h1x a h
      · rw [List.mem_singleton.mp h]; exact hlen1
    · rw [List.length_append, hlen]; rfl
  · rintro ys nw ⟨t, n', rfl, xs, hc, h1x, hlen⟩
    intro D h tk F3 N3 off
    k_steps
    refine Stop.go ?_
    refine KT.join_1 (g := id) (l := xs) (News.isList N3 (.head _)) hc h1x (by omega) ?_
    intro t' k hlen'
    k_steps
    rename_i kF kN _ _
    refine hret _ _ _ _ kF (fun p hp => kN p (.tail _ (.tail _ hp))) ⟨⟨_, _, rfl, ?_⟩, t, n', ?_⟩
    · rw [hlen', hlen]; omega
    · rw [show ((((many : Int) - 0).toNat : Nat) : Int) = many by omega]

end
end Mine
end

/- part QPure -/
section
open PySem PySem.W PySem.Calls PyProof.Rows
namespace Mine
section
theorem freshQPure : True := by
  k_with_none
  trivial
set_option maxRecDepth 100000

/-! the plain law: no program in sight -/
def lvOff (n : Nat) (e : Bool) (d : Nat) : Int := if e then (if d = 0 then (n : Int) else -(d : Int)) else d
def lawBegin (n : Nat) (e : Bool) (d : Nat) : Int := if e then (n : Int) - d else d
def lawEnd (n : Nat) (begin : Int) (c : Option Int) : Int := match c with | none => (n : Int) | some k => if k < 0 then (n : Int) + k else begin + k

theorem spanOf_law (n : Nat) (e : Bool) (d : Nat) (c : Option Int) :
    spanOf n (lvOff n e d) c = (if lawBegin n e d > n then none else if lawEnd n (lawBegin n e d) c < 0 ∧ lawBegin n e d < 0 then none else
      some (max (lawBegin n e d) 0, min (max (lawEnd n (lawBegin n e d) c) (max (lawBegin n e d) 0)) n)) := by
  have hb : (if lvOff n e d < 0 then (n : Int) + lvOff n e d else lvOff n e d) = lawBegin n e d := by
    unfold lvOff lawBegin
    cases e <;> simp <;> omega
  unfold spanOf lawEnd
  dsimp only
  rw [hb]
  all_goals (cases c <;> rfl)

theorem spanOf_bounds {n : Nat} {off : Int} {c : Option Int} {b e : Int} (h : spanOf n off c = some (b, e)) : 0 ≤ b ∧ b ≤ e ∧ e ≤ n := by
  have key : ∀ bg en : Int, (if bg > n then none else if en < 0 ∧ bg < 0 then none else some (max bg 0, min (max en (max bg 0)) n)) = some (b, e) → 0 ≤ b ∧ b ≤ e ∧ e ≤ n := by
    intro bg en h
    by_cases h1 : bg > n
    · rw [if_pos h1] at h; cases h
    · rw [if_neg h1] at h
      by_cases h2 : en < 0 ∧ bg < 0
      · rw [if_pos h2] at h; cases h
      · rw [if_neg h2] at h
        injection h with h
        injection h with hb he
        subst hb he
        omega
  cases c with
  | none => exact key _ _ h
  | some k => exact key _ _ h

def flat (xs : List Str) : List Nat := (xs.map fun a => a.cps.toList).flatten
theorem join_flat : ∀ xs : List Str, (Str.join (Str.ofString "") xs).cps.toList = flat xs
  | [] => rfl
  | [x] => by simp [Str.join, flat]
  | x :: y :: r => by
    have ih := join_flat (y :: r)
    show ((x ++ Str.ofString "") ++ Str.join (Str.ofString "") (y :: r)).cps.toList = _
    rw [Str.cps_append, Str.cps_append, Array.toList_append, Array.toList_append, ih, (by decide : (Str.ofString "").cps.toList = [])]
    simp [flat]
theorem txt_join_flat (xs : List Str) : (Txt.join (Str.ofString "") xs).cps.toList = flat xs := by
  show (Builtin.Str.glued (Str.ofString "") xs).cps.toList = _
  rw [StrLaws.glued_eq_join, join_flat]

theorem slice_eq {x : Str} {i j : Int} (h0 : 0 ≤ i) (h1 : i ≤ j) (h2 : j ≤ x.length) : Txt.slice x (some i) (some j) = ⟨((x.cps.toList.drop i.toNat).take (j - i).toNat).toArray⟩ := eq_of_beq (slice_closesL h0 h1 h2)
theorem slice_to_eq {x : Str} {j : Int} (h0 : 0 ≤ j) (h2 : j ≤ x.length) : Txt.slice x none (some j) = ⟨(x.cps.toList.take j.toNat).toArray⟩ := by
  have := eq_of_beq (slice_closes_toL h0 h2)
  simpa using this
theorem slice_from {x : Str} {i : Int} (h0 : 0 ≤ i) (h2 : i ≤ x.length) : Txt.slice x (some i) none = ⟨(x.cps.toList.drop i.toNat).toArray⟩ := by
  have := eq_of_beq (slice_closes_fromL h0 h2 (b := (x.length : Int)) rfl)
  rw [this, List.take_of_length_le]
  rw [List.length_drop]
  have : x.cps.toList.length = x.length := Array.length_toList
  omega
theorem slice_len {x : Str} {i j : Int} (h0 : 0 ≤ i) (h1 : i ≤ j) (h2 : j ≤ x.length) : ((Txt.slice x (some i) (some j)).length : Int) = j - i := by
  rw [slice_eq h0 h1 h2]
  show (((((x.cps.toList.drop i.toNat).take (j - i).toNat).toArray).size : Nat) : Int) = _
  rw [List.size_toArray, List.length_take, List.length_drop]
  have : x.cps.toList.length = x.length := Array.length_toList
  omega
theorem str_ext {x y : Str} (h : x.cps.toList = y.cps.toList) : x = y := by
  obtain ⟨⟨l⟩⟩ := x
  obtain ⟨⟨r⟩⟩ := y
  simp only at h
  rw [h]
theorem drop_take_slice (l : List Nat) (b e : Nat) : (l.take e).drop b = (l.drop b).take (e - b) := by rw [List.drop_take]

theorem item_eq {x : Str} {i : Nat} (h : i < x.length) : (Txt.item x (i : Int)).cps.toList = [x.cps.toList[i]'(by rw [Array.length_toList]; exact h)] := by
  have hi : i < x.cps.size := h
  have e : Txt.charAt x (i : Int) = some x.cps[i] := by
    unfold Txt.charAt
    have : seqIndex? (i : Int) x.length = some i := by
      unfold seqIndex?
      simp [h]
      omega
    rw [this]
    simp
  unfold Txt.item
  rw [e]
  simp
theorem flat_yes {x : Str} {xs : List Str} {i : Nat} {bg en : Int} (hi : i < x.length) (h1 : bg ≤ i) (h2 : (i : Int) < en)
    (h : flat xs = (x.cps.toList.take (min i (min (max en (max bg 0)) (x.length : Int)).toNat)).drop (max bg 0).toNat) :
    flat (xs ++ [Txt.item x (i : Int)]) = (x.cps.toList.take (min (i + 1) (min (max en (max bg 0)) (x.length : Int)).toNat)).drop (max bg 0).toNat := by
  have hl : x.cps.toList.length = x.length := Array.length_toList
  have e1 : min i (min (max en (max bg 0)) (x.length : Int)).toNat = i := by omega
  have e2 : min (i + 1) (min (max en (max bg 0)) (x.length : Int)).toNat = i + 1 := by omega
  rw [e1] at h
  rw [e2]
  have hf : flat (xs ++ [Txt.item x (i : Int)]) = flat xs ++ [x.cps.toList[i]'(by omega)] := by
    unfold flat
    rw [List.map_append, List.flatten_append]
    simp [item_eq hi]
  rw [hf, h, List.take_add_one, List.getElem?_eq_getElem (by omega), List.drop_append_of_le_length (by rw [List.length_take]; omega)]
  rfl
theorem flat_no {l : List Nat} {n i : Nat} {bg en : Int} (hi : i < n) (hl : l.length = n) (h : ¬ (bg ≤ i ∧ (i : Int) < en)) :
    (l.take (min (i + 1) (min (max en (max bg 0)) (n : Int)).toNat)).drop (max bg 0).toNat = (l.take (min i (min (max en (max bg 0)) (n : Int)).toNat)).drop (max bg 0).toNat := by
  obtain ⟨B, hB⟩ : ∃ B : Nat, (max bg 0).toNat = B := ⟨_, rfl⟩
  obtain ⟨E, hE⟩ : ∃ E : Nat, (min (max en (max bg 0)) (n : Int)).toNat = E := ⟨_, rfl⟩
  by_cases h1 : (i : Int) < bg
  · have hb : i + 1 ≤ B := by omega
    rw [hB, hE]
    clear hE hB h hi h1
    rw [List.drop_eq_nil_of_le, List.drop_eq_nil_of_le]
    · rw [List.length_take]; omega
    · rw [List.length_take]; omega
  · have h2 : en ≤ i := by omega
    have h3 : max en (max bg 0) ≤ i := Int.max_le.mpr ⟨h2, Int.max_le.mpr ⟨by omega, by omega⟩⟩
    have h4 : E ≤ i := by
      rw [← hE]
      exact Int.toNat_le.mpr (Int.le_trans (Int.min_le_left _ _) h3)
    rw [hE, Nat.min_eq_right h4, Nat.min_eq_right (Nat.le_succ_of_le h4)]
theorem flat_end {x : Str} {xs : List Str} {bg en : Int} (hb : bg ≤ x.length) (h : flat xs = (x.cps.toList.take (min x.length (min (max en (max bg 0)) (x.length : Int)).toNat)).drop (max bg 0).toNat) :
    Txt.join (Str.ofString "") xs = Txt.slice x (some (max bg 0)) (some (min (max en (max bg 0)) (x.length : Int))) := by
  refine str_ext ?_
  obtain ⟨b, rfl⟩ : ∃ b : Nat, bg.toNat = b := ⟨_, rfl⟩
  have hB : max bg 0 = (bg.toNat : Int) := by omega
  rw [hB] at h ⊢
  have hbn : bg.toNat ≤ x.length := by omega
  generalize bg.toNat = b at h hbn ⊢
  clear hB hb
  obtain ⟨E, hE, h1, h2⟩ : ∃ E : Nat, min (max en (b : Int)) (x.length : Int) = (E : Int) ∧ b ≤ E ∧ E ≤ x.length := ⟨(min (max en (b : Int)) (x.length : Int)).toNat, by omega, by omega, by omega⟩
  rw [hE] at h ⊢
  rw [Int.toNat_natCast, Int.toNat_natCast, Nat.min_eq_right h2] at h
  rw [txt_join_flat, h, slice_eq (by omega) (by omega) (by omega)]
  show _ = (x.cps.toList.drop ((b : Int)).toNat).take _
  rw [drop_take_slice, Int.toNat_natCast]
  congr 1
  omega
end
end Mine
end

/- part QCut -/
section
open PySem PySem.W PySem.Calls PyProof.Rows
namespace Mine
section
theorem freshQCut : True := by
  k_with_none
  trivial
set_option maxRecDepth 100000

section
variable {prog : Program} {w : World} {A : Around} {E : Value → Shared → Prop} {s : Shared} {h₀ : Heap} {L l : Addr} {news : List (Addr × Obj)} {value slice : Expr} {a b c : Value} {n : Nat} {u : Tok} {Q : Value → Shared → Prop}
theorem item3_0 (N : News h₀ L s.heap news) (hm : (l, lst [a, b, c] n) ∈ news) (h : Q a s)
    (hs : subscripted slice false (.ref l) (.int 0 u) = operate [.ref l, .int 0 u] (getItem (.ref l) (.int 0 u))) (hg : ∀ r, letTemporaryGo value (.ref l) r = pure ()) :
    wpAny (model prog w) A (subscriptTail value slice (.ref l) (.int 0 u)) Q E s := item_list (News.isList N hm) (by decide) (by decide) rfl h hs hg
theorem item3_1 (N : News h₀ L s.heap news) (hm : (l, lst [a, b, c] n) ∈ news) (h : Q b s)
    (hs : subscripted slice false (.ref l) (.int 1 u) = operate [.ref l, .int 1 u] (getItem (.ref l) (.int 1 u))) (hg : ∀ r, letTemporaryGo value (.ref l) r = pure ()) :
    wpAny (model prog w) A (subscriptTail value slice (.ref l) (.int 1 u)) Q E s := item_list (News.isList N hm) (by decide) (by decide) rfl h hs hg
theorem item3_2 (N : News h₀ L s.heap news) (hm : (l, lst [a, b, c] n) ∈ news) (h : Q c s)
    (hs : subscripted slice false (.ref l) (.int 2 u) = operate [.ref l, .int 2 u] (getItem (.ref l) (.int 2 u))) (hg : ∀ r, letTemporaryGo value (.ref l) r = pure ()) :
    wpAny (model prog w) A (subscriptTail value slice (.ref l) (.int 2 u)) Q E s := item_list (News.isList N hm) (by decide) (by decide) rfl h hs hg
end

theorem words4 : True := by
  k_with "ENTER" => (
    unfold Fn
    k_fill
    intro dp un gd cn cs a ccd cl outer A₀ base h₀ L m s Q E B F X N T hk hd hu hret
    refine wpAny_call ?_
    k_dflt ktr_enter
    k_steps)
  k_with "ENTERC" => (
    unfold Fn
    k_fill
    intro dp un gd cn cs a ccd cl outer A₀ base h₀ L m s Q E B F X N T hk hd hu hret
    refine wpAny_call ?_
    k_dflt (refine' code_defC ?k1 ?k2 ?k3 ?k4 ?k5 ?kA ?kF ?kK ?k6 ?k7 ?k8 ?k9 ?kB ?kD ?_ ?c2 ?c3 ?c4; (case kA => exact rfl); (case kF => exact rfl); (case kK => assumption); (case k1 => k_asm); (case k2 => k_asm); (case k3 => k_asm); (case k4 => k_asm); (case k5 => k_asm); (case k6 => k_is); (case k7 => k_is); (case k8 => ktr_room); (case k9 => exact BindsTo.of_eq rfl); (case kB => exact rfl); (case kD => decide +kernel); (case c2 => exact rfl); (case c3 => exact rfl); (case c4 => exact rfl); k_whole)
    intro g' L' h' tk' cells' FG' F' N' Y' B' X' T' l1
    (try k_lt l1)
    k_cells Y'
    (try simp only [List.cons_append, List.nil_append] at N')
    (try dsimp only)
    (try k_fold)
    k_steps)
  k_with "ITEM" => (
    (with_reducible show wpAny _ _ (subscriptTail _ _ (Value.ref _) (Value.int _ _)) _ _ _)
    (first
      | ((with_reducible show wpAny _ _ (subscriptTail _ _ (Value.ref _) (Value.int 0 _)) _ _ _); k_dflt (refine' item3_0 ?hN ?hm ?_ ?hs ?hg))
      | ((with_reducible show wpAny _ _ (subscriptTail _ _ (Value.ref _) (Value.int 1 _)) _ _ _); k_dflt (refine' item3_1 ?hN ?hm ?_ ?hs ?hg))
      | ((with_reducible show wpAny _ _ (subscriptTail _ _ (Value.ref _) (Value.int 2 _)) _ _ _); k_dflt (refine' item3_2 ?hN ?hm ?_ ?hs ?hg)))
    (case hN => k_asm)
    (case hm => k_dflt k_mem)
    (case hs => with_unfolding_all rfl)
    (case hg => intro _; with_unfolding_all rfl)
    k_whole)
  k_with "subscriptTail Name Constant ref int" => k_extra "ITEM"
  trivial

abbrev plObj (e : Bool) (d : Nat) (td : Tok) (c : Option Int) (tc : Tok) (n : Nat) : Obj := lst [.bool e, .int d td, cval c tc] n

set_option maxHeartbeats 4000000 in
theorem begin_at (w : World) (mean : ExcName → Option Value) (mg mb : Str → Option Value) (pa : Addr) (e : Bool) (d : Nat) (td : Tok) (cv : Value) (k n : Nat) (hn : n ≤ 100) (hd : d ≤ 1000) (t : Tok)
    (led : List (Addr × Obj)) (hm : (pa, lst [.bool e, .int d td, cv] k) ∈ led) :
    Fn w mean mg mb 503 [.ref pa, .int n t] 1 led (fun r led' => (∃ t, r = .int (lawBegin n e d) t) ∧ led' = led) := by
  unfold lawBegin
  cases e with
  | true =>
    k_extra "ENTER"
    all_goals exact hret _ _ _ _ (by k_asm) (by k_asm) ⟨⟨_, rfl⟩, rfl⟩
  | false =>
    k_extra "ENTER"
    all_goals exact hret _ _ _ _ (by k_asm) (by k_asm) ⟨⟨_, rfl⟩, rfl⟩

end
end Mine
end

/- part QCut2 -/
section
open PySem PySem.W PySem.Calls PyProof.Rows
namespace Mine
section
theorem freshQCut2 : True := by
  k_with_none
  trivial
set_option maxRecDepth 100000

theorem allLt_ne {a b : Addr} {l : List (Addr × Obj)} (h : AllLt a l) (hab : @LE.le Nat _ a b) : ∀ p ∈ l, p.1 ≠ b := fun p hp q => by
  have h1 : @LT.lt Nat _ p.1 a := ktn_ltOf h p hp
  have h2 : @Eq Nat p.1 b := q
  omega
theorem lt_ne {a b : Addr} {l : List (Addr × Obj)} (h : ∀ p ∈ l, p.1 < a) (hab : @LE.le Nat _ a b) : ∀ p ∈ l, p.1 ≠ b := allLt_ne (allLt_of h) hab
local macro_rules | `(tactic| k_all) => `(tactic| exact lt_ne (by assumption) (by omega))
local macro_rules | `(tactic| k_mem) => `(tactic| k_dflt assumption)
local macro_rules | `(tactic| k_all) => `(tactic| exact allLt_ne (by assumption) (by omega))

theorem words5 : True := by
  k_with "STOPCOMP" => (refine stop_of ?_)
  k_with "ENTERC" => (
    unfold Fn
    k_fill
    intro dp un gd cn cs a ccd cl outer A₀ base h₀ L m s Q E B F X N T hk hd hu hret
    refine wpAny_call ?_
    k_dflt (refine' code_defC ?k1 ?k2 ?k3 ?k4 ?k5 ?kA ?kF ?kK ?k6 ?k7 ?k8 ?k9 ?kB ?kD ?_ ?c2 ?c3 ?c4; (case kA => exact rfl); (case kF => exact rfl); (case kK => assumption); (case k1 => k_asm); (case k2 => k_asm); (case k3 => k_asm); (case k4 => k_asm); (case k5 => k_asm); (case k6 => k_is); (case k7 => k_is); (case k8 => ktr_room); (case k9 => exact BindsTo.of_eq rfl); (case kB => exact rfl); (case kD => decide +kernel); (case c2 => exact rfl); (case c3 => exact rfl); (case c4 => exact rfl); k_whole)
    intro g' L' h' tk' cells' FG' F' N' Y' B' X' T' l1
    (try k_lt l1)
    k_cells Y'
    (try simp only [List.cons_append, List.nil_append] at N')
    (try dsimp only)
    (try k_fold)
    k_steps)
  k_with "ITEM" => (
    (with_reducible show wpAny _ _ (subscriptTail _ _ (Value.ref _) (Value.int _ _)) _ _ _)
    (first
      | ((with_reducible show wpAny _ _ (subscriptTail _ _ (Value.ref _) (Value.int 0 _)) _ _ _); k_dflt (refine' item3_0 ?hN ?hm ?_ ?hs ?hg))
      | ((with_reducible show wpAny _ _ (subscriptTail _ _ (Value.ref _) (Value.int 1 _)) _ _ _); k_dflt (refine' item3_1 ?hN ?hm ?_ ?hs ?hg))
      | ((with_reducible show wpAny _ _ (subscriptTail _ _ (Value.ref _) (Value.int 2 _)) _ _ _); k_dflt (refine' item3_2 ?hN ?hm ?_ ?hs ?hg)))
    (case hN => k_asm)
    (case hm => k_dflt k_mem)
    (case hs => with_unfolding_all rfl)
    (case hg => intro _; with_unfolding_all rfl)
    k_whole)
  k_with "subscriptTail Name Constant ref int" => k_extra "ITEM"
  k_with "USE" => (
    (case k1 => k_asm)
    (case k2 => k_asm)
    (case k3 => k_asm)
    (case k5 => k_asm)
    (case kK => first | exact rfl | assumption)
    (case kd => ktr_room)
    (case ku => ktr_units)
    intro r9 led9 h9 tk9 F9 N9 P9)
  k_with "BEGIN" => (
    k_here
    (with_reducible show wpAny _ _ (call (Value.ref 503) _) _ _ _)
    k_dflt (refine' Fn.use ?k1 ?k2 ?k3 ?k4 ?k5 ?kK (begin_at _ _ _ _ _ _ _ _ _ _ _ ?a1 ?a2 _ _ ?a3) ?kd ?ku ?_)
    (case k4 => k_asm)
    (case a3 => k_dflt k_mem)
    (case a1 => omega)
    (case a2 => omega)
    k_extra "USE"
    obtain ⟨⟨t9, hr9⟩, hl9⟩ := P9
    subst hr9 hl9
    (try dsimp only))
  trivial

abbrev tupSt (b : Int) (t : Tok) (y : Str) (ty : Tok) : Obj := { cls := .type "tuple", data := .seq #[.int b t, .str y ty] 0 }
def CutPost (x : Str) (led : List (Addr × Obj)) (o : Option (Int × Int)) (r : Value) (led' : List (Addr × Obj)) : Prop :=
  match o with
  | none => r = .none ∧ led' = led
  | some p => ∃ d t t', r = .ref d ∧ led' = (d, tupSt p.1 t (Txt.slice x (some p.1) (some p.2)) t') :: led ∧ ∀ q ∈ led, q.1 < d

theorem carried_snoc {ys : List Value} {xs : List Str} {z : Str} {t : Tok} (h : CarriedAll ys (xs.map PyData.str)) : CarriedAll (ys ++ [.str z t]) ((xs ++ [z]).map PyData.str) := by
  rw [List.map_append]
  exact CarriedAll.snoc h (.str _ _)

theorem news_keep {h₀ h : Heap} {L : Addr} {a b c d e : Addr × Obj} {led : List (Addr × Obj)} (N : News h₀ L h (a :: b :: c :: d :: e :: led)) : News h₀ L h (a :: led) := fun p hp => by
  rcases List.mem_cons.mp hp with h | h
  · rw [h]; exact N _ (.head _)
  · exact N _ (.tail _ (.tail _ (.tail _ (.tail _ (.tail _ h)))))

theorem words6 : True := by
  k_with "CUT_END" => (
    rename_i h2 tk2 t2 u2 v2 isr F2 N2 keep2
    refine Stop.go ?_
    have hcells : ∃ oE oB oT, News g' L' h2 ((L' + 1 + 1 + 1, oE) :: (L' + 1 + 1, oB) :: (L' + 1, oT) :: led) ∧ (∃ te, oE.data = .cell (some (.int en0 te))) ∧ (∃ tb, oB.data = .cell (some (.int (lawBegin x.length e d) tb))) ∧ oT.data = .cell (some (.str x tx)) := by
      refine ⟨_, _, _, fun p hp => N2 p (.tail _ hp), ?_, ?_, ?_⟩
      · first
          | exact ⟨_, by rw [hen0]; assumption⟩
          | exact ⟨_, by rw [show en0 = (x.length : Int) + kc by omega]; assumption⟩
          | exact ⟨_, by rw [show en0 = lawBegin x.length e d + kc by omega]; assumption⟩
      · exact ⟨_, by assumption⟩
      · assumption
    obtain ⟨oE, oB, oT, N4, ⟨te, dE⟩, ⟨tb, dB⟩, dT⟩ := hcells
    refine LCt.CompSrcT.range (by rfl) F2 N4 isr (small_one (by omega) (by omega) (by omega) (by omega)) (rangeSize_nat _ _) (by rw [PySem.sizeLine_eq]; omega) ?_
    clear N2 keep2
    intro g9
    refine restT_inv (fun i ys nw => nw = (L' + 1 + 1 + 1, oE) :: (L' + 1 + 1, oB) :: (L' + 1, oT) :: led ∧ ∃ xs : List Str, CarriedAll ys (xs.map PyData.str) ∧ (∀ a ∈ xs, a.length = 1) ∧ xs.length ≤ i ∧
      flat xs = (x.cps.toList.take (min i (min (max en0 (max (lawBegin x.length e d) 0)) (x.length : Int)).toNat)).drop (max (lawBegin x.length e d) 0).toNat) ⟨rfl, [], .nil, by simp, by simp, by simp [flat]⟩ ?_ ?_
    · rintro i ys nw v I oI C oC D m₂ h tk E' hi ⟨rfl, xs, hc9, h1x, hlen, hfl⟩ hv9 hC hx9 F3 N3 off ne
      obtain ⟨tv, rfl⟩ := hv9
      simp only [LCg.Off3] at off
      rw [Int.sub_zero, Int.toNat_natCast] at hi
      k_steps
      all_goals (
        refine Stop.go ?_
        refine LCg.CompEnd.intro (by assumption) N3 ((L' + 1 + 1 + 1, oE) :: (L' + 1 + 1, oB) :: (L' + 1, oT) :: led) (fun p hp => hp) off trivial ?_
        first
          | refine ⟨rfl, xs ++ [_], carried_snoc hc9, fun a ha => ?_, by rw [List.length_append]; exact Nat.succ_le_succ hlen, ?_⟩
          | exact ⟨rfl, xs, hc9, h1x, Nat.le_succ_of_le hlen, hfl.trans (flat_no hi Array.length_toList (by omega)).symm⟩)
      all_goals first
        | (rcases List.mem_append.mp ha with h | h; exact h1x a h; (rw [List.mem_singleton.mp h]; omega))
        | (rw [Int.zero_add]; exact flat_yes hi (by omega) (by omega) hfl)
    · rintro ys nw ⟨rfl, xs, hc9, h1x, hlen, hfl⟩
      intro D h tk F3 N3 off
      have hlt3 : ∀ q ∈ led, q.1 < h.objs.size := fun q hq => Heap.lt_size (N3 q (by simp [hq])).1
      k_steps
      refine Stop.go ?_
      refine KT.join_1 (g := id) (l := xs) (News.isList N3 (.head _)) hc9 h1x (by omega) ?_
      intro t' k hlen'
      k_steps
      rename_i kF kN _ _
      refine hret _ _ _ _ kF (news_keep kN) (CutPost.some (b := max (lawBegin x.length e d) 0) (e := min (max en0 (max (lawBegin x.length e d) 0)) (x.length : Int)) ?_ ?_ ?_ hlt3)
      · omega
      · rw [List.map_id]
        refine flat_end (by omega) (hfl.trans ?_)
        rw [show ((x.length : Int) - 0).toNat = x.length by omega]
      · rw [← hen0, if_neg (by omega), if_neg (by omega)])
  trivial

theorem CutPost.none {x : Str} {led : List (Addr × Obj)} {o : Option (Int × Int)} (h : o = Option.none) : CutPost x led o .none led := by subst h; exact ⟨rfl, rfl⟩

theorem CutPost.some {x : Str} {led : List (Addr × Obj)} {o : Option (Int × Int)} {d : Addr} {b e b' : Int} {y : Str} {t t' : Tok} (hb : b' = b) (hy : y = Txt.slice x (some b) (some e)) (ho : o = Option.some (b, e)) (hl : ∀ q ∈ led, q.1 < d) :
    CutPost x led o (.ref d) ((d, tupSt b' t y t') :: led) := by
  subst hb hy ho
  exact ⟨d, t, t', rfl, rfl, hl⟩

set_option maxHeartbeats 4000000 in
theorem cut_c (w : World) (mean : ExcName → Option Value) (mg mb : Str → Option Value) (pa : Addr) (e : Bool) (d : Nat) (td : Tok) (c : Option Int) (hc : ∀ k, c = some k → -1000 ≤ k ∧ k ≤ 1000) (tc : Tok) (k : Nat) (hd : d ≤ 1000) (x : Str) (hx : x.length ≤ 100) (tx : Tok)
    (led : List (Addr × Obj)) (hm : (pa, plObj e d td c tc k) ∈ led) :
    Fn w mean mg mb 508 [.ref pa, .str x tx] 2 led (CutPost x led (spanOf x.length (lvOff x.length e d) c)) := by
  rw [spanOf_law]
  have hbg : -1000 ≤ lawBegin x.length e d ∧ lawBegin x.length e d ≤ 1000 := by unfold lawBegin; split <;> omega
  cases c with
  | none =>
    obtain ⟨en0, hen0⟩ : ∃ z, z = lawEnd x.length (lawBegin x.length e d) none := ⟨_, rfl⟩
    have hen : en0 = (x.length : Int) := hen0
    replace hm : (pa, lst [.bool e, .int d td, .none] k) ∈ led := hm
    k_extra "ENTERC"
    · refine hret _ _ _ _ (by k_asm) (fun p hp => (by with_reducible assumption : News h₀ L _ _) p (by simp [hp])) (CutPost.none ?_)
      rw [if_pos (by omega)]
    · k_extra "CUT_END"
    · k_extra "CUT_END"
  | some kc =>
    obtain ⟨en0, hen0⟩ : ∃ z, z = lawEnd x.length (lawBegin x.length e d) (some kc) := ⟨_, rfl⟩
    have hen : en0 = if kc < 0 then (x.length : Int) + kc else lawBegin x.length e d + kc := hen0
    have hkc := hc kc rfl
    replace hm : (pa, lst [.bool e, .int d td, .int kc tc] k) ∈ led := hm
    k_extra "ENTERC"
    all_goals first
      | (refine hret _ _ _ _ (by k_asm) (fun p hp => (by with_reducible assumption : News h₀ L _ _) p (by simp [hp])) (CutPost.none ?_); first | rw [if_pos (by omega)] | rw [if_neg (by omega), ← hen0, if_pos (by omega)])
      | k_extra "CUT_END"

end
end Mine
end

/- part QLPut -/
section
open PySem PySem.W PySem.Calls PyProof.Rows
namespace Mine
section
theorem freshQLPut : True := by
  k_with_none
  trivial
set_option maxRecDepth 100000

local macro_rules | `(tactic| k_all) => `(tactic| exact lt_ne (by assumption) (by omega))
local macro_rules | `(tactic| k_all) => `(tactic| exact allLt_ne (by assumption) (by omega))
local macro_rules | `(tactic| k_all) => `(tactic| exact OwnOff.ne (by assumption) (List.Mem.head _))
local macro_rules | `(tactic| k_mem) => `(tactic| k_dflt assumption)

theorem CutPost.cases {x : Str} {off : Int} {c : Option Int} {led led' : List (Addr × Obj)} {r : Value} (h : CutPost x led (spanOf x.length off c) r led') :
    (spanOf x.length off c = Option.none ∧ r = .none ∧ led' = led) ∨ ∃ b e z d t t', spanOf x.length off c = Option.some (b, e) ∧ z = Txt.slice x (Option.some b) (Option.some e) ∧ (z.length : Int) = e - b ∧ 0 ≤ b ∧ b ≤ e ∧ e ≤ x.length ∧
      r = .ref d ∧ led' = (d, tupSt b t z t') :: led ∧ ∀ q ∈ led, q.1 < d := by
  generalize ho : spanOf x.length off c = o at h
  cases o with
  | none => exact .inl ⟨rfl, h.1, h.2⟩
  | some p =>
    obtain ⟨d, t, t', h1, h2, h3⟩ := h
    obtain ⟨b, e⟩ := p
    have hb := spanOf_bounds ho
    exact .inr ⟨b, e, _, d, t, t', rfl, rfl, slice_len hb.1 hb.2.1 hb.2.2, hb.1, hb.2.1, hb.2.2, h1, h2, h3⟩

theorem words7 : True := by
  k_with "ENTER" => (
    unfold Fn
    k_fill
    intro dp un gd cn cs a ccd cl outer A₀ base h₀ L m s Q E B F X N T hk hd hu hret
    refine wpAny_call ?_
    k_dflt ktr_enter
    k_steps)
  k_with "ITEM" => (
    (with_reducible show wpAny _ _ (subscriptTail _ _ (Value.ref _) (Value.int _ _)) _ _ _)
    (first
      | ((with_reducible show wpAny _ _ (subscriptTail _ _ (Value.ref _) (Value.int 0 _)) _ _ _); k_dflt (refine' item3_0 ?hN ?hm ?_ ?hs ?hg))
      | ((with_reducible show wpAny _ _ (subscriptTail _ _ (Value.ref _) (Value.int 1 _)) _ _ _); k_dflt (refine' item3_1 ?hN ?hm ?_ ?hs ?hg))
      | ((with_reducible show wpAny _ _ (subscriptTail _ _ (Value.ref _) (Value.int 2 _)) _ _ _); k_dflt (refine' item3_2 ?hN ?hm ?_ ?hs ?hg)))
    (case hN => k_asm)
    (case hm => k_dflt k_mem)
    (case hs => with_unfolding_all rfl)
    (case hg => intro _; with_unfolding_all rfl)
    k_whole)
  k_with "subscriptTail Name Constant ref int" => k_extra "ITEM"
  k_with "USE" => (
    (case k1 => k_asm)
    (case k2 => k_asm)
    (case k3 => k_asm)
    (case k5 => k_asm)
    (case kK => first | exact rfl | assumption)
    (case kd => ktr_room)
    (case ku => ktr_units)
    intro r9 led9 h9 tk9 F9 N9 P9)
  k_with "CUT" => (
    k_here
    (with_reducible show wpAny _ _ (call (Value.ref 508) _) _ _ _)
    k_dflt (refine' Fn.use ?k1 ?k2 ?k3 ?k4 ?k5 ?kK (cut_c w mean mg mb pa e d td c0 hc0 tc k ?a1 _ ?a2 _ _ ?a3) ?kd ?ku ?_)
    (case k4 => k_asm)
    (case a1 => omega)
    (case a2 => omega)
    (case a3 => exact hmc trivial)
    k_extra "USE"
    rcases P9.cases with ⟨ho9, hr9, hl9⟩ | ⟨b9, e9, z9, d9, t9, u9, ho9, hz9, hzl9, hb9, hbe9, hex9, hr9, hl9, l9⟩
    all_goals (subst hr9 hl9; (try k_lt l9); (try dsimp only)))
  trivial

structure LawPut where
  whole : Str
  d : Int
  c : Option Int
def putC (c : Option Int) (n : Int) : Option Int := match c with | none => none | some k => if 0 ≤ k then some n else some k
def lawPut (x : Str) (e : Bool) (d : Nat) (c : Option Int) (y : Str) (most : Int) : Option LawPut :=
  match spanOf x.length (lvOff x.length e d) c with
  | none => none
  | some (b, f) => if (x.length : Int) - (f - b) + y.length > most then none else
    some ⟨Txt.slice x none (some b) ++ y ++ Txt.slice x (some f) none, if e then (d : Int) + y.length - (f - b) else d, putC c y.length⟩

abbrev plObjI (e : Bool) (d : Int) (td : Tok) (c : Option Int) (tc : Tok) (n : Nat) : Obj := lst [.bool e, .int d td, cval c tc] n
def LPutPost (pa : Addr) (e : Bool) (rest led : List (Addr × Obj)) (o : Option LawPut) (r : Value) (led' : List (Addr × Obj)) : Prop :=
  match o with
  | none => r = .none ∧ led' = led
  | some p => ∃ t td tc k, r = .str p.whole t ∧ led' = (pa, plObjI e p.d td p.c tc k) :: rest

theorem lawPut_none1 {x : Str} {e : Bool} {d : Nat} {c : Option Int} {y : Str} {most : Int} (h : spanOf x.length (lvOff x.length e d) c = none) : lawPut x e d c y most = none := by unfold lawPut; rw [h]
theorem lawPut_none2 {x : Str} {e : Bool} {d : Nat} {c : Option Int} {y : Str} {most : Int} {b f : Int} (h : spanOf x.length (lvOff x.length e d) c = some (b, f)) (h2 : (x.length : Int) - (f - b) + y.length > most) : lawPut x e d c y most = none := by
  unfold lawPut; rw [h]; dsimp only; rw [if_pos h2]
theorem lawPut_some {x : Str} {e : Bool} {d : Nat} {c : Option Int} {y : Str} {most : Int} {b f : Int} (h : spanOf x.length (lvOff x.length e d) c = some (b, f)) (h2 : ¬ (x.length : Int) - (f - b) + y.length > most) :
    lawPut x e d c y most = some ⟨Txt.slice x none (some b) ++ y ++ Txt.slice x (some f) none, if e then (d : Int) + y.length - (f - b) else d, putC c y.length⟩ := by
  unfold lawPut; rw [h]; dsimp only; rw [if_neg h2]
theorem news_tl {h₀ h : Heap} {L : Addr} {a : Addr × Obj} {led : List (Addr × Obj)} (N : News h₀ L h (a :: led)) : News h₀ L h led := fun p hp => N p (.tail _ hp)
theorem LPutPost.none {pa : Addr} {e : Bool} {rest led : List (Addr × Obj)} {o : Option LawPut} (h : o = Option.none) : LPutPost pa e rest led o .none led := by subst h; exact ⟨rfl, rfl⟩
theorem LPutPost.mk {pa : Addr} {e : Bool} {rest led : List (Addr × Obj)} {o : Option LawPut} {p : LawPut} {z : Str} {t td : Tok} {dd : Int} {cv : Value} {k : Nat} (ho : o = Option.some p) (hz : z = p.whole) (hd : dd = p.d) (hc : ∃ tc, cv = cval p.c tc) :
    LPutPost pa e rest led o (.str z t) ((pa, lst [.bool e, .int dd td, cv] k) :: rest) := by
  obtain ⟨tc, hc⟩ := hc
  subst ho hz hd hc
  exact ⟨t, td, tc, k, rfl, rfl⟩

theorem words8 : True := by
  k_with "LP_END" => (
    first
      | (refine hret _ _ _ _ (by k_asm) (by k_asm) (LPutPost.none (lawPut_none1 ?_)); (rw [← hc0']; assumption))
      | (rename_i kF kN _ _
         first
           | (refine hret _ _ _ _ kF (news_tl kN) (LPutPost.none (lawPut_none2 (b := b9) (f := e9) ?_ ?_))
              · rw [← hc0']; assumption
              · omega)
           | (refine hret _ _ _ _ kF (news_tl kN) (LPutPost.mk (lawPut_some (b := b9) (f := e9) ?_ ?_) ?_ ?_ ?_)
              · rw [← hc0']; assumption
              · omega
              · rw [show b9 + (z9.length : Int) = e9 by omega]
              · dsimp only; first | (rw [if_pos (by assumption)]; omega) | (rw [if_neg (by rw [(by assumption : e = false)]; decide)])
              · unfold putC; dsimp only; first | exact ⟨(0 : Nat), rfl⟩ | exact ⟨_, by first | exact rfl | (rw [if_pos (by omega)]; exact rfl) | (rw [if_neg (by omega)]; exact rfl)⟩)))
  trivial

set_option maxHeartbeats 4000000 in
theorem lput_c (w : World) (mean : ExcName → Option Value) (mg mb : Str → Option Value) (pa : Addr) (e : Bool) (d : Nat) (td : Tok) (c : Option Int) (hc : ∀ k, c = some k → -1000 ≤ k ∧ k ≤ 1000) (tc : Tok) (k : Nat) (hd : d ≤ 1000) (x : Str) (hx : x.length ≤ 100) (tx : Tok) (y : Str) (hy : y.length ≤ 100) (ty : Tok) (most : Int) (hmo : 0 ≤ most ∧ most ≤ 1000) (tm : Tok)
    (rest : List (Addr × Obj)) (hoff : OwnOff rest [pa]) :
    Fn w mean mg mb 515 [.ref pa, .str x tx, .str y ty, .int most tm] 4 ((pa, plObj e d td c tc k) :: rest) (LPutPost pa e rest ((pa, plObj e d td c tc k) :: rest) (lawPut x e d c y most)) := by
  obtain ⟨c0, hc0'⟩ : ∃ c0, c0 = c := ⟨_, rfl⟩
  have hc0 : ∀ k, c0 = some k → -1000 ≤ k ∧ k ≤ 1000 := by rw [hc0']; exact hc
  cases c with
  | none =>
    have hmc : True → (pa, plObj e d td c0 tc k) ∈ (pa, lst [.bool e, .int d td, .none] k) :: rest := fun _ => by subst hc0'; exact .head _
    show Fn w mean mg mb 515 _ 4 ((pa, lst [.bool e, .int d td, .none] k) :: rest) (LPutPost pa e rest ((pa, lst [.bool e, .int d td, .none] k) :: rest) _)
    k_extra "ENTER"
    all_goals k_extra "LP_END"
  | some kc =>
    have hkc := hc kc rfl
    have hmc : True → (pa, plObj e d td c0 tc k) ∈ (pa, lst [.bool e, .int d td, .int kc tc] k) :: rest := fun _ => by subst hc0'; exact .head _
    show Fn w mean mg mb 515 _ 4 ((pa, lst [.bool e, .int d td, .int kc tc] k) :: rest) (LPutPost pa e rest ((pa, lst [.bool e, .int d td, .int kc tc] k) :: rest) _)
    k_extra "ENTER"
    all_goals k_extra "LP_END"

end
end Mine
end

/- part QLv -/
section
open PySem PySem.W PySem.Calls PyProof.Rows
namespace Mine
section
theorem freshQLv : True := by
  k_with_none
  trivial
set_option maxRecDepth 100000

local macro_rules | `(tactic| k_all) => `(tactic| exact lt_ne (by assumption) (by omega))
local macro_rules | `(tactic| k_all) => `(tactic| exact allLt_ne (by assumption) (by omega))
local macro_rules | `(tactic| k_all) => `(tactic| exact OwnOff.ne (by assumption) (List.Mem.head _))
local macro_rules | `(tactic| k_mem) => `(tactic| k_dflt assumption)
local macro_rules | `(tactic| k_room) => `(tactic| ktr_room)
theorem cval_handed (c : Option Int) (t : Tok) : handedIn (cval c t) = true := by cases c <;> rfl
local macro_rules | `(tactic| k_handed) => `(tactic| exact cval_handed _ _)

theorem PairPost.cases {led led' : List (Addr × Obj)} {n : Nat} {off : Int} {c : Option Int} {r : Value} (h : PairPost led (spanOf n off c) r led') :
    (spanOf n off c = Option.none ∧ r = .none ∧ led' = led) ∨ ∃ b e d t t', spanOf n off c = Option.some (b, e) ∧ 0 ≤ b ∧ b ≤ e ∧ e ≤ n ∧ r = .ref d ∧ led' = (d, tup2 (.int b t) (.int e t')) :: led ∧ ∀ q ∈ led, q.1 < d := by
  generalize ho : spanOf n off c = o at h
  cases o with
  | none => exact .inl ⟨rfl, h.1, h.2⟩
  | some p =>
    obtain ⟨d, t, t', h1, h2, h3⟩ := h
    obtain ⟨b, e⟩ := p
    have hb := spanOf_bounds ho
    exact .inr ⟨b, e, d, t, t', rfl, hb.1, hb.2.1, hb.2.2, h1, h2, h3⟩

theorem words9 : True := by
  k_with "ENTER" => (
    unfold Fn
    k_fill
    intro dp un gd cn cs a ccd cl outer A₀ base h₀ L m s Q E B F X N T hk hd hu hret
    refine wpAny_call ?_
    k_dflt ktr_enter
    k_steps)
  k_with "USE" => (
    (case k1 => k_asm)
    (case k2 => k_asm)
    (case k3 => k_asm)
    (case k5 => k_asm)
    (case kK => first | exact rfl | assumption)
    (case kd => ktr_room)
    (case ku => ktr_units)
    intro r9 led9 h9 tk9 F9 N9 P9)
  k_with "SPAN" => (
    k_dflt (refine' Fn.use ?k1 ?k2 ?k3 ?k4 ?k5 ?kK (span_c _ _ _ _ _ ?a1 _ ?a2 _ ?a3 _ _ _ _) ?kd ?ku ?_)
    (case k4 => k_asm)
    (case a1 => omega)
    (case a2 => (unfold lvOff; split <;> first | omega | (split <;> omega)))
    (case a3 => assumption)
    k_extra "USE"
    rcases P9.cases with ⟨ho9, hr9, hl9⟩ | ⟨b9, e9, d9, t9, u9, ho9, hb9, hbe9, hex9, hr9, hl9, l9⟩
    all_goals (subst hr9 hl9; (try k_lt l9); (try dsimp only)))
  k_with "LVB" => (
    k_dflt (refine' Fn.use ?k1 ?k2 ?k3 ?k4 ?k5 ?kK (lvbegin_c w mean mg mb xa xd _ _ e d _ _ _ _ _ _ _ _ ?a1 ?a2 _ _ ?a3 ?a4) ?kd ?ku ?_)
    (case k4 => k_asm)
    (case a1 => omega)
    (case a2 => omega)
    (case a3 => k_dflt k_mem)
    (case a4 => k_dflt k_mem)
    k_extra "USE"
    obtain ⟨⟨t9, hr9⟩, hl9⟩ := P9
    subst hr9 hl9
    (try dsimp only))
  trivial

abbrev ent (h : Int) (n : Str) (t : Tok) (v : Value) : DictEntry := ⟨h, .str n t, v⟩
/-- the hashes and tokens of a made object's entries: nothing is asked of them -/
structure HT where
  h : Int
  t : Tok
def lvO (e : Bool) (d : Nat) : Int := if e then -(d : Int) else d
abbrev lvDict (cn sc : Addr) (e : Bool) (off : Int) (to : Tok) (cv : Value) (a1 a2 a3 a4 a5 : HT) : Obj :=
  dictOf [ent a1.h (Str.ofString "counter") a1.t (.ref cn), ent a2.h (Str.ofString "target") a2.t (.ref sc), ent a3.h (Str.ofString "offset") a3.t (.int off to), ent a4.h (Str.ofString "count") a4.t cv, ent a5.h (Str.ofString "is_from_end") a5.t (.bool e)] 5

theorem lvb1 {e : Bool} {n d : Nat} (h : e = true) (h2 : lvO e d = 0) : (n : Int) = lvOff n e d := by
  subst h
  have : d = 0 := by simpa [lvO] using h2
  simp [lvOff, this]
theorem lvb2 {e : Bool} {n d : Nat} (h : e = true) (h2 : lvO e d ≠ 0) : lvO e d = lvOff n e d := by
  subst h
  have : d ≠ 0 := by simpa [lvO] using h2
  simp [lvO, lvOff, this]
theorem lvb3 {e : Bool} {n d : Nat} (h : e = false) : lvO e d = lvOff n e d := by subst h; rfl

set_option maxHeartbeats 4000000 in
theorem lvbegin_c (w : World) (mean : ExcName → Option Value) (mg mb : Str → Option Value) (xa xd cn' sc : Addr) (e : Bool) (d : Nat) (td : Tok) (cv : Value) (a1 a2 a3 a4 a5 : HT) (n : Nat) (hn : n ≤ 100) (hd : d ≤ 1000) (t : Tok)
    (led : List (Addr × Obj)) (hm : (xa, instObj 362 xd) ∈ led) (hm2 : (xd, lvDict cn' sc e (lvO e d) td cv a1 a2 a3 a4 a5) ∈ led) :
    Fn w mean mg mb 345 [.ref xa, .int n t] 1 led (fun r led' => (∃ t, r = .int (lvOff n e d) t) ∧ led' = led) := by
  k_extra "ENTER"
  all_goals exact hret _ _ _ _ (by k_asm) (by k_asm) ⟨ktn_int (by first | exact lvb1 (by assumption) (by assumption) | exact lvb2 (by assumption) (by assumption) | exact lvb3 (by assumption)), rfl⟩


/-- the objects behind a part: counter, its heap, the limits, the scalar -/
structure Sc where
  cn : Addr
  cnD : Addr
  cpl : Addr
  cem : Addr
  hp : Addr
  hpD : Addr
  zr : Addr
  lim : Addr
  limD : Addr
  sc : Addr
  scD : Addr
  wk : Addr
  oPl : Obj
  oEm : Obj
  vw : Value
  vd : Value
  vs : Value
  vi : Value
  most : Int
  tmost : Tok
  last : Value
  num : Tok
  cnt : Value
  ht : Nat → HT
abbrev Sc.scDict (g : Sc) (x : Str) (tx : Tok) : Obj :=
  dictOf [ent (g.ht 0).h (Str.ofString "number") (g.ht 0).t (.int 1 g.num), ent (g.ht 1).h (Str.ofString "count") (g.ht 1).t g.cnt, ent (g.ht 2).h (Str.ofString "blessed") (g.ht 2).t .none, ent (g.ht 3).h (Str.ofString "weak") (g.ht 3).t (.ref g.wk),
    ent (g.ht 4).h (Str.ofString "is_destroyed") (g.ht 4).t (.bool false), ent (g.ht 5).h (Str.ofString "is_freed") (g.ht 5).t (.bool false), ent (g.ht 6).h (Str.ofString "value") (g.ht 6).t (.str x tx), ent (g.ht 7).h (Str.ofString "magic") (g.ht 7).t .none] 8
abbrev Sc.fixed (g : Sc) : List (Addr × Obj) :=
  [(g.cn, instObj 458 g.cnD),
   (g.cnD, dictOf [ent (g.ht 10).h (Str.ofString "heap") (g.ht 10).t (.ref g.hp), ent (g.ht 11).h (Str.ofString "destroy") (g.ht 11).t .none, ent (g.ht 12).h (Str.ofString "places") (g.ht 12).t (.ref g.cpl), ent (g.ht 13).h (Str.ofString "empties") (g.ht 13).t (.ref g.cem)] 4),
   (g.cpl, g.oPl), (g.cem, g.oEm),
   (g.hp, instObj 225 g.hpD),
   (g.hpD, dictOf [ent (g.ht 14).h (Str.ofString "limits") (g.ht 14).t (.ref g.lim), ent (g.ht 15).h (Str.ofString "last") (g.ht 15).t g.last, ent (g.ht 16).h (Str.ofString "zero") (g.ht 16).t (.ref g.zr)] 3),
   (g.lim, instObj 480 g.limD),
   (g.limD, dictOf [ent (g.ht 17).h (Str.ofString "width") (g.ht 17).t g.vw, ent (g.ht 18).h (Str.ofString "depth") (g.ht 18).t g.vd, ent (g.ht 19).h (Str.ofString "steps") (g.ht 19).t g.vs, ent (g.ht 20).h (Str.ofString "text") (g.ht 20).t (.int g.most g.tmost), ent (g.ht 21).h (Str.ofString "items") (g.ht 21).t g.vi] 5),
   (g.sc, instObj 66 g.scD)]

def GetPost (x : Str) (led : List (Addr × Obj)) (o : Option (Int × Int)) (r : Value) (led' : List (Addr × Obj)) : Prop :=
  led' = led ∧ match o with
  | none => r = .none
  | some p => ∃ t, r = .str (Txt.slice x (some p.1) (some p.2)) t
theorem GetPost.none {x : Str} {led : List (Addr × Obj)} {o : Option (Int × Int)} (h : o = Option.none) : GetPost x led o .none led := by subst h; exact ⟨rfl, rfl⟩
theorem GetPost.some {x : Str} {led : List (Addr × Obj)} {o : Option (Int × Int)} {b e : Int} {t : Tok} (h : o = Option.some (b, e)) : GetPost x led o (.str (Txt.slice x (Option.some b) (Option.some e)) t) led := by subst h; exact ⟨rfl, t, rfl⟩

set_option maxHeartbeats 4000000 in
theorem get_c (w : World) (mean : ExcName → Option Value) (mg mb : Str → Option Value) (g : Sc) (x : Str) (hx : x.length ≤ 100) (tx : Tok) (xa xd : Addr) (e : Bool) (d : Nat) (td : Tok) (c : Option Int) (hc : ∀ k, c = some k → -1000 ≤ k ∧ k ≤ 1000) (tc : Tok) (a1 a2 a3 a4 a5 : HT) (hd : d ≤ 1000)
    (led : List (Addr × Obj)) (hm : (xa, instObj 362 xd) ∈ led) (hm2 : (xd, lvDict g.cn g.sc e (lvO e d) td (cval c tc) a1 a2 a3 a4 a5) ∈ led) (hm3 : (g.sc, instObj 66 g.scD) ∈ led) (hm4 : (g.scD, g.scDict x tx) ∈ led) :
    Fn w mean mg mb 352 [.ref xa] 3 led (GetPost x led (spanOf x.length (lvOff x.length e d) c)) := by
  k_extra "ENTER"
  · exact hret _ _ _ _ (by k_asm) (by k_asm) (GetPost.none (by assumption))
  · rename_i kF kN _ _
    exact hret _ _ _ _ kF (news_tl kN) (GetPost.some (by assumption))

end
end Mine
end

/- part QPutOk -/
section
open PySem PySem.W PySem.Calls PyProof.Rows
namespace Mine
section
theorem freshQPutOk : True := by
  k_with_none
  trivial
set_option maxRecDepth 100000

local macro_rules | `(tactic| k_all) => `(tactic| exact lt_ne (by assumption) (by omega))
local macro_rules | `(tactic| k_all) => `(tactic| exact allLt_ne (by assumption) (by omega))
local macro_rules | `(tactic| k_all) => `(tactic| exact OwnOff.ne (by assumption) (List.Mem.head _))
local macro_rules | `(tactic| k_mem) => `(tactic| k_dflt assumption)
local macro_rules | `(tactic| k_room) => `(tactic| ktr_room)
local macro_rules | `(tactic| k_handed) => `(tactic| exact cval_handed _ _)

section
variable {prog : Program} {w : World} {A : Around} {E : Value → Shared → Prop} {s : Shared} {h₀ : Heap} {L d : Addr} {news : List (Addr × Obj)} {o : Obj}
theorem pop_meth {pl : Sem Bool} {Q : Value × List Value → Shared → Prop} (N : News h₀ L s.heap news) (hp : (d, o) ∈ news) (hd : o.IsDictOf (intKind prog w) []) (h : Q (.builtin "dict.pop", [.ref d]) s) :
    wpAny (model prog w) A (getMethod (.ref d) (Str.ofString "pop") pl) Q E s := kob_method (knd := intKind prog w) PySem.F.slot_dict_pop PySem.F.type_dict_pop N hp hd h
theorem pop_none {k : Int} {t : Tok} {dflt : Value} {Q : Value → Shared → Prop} (N : News h₀ L s.heap news) (hp : (d, o) ∈ news) (hd : o.IsDictOf (intKind prog w) []) (lo : (d == sysModules) = false) (h : Q dflt { s with toks := s.toks + 1 }) :
    wpAny (model prog w) A (call (.builtin "dict.pop") [.ref d, .int k t, dflt]) Q E s := by
  have hD := kda_dict N hp hd
  exact call_meetsIn PySem.F.slot_dict_pop hD.typeIs PySem.F.entry_dict_pop (PySem.F.args_dict_pop_3 _ _ _) (meets_dict_pop_default (intKind prog w) d (intKind_is _ _ k t) lo (by rfl) dflt) ⟨[], hD, rfl, h⟩
end

theorem words10 : True := by
  k_with "ENTER" => (
    unfold Fn
    k_fill
    intro dp un gd cn cs a ccd cl outer A₀ base h₀ L m s Q E B F X N T hk hd hu hret
    refine wpAny_call ?_
    k_dflt ktr_enter
    k_steps)
  k_with "USE" => (
    (case k1 => k_asm)
    (case k2 => k_asm)
    (case k3 => k_asm)
    (case k5 => k_asm)
    (case kK => first | exact rfl | assumption)
    (case kd => ktr_room)
    (case ku => ktr_units)
    intro r9 led9 h9 tk9 F9 N9 P9)
  k_with "getMethod ref" => (
    (with_reducible show wpAny _ _ (getMethod (Value.ref _) (Str.ofString "pop") _) _ _ _)
    k_dflt (refine' pop_meth ?qN1 ?qP1 ?qD1 ?_; (case qN1 => k_asm); (case qP1 => k_mem); (case qD1 => assumption)))
  k_with "call builtin:dict.pop" => (
    (with_reducible show wpAny _ _ (call (Value.builtin "dict.pop") [Value.ref _, Value.int _ _, _]) _ _ _)
    k_dflt (refine' pop_none ?qN2 ?qP2 ?qD2 ?qL2 ?_; (case qN2 => k_asm); (case qP2 => k_mem); (case qD2 => assumption); (case qL2 => assumption)))
  k_with "SPAN" => (
    k_dflt (refine' Fn.use ?k1 ?k2 ?k3 ?k4 ?k5 ?kK (span_c _ _ _ _ _ ?a1 _ ?a2 _ ?a3 _ _ _ _) ?kd ?ku ?_)
    (case k4 => k_asm)
    (case a1 => omega)
    (case a2 => (unfold lvOff; split <;> first | omega | (split <;> omega)))
    (case a3 => assumption)
    k_extra "USE"
    k_dflt (rw [hsp] at P9; obtain ⟨d9, t9, u9, hr9, hl9, l9⟩ := P9; subst hr9 hl9)
    (try k_lt l9)
    (try dsimp only))
  k_with "SPANX" => (
    rcases P9.cases with ⟨ho9, hr9, hl9⟩ | ⟨b9, e9, d9, t9, u9, ho9, hb9, hbe9, hex9, hr9, hl9, l9⟩
    all_goals (subst hr9 hl9; (try k_lt l9); (try dsimp only)))
  k_with "LVB" => (
    k_dflt (refine' Fn.use ?k1 ?k2 ?k3 ?k4 ?k5 ?kK (lvbegin_c w mean mg mb xa xd _ _ e d _ _ _ _ _ _ _ _ ?a1 ?a2 _ _ ?a3 ?a4) ?kd ?ku ?_)
    (case k4 => k_asm)
    (case a1 => omega)
    (case a2 => omega)
    (case a3 => k_dflt k_mem)
    (case a4 => k_dflt k_mem)
    k_extra "USE"
    obtain ⟨⟨t9, hr9⟩, hl9⟩ := P9
    subst hr9 hl9
    (try dsimp only))
  trivial


structure Sc.Has (g : Sc) (w : World) (led : List (Addr × Obj)) : Prop where
  cn : (g.cn, instObj 458 g.cnD) ∈ led
  cnD : (g.cnD, dictOf [ent (g.ht 10).h (Str.ofString "heap") (g.ht 10).t (.ref g.hp), ent (g.ht 11).h (Str.ofString "destroy") (g.ht 11).t .none, ent (g.ht 12).h (Str.ofString "places") (g.ht 12).t (.ref g.cpl), ent (g.ht 13).h (Str.ofString "empties") (g.ht 13).t (.ref g.cem)] 4) ∈ led
  cpl : (g.cpl, g.oPl) ∈ led
  cem : (g.cem, g.oEm) ∈ led
  hp : (g.hp, instObj 225 g.hpD) ∈ led
  hpD : (g.hpD, dictOf [ent (g.ht 14).h (Str.ofString "limits") (g.ht 14).t (.ref g.lim), ent (g.ht 15).h (Str.ofString "last") (g.ht 15).t g.last, ent (g.ht 16).h (Str.ofString "zero") (g.ht 16).t (.ref g.zr)] 3) ∈ led
  lim : (g.lim, instObj 480 g.limD) ∈ led
  limD : (g.limD, dictOf [ent (g.ht 17).h (Str.ofString "width") (g.ht 17).t g.vw, ent (g.ht 18).h (Str.ofString "depth") (g.ht 18).t g.vd, ent (g.ht 19).h (Str.ofString "steps") (g.ht 19).t g.vs, ent (g.ht 20).h (Str.ofString "text") (g.ht 20).t (.int g.most g.tmost), ent (g.ht 21).h (Str.ofString "items") (g.ht 21).t g.vi] 5) ∈ led
  sc : (g.sc, instObj 66 g.scD) ∈ led
  hpl : Obj.IsDictOf (intKind PySem.Challenge.rw_qz0096_01.row.prog w) g.oPl []
  hem : Obj.IsDictOf (intKind PySem.Challenge.rw_qz0096_01.row.prog w) g.oEm []
  lpl : (g.cpl == sysModules) = false
  lem : (g.cem == sysModules) = false

theorem whole_len {x y : Str} {b f : Int} (h0 : 0 ≤ b) (h1 : b ≤ f) (h2 : f ≤ x.length) : ((Txt.slice x none (some b) ++ y ++ Txt.slice x (some f) none).length : Int) = x.length - (f - b) + y.length := by
  rw [Str.length_append, Str.length_append, slice_to_eq h0 (by omega), slice_from (by omega) h2]
  have hl : x.cps.toList.length = x.length := Array.length_toList
  show (((((x.cps.toList.take b.toNat).toArray).size + y.length + ((x.cps.toList.drop f.toNat).toArray).size : Nat)) : Int) = _
  rw [List.size_toArray, List.size_toArray, List.length_take, List.length_drop]
  omega

set_option maxHeartbeats 4000000 in
theorem vof_c (w : World) (mean : ExcName → Option Value) (mg mb : Str → Option Value) (g : Sc) (x : Str) (tx : Tok)
    (led : List (Addr × Obj)) (hm3 : (g.sc, instObj 66 g.scD) ∈ led) (hm4 : (g.scD, g.scDict x tx) ∈ led) :
    Fn w mean mg mb 257 [.ref g.sc] 1 led (fun r led' => r = .str x tx ∧ led' = led) := by
  k_extra "ENTER"
  all_goals exact hret _ _ _ _ (by k_asm) (by k_asm) ⟨rfl, rfl⟩

set_option maxHeartbeats 4000000 in
theorem tot_c (w : World) (mean : ExcName → Option Value) (mg mb : Str → Option Value) (x : Str) (tx : Tok) (led : List (Addr × Obj)) :
    Fn w mean mg mb 264 [.str x tx] 1 led (fun r led' => r = .str x tx ∧ led' = led) := by
  k_extra "ENTER"
  all_goals exact hret _ _ _ _ (by k_asm) (by k_asm) ⟨rfl, rfl⟩

theorem news_drop2 {h₀ h : Heap} {L : Addr} {a b : Addr × Obj} {led : List (Addr × Obj)} (N : News h₀ L h (a :: b :: led)) : News h₀ L h (a :: led) := fun p hp => by
  rcases List.mem_cons.mp hp with h | h
  · rw [h]; exact N _ (.head _)
  · exact N _ (.tail _ (.tail _ h))
abbrev tupSS (a : Str) (ta : Tok) (b : Str) (tb : Tok) : Obj := { cls := .type "tuple", data := .seq #[.str a ta, .str b tb] 0 }
set_option maxHeartbeats 4000000 in
theorem sput_c (w : World) (mean : ExcName → Option Value) (mg mb : Str → Option Value) (x : Str) (hx : x.length ≤ 100) (tx : Tok) (y : Str) (hy : y.length ≤ 100) (ty : Tok) (e : Bool) (d : Nat) (hd : d ≤ 1000) (to tc : Tok) (c : Option Int) (hc : ∀ k, c = some k → -1000 ≤ k ∧ k ≤ 1000)
    (b f : Int) (hsp : spanOf x.length (lvOff x.length e d) c = some (b, f)) (led : List (Addr × Obj)) :
    Fn w mean mg mb 324 [.str x tx, .int (lvOff x.length e d) to, cval c tc, .str y ty] 3 led (fun r led' => ∃ q ta tb, r = .ref q ∧ led' = (q, tupSS (Txt.slice x (some b) (some f)) ta (Txt.slice x none (some b) ++ y ++ Txt.slice x (some f) none) tb) :: led ∧ ∀ p ∈ led, p.1 < q) := by
  have hb9 := spanOf_bounds hsp
  k_extra "ENTER"
  all_goals (
    rename_i kF kN _ _
    (rename _ ∧ AllLt _ led => hq)
    exact hret _ _ _ _ kF (news_drop2 kN) ⟨_, _, _, rfl, rfl, ktn_ltOf hq.2⟩)

set_option maxHeartbeats 4000000 in
theorem store_c (w : World) (mean : ExcName → Option Value) (mg mb : Str → Option Value) (g : Sc) (x : Str) (tx : Tok) (z : Str) (tz : Tok)
    (rest : List (Addr × Obj)) (hs : g.Has w rest) (ho1 : OwnOff rest [g.scD]) :
    Fn w mean mg mb 420 [.ref g.cn, .ref g.sc, .str z tz] 3 ((g.scD, g.scDict x tx) :: rest) (fun r led' => r = .none ∧ led' = (g.scD, g.scDict z tz) :: rest) := by
  obtain ⟨m1, m2, m3, m4, m5, m6, m7, m8, m9, hpl, hem, lpl, lem⟩ := hs
  k_extra "ENTER"
  all_goals (
    rename_i kF kN _ _
    exact hret _ _ _ _ kF (news_tl kN) ⟨rfl, rfl⟩)

end
end Mine
end

/- part QPutOk2 -/
section
open PySem PySem.W PySem.Calls PyProof.Rows
namespace Mine
section
theorem freshQPutOk2 : True := by
  k_with_none
  trivial
set_option maxRecDepth 100000

local macro_rules | `(tactic| k_all) => `(tactic| exact lt_ne (by assumption) (by omega))
local macro_rules | `(tactic| k_all) => `(tactic| exact allLt_ne (by assumption) (by omega))
local macro_rules | `(tactic| k_all) => `(tactic| exact OwnOff.ne (by assumption) (List.Mem.head _))
local macro_rules | `(tactic| k_mem) => `(tactic| k_dflt assumption)
local macro_rules | `(tactic| k_handed) => `(tactic| exact cval_handed _ _)

theorem Sc.Has.mono {g : Sc} {w : World} {l l' : List (Addr × Obj)} (h : g.Has w l) (k : ∀ p ∈ l, p ∈ l') : g.Has w l' :=
  ⟨k _ h.cn, k _ h.cnD, k _ h.cpl, k _ h.cem, k _ h.hp, k _ h.hpD, k _ h.lim, k _ h.limD, k _ h.sc, h.hpl, h.hem, h.lpl, h.lem⟩

theorem store_use {w : World} {mean : ExcName → Option Value} {mg mb : Str → Option Value} {g : Sc} {x z : Str} {tx tz : Tok} {led rest : List (Addr × Obj)}
    {dp un : Nat} {gd : Option (List Code)} {cn : Str} {cs : Scope} {a : Addr} {ccd : Value} {cl : List (Str × Addr)} {outer : List Env} {A₀ : Around} {base h₀ : Heap} {L : Addr} {m : Str → Option Value} {s : Shared}
    {Q E : Value → Shared → Prop} (B : Below A₀ base outer h₀) (F : Fr h₀ L s.heap m) (X : (Hd.heap_39 w.params).In h₀) (N : News h₀ L s.heap led) (T : Top Hd.view_39 (looseW Hd.view_39 [Str.ofString "Limits"]) mean mg mb h₀) (hk : cs.kind = .function)
    (sel : Sel g.scD (g.scDict x tx) led rest) (hs : g.Has w rest) (hoff : AllNe g.scD rest)
    (hd : dp + 3 < recursionLimit) (hu : un + 8 * 3 < cLine)
    (ret : ∀ h' tk', Fr h₀ L h' m → News h₀ L h' ((g.scD, g.scDict z tz) :: rest) → Q .none { s with heap := h', toks := tk' }) :
    wpAny (model PySem.Challenge.rw_qz0096_01.row.prog w) (ktrTop dp un gd cn cs L a ccd cl outer) (call (.ref 420) [.ref g.cn, .ref g.sc, .str z tz]) Q E s := by
  refine Fn.use B F X (sel.news N) T hk (store_c w mean mg mb g x tx z tz rest hs hoff.off) hd hu ?_
  rintro r led' h' tk' F' N' ⟨rfl, rfl⟩
  exact ret h' tk' F' N'

theorem sput_v (w : World) (mean : ExcName → Option Value) (mg mb : Str → Option Value) (x : Str) (hx : x.length ≤ 100) (tx : Tok) (y : Str) (hy : y.length ≤ 100) (ty : Tok) (e : Bool) (d : Nat) (hd : d ≤ 1000) (to : Tok) (cv : Value) (c : Option Int) (hcv : ∃ tc, cv = cval c tc) (hc : ∀ k, c = some k → -1000 ≤ k ∧ k ≤ 1000)
    (b f : Int) (hsp : spanOf x.length (lvOff x.length e d) c = some (b, f)) (led : List (Addr × Obj)) :
    Fn w mean mg mb 324 [.str x tx, .int (lvOff x.length e d) to, cv, .str y ty] 3 led (fun r led' => ∃ q ta tb, r = .ref q ∧ led' = (q, tupSS (Txt.slice x (some b) (some f)) ta (Txt.slice x none (some b) ++ y ++ Txt.slice x (some f) none) tb) :: led ∧ ∀ p ∈ led, p.1 < q) := by
  obtain ⟨tc, rfl⟩ := hcv
  exact sput_c w mean mg mb x hx tx y hy ty e d hd to tc c hc b f hsp led

theorem words11 : True := by
  k_with "ENTER" => (
    unfold Fn
    k_fill
    intro dp un gd cn cs a ccd cl outer A₀ base h₀ L m s Q E B F X N T hk hd hu hret
    refine wpAny_call ?_
    k_dflt ktr_enter
    k_steps)
  k_with "USE" => (
    (case k1 => k_asm)
    (case k2 => k_asm)
    (case k3 => k_asm)
    (case k5 => k_asm)
    (case kK => first | exact rfl | assumption)
    (case kd => ktr_room)
    (case ku => ktr_units)
    intro r9 led9 h9 tk9 F9 N9 P9)
  k_with "LVB" => (
    k_dflt (refine' Fn.use ?k1 ?k2 ?k3 ?k4 ?k5 ?kK (lvbegin_c w mean mg mb xa xd _ _ e d _ _ _ _ _ _ _ _ ?a1 ?a2 _ _ ?a3 ?a4) ?kd ?ku ?_)
    (case k4 => k_asm)
    (case a1 => omega)
    (case a2 => omega)
    (case a3 => k_dflt k_mem)
    (case a4 => k_dflt k_mem)
    k_extra "USE"
    obtain ⟨⟨t9, hr9⟩, hl9⟩ := P9
    subst hr9 hl9
    (try dsimp only))
  k_with "VOF" => (
    k_dflt (refine' Fn.use ?k1 ?k2 ?k3 ?k4 ?k5 ?kK (vof_c w mean mg mb g x tx _ ?a3 ?a4) ?kd ?ku ?_)
    (case k4 => k_asm)
    (case a3 => k_dflt k_mem)
    (case a4 => k_dflt k_mem)
    k_extra "USE"
    obtain ⟨hr9, hl9⟩ := P9
    subst hr9 hl9
    (try dsimp only))
  k_with "TOT" => (
    k_dflt (refine' Fn.use ?k1 ?k2 ?k3 ?k4 ?k5 ?kK (tot_c w mean mg mb _ _ _) ?kd ?ku ?_)
    (case k4 => k_asm)
    k_extra "USE"
    obtain ⟨hr9, hl9⟩ := P9
    subst hr9 hl9
    (try dsimp only))
  k_with "SPUT" => (
    k_dflt (refine' Fn.use ?k1 ?k2 ?k3 ?k4 ?k5 ?kK (sput_v w mean mg mb x hx _ y hy _ e d hdd _ _ c0 hcv0 hc0 b f hsp _) ?kd ?ku ?_)
    (case k4 => k_asm)
    k_extra "USE"
    obtain ⟨q9, ta9, tb9, hr9, hl9, l9⟩ := P9
    subst hr9 hl9
    (try k_lt l9)
    (try dsimp only))
  k_with "ALLNE" => (repeat' (first | exact AllNe.nil | assumption | exact AllNe.of (by assumption) | exact AllNe.ofLt (by assumption) | refine AllNe.cons ?_ ?_ | omega))
  k_with "SEL" => (first | exact Sel.head | (apply Sel.tail; k_extra "SEL"))
  k_with "STORE" => (
    k_dflt (refine' store_use ?k1 ?k2 ?k3 ?k4 ?k5 ?kK ?sel ?hs9 ?off ?kd ?ku ?_; (case k1 => k_asm); (case k2 => k_asm); (case k3 => k_asm); (case k4 => k_asm); (case k5 => k_asm); (case kK => first | exact rfl | assumption); (case sel => k_extra "SEL"); (case hs9 => exact hs.mono (fun p hp => by simp only [List.mem_cons]; simp [hp])); (case off => k_extra "ALLNE"); (case kd => ktr_room); (case ku => ktr_units))
    intro h9 tk9 F9 N9
    (try dsimp only)
    (try k_sweep))
  trivial

def PutPost (g : Sc) (z : Str) (xd : Addr) (e : Bool) (off : Int) (c : Option Int) (a1 a2 a3 a4 a5 : HT) (rest : List (Addr × Obj)) (r : Value) (led' : List (Addr × Obj)) : Prop :=
  r = .none ∧ ∃ tz to tc, led' = (g.scD, g.scDict z tz) :: (xd, lvDict g.cn g.sc e off to (cval c tc) a1 a2 a3 a4 a5) :: rest

theorem PutPost.mk {g : Sc} {z : Str} {xd : Addr} {e : Bool} {off off' : Int} {c : Option Int} {cv : Value} {a1 a2 a3 a4 a5 : HT} {rest : List (Addr × Obj)} {tz to : Tok} (ho : off' = off) (hc : ∃ tc, cv = cval c tc) :
    PutPost g z xd e off c a1 a2 a3 a4 a5 rest .none ((g.scD, g.scDict z tz) :: (xd, lvDict g.cn g.sc e off' to cv a1 a2 a3 a4 a5) :: rest) := by
  obtain ⟨tc, rfl⟩ := hc
  subst ho
  exact ⟨rfl, tz, to, tc, rfl⟩
theorem news_mid {h₀ h : Heap} {L : Addr} {a q b : Addr × Obj} {led : List (Addr × Obj)} (N : News h₀ L h (a :: q :: b :: led)) : News h₀ L h (a :: b :: led) := fun p hp => by
  rcases List.mem_cons.mp hp with h | h
  · rw [h]; exact N _ (.head _)
  · exact N _ (.tail _ (.tail _ h))

theorem words12 : True := by
  k_with "PUT_END" => (
    rename_i kF kN _ _
    refine hret _ _ _ _ kF (news_mid kN) (PutPost.mk ?_ ?_)
    · first
        | (rw [if_pos (by assumption)]; omega)
        | (rw [if_neg (by rw [(by assumption : e = false)]; decide)])
    · first
        | exact ⟨(0 : Nat), rfl⟩
        | exact ⟨_, by unfold putC; dsimp only; first | (rw [if_pos (by omega)]; exact rfl) | (rw [if_neg (by omega)]; exact rfl)⟩)
  trivial

set_option maxHeartbeats 4000000 in
theorem put_ok (w : World) (mean : ExcName → Option Value) (mg mb : Str → Option Value) (g : Sc) (x : Str) (hx : x.length ≤ 100) (tx : Tok) (y : Str) (hy : y.length ≤ 100) (ty : Tok) (xa xd : Addr) (e : Bool) (d : Nat) (td : Tok) (c : Option Int) (hc : ∀ k, c = some k → -1000 ≤ k ∧ k ≤ 1000) (tc : Tok) (a1 a2 a3 a4 a5 : HT) (hdd : d ≤ 1000)
    (rest : List (Addr × Obj)) (hm : (xa, instObj 362 xd) ∈ rest) (hs : g.Has w rest) (ho1 : OwnOff rest [g.scD]) (ho2 : OwnOff rest [xd]) (hne : @Ne Nat g.scD xd)
    (b f : Int) (hsp : spanOf x.length (lvOff x.length e d) c = some (b, f)) (hmost : ¬ (x.length : Int) - (f - b) + y.length > g.most) :
    Fn w mean mg mb 359 [.ref xa, .str y ty] 5 ((g.scD, g.scDict x tx) :: (xd, lvDict g.cn g.sc e (lvO e d) td (cval c tc) a1 a2 a3 a4 a5) :: rest)
      (PutPost g (Txt.slice x none (some b) ++ y ++ Txt.slice x (some f) none) xd e (if e then (lvO e d) + ((f - b) - y.length) else lvO e d) (putC c y.length) a1 a2 a3 a4 a5 rest) := by
  have hb9 := spanOf_bounds hsp
  have hL := whole_len (y := y) hb9.1 hb9.2.1 hb9.2.2
  have hL2 := slice_len hb9.1 hb9.2.1 hb9.2.2
  obtain ⟨m1, m2, m3, m4, m5, m6, m7, m8, m9, hpl, hem, lpl, lem⟩ := id hs
  obtain ⟨c0, hc0'⟩ : ∃ c0, c0 = c := ⟨_, rfl⟩
  have hc0 : ∀ k, c0 = some k → -1000 ≤ k ∧ k ≤ 1000 := by rw [hc0']; exact hc
  rw [← hc0'] at hsp
  cases c with
  | none =>
    show Fn w mean mg mb 359 [.ref xa, .str y ty] 5 ((g.scD, g.scDict x tx) :: (xd, lvDict g.cn g.sc e (lvO e d) td .none a1 a2 a3 a4 a5) :: rest) _
    have hcv0 : ∃ t, Value.none = cval c0 t := ⟨(0 : Nat), by rw [hc0']; rfl⟩
    k_extra "ENTER"
    all_goals k_extra "PUT_END"
  | some kc =>
    have hkc := hc kc rfl
    show Fn w mean mg mb 359 [.ref xa, .str y ty] 5 ((g.scD, g.scDict x tx) :: (xd, lvDict g.cn g.sc e (lvO e d) td (.int kc tc) a1 a2 a3 a4 a5) :: rest) _
    have hcv0 : ∃ t, Value.int kc tc = cval c0 t := ⟨tc, by rw [hc0']; rfl⟩
    k_extra "ENTER"
    all_goals k_extra "PUT_END"

end
end Mine
end

/- part QExc -/
section
open PySem PySem.W PySem.Calls PyProof.Rows Builtin Builtin.ObjectAttr
namespace Mine
section
theorem freshQExc : True := by
  k_with_none
  trivial
set_option maxRecDepth 100000

/- an own class under Exception, of any line of own classes -/
def excAt (K : Frag) (C : Addr) : Bool := match K.lookup C with
  | some ⟨.type "type", _, .cls cd, sl⟩ => (match cd.mro, sl.toList with
    | .ref C' :: bm, [_, _, _, _, some (.builtin n), _] => C' == C && n == "Exception.__new__" && !cd.hasDel && cd.hasDict && bm.contains (.type "Exception") && bm.contains (.type "BaseException") && bm.contains (.type "object") &&
        !bm.contains (.type "AttributeError") && !bm.contains (.type "NameError")
    | _, _ => false)
  | _ => false

structure ExcIs (h : Heap) (C : Addr) (nm q : Str) (N : Addr) (bs bm : List Value) (sn : List Str) (sub : List Value) (ab : Bool) (col : Option Bool) (dd : Option Addr) (k0 k1 k2 k3 k5 : Option Value) : Prop where
  obj : h.get? C = some (excClassObj nm q C N bs bm true sn sub ab col dd k0 k1 k2 k3 k5 "Exception.__new__")
  hE : bm.contains (.type "Exception") = true
  hB : bm.contains (.type "BaseException") = true
  hO : bm.contains (.type "object") = true
  hA : bm.contains (.type "AttributeError") = false
  hN : bm.contains (.type "NameError") = false

theorem excAt_of {K : Frag} {h : Heap} {C : Addr} (X : K.In h) (e : excAt K C = true) : ∃ nm q N bs bm sn sub ab col dd k0 k1 k2 k3 k5, ExcIs h C nm q N bs bm sn sub ab col dd k0 k1 k2 k3 k5 := by
  unfold excAt at e
  split at e
  · rename_i dd cd sl ho
    split at e
    · rename_i C' bm k0 k1 k2 k3 n k5 hm hs
      simp only [Bool.and_eq_true, beq_iff_eq, Bool.not_eq_true'] at e
      obtain ⟨⟨⟨⟨⟨⟨⟨⟨rfl, rfl⟩, hdel⟩, hd⟩, h1⟩, h2⟩, h3⟩, h4⟩, h5⟩ := e
      obtain ⟨nm, bs, mro, ns, qn, hdd, sn, sub, ab, col, del⟩ := cd
      dsimp only at hm hdel hd
      subst hm hdel hd
      have hsl : sl = #[k0, k1, k2, k3, some (.builtin "Exception.__new__"), k5] := by
        obtain ⟨l⟩ := sl
        simp only at hs
        rw [hs]
      subst hsl
      exact ⟨nm, qn, ns, bs, bm, sn, sub, ab, col, dd, k0, k1, k2, k3, k5, X _ _ ho, h1, h2, h3, h4, h5⟩
    · cases e
  · cases e

section
variable {M : Model} {A : Around} {E : Value → Shared → Prop} {h : Heap} {g : Array GenState} {d : Drawn} {t : Nat} {os : OsState}
variable {nm q : Str} {C N : Addr} {bs bm : List Value} {sn : List Str} {sub : List Value} {ab : Bool} {col : Option Bool} {dd : Option Addr} {k0 k1 k2 k3 k5 : Option Value}

theorem has_of {v : Value} {b : Bool} (e : bm.contains v = b) (n : v ≠ .ref C) : (Value.ref C :: bm).contains v = b := by
  rw [List.contains_cons, e, show (v == Value.ref C) = false from by simpa using n, Bool.false_or]

theorem check_new2 (Y : ExcIs h C nm q N bs bm sn sub ab col dd k0 k1 k2 k3 k5) {rest : List Value} {Q : Unit → Shared → Prop}
    (hq : Q () ⟨h, g, d, t, os⟩) : wpAny M A (checkBuiltinCall "Exception.__new__" ⟨.ref C :: rest, []⟩) Q E ⟨h, g, d, t, os⟩ := by
  have F := PySem.F.excBase_Exception
  have hC := Y.obj
  have hcont : (Value.ref C :: bm).contains (.type "Exception") = true := has_of Y.hE (by simp)
  have hstar := F.noStar
  simp only [checkBuiltinCall, F.newKind, F.newSplit, F.newRow]
  repeat (first | refine wpAny_loadPart_at hC ?_ | (refine wpAny_isSubtype_exc hC ?_; rw [hcont]) | refine wpAny_staticBase_exc hC ?_ | refine wpAny_madeBy_exc hC ?_ | simp only [bne_self_eq_false, Bool.false_eq_true, if_false] | wp_step)
  exact hq
end

abbrev excObj (C t : Addr) (dx : Option Addr) : Obj := { cls := .ref C, dict := dx, data := .fields #[.ref t, .none, .none, .none, .bool false, .none] }
abbrev tupOf (vs : List Value) : Obj := { cls := .type "tuple", data := .seq vs.toArray }

section
variable {prog : Program} {w : World} {A : Around} {R : Result → Shared → Prop} {h : Heap} {g : Array GenState} {d : Drawn} {t : Nat} {os : OsState}
variable {nm q : Str} {C N : Addr} {bs bm : List Value} {sn : List Str} {sub : List Value} {ab : Bool} {col : Option Bool} {dd : Option Addr} {k0 k1 k2 k3 k5 : Option Value}

theorem exc_new2 (Y : ExcIs h C nm q N bs bm sn sub ab col dd k0 k1 k2 k3 k5) {rest : List Value}
    (hq : R (.ok (.ret (.ref (h.objs.size + 1)))) ⟨(h.push (tupOf rest)).push (excObj C h.objs.size none), g, d, t, os⟩) (hrest : rest.length ≤ sizeLine := by size_fits) :
    codeAny (model prog w) A (.builtin "Exception.__new__" ⟨.ref C :: rest, []⟩) R ⟨h, g, d, t, os⟩ := by
  have F := PySem.F.excBase_Exception
  have hC := Y.obj
  have hends := F.ends
  have hcB : (Value.ref C :: bm).contains (.type "Exception") = true := has_of Y.hE (by simp)
  have hcA : (Value.ref C :: bm).contains (.type "AttributeError") = false := has_of Y.hA (by simp)
  have hcN : (Value.ref C :: bm).contains (.type "NameError") = false := has_of Y.hN (by simp)
  refine codeAny_builtinAt F.entry ?_
  unfold Builtin.«BaseException.__new__»
  refine PySem.wpAt_bind ?_
  show PySem.wpAt _ _ _ (stack >>= _) _ _ _
  refine PySem.wpAt_bind (PySem.wpAt_stack fun p below => PySem.wpAt_of_wpAny ?_)
  wp_walk
  refine PySem.wpAt_of_wpAny ?_
  rw [F.owner]
  repeat (first | with_reducible refine wpAny_madeHere_exc F.canon hC ?_ | with_reducible refine wpAny_loadPart_at hC ?_ | (with_reducible refine wpAny_isSubtype_exc hC ?_; first | rw [hcB] | rw [hcA] | rw [hcN]) | wp_step)
  show R _ _
  rw [Heap.size_push]
  exact hq

theorem type_call2 (Y : ExcIs h C nm q N bs bm sn sub ab col dd k0 k1 k2 k3 k5) {K : Frag} (X : K.In h) {rest : List Value} {fI : Addr} {E : Value → Shared → Prop} {Q : Fin → Shared → Prop}
    (hi : findIn K (.ref C) "__init__" = some (some (.ref fI))) (hf : typeIn K (.ref fI) = some (.type "function"))
    (hq : wpAny (model prog w) A (call (.ref fI) (.ref (h.objs.size + 1) :: rest)) (fun r s' => r = .none ∧ Q (.done (.ret (.ref (h.objs.size + 1)))) s') E ⟨(h.push (tupOf rest)).push (excObj C h.objs.size none), g, d, t, os⟩) (hrest : rest.length ≤ sizeLine := by size_fits) :
    wpAny (model prog w) A (Builtin.«type.__call__» ⟨.ref C :: rest, []⟩) Q E ⟨h, g, d, t, os⟩ := by
  have F := PySem.F.excBase_Exception
  have hC := Y.obj
  repeat (first | with_reducible refine wpAny_loadPart_at hC ?_ | with_reducible refine wpAny_madeBy_exc hC ?_ | wp_step)
  refine codeAny_call_builtin_code (Code.quiet_builtin _ F.quiet) (check_new2 Y ?_)
  refine exc_new2 Y ?_ hrest
  show wpAny _ _ _ _ _ _
  have k : ∀ b o, h.get? b = some o → ((h.push (tupOf rest)).push (excObj C h.objs.size none)).get? b = some o := fun b o e => Heap.get?_push_of_some _ (Heap.get?_push_of_some _ e)
  have hC₁ := k _ _ hC
  have X₁ : K.In ((h.push (tupOf rest)).push (excObj C h.objs.size none)) := fun b o e => k _ _ (X _ _ e)
  have hget : ((h.push (tupOf rest)).push (excObj C h.objs.size none)).get? (h.objs.size + 1) = some (excObj C h.objs.size none) := by heap_get
  have hcC : (Value.ref C :: bm).contains (.ref C) = true := by simp
  unfold isInstance
  repeat (first | with_reducible refine wpAny_loadPart_at hget ?_ | (with_reducible refine wpAny_isSubtype_exc hC₁ ?_; rw [hcC]) | wp_step)
  show wpAny _ _ (typeLookup (.ref C) _) _ _ _
  refine (looks_findIn X₁ hi).here ?_
  refine wpAny_holding (wpAny_bind ?_)
  refine (bind_fn X₁ _ hf).here ?_
  refine wpAny_bind (wpAny_mono hq (fun r s' hr => ?_) fun _ _ x => x)
  obtain ⟨rfl, hQ⟩ := hr
  wp_walk
  exact hQ
end
end
end Mine
end

/- part QExc2 -/
section
open PySem PySem.W PySem.Calls PyProof.Rows Builtin Builtin.ObjectAttr
namespace Mine
section
theorem freshQExc2 : True := by
  k_with_none
  trivial
set_option maxRecDepth 100000

def onlyExc : List Value → Bool
  | [.type a, .type b, .type c] => a == "Exception" && b == "BaseException" && c == "object"
  | .ref _ :: r => onlyExc r
  | _ => false
theorem refuse_exc (self : Value) : ∀ {l : List Value}, onlyExc l = true → refuseLoop self "__setattr__" l = pure ()
  | [.type a, .type b, .type c], e => by
    unfold onlyExc at e
    simp only [Bool.and_eq_true, beq_iff_eq] at e
    obtain ⟨⟨rfl, rfl⟩, rfl⟩ := e
    exact PySem.F.store_Exception.passes self
  | .ref c :: r, e => by rw [refuseLoop_ref]; exact refuse_exc self (l := r) (by unfold onlyExc at e; exact e)
theorem exc_has : ∀ {l : List Value}, onlyExc l = true → l.contains (.type "object") = true
  | [.type a, .type b, .type c], e => by
    unfold onlyExc at e
    simp only [Bool.and_eq_true, beq_iff_eq] at e
    obtain ⟨⟨rfl, rfl⟩, rfl⟩ := e
    simp
  | .ref c :: r, e => by rw [List.contains_cons, exc_has (l := r) (by unfold onlyExc at e; exact e), Bool.or_true]
def excOver (K : Frag) (C : Addr) : Bool := (clsIn K C).any fun cd => onlyExc cd.mro

section
variable {prog : Program} {w : World} {A : Around} {K : Frag} {C x : Addr} {s : Shared} {h₀ : Heap} {L : Addr} {m : Str → Option Value} {news : List (Addr × Obj)} {R : Result → Shared → Prop}

theorem osa_openE {ox : Obj} {od : Option Obj} {name : Str} {tk : Tok} {v : Value} (X : K.In s.heap) (I : InstAt s.heap x ox C od) (hp : excOver K C = true) (ht : takerIn K C name = some none)
    (h : ∀ b, wpAny (model prog w) A.in1 (storeInOwnDict (.ref x) (.ref C) (.str name tk) name v b)
      (fun fin s' => match fin with | .done f => R (.ok f) s' | .again c' => c'.quiet = true ∧ codeAny (model prog w) A c' R s') (fun e s' => R (.error e) s') s) :
    codeAny (model prog w) A (.call (.builtin "object.__setattr__") ⟨[.ref x, .str name tk, v], []⟩) R s := by
  have SF := PySem.F.store_object
  obtain ⟨cd, hc, ho⟩ := any_some hp
  have ne : cd.mro.isEmpty = false := by cases q : cd.mro with | nil => rw [q] at ho; cases ho | cons _ _ => rfl
  have sub : Looks (model prog w) s.heap (isInstance (.ref x) (.type "object")) true := I.type.andThen (looks_mroIn X (by unfold mroIn; rw [hc, Option.bind_some, if_neg (by rw [ne]; decide), exc_has ho]))
  refine codeAny_call_builtin SF.slot.plain SF.entry (@check_slot (model prog w) _ _ s "object.__setattr__" "object" "__setattr__" (.ref x) [.str name tk, v] [] _ SF.kind SF.split sub (SF.args (.ref x) (.str name tk) v) ?_)
  obtain ⟨attr, ha, hr⟩ := Option.bind_eq_some_iff.mp ht
  have hm : Looks (model prog w) s.heap (mroOf (.ref C)) cd.mro := (looks_clsIn X hc).andThen .now
  have L3 : Looks (model prog w) s.heap (storeTaker? attr) none := by
    cases attr with
    | none => exact .now
    | some a =>
      obtain ⟨b, hb, hbb⟩ := Option.map_eq_some_iff.mp hr
      refine (looks_takesIn X hb).andThen ?_
      cases b <;> first | exact .now | cases hbb
  rw [osa_eq, refuse_eq]
  refine wpAny_bind (wpAny_bind (I.type.here (wpAny_bind (hm.here ?_))))
  rw [refuse_exc _ ho]
  refine wpAny_pure (wpAny_bind (I.type.here (wpAny_bind ((looks_findIn X ha).here (wpAny_bind (L3.here ?_))))))
  exact h _

theorem osa_noneE {t : Addr} {name : Str} {tk : Tok} {v : Value} {g : Obj → List (Addr × Obj)} (F : Fr h₀ L s.heap m) (N : News h₀ L s.heap news) (X : K.In s.heap)
    (U : UpdF x (excObj C t none) news g) (hp : excOver K C = true) (ht : takerIn K C name = some none) (hh : (clsIn K C).any (·.hasDict) = true)
    (h : ∀ dx h' tk tk', Fr h₀ L h' m → News h₀ L h' ((dx, dictOf [⟨PyData.keyHash w.params name, .str name tk, v⟩] 1) :: g (excObj C t (some dx))) → (∀ p ∈ news, p.1 < dx) → R (.ok (.ret .none)) { s with heap := h', toks := tk' }) :
    codeAny (model prog w) A (.call (.builtin "object.__setattr__") ⟨[.ref x, .str name tk, v], []⟩) R s := by
  obtain ⟨pre, post, rfl, hg, a, b⟩ := U.split
  have hx := (N (x, excObj C t none) (by simp)).1
  have I : InstAt s.heap x (excObj C t none) C none := ⟨hx, rfl, rfl, trivial⟩
  refine osa_openE X I hp ht fun bb => ?_
  obtain ⟨cd, hc, hd'⟩ := any_some hh
  obtain ⟨hh, gs, d, tks, os⟩ := s
  dsimp only at *
  refine wpAny_bind (wpAny_pure (wpAny_bind (wpAny_bind (wpAny_loadPart hx (wpAny_bind ((looks_clsIn X hc).here ?_))))))
  rw [hd']
  have N1 := N.push F emptyDict
  have F1 := F.push emptyDict
  have hx1 := Heap.get?_push_of_some emptyDict hx
  have hlt := Heap.lt_size hx
  obtain ⟨F2, N2⟩ := news_upd (d := x) (pre := (hh.objs.size, emptyDict) :: pre) (post := post) (o := excObj C t none) (o' := excObj C t (some hh.objs.size)) (f := fun o => { cls := o.cls, dict := some hh.objs.size, data := o.data, slots := o.slots }) F1 N1
    (by intro p hp; rcases List.mem_cons.mp hp with rfl | hp; exact Nat.ne_of_gt hlt; exact a p hp) b rfl rfl
  obtain ⟨F3, N3⟩ := news_upd (d := hh.objs.size) (pre := []) (o := emptyDict) (o' := dictOf [⟨PyData.keyHash w.params name, .str name tks, v⟩] 1) (f := Obj.putName name (PyData.keyHash w.params name) (.str name tks) v) F2 N2
    (by intro p hp; cases hp) (by
      intro p hp
      rcases List.mem_append.mp hp with q | q
      · exact Nat.ne_of_lt (Heap.lt_size (N p (List.mem_append_left _ q)).1)
      · rcases List.mem_cons.mp q with rfl | q
        · exact Nat.ne_of_lt hlt
        · exact Nat.ne_of_lt (Heap.lt_size (N p (List.mem_append_right _ (.tail _ q))).1)) (putName_dict name _ _ _ [] 0) rfl
  refine wpAny_bind (wpAny_alloc' ?_)
  refine wpAny_bind (wpAny_update' hx1 ?_)
  refine wpAny_pure ?_
  refine wpAny_bind (wpAny_pure (wpAny_bind ?_))
  unfold nsSet
  have D := (N2 (hh.objs.size, emptyDict) (by simp)).1
  have D' := (N3 (hh.objs.size, _) (List.mem_cons_self ..)).1
  refine wpAny_bind (wpAny_bind (wpAny_askSetting (wpAny_pure (wpAny_bind (wpAny_mkText (wpAny_bind (wpAny_loadPart D ?_)))))))
  dsimp only
  rw [aRefKeyMayBeTheName_at, show (!(#[] : Array DictEntry).any (·.key.isStr name) && (#[] : Array DictEntry).any (·.refKey)) = false from by simp]
  refine wpAny_updatePart D ?_
  refine wpAny_bind (wpAny_lookBehind D' (by exact pastItsLine_dict (by rw [List.size_toArray, sizeLine_eq]; simp)) ?_)
  refine wpAny_pure (h _ _ _ _ F3 (by rw [hg]; exact N3) fun p hp => ?_)
  exact Heap.lt_size (N p hp).1

theorem osa_someE {t dx : Addr} {name : Str} {tk : Tok} {v : Value} {pre post : List (Addr × Obj)} {es es' : List DictEntry} {n n' : Nat} (F : Fr h₀ L s.heap m) (N : News h₀ L s.heap (pre ++ (dx, dictOf es n) :: post)) (X : K.In s.heap)
    (I : InstAt s.heap x (excObj C t (some dx)) C (some (dictOf es n))) (hp : excOver K C = true) (ht : takerIn K C name = some none) (hh : (clsIn K C).any (·.hasDict) = true)
    (hl : (getL name es).isSome = true) (h1 : ∀ p ∈ pre, p.1 ≠ dx) (h2 : ∀ p ∈ post, p.1 ≠ dx)
    (e : (putL name (PyData.keyHash w.params name) (.str name s.toks) v es, putN name es n) = (es', n')) (hz : es'.length ≤ 1000)
    (h : ∀ h', Fr h₀ L h' m → News h₀ L h' (pre ++ (dx, dictOf es' n') :: post) → R (.ok (.ret .none)) { s with heap := h', toks := s.toks + 1 }) :
    codeAny (model prog w) A (.call (.builtin "object.__setattr__") ⟨[.ref x, .str name tk, v], []⟩) R s := by
  refine osa_openE X I hp ht fun b => ?_
  obtain ⟨cd, hc, hd'⟩ := any_some hh
  obtain ⟨e1, e2⟩ := Prod.mk.inj e
  obtain ⟨U1, U2⟩ := news_upd (o' := dictOf es' n') (f := Obj.putName name (PyData.keyHash w.params name) (.str name s.toks) v) F N h1 h2 (by rw [putName_dict, e1, e2]) rfl
  have D := (N (dx, dictOf es n) (by simp)).1
  have D' := (U2 (dx, dictOf es' n') (by simp)).1
  obtain ⟨hx, hcl, hn, -⟩ := I
  refine wpAny_bind (wpAny_pure (wpAny_bind (wpAny_bind (wpAny_loadPart hx (wpAny_bind ((looks_clsIn X hc).here ?_))))))
  rw [hd']
  refine wpAny_pure (a := some dx) (wpAny_bind (wpAny_pure (wpAny_bind ?_)))
  unfold nsSet
  refine wpAny_bind (wpAny_bind (wpAny_askSetting (wpAny_pure (wpAny_bind (wpAny_mkText (wpAny_bind (wpAny_loadPart D ?_)))))))
  dsimp only
  have c : (!es.toArray.any (·.key.isStr name) && es.toArray.any (·.refKey)) = false := by
    rw [← Array.any_toList, ← Array.any_toList]
    unfold getL at hl
    dsimp only
    split at hl
    · rename_i en he
      rw [List.any_eq_true.mpr ⟨en, List.mem_of_find?_eq_some he, List.find?_some he⟩]; rfl
    · split at hl
      · cases hl
      · rename_i z; rw [Bool.not_eq_true] at z; rw [z, Bool.and_false]
  rw [aRefKeyMayBeTheName_at, c]
  refine wpAny_updatePart D ?_
  refine wpAny_bind (wpAny_lookBehind D' (by exact pastItsLine_dict (by rw [List.size_toArray, sizeLine_eq]; omega)) ?_)
  exact wpAny_pure (h _ U1 U2)

theorem set_noneE {E : Value → Shared → Prop} {t : Addr} {name : Str} {v : Value} {g : Obj → List (Addr × Obj)} {Q : Unit → Shared → Prop} (F : Fr h₀ L s.heap m) (X₀ : K.In h₀) (N : News h₀ L s.heap news)
    (U : UpdF x (excObj C t none) news g) (hs : findIn K (.ref C) "__setattr__" = some (some (.builtin "object.__setattr__"))) (hp : excOver K C = true) (ht : takerIn K C name = some none) (hh : (clsIn K C).any (·.hasDict) = true)
    (h : ∀ dx h' tk tk', Fr h₀ L h' m → News h₀ L h' ((dx, dictOf [⟨PyData.keyHash w.params name, .str name tk, v⟩] 1) :: g (excObj C t (some dx))) → (∀ p ∈ news, p.1 < dx) → Q () { s with heap := h', toks := tk' }) :
    wpAny (model prog w) A (setAttr (.ref x) name v) Q E s := by
  obtain ⟨pre, post, q, hg, a, b⟩ := id U.split
  have hx := (N (x, excObj C t none) (by rw [q]; simp)).1
  exact set_plain (X₀.keeps F.keep) (⟨hx, rfl, rfl, trivial⟩ : InstAt s.heap x (excObj C t none) C none) hs (osa_noneE (s := { s with toks := s.toks + 1 }) F N (X₀.keeps F.keep) U hp ht hh fun dx h' tk tk' F' N' l => h dx h' tk tk' F' N' l)

theorem set_someE {E : Value → Shared → Prop} {t dx : Addr} {name : Str} {v : Value} {news' : List (Addr × Obj)} {es es' : List DictEntry} {n n' : Nat} {Q : Unit → Shared → Prop} (F : Fr h₀ L s.heap m) (X₀ : K.In h₀) (N : News h₀ L s.heap news)
    (hx : (x, excObj C t (some dx)) ∈ news) (hdx : (dx, dictOf es n) ∈ news) (hs : findIn K (.ref C) "__setattr__" = some (some (.builtin "object.__setattr__"))) (hp : excOver K C = true) (ht : takerIn K C name = some none) (hh : (clsIn K C).any (·.hasDict) = true)
    (hl : (getL name es).isSome = true) (e : (putL name (PyData.keyHash w.params name) (.str name (s.toks + 1)) v es, putN name es n) = (es', n')) (U : Upd dx (dictOf es n) (dictOf es' n') news news') (hz : es'.length ≤ 1000)
    (h : ∀ h' tk', Fr h₀ L h' m → News h₀ L h' news' → Q () { s with heap := h', toks := tk' }) :
    wpAny (model prog w) A (setAttr (.ref x) name v) Q E s := by
  obtain ⟨pre, post, rfl, rfl, a, b⟩ := U.split
  have I : InstAt s.heap x (excObj C t (some dx)) C (some (dictOf es n)) := ⟨(N _ hx).1, rfl, rfl, (N _ hdx).1⟩
  exact set_plain (X₀.keeps F.keep) I hs (osa_someE (s := { s with toks := s.toks + 1 }) F N (X₀.keeps F.keep) I hp ht hh hl a b e hz fun h' F' N' => h h' _ F' N')

theorem check_init2 {M : Model} {E : Value → Shared → Prop} {e : Addr} {oe : Obj} {rest : List Value} {Q : Unit → Shared → Prop} (X : K.In s.heap) (hY : excAt K C = true)
    (he : s.heap.get? e = some oe) (hcls : oe.cls = .ref C) (hq : Q () s) :
    wpAny M A (checkBuiltinCall "Exception.__init__" ⟨.ref e :: rest, []⟩) Q E s := by
  obtain ⟨nm, q, NN, bs, bm, sn, sub, ab, col, dd, k0, k1, k2, k3, k5, Y⟩ := excAt_of X hY
  have F := PySem.F.excBase_Exception
  obtain ⟨h, g, d, t, os⟩ := s
  have hC := Y.obj
  have hcB : (Value.ref C :: bm).contains (.type "Exception") = true := has_of Y.hE (by simp)
  have hshort := F.noStar
  simp only [checkBuiltinCall, F.initKind, F.initSplit, F.initRow]
  repeat (first | (with_reducible refine wpAny_loadPart_at he ?_; rw [hcls]) | with_reducible refine wpAny_loadPart_at hC ?_ | (with_reducible refine wpAny_isSubtype_exc hC ?_; rw [hcB]) | wp_step)
  refine wpAny_onRaise ?_
  rw [show ∀ (a b : String) (n : Nat), Bind.check ⟨.positional, "*", "Exception", .self, [⟨"args", .varPos, false⟩]⟩ a b n (List.map (fun x => x.fst) ({ pos := Value.ref e :: rest } : Args).kw) = pure () from
    fun a b n => check_star_args _ _ _ _ _ _]
  exact wpAny_pure hq

theorem exc_init {E : Value → Shared → Prop} {t : Addr} {odx : Option Addr} {rest : List Value} {g : Obj → List (Addr × Obj)} {Q : Value → Shared → Prop} (F : Fr h₀ L s.heap m) (X₀ : K.In h₀) (N : News h₀ L s.heap news)
    (U : UpdF x (excObj C t odx) news g) (hY : excAt K C = true)
    (h : ∀ t' h', Fr h₀ L h' m → News h₀ L h' ((t', tupOf rest) :: g (excObj C t' odx)) → (∀ p ∈ news, p.1 < t') → Q .none { s with heap := h' }) (hrest : rest.length ≤ sizeLine := by size_fits) :
    wpAny (model prog w) A (call (.builtin "Exception.__init__") (.ref x :: rest)) Q E s := by
  obtain ⟨pre, post, rfl, hg, a, b⟩ := U.split
  have hx := (N (x, excObj C t odx) (by simp)).1
  have FF := PySem.F.excBase_Exception
  refine wpAny_call (codeAny_call_builtin FF.init.plain FF.initEntry (check_init2 (X₀.keeps F.keep) hY hx rfl ?_))
  obtain ⟨hh, gs, d, tks, os⟩ := s
  dsimp only at *
  have hlt := Heap.lt_size hx
  have N1 := N.push F (tupOf rest)
  obtain ⟨F2, N2⟩ := news_upd (d := x) (pre := (hh.objs.size, tupOf rest) :: pre) (post := post) (o := excObj C t odx) (o' := excObj C hh.objs.size odx) (f := Obj.mapFields (·.setIfInBounds 0 (.ref hh.objs.size))) (F.push _) N1
    (by intro p hp; rcases List.mem_cons.mp hp with rfl | hp; exact Nat.ne_of_gt hlt; exact a p hp) b rfl rfl
  wp_walk
  refine h hh.objs.size _ F2 (by rw [hg]; exact N2) fun p hp => Heap.lt_size (N p hp).1

theorem call_exc2 {E : Value → Shared → Prop} {pos : List Value} {fI : Addr} {Q : Value → Shared → Prop} (F : Fr h₀ L s.heap m) (X₀ : K.In h₀) (N : News h₀ L s.heap news) (hY : excAt K C = true)
    (hi : findIn K (.ref C) "__init__" = some (some (.ref fI))) (hf : typeIn K (.ref fI) = some (.type "function"))
    (h : ∀ x t h', Fr h₀ L h' m → News h₀ L h' ((x, excObj C t none) :: (t, tupOf pos) :: news) → (∀ p ∈ news, p.1 < t) → t < x →
      codeAny (model prog w) (A.under (.builtin "type.__call__" ⟨.ref C :: pos, []⟩)) (.call (.ref fI) ⟨.ref x :: pos, []⟩) (InitBack x fun r s' => match r with | .ok (.ret v) => Q v s' | .ok _ => False | .error e => E e s') { s with heap := h' }) (hrest : pos.length ≤ sizeLine := by size_fits) :
    wpAny (model prog w) A (call (.ref C) pos) Q E s := by
  have X := X₀.keeps F.keep
  obtain ⟨nm, q, NN, bs, bm, sn, sub, ab, col, dd, k0, k1, k2, k3, k5, Y⟩ := excAt_of X hY
  have hC := Y.obj
  obtain ⟨hh, g, d, t, os⟩ := s
  dsimp only at *
  have f1 := tc_lookup
  have f2 := tc_bind (.ref C)
  have hT : (⟨hh, g, d, t, os⟩ : Shared).TypeIs (.ref C) "type" := ⟨_, hC, rfl⟩
  refine wpAny_call (codeAny_of_tree ?_)
  show wpAny _ _ (callAny (.ref C) _) _ _ _
  repeat (any_goals (first | assumption | with_reducible refine wpAny_loadPart_at hC ?_ | wp_step))
  refine ⟨rfl, ?_⟩
  refine codeAny_call_builtin_at (Code.quiet_builtin _ (by decide +kernel)) entry_typeCall (wpAny_check_type_call_sub hC (type_call2 (hrest := hrest) Y X hi hf ?_))
  have N2 := (N.push F (tupOf pos)).push (F.push _) (excObj C hh.objs.size none)
  rw [Heap.size_push] at N2
  refine wpAny_call (codeAny_mono (h _ _ _ ((F.push _).push _) N2 (fun p hp => Heap.lt_size (N p hp).1) (Nat.lt_succ_self _)) fun r s' z => ?_)
  rcases r with e | (v | _ | _ | _) <;> first | exact z | exact z.elim
end

section
variable {prog : Program} {w : World} {A : Around} {K : Frag} {C : Addr} {E : Value → Shared → Prop} {s : Shared} {env : Env}

/- what a raise statement asks of its exception -/
def RaisesOwn (h : Heap) (v : Value) : Prop := ∃ e C oe vs nm q N bs bm sn sub ab col dd k0 k1 k2 k3 k5, v = .ref e ∧ ExcIs h C nm q N bs bm sn sub ab col dd k0 k1 k2 k3 k5 ∧ h.get? e = some oe ∧ oe.cls = .ref C ∧ oe.data = .fields vs ∧ vs[1]? = some .none

theorem raisesOwn_of {h : Heap} {e t : Addr} {dx : Option Addr} (X : K.In h) (hY : excAt K C = true) (he : h.get? e = some (excObj C t dx)) : RaisesOwn h (.ref e) := by
  obtain ⟨nm, q, NN, bs, bm, sn, sub, ab, col, dd, k0, k1, k2, k3, k5, Y⟩ := excAt_of X hY
  exact ⟨e, C, _, _, nm, q, NN, bs, bm, sn, sub, ab, col, dd, k0, k1, k2, k3, k5, rfl, Y, he, rfl, rfl, rfl⟩

theorem raise_own {e : Expr} {pos : Pos} {Q : Flow → Shared → Prop} (hh : A.handled = none)
    (h : wpAny (model prog w) A (eval e env) (fun v s₁ => RaisesOwn s₁.heap v ∧ E v s₁) E s) : wpAny (model prog w) A (exec (.Raise (some e) none pos) env) Q E s := by
  show wpAny (model prog w) A (do standAt pos; raiseStmt env (some (do let v ← eval e env; standAt pos; pure v)) none) Q E s
  refine wpAny_bind (wpAny_standAt ?_)
  unfold raiseStmt
  dsimp only
  refine wpAny_bind (wpAny_bind (wpAny_mono h (fun v s₁ h₁ => wpAny_bind (wpAny_standAt (wpAny_pure ?_))) fun _ _ x => x))
  obtain ⟨⟨a, C, oe, vs, nm, q, NN, bs, bm, sn, sub, ab, col, dd, k0, k1, k2, k3, k5, rfl, Y, ha, hcls, hd, h1⟩, hE⟩ := h₁
  have hC := Y.obj
  have hcB : (Value.ref C :: bm).contains (.type "BaseException") = true := has_of Y.hB (by simp)
  obtain ⟨hp, g, d, tk, os⟩ := s₁
  dsimp only at *
  have hnt : ∀ {Q' : Bool → Shared → Prop}, Q' false ⟨hp, g, d, tk, os⟩ → wpAny (model prog w) A (isType (.ref a)) Q' E ⟨hp, g, d, tk, os⟩ := by
    intro Q' hq
    simp only [isType, loadHead]
    refine wpAny_bind (wpAny_loadPart ha ?_)
    rw [hd]; exact wpAny_pure hq
  refine wpAny_bind (wpAny_pure ?_)
  dsimp only
  refine wpAny_bind (wpAny_holding ?_)
  unfold excFromValue isExcClass
  refine wpAny_bind (wpAny_bind (hnt ?_))
  simp only [Bool.false_eq_true, if_false]
  refine wpAny_pure ?_
  simp only [Bool.false_eq_true, if_false]
  unfold isInstance
  repeat (first | (with_reducible refine wpAny_loadPart_at ha ?_; rw [hcls]) | (with_reducible refine wpAny_isSubtype_exc hC ?_; rw [hcB]) | with_reducible refine hnt ?_ | with_reducible refine wpAny_loadPart_at hC ?_ | wp_step)
  rw [hd]
  refine wpAny_pure ?_
  rw [h1]
  refine wpAny_pure ?_
  rw [if_neg (by decide)]
  exact wpAny_pure (wpAny_raiseNew_none hh hE)
end

section
variable {M : Model} {A : Around} {E : Value → Shared → Prop} {s' : Shared} {base g : Heap} {outer : List Env} {L a e t : Addr} {m : Str → Option Value} {name : Str} {scope : Scope} {cd : Value} {Q : Unit → Shared → Prop} {news led : List (Addr × Obj)}
theorem leave_raiseE {C : Addr} {dx : Option Addr} {vs : List Value} (K : Below A base outer g) (F : Fr g L s'.heap m) (N : News g L s'.heap led) (he : (e, excObj C t dx) ∈ led) (ht : (t, tupOf vs) ∈ led)
    (hsub : ∀ p ∈ news, p ∈ led) (hne : ∀ p ∈ news, p.1 ≠ e) (hnt : ∀ p ∈ news, p.1 ≠ t)
    (hQ : ∀ h', RaisedK base outer e (.ref C) t vs news h' → g.UpToSlots h' → Q () { s' with heap := h' }) (hk : scope.kind = .function := by rfl) :
    wpAny M (A.deeper (envOf name scope L a cd)) (leaving (envOf name scope L a cd) (.ref e)) Q E s' := by
  have K' := K.push (name := name) (a := a) (cd := cd) F hk
  have hin : ∀ env ∈ (envOf name scope L a cd :: outer), ∀ b, env.frame = some b → b ∈ (envOf name scope L a cd :: outer).filterMap (·.frame) ++ [e, t] := fun env he b hb => List.mem_append_left _ (List.mem_filterMap.mpr ⟨env, he, hb⟩)
  have hfresh : ∀ b o, (b, o) ∈ led → base.get? b = none := fun b o hm => fresh_of_stays K.stays (N _ hm).2.2
  have hfr : ∀ b o, (b, o) ∈ led → b ∉ (envOf name scope L a cd :: outer).filterMap (·.frame) := fun b o hm hmem => by
    obtain ⟨env, hen, hf⟩ := List.mem_filterMap.mp hmem
    rcases List.mem_cons.mp hen with rfl | hen
    · exact (N _ hm).2.1 (Option.some.inj hf).symm
    · obtain ⟨o', ho, _⟩ := (K.frames.mem (List.mem_filterMap.mpr ⟨env, hen, hf⟩)).2
      rw [(N _ hm).2.2] at ho; cases ho
  have st : base.StaysIn (hideAll s'.heap ((envOf name scope L a cd :: outer).filterMap (·.frame) ++ [e, t])) := fun b o q => hideAll_get _ (K'.stays b o q) fun hm => by
    rcases List.mem_append.mp hm with hm | hm
    · rw [(K'.frames.mem hm).1] at q; cases q
    · rcases List.mem_cons.mp hm with rfl | hm
      · rw [hfresh _ _ he] at q; cases q
      · rcases List.mem_cons.mp hm with rfl | hm
        · rw [hfresh _ _ ht] at q; cases q
        · cases hm
  have hl : ∀ q ∈ news, (hideAll s'.heap ((envOf name scope L a cd :: outer).filterMap (·.frame) ++ [e, t])).get? q.1 = some q.2 ∧ base.get? q.1 = none := fun q hq => by
    refine ⟨hideAll_get _ (N q (hsub q hq)).1 fun hm => ?_, hfresh _ _ (hsub q hq)⟩
    rcases List.mem_append.mp hm with hm | hm
    · exact hfr _ _ (hsub q hq) hm
    · rcases List.mem_cons.mp hm with hm | hm
      · exact hne q hq hm
      · rcases List.mem_cons.mp hm with hm | hm
        · exact hnt q hq hm
        · cases hm
  refine wpAny_leaving_firstW (base := hideAll s'.heap ((envOf name scope L a cd :: outer).filterMap (·.frame) ++ [e, t])) (a0 := .ref t) K'.stack (funFrames_hide K'.frames hin) rfl (N _ he).1 (fun b o q => of_hideAll _ q)
    (hideAll_none _ (List.mem_append_right _ (List.Mem.head _))) rfl rfl rfl fun h' hL => ?_
  obtain ⟨k1, ⟨_, _, k2⟩, k3, k4⟩ := hL
  refine hQ h' ⟨⟨_, st, hl, ⟨k1, hideAll_none _ (List.mem_append_right _ (List.Mem.head _)), k2, k3⟩, hideAll_none _ (List.mem_append_right _ (List.Mem.tail _ (List.Mem.head _)))⟩, ?_⟩ ((Heap.UpToSlots.of_keeps F.keep).trans k4)
  exact Heap.TupAt.of_slots ⟨_, _, (N _ ht).1, rfl, rfl⟩ k4
end
end
end Mine
end

/- part QExc3 -/
section
open PySem PySem.W PySem.Calls PyProof.Rows
namespace Mine
section
theorem freshQExc3 : True := by
  k_with_none
  trivial
set_option maxRecDepth 100000

local macro_rules | `(tactic| k_all) => `(tactic| exact lt_ne (by assumption) (by omega))
local macro_rules | `(tactic| k_all) => `(tactic| exact allLt_ne (by assumption) (by omega))
local macro_rules | `(tactic| k_all) => `(tactic| exact OwnOff.ne (by assumption) (List.Mem.head _))
local macro_rules | `(tactic| k_mem) => `(tactic| k_dflt assumption)
local macro_rules | `(tactic| k_handed) => `(tactic| exact cval_handed _ _)
local macro_rules | `(tactic| k_room) => `(tactic| ktr_room)

theorem die_is (p : Params) : excAt (Mine.Hd.heap_39 p) 301 = true := by kernel_rfl
theorem die_over (p : Params) : excOver (Mine.Hd.heap_39 p) 301 = true := by kernel_rfl
theorem die_dict (p : Params) : (clsIn (Mine.Hd.heap_39 p) 301).any (·.hasDict) = true := by kernel_rfl
theorem die_set (p : Params) : findIn (Mine.Hd.heap_39 p) (.ref 301) "__setattr__" = some (some (.builtin "object.__setattr__")) := by kernel_rfl
theorem meta_Exception : typeOf (.type "Exception") = pure (.type "type") := by kernel_rfl

theorem exc_init_at (p : Params) : findCls (Mine.Hd.heap_39 p) (.type "Exception") (.type "type") "__init__" = some (.val (.builtin "Exception.__init__")) := by kernel_rfl

def FnE (w : World) (mean : ExcName → Option Value) (mg mb : Str → Option Value) (f : Addr) (vs : List Value) (cost : Nat) (led : List (Addr × Obj)) : Prop :=
  ∀ (dp un : Nat) (gd : Option (List Code)) (cn : Str) (cs : Scope) (a : Addr) (ccd : Value) (cl : List (Str × Addr)) (outer : List Env) (A₀ : Around) (base h₀ : Heap) (L : Addr) (m : Str → Option Value) (s : Shared)
    (Q E : Value → Shared → Prop),
    Below A₀ base outer h₀ → Fr h₀ L s.heap m → (Hd.heap_39 w.params).In h₀ → News h₀ L s.heap led → Top Hd.view_39 (looseW Hd.view_39 [Str.ofString "Limits"]) mean mg mb h₀ → cs.kind = .function → dp + cost < recursionLimit → un + 8 * cost < cLine →
    (∀ e t vs' h' tk' G, Fr h₀ L G m → G.UpToSlots h' → RaisedK base (envX cn cs L a ccd cl :: outer) e (.ref 301) t vs' led h' → E (.ref e) { s with heap := h', toks := tk' }) →
    wpAny (model PySem.Challenge.rw_qz0096_01.row.prog w) (ktrTop dp un gd cn cs L a ccd cl outer) (call (.ref f) vs) Q E s

theorem ne_of2 {x t o : Addr} {l : List (Addr × Obj)} (h : @LT.lt Nat _ x t ∧ @LT.lt Nat _ o t ∧ AllLt t l) : ∀ p ∈ l, p.1 ≠ t := allLt_ne h.2.2 (Nat.le_refl _)
theorem words21 : True := by
  k_with "ENTERE" => (
    unfold FnE
    k_fill
    intro dp un gd cn cs a ccd cl outer A₀ base h₀ L m s Q E B F X N T hk hd hu hret
    refine wpAny_call ?_
    k_dflt ktr_enter
    k_steps)
  k_with "DIE" => (
    k_dflt (refine' call_exc2 (K := Mine.Hd.heap_39 w.params) (C := 301) (fI := 298) ?k1 ?k2 ?k3 ?k4 ?k5 ?k6 ?_; (case k1 => k_asm); (case k2 => k_asm); (case k3 => k_asm); (case k4 => exact die_is _); (case k5 => k_is); (case k6 => k_is))
    k_whole
    intro x9 t9 h9 F9 N9 l9 l9'
    (try k_lt l9)
    (try k_lt2 l9')
    (try k_sweep)
    k_dflt k_enter)
  k_with "SETE" => (k_dflt (first
    | (refine' set_noneE (K := Mine.Hd.heap_39 w.params) (C := 301) ?k1 ?k2 ?k3 ?k4 ?k5 ?k6 ?k7 ?k8 ?_; (case k1 => k_asm); (case k2 => k_asm); (case k3 => k_asm); (case k4 => k_updF); (case k5 => exact die_set _); (case k6 => exact die_over _); (case k7 => k_is); (case k8 => exact die_dict _); k_whole; intro dx9 h9 tk9 tk9' F9 N9 l9; (try dsimp only at N9); (try k_lt l9); (try k_sweep))
    | (refine' set_someE (K := Mine.Hd.heap_39 w.params) (C := 301) ?k1 ?k2 ?k3 ?k4 ?k5 ?k6 ?k7 ?k8 ?k9 ?k10 ?k11 ?k12 ?k13 ?_; (case k1 => k_asm); (case k2 => k_asm); (case k3 => k_asm); (case k4 => k_mem); (case k5 => k_mem); (case k6 => exact die_set _); (case k7 => exact die_over _); (case k8 => k_is); (case k9 => exact die_dict _); (case k10 => k_get); (case k11 => k_put); (case k12 => k_upd); (case k13 => exact Nat.le_of_ble_eq_true rfl); k_whole; intro h9 tk9 F9 N9; (try k_sweep))))
  k_with "EXCINIT" => (k_dflt (refine' exc_init (K := Mine.Hd.heap_39 w.params) (C := 301) ?k1 ?k2 ?k3 ?k4 ?k5 ?_ ?k9; (case k9 => rw [sizeLine_eq]; exact Nat.le_of_ble_eq_true rfl); (case k1 => k_asm); (case k2 => k_asm); (case k3 => k_asm); (case k4 => k_updF); (case k5 => exact die_is _); k_whole; intro t9 h9 F9 N9 l9; (try dsimp only at N9); (try k_lt l9); (try k_sweep)))
  k_with "RAISE" => (refine raise_own rfl ?_)
  k_with "GME" => (
    k_dflt (refine' method_type (K := Mine.Hd.heap_39 w.params) ?F ?X ?m ?dd ?e ?h ?_; (case F => k_asm); (case X => k_asm); (case m => exact meta_Exception); (case dd => decide +kernel); (case e => exact exc_init_at _); (case h => exact rfl))
    k_whole)
  k_with "TLS" => (first | exact List.Mem.head _ | assumption | (apply List.Mem.tail; k_extra "TLS"))
  k_with "LEAVE" => (
    k_dflt (refine' leave_raiseE (C := 301) ?k1 ?k2 ?k3 ?k4 ?k5 ?k6 ?k7 ?k8 ?k9; (case k1 => assumption); (case k2 => k_asm); (case k3 => k_asm); (case k4 => k_extra "TLS"); (case k5 => k_extra "TLS"); (case k9 => (intro h9 R9 U9; exact hret _ _ _ _ _ _ (by assumption) U9 R9)); (case k6 => (intro p hp; k_extra "TLS")); (case k7 => exact lt_ne (by assumption) (by omega)); (case k8 => exact ne_of2 (by assumption))))
  k_with "DIED" => (exact raisesOwn_of (K := Mine.Hd.heap_39 w.params) (by k_in) (die_is _) (News.get (by k_asm) (by k_extra "TLS")))
  k_with "USE" => (
    (case k1 => k_asm)
    (case k2 => k_asm)
    (case k3 => k_asm)
    (case k5 => k_asm)
    (case kK => first | exact rfl | assumption)
    (case kd => ktr_room)
    (case ku => ktr_units)
    intro r9 led9 h9 tk9 F9 N9 P9)
  k_with "SPAN" => (
    k_dflt (refine' Fn.use ?k1 ?k2 ?k3 ?k4 ?k5 ?kK (span_v w mean mg mb _ hx _ hoo _ c0 hcv0 hc0 _ _ _) ?kd ?ku ?_)
    (case k4 => k_asm)
    k_extra "USE"
    k_dflt (rw [hsp] at P9; obtain ⟨hr9, hl9⟩ := P9; subst hr9 hl9)
    (try dsimp only))
  trivial

theorem span_v (w : World) (mean : ExcName → Option Value) (mg mb : Str → Option Value) (n : Nat) (hn : n ≤ 100) (off : Int) (ho : -1000 ≤ off ∧ off ≤ 1000) (cv : Value) (c : Option Int) (hcv : ∃ tc, cv = cval c tc) (hc : ∀ k, c = some k → -1000 ≤ k ∧ k ≤ 1000) (t1 t2 : Tok) (led : List (Addr × Obj)) :
    Fn w mean mg mb 310 [.int n t1, .int off t2, cv] 1 led (PairPost led (spanOf n off c)) := by
  obtain ⟨tc, rfl⟩ := hcv
  exact span_c w mean mg mb n hn off ho c hc t1 t2 tc led

set_option maxHeartbeats 4000000 in
theorem sput_die (w : World) (mean : ExcName → Option Value) (mg mb : Str → Option Value) (x : Str) (hx : x.length ≤ 100) (tx : Tok) (y : Str) (ty : Tok) (off : Int) (hoo : -1000 ≤ off ∧ off ≤ 1000) (to : Tok) (cv : Value) (c0 : Option Int) (hcv0 : ∃ tc, cv = cval c0 tc) (hc0 : ∀ k, c0 = some k → -1000 ≤ k ∧ k ≤ 1000)
    (hsp : spanOf x.length off c0 = none) (led : List (Addr × Obj)) :
    FnE w mean mg mb 324 [.str x tx, .int off to, cv, .str y ty] 4 led := by
  k_extra "ENTERE"
  all_goals k_extra "DIED"
end
end Mine
end

/- part QExc4 -/
section
open PySem PySem.W PySem.Calls PyProof.Rows
namespace Mine
section
theorem freshQExc4 : True := by
  k_with_none
  trivial
set_option maxRecDepth 100000

local macro_rules | `(tactic| k_all) => `(tactic| exact lt_ne (by assumption) (by omega))
local macro_rules | `(tactic| k_all) => `(tactic| exact allLt_ne (by assumption) (by omega))
local macro_rules | `(tactic| k_all) => `(tactic| exact OwnOff.ne (by assumption) (List.Mem.head _))
local macro_rules | `(tactic| k_mem) => `(tactic| k_dflt assumption)
local macro_rules | `(tactic| k_handed) => `(tactic| exact cval_handed _ _)
local macro_rules | `(tactic| k_room) => `(tactic| ktr_room)

theorem FnE.use {w : World} {mean : ExcName → Option Value} {mg mb : Str → Option Value} {f : Addr} {vs : List Value} {cost : Nat} {led : List (Addr × Obj)}
    {dp un : Nat} {gd : Option (List Code)} {cn : Str} {cs : Scope} {a : Addr} {ccd : Value} {cl : List (Str × Addr)} {outer : List Env} {A₀ : Around} {base h₀ : Heap} {L : Addr} {m : Str → Option Value} {s : Shared}
    {Q E : Value → Shared → Prop} (B : Below A₀ base outer h₀) (F : Fr h₀ L s.heap m) (X : (Hd.heap_39 w.params).In h₀) (N : News h₀ L s.heap led) (T : Top Hd.view_39 (looseW Hd.view_39 [Str.ofString "Limits"]) mean mg mb h₀) (hk : cs.kind = .function)
    (C : FnE w mean mg mb f vs cost led) (hd : dp + cost < recursionLimit) (hu : un + 8 * cost < cLine)
    (ret : ∀ e t vs' h' tk' G, Fr h₀ L G m → G.UpToSlots h' → RaisedK base (envX cn cs L a ccd cl :: outer) e (.ref 301) t vs' led h' → E (.ref e) { s with heap := h', toks := tk' }) :
    wpAny (model PySem.Challenge.rw_qz0096_01.row.prog w) (ktrTop dp un gd cn cs L a ccd cl outer) (call (.ref f) vs) Q E s := C _ _ _ _ _ _ _ _ _ _ _ _ _ _ _ _ _ B F X N T hk hd hu ret

theorem ne_of3 {p : Prop} {t o : Addr} {l : List (Addr × Obj)} (h : p ∧ AllLt t l) (h2 : @LE.le Nat _ t o) : ∀ p ∈ l, p.1 ≠ o := allLt_ne h.2 h2
theorem ne_of4 {p q r : Prop} {t : Addr} {l : List (Addr × Obj)} (h : p ∧ q ∧ r ∧ AllLt t l) : ∀ p ∈ l, p.1 ≠ t := allLt_ne h.2.2.2 (Nat.le_refl _)
theorem words22 : True := by
  k_with "ENTERE" => (
    unfold FnE
    k_fill
    intro dp un gd cn cs a ccd cl outer A₀ base h₀ L m s Q E B F X N T hk hd hu hret
    refine wpAny_call ?_
    k_dflt ktr_enter
    k_steps)
  k_with "DIE" => (
    k_dflt (refine' call_exc2 (K := Mine.Hd.heap_39 w.params) (C := 301) (fI := 298) ?k1 ?k2 ?k3 ?k4 ?k5 ?k6 ?_; (case k1 => k_asm); (case k2 => k_asm); (case k3 => k_asm); (case k4 => exact die_is _); (case k5 => k_is); (case k6 => k_is))
    k_whole
    intro x9 t9 h9 F9 N9 l9 l9'
    (try k_lt l9)
    (try k_lt2 l9')
    (try k_sweep)
    k_dflt k_enter)
  k_with "SETE" => (k_dflt (first
    | (refine' set_noneE (K := Mine.Hd.heap_39 w.params) (C := 301) ?k1 ?k2 ?k3 ?k4 ?k5 ?k6 ?k7 ?k8 ?_; (case k1 => k_asm); (case k2 => k_asm); (case k3 => k_asm); (case k4 => k_updF); (case k5 => exact die_set _); (case k6 => exact die_over _); (case k7 => k_is); (case k8 => exact die_dict _); k_whole; intro dx9 h9 tk9 tk9' F9 N9 l9; (try dsimp only at N9); (try k_lt l9); (try k_sweep))
    | (refine' set_someE (K := Mine.Hd.heap_39 w.params) (C := 301) ?k1 ?k2 ?k3 ?k4 ?k5 ?k6 ?k7 ?k8 ?k9 ?k10 ?k11 ?k12 ?k13 ?_; (case k1 => k_asm); (case k2 => k_asm); (case k3 => k_asm); (case k4 => k_mem); (case k5 => k_mem); (case k6 => exact die_set _); (case k7 => exact die_over _); (case k8 => k_is); (case k9 => exact die_dict _); (case k10 => k_get); (case k11 => k_put); (case k12 => k_upd); (case k13 => exact Nat.le_of_ble_eq_true rfl); k_whole; intro h9 tk9 F9 N9; (try k_sweep))))
  k_with "EXCINIT" => (k_dflt (refine' exc_init (K := Mine.Hd.heap_39 w.params) (C := 301) ?k1 ?k2 ?k3 ?k4 ?k5 ?_ ?k9; (case k9 => rw [sizeLine_eq]; exact Nat.le_of_ble_eq_true rfl); (case k1 => k_asm); (case k2 => k_asm); (case k3 => k_asm); (case k4 => k_updF); (case k5 => exact die_is _); k_whole; intro t9 h9 F9 N9 l9; (try dsimp only at N9); (try k_lt l9); (try k_sweep)))
  k_with "RAISE" => (refine raise_own rfl ?_)
  k_with "GME" => (
    k_dflt (refine' method_type (K := Mine.Hd.heap_39 w.params) ?F ?X ?m ?dd ?e ?h ?_; (case F => k_asm); (case X => k_asm); (case m => exact meta_Exception); (case dd => decide +kernel); (case e => exact exc_init_at _); (case h => exact rfl))
    k_whole)
  k_with "TLS" => (first | exact List.Mem.head _ | assumption | (apply List.Mem.tail; k_extra "TLS"))
  k_with "LEAVE" => (
    k_dflt (refine' leave_raiseE (C := 301) ?k1 ?k2 ?k3 ?k4 ?k5 ?k6 ?k7 ?k8 ?k9; (case k1 => assumption); (case k2 => k_asm); (case k3 => k_asm); (case k4 => k_extra "TLS"); (case k5 => k_extra "TLS"); (case k9 => (intro h9 R9 U9; exact hret _ _ _ _ _ _ (by assumption) U9 R9)); (case k6 => (intro p hp; k_extra "TLS")); (case k7 => first | exact lt_ne (by assumption) (by omega) | exact ne_of3 (by assumption) (by omega)); (case k8 => first | exact ne_of2 (by assumption) | exact ne_of4 (by assumption))))
  k_with "DIED" => (exact raisesOwn_of (K := Mine.Hd.heap_39 w.params) (by k_in) (die_is _) (News.get (by k_asm) (by k_extra "TLS")))
  k_with "USE" => (
    (case k1 => k_asm)
    (case k2 => k_asm)
    (case k3 => k_asm)
    (case k5 => k_asm)
    (case kK => first | exact rfl | assumption)
    (case kd => ktr_room)
    (case ku => ktr_units)
    intro r9 led9 h9 tk9 F9 N9 P9)
  k_with "LVB" => (
    k_dflt (refine' Fn.use ?k1 ?k2 ?k3 ?k4 ?k5 ?kK (lvbegin_c w mean mg mb xa xd _ _ e d _ _ _ _ _ _ _ _ ?a1 ?a2 _ _ ?a3 ?a4) ?kd ?ku ?_)
    (case k4 => k_asm)
    (case a1 => omega)
    (case a2 => omega)
    (case a3 => k_dflt k_mem)
    (case a4 => k_dflt k_mem)
    k_extra "USE"
    obtain ⟨⟨t9, hr9⟩, hl9⟩ := P9
    subst hr9 hl9
    (try dsimp only))
  k_with "VOF" => (
    k_dflt (refine' Fn.use ?k1 ?k2 ?k3 ?k4 ?k5 ?kK (vof_c w mean mg mb g x tx _ ?a3 ?a4) ?kd ?ku ?_)
    (case k4 => k_asm)
    (case a3 => k_dflt k_mem)
    (case a4 => k_dflt k_mem)
    k_extra "USE"
    obtain ⟨hr9, hl9⟩ := P9
    subst hr9 hl9
    (try dsimp only))
  k_with "TOT" => (
    k_dflt (refine' Fn.use ?k1 ?k2 ?k3 ?k4 ?k5 ?kK (tot_c w mean mg mb _ _ _) ?kd ?ku ?_)
    (case k4 => k_asm)
    k_extra "USE"
    obtain ⟨hr9, hl9⟩ := P9
    subst hr9 hl9
    (try dsimp only))
  k_with "SPUTOK" => (
    k_dflt (refine' Fn.use ?k1 ?k2 ?k3 ?k4 ?k5 ?kK (sput_v w mean mg mb x hx _ y hy _ e d hdd _ _ c0 hcv0 hc0 b f hsp _) ?kd ?ku ?_)
    (case k4 => k_asm)
    k_extra "USE"
    obtain ⟨q9, ta9, tb9, hr9, hl9, l9⟩ := P9
    subst hr9 hl9
    (try k_lt l9)
    (try dsimp only))
  k_with "SPUTDIE" => (
    k_dflt (refine' FnE.use ?k1 ?k2 ?k3 ?k4 ?k5 ?kK (sput_die w mean mg mb x hx _ y _ (lvOff x.length e d) hoo _ _ c0 hcv0 hc0 hsp _) ?kd ?ku ?_; (case k4 => k_asm); (case k1 => k_asm); (case k2 => k_asm); (case k3 => k_asm); (case k5 => k_asm); (case kK => first | exact rfl | assumption); (case kd => ktr_room); (case ku => ktr_units))
    intro e9 t9 vs9 h9 tk9 G9 FG9 U9 R9
    (try dsimp only)
    refine stop_of ?_)
  k_with "SPUT" => k_extra "SPUTDIE"
  trivial

set_option maxHeartbeats 4000000 in
theorem put_die1 (w : World) (mean : ExcName → Option Value) (mg mb : Str → Option Value) (g : Sc) (x : Str) (hx : x.length ≤ 100) (tx : Tok) (y : Str) (ty : Tok) (xa xd : Addr) (e : Bool) (d : Nat) (td : Tok) (c0 : Option Int) (hc0 : ∀ k, c0 = some k → -1000 ≤ k ∧ k ≤ 1000) (tc : Tok) (a1 a2 a3 a4 a5 : HT) (hdd : d ≤ 1000)
    (led : List (Addr × Obj)) (hm : (xa, instObj 362 xd) ∈ led) (hmd : (xd, lvDict g.cn g.sc e (lvO e d) td (cval c0 tc) a1 a2 a3 a4 a5) ∈ led) (hm3 : (g.sc, instObj 66 g.scD) ∈ led) (hm4 : (g.scD, g.scDict x tx) ∈ led)
    (hsp : spanOf x.length (lvOff x.length e d) c0 = none) :
    FnE w mean mg mb 359 [.ref xa, .str y ty] 6 led := by
  have hcv0 : ∃ t, cval c0 tc = cval c0 t := ⟨tc, rfl⟩
  have hoo : -1000 ≤ lvOff x.length e d ∧ lvOff x.length e d ≤ 1000 := by unfold lvOff; split <;> (try split) <;> omega
  k_extra "ENTERE"
  refine Stop.go ?_
  refine leave_onK ?k1 FG9 R9 U9 ?k2
  case k1 => assumption
  case k2 =>
    intro h8 R8 U8
    exact hret _ _ _ _ _ _ (by assumption) U8 R8

set_option maxHeartbeats 4000000 in
theorem put_die2 (w : World) (mean : ExcName → Option Value) (mg mb : Str → Option Value) (g : Sc) (x : Str) (hx : x.length ≤ 100) (tx : Tok) (y : Str) (hy : y.length ≤ 100) (ty : Tok) (xa xd : Addr) (e : Bool) (d : Nat) (td : Tok) (c0 : Option Int) (hc0 : ∀ k, c0 = some k → -1000 ≤ k ∧ k ≤ 1000) (tc : Tok) (a1 a2 a3 a4 a5 : HT) (hdd : d ≤ 1000)
    (led : List (Addr × Obj)) (hm : (xa, instObj 362 xd) ∈ led) (hmd : (xd, lvDict g.cn g.sc e (lvO e d) td (cval c0 tc) a1 a2 a3 a4 a5) ∈ led) (hm4 : (g.scD, g.scDict x tx) ∈ led) (hs : g.Has w led)
    (b f : Int) (hsp : spanOf x.length (lvOff x.length e d) c0 = some (b, f)) (hmost : (x.length : Int) - (f - b) + y.length > g.most) :
    FnE w mean mg mb 359 [.ref xa, .str y ty] 6 led := by
  have hb9 := spanOf_bounds hsp
  have hL := whole_len (y := y) hb9.1 hb9.2.1 hb9.2.2
  obtain ⟨m1, m2, m3, m4, m5, m6, m7, m8, m9, hpl, hem, lpl, lem⟩ := id hs
  have hcv0 : ∃ t, cval c0 tc = cval c0 t := ⟨tc, rfl⟩
  k_with "SPUT" => k_extra "SPUTOK"
  k_extra "ENTERE"
  all_goals k_extra "DIED"
end
end Mine
end

/- part QLoop1 -/
section
open PySem PySem.W PySem.Calls PyProof.Rows
namespace Mine
section
theorem freshQLoop1 : True := by
  k_with_none
  trivial
set_option maxRecDepth 100000

theorem let_use {w : World} {mean : ExcName → Option Value} {mg mb : Str → Option Value} {tub : Addr} {at_ : Int} {ta : Tok} {vs : List Value} {ns : List Int} {n : Nat} {many : Int} {tm : Tok} {led rest : List (Addr × Obj)}
    {dp un : Nat} {gd : Option (List Code)} {cn : Str} {cs : Scope} {a : Addr} {ccd : Value} {cl : List (Str × Addr)} {outer : List Env} {A₀ : Around} {base h₀ : Heap} {L : Addr} {m : Str → Option Value} {s : Shared}
    {Q E : Value → Shared → Prop} (B : Below A₀ base outer h₀) (F : Fr h₀ L s.heap m) (X : (Hd.heap_39 w.params).In h₀) (N : News h₀ L s.heap led) (T : Top Hd.view_39 (looseW Hd.view_39 [Str.ofString "Limits"]) mean mg mb h₀) (hk : cs.kind = .function)
    (sel : Sel tub (lst (.int at_ ta :: vs) n) led rest) (hoff : AllNe tub rest) (h0 : 0 ≤ at_) (h1 : at_ ≤ 90000) (hv : IntsAre vs ns) (hl : ns.length ≤ 1000) (hm : 0 ≤ many) (hm2 : many ≤ 20)
    (hd : dp + 2 < recursionLimit) (hu : un + 8 * 2 < cLine)
    (ret : ∀ x t t' n' h' tk', Fr h₀ L h' m → News h₀ L h' ((tub, lst (.int (at_ + many) t' :: vs) n') :: rest) → (x.length : Int) = many → Q (.str x t) { s with heap := h', toks := tk' }) :
    wpAny (model PySem.Challenge.rw_qz0096_01.row.prog w) (ktrTop dp un gd cn cs L a ccd cl outer) (call (.ref 496) [.ref tub, .int many tm]) Q E s := by
  obtain ⟨mn, rfl⟩ : ∃ mn : Nat, many = mn := ⟨many.toNat, by omega⟩
  refine Fn.use B F X (sel.news N) T hk (let_c w mean mg mb tub at_ h0 h1 ta vs ns hv hl n mn (by omega) tm rest hoff.off) hd hu ?_
  rintro r led' h' tk' F' N' ⟨⟨x, t, rfl, hx⟩, t', n', rfl⟩
  exact ret x t t' n' h' tk' F' N' (by rw [hx])


/- the law's own text, read off the program -/
def lawDef : Stmt := (PySem.Challenge.rw_qz0096_01.prog.main.body.getLast?).getD default
def lawBody : List Stmt := match lawDef with | .FunctionDef _ _ b _ _ _ _ _ _ _ => b | _ => []
def lawScope : Scope := match lawDef with | .FunctionDef _ _ _ _ _ _ sc _ _ _ => sc | _ => default
def forBody (s : Stmt) : List Stmt := match s with | .For _ _ b _ _ => b | _ => []
def stmtAt (l : List Stmt) (i : Nat) : Stmt := (l[i]?).getD default
def loop1 : List Stmt := forBody (stmtAt lawBody 6)
def loop2 : List Stmt := forBody (stmtAt lawBody 7)

abbrev shp (tub most counter scalar places parts text : Value) (m : Str → Option Value) : Str → Option Value := fun y =>
  if y = Str.ofString "tub" then some tub else if y = Str.ofString "most" then some most else if y = Str.ofString "counter" then some counter else if y = Str.ofString "scalar" then some scalar else
  if y = Str.ofString "places" then some places else if y = Str.ofString "parts" then some parts else if y = Str.ofString "text" then some text else m y
structure Names (m : Str → Option Value) (tub most counter scalar places parts text : Value) : Prop where
  h1 : m (Str.ofString "tub") = some tub
  h2 : m (Str.ofString "most") = some most
  h3 : m (Str.ofString "counter") = some counter
  h4 : m (Str.ofString "scalar") = some scalar
  h5 : m (Str.ofString "places") = some places
  h6 : m (Str.ofString "parts") = some parts
  h7 : m (Str.ofString "text") = some text
theorem Names.eq {m : Str → Option Value} {tub most counter scalar places parts text : Value} (N : Names m tub most counter scalar places parts text) : m = shp tub most counter scalar places parts text m := by
  obtain ⟨h1, h2, h3, h4, h5, h6, h7⟩ := N
  funext y
  unfold shp
  split
  · next h => rw [h, h1]
  split
  · next h => rw [h, h2]
  split
  · next h => rw [h, h3]
  split
  · next h => rw [h, h4]
  split
  · next h => rw [h, h5]
  split
  · next h => rw [h, h6]
  split
  · next h => rw [h, h7]
  rfl

local macro_rules | `(tactic| k_all) => `(tactic| exact lt_ne (by assumption) (by omega))
local macro_rules | `(tactic| k_all) => `(tactic| exact allLt_ne (by assumption) (by omega))
local macro_rules | `(tactic| k_all) => `(tactic| exact OwnOff.ne (by assumption) (List.Mem.head _))

theorem wordsL : True := by
  k_with "ALLNE" => (repeat' (first | exact AllNe.nil | assumption | exact AllNe.of (by assumption) | exact AllNe.ofLt (by assumption) | refine AllNe.cons ?_ ?_ | omega))
  k_with "SEL" => (first | exact Sel.head | (apply Sel.tail; k_extra "SEL"))
  k_with "DIP" => (
    k_dflt (refine' dip_use ?k1 ?k2 ?k3 ?k4 ?k5 ?kK ?sel ?off ?h0 ?h1 ?hv ?hl ?hm ?hm2 ?kd ?ku ?_; (case k1 => k_asm); (case k2 => k_asm); (case k3 => k_asm); (case k4 => k_asm); (case k5 => k_asm); (case kK => first | exact rfl | assumption); (case sel => k_extra "SEL"); (case off => k_extra "ALLNE"); (case h0 => omega); (case h1 => omega); (case hv => assumption); (case hl => assumption); (case hm => omega); (case hm2 => omega); (case kd => ktr_room); (case ku => ktr_units))
    intro k9 t9 t9' n9 h9 tk9 F9 N9 hlo9 hhi9
    (try dsimp only)
    (try k_sweep))
  k_with "LET" => (
    k_dflt (refine' let_use ?k1 ?k2 ?k3 ?k4 ?k5 ?kK ?sel ?off ?h0 ?h1 ?hv ?hl ?hm ?hm2 ?kd ?ku ?_; (case k1 => k_asm); (case k2 => k_asm); (case k3 => k_asm); (case k4 => k_asm); (case k5 => k_asm); (case kK => first | exact rfl | assumption); (case sel => k_extra "SEL"); (case off => k_extra "ALLNE"); (case h0 => omega); (case h1 => omega); (case hv => assumption); (case hl => assumption); (case hm => omega); (case hm2 => omega); (case kd => ktr_room); (case ku => ktr_units))
    intro x9 t9 t9' n9 h9 tk9 F9 N9 hx9
    (try dsimp only)
    (try k_sweep))
  trivial


/- a part, with its place in the law -/
structure P where
  pa : Addr
  la : Addr
  ld : Addr
  e : Bool
  d : Nat
  c : Option Int
  k : Nat
  td : Tok
  to : Tok
  t1 : Tok
  t2 : Tok
  a1 : HT
  a2 : HT
  a3 : HT
  a4 : HT
  a5 : HT
def P.led (cn sc : Addr) (p : P) : List (Addr × Obj) :=
  [(p.la, instObj 362 p.ld), (p.ld, lvDict cn sc p.e (lvO p.e p.d) p.to (cval p.c p.t2) p.a1 p.a2 p.a3 p.a4 p.a5), (p.pa, plObj p.e p.d p.td p.c p.t1 p.k)]
structure P.Ok (b : Nat) (p : P) : Prop where
  hd : p.d ≤ b
  hc : ∀ k, p.c = some k → -100 ≤ k ∧ k ≤ 100

theorem lvO_of (o : Int) : lvO (decide (o < 0)) o.natAbs = o := by
  unfold lvO
  by_cases h : o < 0
  · simp [h]; omega
  · simp [h]; omega
theorem News.sub {h₀ h : Heap} {L : Addr} {l l' : List (Addr × Obj)} (N : News h₀ L h l) (k : ∀ p ∈ l', p ∈ l) : News h₀ L h l' := fun p hp => N p (k p hp)

theorem part_of {h₀ h : Heap} {L cn sc x d l : Addr} {o : Int} {c : Option Int} {H1 H2 H3 H4 H5 : Int} {T1 T2 T3 T4 T5 to tc tc2 u : Tok} {c1 c2 : Value} {r : List (Addr × Obj)}
    (N : News h₀ L h ((x, instObj 362 d) :: (d, dictOf [⟨H1, .str (Str.ofString "counter") T1, .ref cn⟩, ⟨H2, .str (Str.ofString "target") T2, .ref sc⟩, ⟨H3, .str (Str.ofString "offset") T3, .int o to⟩, ⟨H4, .str (Str.ofString "count") T4, c1⟩, ⟨H5, .str (Str.ofString "is_from_end") T5, .bool (decide (o < 0))⟩] 5) ::
      (l, lst [.bool (decide (o < 0)), .int (if o < 0 then -o else o) u, c2] 0) :: r)) (h1 : c1 = cval c tc) (h2 : c2 = cval c tc2) :
    ∃ p : P, p.pa = l ∧ p.la = x ∧ p.ld = d ∧ p.d = o.natAbs ∧ p.c = c ∧ News h₀ L h (p.led cn sc ++ r) := by
  subst h1 h2
  refine ⟨⟨l, x, d, decide (o < 0), o.natAbs, c, 0, u, to, tc2, tc, ⟨H1, T1⟩, ⟨H2, T2⟩, ⟨H3, T3⟩, ⟨H4, T4⟩, ⟨H5, T5⟩⟩, rfl, rfl, rfl, rfl, rfl, ?_⟩
  unfold P.led
  dsimp only
  rw [lvO_of]
  have e : (if o < 0 then -o else o) = (o.natAbs : Int) := by split <;> omega
  rw [e] at N
  exact N

theorem norm1 {h₀ h : Heap} {L : Addr} {A r : List (Addr × Obj)} {a D : Addr × Obj} (N : News h₀ L h (A ++ D :: a :: r)) : News h₀ L h (A ++ a :: r) := News.sub N fun q hq => by
  simp only [List.mem_append, List.mem_cons] at hq ⊢
  rcases hq with h | h | h <;> simp [h]
theorem norm2 {h₀ h : Heap} {L : Addr} {A r : List (Addr × Obj)} {a D b : Addr × Obj} (N : News h₀ L h (A ++ a :: D :: b :: r)) : News h₀ L h (A ++ a :: b :: r) := News.sub N fun q hq => by
  simp only [List.mem_append, List.mem_cons] at hq ⊢
  rcases hq with h | h | h | h <;> simp [h]
theorem lst_push (xs : List Value) (v : Value) (n : Nat) : W.listOf (xs.toArray.push v) n = lst (xs ++ [v]) n := by
  unfold lst
  rw [List.push_toArray]
theorem wordsB1 : True := by
  k_with "B1END" => (
    (rename News _ _ _ _ => kN)
    (rename Fr _ _ _ _ => kF)
    first
      | (obtain ⟨p, e1, e2, e3, e4, e5, N⟩ := part_of (c := none) (tc := (0 : Nat)) (tc2 := (0 : Nat)) kN rfl rfl)
      | (obtain ⟨p, e1, e2, e3, e4, e5, N⟩ := part_of (c := some _) kN rfl rfl)
    subst e1 e2 e3
    rw [lst_push, lst_push] at N
    refine hQ p _ _ _ _ _ _ _ _ ⟨rfl, rfl, rfl, rfl, rfl, rfl, rfl⟩ kF (by first | exact norm1 N | exact norm2 N) ?_ ?_ ⟨?_, ?_⟩ ?_ ?_ ?_
    · omega
    · omega
    · rw [e4]; omega
    · rw [e5]; first | (intro k hk; cases hk; done) | (intro k hk; cases hk; omega)
    · refine ⟨?_, ?_, ?_, ?_⟩ <;> first | omega | assumption | exact lt_tail5 (by assumption)
    · omega
    · omega)
  trivial

theorem lt_tail5 {a b c d : Prop} {l : Addr} {r : List (Addr × Obj)} (h : a ∧ b ∧ c ∧ d ∧ AllLt l r) : AllLt l r := h.2.2.2.2
set_option maxHeartbeats 8000000 in
theorem body1_c (w : World) (mean : ExcName → Option Value) (mg mb : Str → Option Value) (h₀ : Heap) (L fa : Addr) (cd : Value) (s : Shared) (Q : Flow → Shared → Prop) (E : Value → Shared → Prop)
    (K0 : Below callerA h₀ [] h₀) (X : (Hd.heap_39 w.params).In h₀) (T : Top Hd.view_39 (looseW Hd.view_39 [Str.ofString "Limits"]) mean mg mb h₀)
    (tub pl pr cn sc : Addr) (most : Int) (tm : Tok) (x : Str) (tx : Tok) (m₁ : Str → Option Value) (tv : Value) (at_ : Int) (ta : Tok) (vs : List Value) (ns : List Int) (hv : IntsAre vs ns) (hl : ns.length ≤ 1000) (kt k1 k2 : Nat) (xs ys : List Value)
    (rest : List (Addr × Obj)) (h0 : 0 ≤ at_) (h1 : at_ ≤ 10000) (ho1 : OwnOff rest [tub]) (ho2 : OwnOff rest [pl]) (ho3 : OwnOff rest [pr]) (hne1 : @Ne Nat tub pl) (hne2 : @Ne Nat tub pr) (hne3 : @Ne Nat pl pr)
    (F : Fr h₀ L s.heap (fun y => if y = Str.ofString "turn" then some tv else shp (.ref tub) (.int most tm) (.ref cn) (.ref sc) (.ref pl) (.ref pr) (.str x tx) m₁ y))
    (N : News h₀ L s.heap ((tub, lst (.int at_ ta :: vs) kt) :: (pl, lst xs k1) :: (pr, lst ys k2) :: rest)) (hxs : xs.length ≤ 10) (hys : ys.length ≤ 10)
    (hQ : ∀ (p : P) at' ta' kt' k1' k2' h' tk' m', Names m' (.ref tub) (.int most tm) (.ref cn) (.ref sc) (.ref pl) (.ref pr) (.str x tx) → Fr h₀ L h' m' →
      News h₀ L h' (p.led cn sc ++ (tub, lst (.int at' ta' :: vs) kt') :: (pl, lst (xs ++ [.ref p.pa]) k1') :: (pr, lst (ys ++ [.ref p.la]) k2') :: rest) → at_ ≤ at' → at' ≤ at_ + 5 → P.Ok 10 p →
      @LT.lt Nat _ tub p.pa ∧ @LT.lt Nat _ pl p.pa ∧ @LT.lt Nat _ pr p.pa ∧ AllLt p.pa rest → @LT.lt Nat _ p.pa p.ld → @LT.lt Nat _ p.ld p.la → Q .next { s with heap := h', toks := tk' }) :
    wpAny (model PySem.Challenge.rw_qz0096_01.row.prog w) (callerA.deeper (envOf (Str.ofString "law") lawScope L fa cd)) (execs loop1 (envOf (Str.ofString "law") lawScope L fa cd)) Q E s := by
  revert X T
  k_fill
  intro X T
  conv in (occs := *) lawScope => all_goals whnf
  conv in loop1 => whnf
  k_steps
  all_goals k_extra "B1END"
end
end Mine
end

/- part QLoop3 -/
section
open PySem PySem.W PySem.Calls PyProof.Rows
namespace Mine
section
theorem freshQLoop3 : True := by
  k_with_none
  trivial
set_option maxRecDepth 100000

def loop3 : List Stmt := forBody (stmtAt loop2 7)

local macro_rules | `(tactic| k_all) => `(tactic| exact lt_ne (by assumption) (by omega))
local macro_rules | `(tactic| k_all) => `(tactic| exact allLt_ne (by assumption) (by omega))
local macro_rules | `(tactic| k_all) => `(tactic| exact OwnOff.ne (by assumption) (List.Mem.head _))
local macro_rules | `(tactic| k_mem) => `(tactic| k_dflt assumption)
local macro_rules | `(tactic| k_mem) => `(tactic| k_dflt (k_extra "TLS"))

theorem GetPost.both {x : Str} {led led' : List (Addr × Obj)} {o : Option (Int × Int)} {r : Value} (h : GetPost x led o r led') :
    (o = Option.none ∧ r = .none ∧ led' = led) ∨ ∃ b e t, o = Option.some (b, e) ∧ r = .str (Txt.slice x (Option.some b) (Option.some e)) t ∧ led' = led := by
  obtain ⟨h1, h2⟩ := h
  cases o with
  | none => exact .inl ⟨rfl, h2, h1⟩
  | some p => obtain ⟨t, h2⟩ := h2; exact .inr ⟨p.1, p.2, t, rfl, h2, h1⟩
theorem bne_self {a : Str} (h : (a != a) = true) : False := by simp at h
theorem words31 : True := by
  k_with "TLS" => (first | exact List.Mem.head _ | assumption | (apply List.Mem.tail; k_extra "TLS"))
  k_with "USE" => (
    (case k1 => k_asm)
    (case k2 => k_asm)
    (case k3 => k_asm)
    (case k5 => k_asm)
    (case kK => first | exact rfl | assumption)
    (case kd => ktr_room)
    (case ku => ktr_units)
    intro r9 led9 h9 tk9 F9 N9 P9)
  k_with "ITEM" => (
    k_dflt (first
      | (refine' item_listL (News.isList ?n1 ?n2) ?n3 ?n4 hxp ?_; (case n1 => k_asm); (case n2 => exact hpl); (case n3 => omega); (case n4 => omega))
      | (refine' item_listL (News.isList ?n1 ?n2) ?n3 ?n4 hxq ?_; (case n1 => k_asm); (case n2 => k_extra "TLS"); (case n3 => omega); (case n4 => omega)))
    k_whole)
  k_with "CUT" => (
    k_dflt (refine' Fn.use ?k1 ?k2 ?k3 ?k4 ?k5 ?kK (cut_c w mean mg mb p.pa p.e p.d _ p.c hpc _ _ hpd x hx _ _ hmp) ?kd ?ku ?_)
    (case k4 => k_asm)
    k_extra "USE"
    rcases P9.cases with ⟨ho9, hr9, hl9⟩ | ⟨b9, e9, z9, d9, t9, u9, ho9, hz9, hzl9, hb9, hbe9, hex9, hr9, hl9, l9⟩
    all_goals (subst hr9 hl9; (try subst hz9); (try k_lt l9); (try dsimp only); (try k_sweep)))
  k_with "GET" => (
    k_dflt (refine' Fn.use ?k1 ?k2 ?k3 ?k4 ?k5 ?kK (get_c w mean mg mb g x hx tx p.la p.ld p.e p.d p.to p.c hpc p.t2 _ _ _ _ _ hpd _ ?g1 ?g2 ?g3 ?g4) ?kd ?ku ?_)
    (case k4 => k_asm)
    (case g1 => k_dflt (k_extra "TLS"))
    (case g2 => k_dflt (k_extra "TLS"))
    (case g3 => k_dflt (k_extra "TLS"))
    (case g4 => k_dflt (k_extra "TLS"))
    k_extra "USE"
    (rename spanOf _ _ _ = _ => ho9)
    k_dflt (rcases GetPost.both P9 with ⟨ho8, hr9, hl9⟩ | ⟨b8, e8, t9, ho8, hr9, hl9⟩ <;> (rw [ho9] at ho8; cases ho8 <;> subst hr9 hl9))
    (try dsimp only)
    (try k_sweep))
  trivial

set_option maxHeartbeats 8000000 in
theorem body3_c (w : World) (mean : ExcName → Option Value) (mg mb : Str → Option Value) (h₀ : Heap) (L fa : Addr) (cd : Value) (s : Shared) (Q : Flow → Shared → Prop) (E : Value → Shared → Prop)
    (K0 : Below callerA h₀ [] h₀) (X : (Hd.heap_39 w.params).In h₀) (T : Top Hd.view_39 (looseW Hd.view_39 [Str.ofString "Limits"]) mean mg mb h₀)
    (tub pl pr : Addr) (g : Sc) (most : Int) (tm : Tok) (x : Str) (hx : x.length ≤ 100) (tx tx' : Tok) (m₁ : Str → Option Value) (kk : Int) (tv : Tok) (xs ys : List Value) (k1 k2 : Nat) (p : P)
    (led : List (Addr × Obj)) (hpl : (pl, lst xs k1) ∈ led) (hpr : (pr, lst ys k2) ∈ led) (hk0 : 0 ≤ kk) (hk1 : kk ≤ 100) (hxp : xs[kk.toNat]? = some (.ref p.pa)) (hxq : ys[kk.toNat]? = some (.ref p.la))
    (hmp : (p.pa, plObj p.e p.d p.td p.c p.t1 p.k) ∈ led) (hml : (p.la, instObj 362 p.ld) ∈ led) (hmd : (p.ld, lvDict g.cn g.sc p.e (lvO p.e p.d) p.to (cval p.c p.t2) p.a1 p.a2 p.a3 p.a4 p.a5) ∈ led)
    (hms : (g.sc, instObj 66 g.scD) ∈ led) (hmsd : (g.scD, g.scDict x tx) ∈ led) (hpd : p.d ≤ 1000) (hpc : ∀ k, p.c = some k → -1000 ≤ k ∧ k ≤ 1000)
    (F : Fr h₀ L s.heap (fun y => if y = Str.ofString "at" then some (.int kk tv) else shp (.ref tub) (.int most tm) (.ref g.cn) (.ref g.sc) (.ref pl) (.ref pr) (.str x tx') m₁ y))
    (N : News h₀ L s.heap led)
    (hQ : ∀ h' tk' m', Names m' (.ref tub) (.int most tm) (.ref g.cn) (.ref g.sc) (.ref pl) (.ref pr) (.str x tx') → Fr h₀ L h' m' → News h₀ L h' led → Q .next { s with heap := h', toks := tk' }) :
    wpAny (model PySem.Challenge.rw_qz0096_01.row.prog w) (callerA.deeper (envOf (Str.ofString "law") lawScope L fa cd)) (execs loop3 (envOf (Str.ofString "law") lawScope L fa cd)) Q E s := by
  revert X T
  k_fill
  intro X T
  conv in (occs := *) lawScope => all_goals whnf
  conv in loop3 => whnf
  k_steps
  all_goals first
    | exact (bne_self (by assumption)).elim
    | ((rename News _ _ _ _ => kN)
       (rename Fr _ _ _ _ => kF)
       refine hQ _ _ _ ⟨rfl, rfl, rfl, rfl, rfl, rfl, rfl⟩ kF (News.sub kN ?_)
       (intro q hq; first | exact hq | exact List.Mem.tail _ hq))
end
end Mine
end

/- part QRange -/
section
open PySem PySem.W PySem.Calls PyProof.Rows
namespace Mine
section
theorem freshQRange : True := by
  k_with_none
  trivial
set_option maxRecDepth 100000

/- a turn's end, where the ledger may have grown -/
def GPost (h₀ : Heap) (L : Addr) (Jn : (Str → Option Value) → List (Addr × Obj) → Prop) (own : List (Addr × Obj)) (s₁ : Shared) (Q : Flow → Shared → Prop) (f : Flow) (s₂ : Shared) : Prop :=
  match f with
  | .ret v => Q (.ret v) s₂
  | .brk => Q .next s₂
  | _ => ∃ h' tk m' nx, s₂ = { s₁ with heap := h', toks := tk } ∧ Fr h₀ L h' m' ∧ News h₀ L h' (nx ++ own) ∧ OwnOff own (nx.map (·.1)) ∧ Jn m' nx

section
variable {prog : Program} {w : World} {A : Around} {E : Value → Shared → Prop} {s : Shared} {env : Env} {h₀ : Heap} {x : Str} {body : List Stmt} {Q : Flow → Shared → Prop}
theorem iter_rangeG {r : Addr} {a₀ b₀ : Int} {t₀ u₀ v₀ : Tok} {n : Nat} {m₀ : Str → Option Value} {news : List (Addr × Obj)} (J : Nat → (Str → Option Value) → List (Addr × Obj) → Prop)
    (hh : A.handled = none) (hr : IsRange s.heap r a₀ b₀ 1 t₀ u₀ v₀) (hsmall : Builtin.Range.small a₀ b₀ 1 = true) (hn : Builtin.Range.rangeSize a₀ b₀ 1 = (n : Int)) (F : Fr h₀ env.locals s.heap m₀) (N : News h₀ env.locals s.heap news) (h0 : J 0 m₀ news)
    (turn : ∀ (i : Nat) t m₁ nx h tk own, i < n → J i m₁ nx → OwnOff own (nx.map (·.1)) → Fr h₀ env.locals h (fun y => if y = x then some (.int (a₀ + (i : Int)) t) else m₁ y) → News h₀ env.locals h (nx ++ own) →
      wpAny (model prog w) A (execs body env) (GPost h₀ env.locals (J (i + 1)) own { s with heap := h, toks := tk } Q) E { s with heap := h, toks := tk })
    (done : ∀ m₁ nx h tk, J n m₁ nx → Fr h₀ env.locals h m₁ → News h₀ env.locals h nx → Q .next { s with heap := h, toks := tk }) :
    wpAny (model prog w) A (pyIter (.ref r)) (fun it s₂ => LoopAtV prog w A h₀ env x body Q E it s₂) E s := by
  refine wpAny_pyIter_range hr hsmall ?_
  have W : Walks prog w A s.heap.objs.size [s.heap.objs.size] [s.heap.objs.size] n (fun i v => i < n ∧ ∃ t, v = .int (a₀ + i * 1) t)
      (fun i h => IsRangeIter h s.heap.objs.size (a₀ + (i : Nat) * 1) ((n : Int) - (i : Nat)) 1) := (Walks.range hh _ a₀ 1 n).bound
  have hnew : h₀.get? s.heap.objs.size = none := next_is_new F
  refine ⟨s.heap.objs.size, [s.heap.objs.size], [s.heap.objs.size], n, _, _, m₀, news, J, rfl, W, ?_, ?_, ?_, by show IsRangeIter _ _ _ _ _; rw [hn]; simpa using Heap.get?_push_size _ rfl, F.push _, fun p hp => ⟨Heap.get?_push_of_some _ (N p hp).1, (N p hp).2⟩, h0, ?_, ?_⟩
  · intro hm
    exact absurd F.ns.lt ((List.mem_singleton.mp hm) ▸ Nat.lt_irrefl _)
  · intro b hb
    rw [List.mem_singleton.mp hb]
    exact hnew
  · intro p hp hI
    exact absurd (Heap.lt_size (N p hp).1) ((List.mem_singleton.mp hI) ▸ Nat.lt_irrefl _)
  · rintro i v m₁ news₁ s₁ own ⟨hh', tk', rfl⟩ hin ⟨_, t, rfl⟩ hJ hoff hown _ hall hst F₁ N₁
    have hsep : OwnOff own (news₁.map (·.1)) := by
      intro p hp b hb e
      obtain ⟨q, hq, rfl⟩ := List.mem_map.mp hb
      exact hoff q hq (e ▸ hown p hp)
    have N₂ : News h₀ env.locals hh' (news₁ ++ own) := fun p hp => N₁ p ((List.mem_append.mp hp).elim (fun h => List.mem_append.mpr (.inr h)) fun h => List.mem_append.mpr (.inl h))
    have F₂ : Fr h₀ env.locals hh' (fun y => if y = x then some (.int (a₀ + (i : Int)) t) else m₁ y) := by
      have e : a₀ + (i : Int) * 1 = a₀ + (i : Int) := by omega
      rw [e] at F₁
      exact F₁
    refine wpAny_mono (turn i t m₁ news₁ hh' tk' own hin hJ hsep F₂ N₂) (fun f s₂ p => ?_) fun _ _ e => e
    have fin : (∃ h' tk m' nx, s₂ = { s with heap := h', toks := tk } ∧ Fr h₀ env.locals h' m' ∧ News h₀ env.locals h' (nx ++ own) ∧ OwnOff own (nx.map (·.1)) ∧ J (i + 1) m' nx) →
        LoopStepU h₀ env.locals [s.heap.objs.size] own (J (i + 1)) { s with heap := hh', toks := tk' } .next s₂ := by
      rintro ⟨h', tk, m', nx, e, F', N', ho, hJ'⟩
      refine ⟨rfl, h', tk, m', nx, e, F', fun p hp => N' p ((List.mem_append.mp hp).elim (fun h => List.mem_append.mpr (.inr h)) fun h => List.mem_append.mpr (.inl h)), fun p hp hb => ?_, hJ'⟩
      have hI : p.1 = s.heap.objs.size := List.mem_singleton.mp hb
      have hm := hall s.heap.objs.size (List.mem_singleton.mpr rfl) hnew _ hst
      exact ho _ hm p.1 (List.mem_map.mpr ⟨p, hp, rfl⟩) hI.symm
    cases f with
    | ret v => exact .ret p
    | brk => exact .brk p
    | next => exact .next (fin p)
    | cont => exact .cont (fin p)
  · intro h' tk m' news' F' N' _ hJ
    exact done m' news' h' tk hJ F' N'
end
end
end Mine
end

/- part QTail3 -/
section
open PySem PySem.W PySem.Calls PyProof.Rows
namespace Mine
section
theorem freshQTail3 : True := by
  k_with_none
  trivial
set_option maxRecDepth 100000

def tail3 : List Stmt := loop2.drop 7

local macro_rules | `(tactic| k_mem) => `(tactic| k_dflt assumption)

/- what the parts and the text are in a ledger -/
structure Held (g : Sc) (x : Str) (tx : Tok) (ps : List P) (pl pr : Addr) (k1 k2 : Nat) (led : List (Addr × Obj)) : Prop where
  pl : (pl, lst (ps.map fun p => .ref p.pa) k1) ∈ led
  pr : (pr, lst (ps.map fun p => .ref p.la) k2) ∈ led
  parts : ∀ p ∈ ps, ∀ q ∈ p.led g.cn g.sc, q ∈ led
  sc : (g.sc, instObj 66 g.scD) ∈ led
  scD : (g.scD, g.scDict x tx) ∈ led
  ok : ∀ p ∈ ps, P.Ok 1000 p

theorem len_map {prog : Program} {w : World} {A : Around} {E : Value → Shared → Prop} {s : Shared} {l : Addr} {ps : List P} {f : P → Value} {Q : Value → Shared → Prop} (hl : s.heap.IsList l (ps.map f).toArray) (hn : ps.length ≤ 10)
    (h : Q (.int ps.length (s.toks + 1)) { s with toks := s.toks + 1 + 1 }) : wpAny (model prog w) A (call (.builtin "len") [.ref l]) Q E s := by
  have e : (ps.map f).toArray.size = ps.length := by simp
  refine len_list hl ?_ ?_
  · rw [e]; omega
  · rw [e]; exact h

theorem size_len {n : Nat} : Builtin.Range.rangeSize 0 (n : Int) 1 = (n : Int) := by
  rw [rangeSize_one]; split <;> omega
theorem small_len {n : Nat} (h : n ≤ 10) : Builtin.Range.small 0 (n : Int) 1 = true := small_one (by omega) (by omega) (by omega) (by omega)
theorem words41 : True := by
  k_with "FOR3" => (k_dflt (refine For_invV h₀ rfl rfl ?_ (by intro _; rfl) hE))
  k_with "LEN3" => (
    k_dflt (refine' len_map (News.isList ?n1 ?n2) hps ?_; (case n1 => k_asm); (case n2 => exact hpl))
    k_whole)
  k_with "ITER3" => (refine stop_of ?_)
  trivial

set_option maxHeartbeats 8000000 in
theorem tail3_c (w : World) (mean : ExcName → Option Value) (mg mb : Str → Option Value) (h₀ : Heap) (L fa : Addr) (cd : Value) (s : Shared) (Q : Flow → Shared → Prop) (E : Value → Shared → Prop)
    (K0 : Below callerA h₀ [] h₀) (X : (Hd.heap_39 w.params).In h₀) (T : Top Hd.view_39 (looseW Hd.view_39 [Str.ofString "Limits"]) mean mg mb h₀)
    (tub pl pr : Addr) (g : Sc) (most : Int) (tm : Tok) (x : Str) (hx : x.length ≤ 100) (tx tx' : Tok) (m₁ : Str → Option Value) (k1 k2 : Nat) (ps : List P) (hps : ps.length ≤ 10)
    (led : List (Addr × Obj)) (H : Held g x tx ps pl pr k1 k2 led)
    (F : Fr h₀ L s.heap (shp (.ref tub) (.int most tm) (.ref g.cn) (.ref g.sc) (.ref pl) (.ref pr) (.str x tx') m₁))
    (N : News h₀ L s.heap led)
    (hE : PassesOwn (model PySem.Challenge.rw_qz0096_01.row.prog w) (callerA.deeper (envOf (Str.ofString "law") lawScope L fa cd)) (envOf (Str.ofString "law") lawScope L fa cd) E)
    (hQ : ∀ h' tk' m', Names m' (.ref tub) (.int most tm) (.ref g.cn) (.ref g.sc) (.ref pl) (.ref pr) (.str x tx') → Fr h₀ L h' m' → News h₀ L h' led → Q .next { s with heap := h', toks := tk' }) :
    wpAny (model PySem.Challenge.rw_qz0096_01.row.prog w) (callerA.deeper (envOf (Str.ofString "law") lawScope L fa cd)) (execs tail3 (envOf (Str.ofString "law") lawScope L fa cd)) Q E s := by
  have hpl := H.pl
  have hpr := H.pr
  revert X T
  k_fill
  intro X T
  conv in (occs := *) lawScope => all_goals whnf
  conv in tail3 => whnf
  k_steps
  refine Stop.go ?_
  (rename IsRange _ _ _ _ _ _ _ _ => hR)
  (rename News _ _ _ _ => kN)
  (rename Fr _ _ _ _ => kF)
  refine iter_rangeG (n := ps.length) (fun i m nx => Names m (.ref tub) (.int most tm) (.ref g.cn) (.ref g.sc) (.ref pl) (.ref pr) (.str x tx') ∧ nx = led) rfl hR ?_ ?_ kF kN ⟨⟨rfl, rfl, rfl, rfl, rfl, rfl, rfl⟩, rfl⟩ ?_ ?_
  · exact small_len hps
  · exact size_len
  · rintro i t m₂ nx h tk own hi ⟨hNm, rfl⟩ hoff F' N'
    rw [hNm.eq] at F'
    obtain ⟨p, hp⟩ : ∃ p, ps[i]? = some p := ⟨ps[i], List.getElem?_eq_getElem hi⟩
    have hpm : p ∈ ps := List.mem_of_getElem? hp
    have ei : ((0 : Int) + (i : Int)).toNat = i := by omega
    refine body3_c w mean mg mb h₀ L fa cd _ _ E K0 X T tub pl pr g most tm x hx tx tx' m₂ (0 + (i : Int)) t (ps.map fun p => .ref p.pa) (ps.map fun p => .ref p.la) k1 k2 p (nx ++ own) (List.mem_append_left _ hpl) (List.mem_append_left _ hpr) (by omega) (by omega) ?_ ?_
      ?_ ?_ ?_ (List.mem_append_left _ H.sc) (List.mem_append_left _ H.scD) (H.ok p hpm).hd (fun k hk => ?_) F' N' ?_
    · rw [ei, List.getElem?_map, hp]; rfl
    · rw [ei, List.getElem?_map, hp]; rfl
    · exact List.mem_append_left _ (H.parts p hpm _ (.tail _ (.tail _ (.head _))))
    · exact List.mem_append_left _ (H.parts p hpm _ (.head _))
    · exact List.mem_append_left _ (H.parts p hpm _ (.tail _ (.head _)))
    · have := (H.ok p hpm).hc k hk; omega
    · intro h' tk' m' hN F3 N3
      exact ⟨h', tk', m', nx, rfl, F3, N3, hoff, hN, rfl⟩
  · rintro m₂ nx h tk ⟨hNm, rfl⟩ F' N'
    refine wpAny_execs_nil ?_
    exact hQ _ _ _ hNm F' N'
end
end Mine
end

/- part QCatch -/
section
open PySem PySem.W PySem.Calls PyProof.Rows
namespace Mine
section
theorem freshQCatch : True := by
  k_with_none
  trivial
set_option maxRecDepth 100000

section
variable {prog : Program} {w : World} {A₀ : Around} {E : Value → Shared → Prop} {s' : Shared} {h₀ h : Heap} {outer : List Env} {L a e t : Addr} {m : Str → Option Value} {name : Str} {scope : Scope} {cd : Value}
  {vs : List Value} {b₀ : Stmt} {suite : List Stmt} {pos np : Pos} {more : List ExceptHandler} {Q : Flow → Shared → Prop} {led : List (Addr × Obj)} {KF : Frag} {C : Addr}
  {p : Program} {loose : List Str} {mean : ExcName → Option Value} {mg mb : Str → Option Value} {x : Str}

/- `except C:` where C is an own class under Exception that may have its own __init__; what is kept: the frame and the ledger -/
theorem caught_own (K : Below A₀ h₀ outer h₀) (F : Fr h₀ L h m) (hsm : h.UpToSlots s'.heap) (R : RaisedK h₀ (envOf name scope L a cd :: outer) e (.ref C) t vs led s'.heap)
    (X : KF.In h₀) (T : Top p loose mean mg mb h₀) (ex : nsIn KF mainGlobals x = some (some (.ref C))) (hY : excAt KF C = true)
    (k : ∀ h', Fr h₀ L h' m → News h₀ L h' led → wpAny (model prog w) ((A₀.deeper (envOf name scope L a cd)).mark (some (.ref e))) (execs (b₀ :: suite) (envOf name scope L a cd)) Q E { s' with heap := h' })
    (hE : PassesOwnAt (model prog w) ((A₀.deeper (envOf name scope L a cd)).mark (some (.ref e))) (A₀.deeper (envOf name scope L a cd)) (envOf name scope L a cd) E)
    (hk : scope.kind = .function := by rfl) (hx : (envOf name scope L a cd).kindOf x = some .globalImplicit := by rfl) (hd : (x == ("__debug__" : Str)) = false := by decide) :
    wpAny (model prog w) (A₀.deeper (envOf name scope L a cd)) (noteFrame (.ref e) (envOf name scope L a cd))
      (fun _ s₂ => wpAny (model prog w) (A₀.deeper (envOf name scope L a cd)) (setFlight (.ref e) none) (fun _ s₃ =>
        wpAny (model prog w) (A₀.deeper (envOf name scope L a cd)) (handleBy (.ref e) (envOf name scope L a cd) (.ExceptHandler (some (.Name x np)) none (b₀ :: suite) pos :: more)) Q E s₃) E s₂) E s' := by
  obtain ⟨⟨B, hB, hl, hfl, _⟩, _⟩ := R
  have hL : B.get? L = none := by
    obtain ⟨_, ⟨L', _, hf, hn', _⟩, _⟩ := hfl.2.2.1
    obtain rfl : L = L' := Option.some.inj hf
    exact hn'
  refine wpAny_looks_onW (Around.frames_deeper K.stack) rfl hfl fun g₁ hheld₁ up₁ => ?_
  refine wpAny_landsW hheld₁ fun g₂ hheld up₂ => ?_
  have up := up₁.trans up₂
  have F₂ := F.of_stays (flyingW_base hB hheld).1 (hsm.trans up)
  obtain ⟨ob, hob, hobc⟩ := hheld.there
  refine wpAny_handleBy_cons (codeAny_handlers_test (name_K F₂ X (topRead_of T) ex ?_ hk hx hd)) (by intro q; cases q)
  obtain ⟨nm, q, N, bs, bm, sn, sub, ab, col, dd, k0, k1, k2, k3, k5, Y⟩ := excAt_of (X.keeps F₂.keep) hY
  refine wpAny_excMatches_sub_self Y.obj hob hobc Y.hB (codeAny_handlers_suite ?_)
  refine lands_againW hheld fun g₃ hfl₃ up₃ => ?_
  have F₃ := F₂.of_stays (flyingW_base hB hfl₃).1 up₃
  exact wpAny_passesOwnAt hE (k g₃ F₃ fun q hq => ⟨hfl₃.1 _ _ (hl q hq).1, (fun z => by have := (hl q hq).1; rw [z, hL] at this; cases this), (hl q hq).2⟩)
end
end
end Mine
end

/- part QBody2 -/
section
open PySem PySem.W PySem.Calls PyProof.Rows
namespace Mine
section
theorem freshQBody2 : True := by
  k_with_none
  trivial
set_option maxRecDepth 100000

def mid2 : List Stmt := loop2.drop 2

local macro_rules | `(tactic| k_all) => `(tactic| exact lt_ne (by assumption) (by omega))
local macro_rules | `(tactic| k_all) => `(tactic| exact allLt_ne (by assumption) (by omega))
local macro_rules | `(tactic| k_all) => `(tactic| exact OwnOff.ne (by assumption) (List.Mem.head _))
local macro_rules | `(tactic| k_mem) => `(tactic| k_dflt assumption)
local macro_rules | `(tactic| k_mem) => `(tactic| k_dflt (k_extra "TLS"))

theorem words51 : True := by
  k_with "STOPFOR" => (refine stop_of ?_)
  k_with "TLS" => (first | exact List.Mem.head _ | assumption | (apply List.Mem.tail; k_extra "TLS"))
  k_with "ALLNE" => (repeat' (first | exact AllNe.nil | assumption | exact AllNe.of (by assumption) | exact AllNe.ofLt (by assumption) | refine AllNe.cons ?_ ?_ | omega))
  k_with "USE" => (
    (case k1 => k_asm)
    (case k2 => k_asm)
    (case k3 => k_asm)
    (case k5 => k_asm)
    (case kK => first | exact rfl | assumption)
    (case kd => ktr_room)
    (case ku => ktr_units)
    intro r9 led9 h9 tk9 F9 N9 P9)
  k_with "ITEM" => (
    k_dflt (first
      | (refine' item_listL (News.isList ?n1 ?n2) ?n3 ?n4 hxp ?_; (case n1 => k_asm); (case n2 => k_extra "TLS"); (case n3 => omega); (case n4 => omega))
      | (refine' item_listL (News.isList ?n1 ?n2) ?n3 ?n4 hxq ?_; (case n1 => k_asm); (case n2 => k_extra "TLS"); (case n3 => omega); (case n4 => omega)))
    k_whole)
  k_with "LPUT" => (
    k_dflt (refine' Fn.use ?k1 ?k2 ?k3 ?k4 ?k5 ?kK (lput_c w mean mg mb p.pa p.e p.d _ p.c hpc _ _ hpd x hx _ y hy _ g.most hmo _ _ ?of) ?kd ?ku ?_)
    (case k4 => k_asm)
    (case of => exact hof)
    k_extra "USE"
    k_dflt (rw [hlp] at P9; first | (obtain ⟨hr9, hl9⟩ := P9; subst hr9 hl9) | (obtain ⟨t9, td9, tc9, n9, hr9, hl9⟩ := P9; subst hr9 hl9))
    (try dsimp only))
  k_with "VOF" => (
    k_dflt (refine' Fn.use ?k1 ?k2 ?k3 ?k4 ?k5 ?kK (vof_c w mean mg mb g _ _ _ ?a3 ?a4) ?kd ?ku ?_)
    (case k4 => k_asm)
    (case a3 => k_dflt (k_extra "TLS"))
    (case a4 => k_dflt (k_extra "TLS"))
    k_extra "USE"
    obtain ⟨hr9, hl9⟩ := P9
    subst hr9 hl9
    (try dsimp only))
  k_with "PUTDIE" => (
    k_dflt (refine' FnE.use ?k1 ?k2 ?k3 ?k4 ?k5 ?kK hdie ?kd ?ku ?_; (case k4 => k_asm); (case k1 => k_asm); (case k2 => k_asm); (case k3 => k_asm); (case k5 => k_asm); (case kK => first | exact rfl | assumption); (case kd => ktr_room); (case ku => ktr_units))
    intro e9 t9 vs9 h9 tk9 G9 FG9 U9 R9
    (try dsimp only))
  k_with "PUT" => k_extra "PUTDIE"
  k_with "CAUGHT" => (
    k_dflt (refine' caught_own (KF := Mine.Hd.heap_39 w.params) (C := 301) ?c1 ?c2 ?c3 ?c4 ?c5 ?c6 ?c7 ?c8 ?c9 ?c10; (case c1 => assumption); (case c2 => assumption); (case c3 => assumption); (case c4 => assumption); (case c5 => assumption); (case c6 => assumption); (case c7 => k_is); (case c8 => exact die_is _); (case c10 => exact hE2 _))
    k_whole
    intro h9 F9 N9
    (try dsimp only)
    (try k_sweep))
  trivial

set_option maxHeartbeats 8000000 in
theorem mid2_die (w : World) (mean : ExcName → Option Value) (mg mb : Str → Option Value) (h₀ : Heap) (L fa : Addr) (cd : Value) (s : Shared) (Q : Flow → Shared → Prop) (E : Value → Shared → Prop)
    (K0 : Below callerA h₀ [] h₀) (X : (Hd.heap_39 w.params).In h₀) (T : Top Hd.view_39 (looseW Hd.view_39 [Str.ofString "Limits"]) mean mg mb h₀)
    (tub pl pr : Addr) (g : Sc) (tm : Tok) (x : Str) (hx : x.length ≤ 100) (tx tx' : Tok) (y : Str) (hy : y.length ≤ 100) (ty : Tok) (m₁ : Str → Option Value) (kk : Int) (tv : Tok) (xs ys : List Value) (k1 k2 : Nat) (p : P)
    (led rest : List (Addr × Obj)) (hled : led = (p.pa, plObj p.e p.d p.td p.c p.t1 p.k) :: rest) (hof : OwnOff rest [p.pa]) (hpl : (pl, lst xs k1) ∈ rest) (hpr : (pr, lst ys k2) ∈ rest) (hk0 : 0 ≤ kk) (hk1 : kk ≤ 100) (hxp : xs[kk.toNat]? = some (.ref p.pa)) (hxq : ys[kk.toNat]? = some (.ref p.la))
    (hml : (p.la, instObj 362 p.ld) ∈ rest) (hmd : (p.ld, lvDict g.cn g.sc p.e (lvO p.e p.d) p.to (cval p.c p.t2) p.a1 p.a2 p.a3 p.a4 p.a5) ∈ rest)
    (hms : (g.sc, instObj 66 g.scD) ∈ rest) (hmsd : (g.scD, g.scDict x tx) ∈ rest) (hpd : p.d ≤ 1000) (hpc : ∀ k, p.c = some k → -1000 ≤ k ∧ k ≤ 1000) (hmo : 0 ≤ g.most ∧ g.most ≤ 1000)
    (hlp : lawPut x p.e p.d p.c y g.most = none) (hdie : FnE w mean mg mb 359 [.ref p.la, .str y ty] 6 led)
    (F : Fr h₀ L s.heap (fun z => if z = Str.ofString "new" then some (.str y ty) else if z = Str.ofString "which" then some (.int kk tv) else shp (.ref tub) (.int g.most tm) (.ref g.cn) (.ref g.sc) (.ref pl) (.ref pr) (.str x tx') m₁ z))
    (N : News h₀ L s.heap led)
    (hE2 : ∀ e, PassesOwnAt (model PySem.Challenge.rw_qz0096_01.row.prog w) ((callerA.deeper (envOf (Str.ofString "law") lawScope L fa cd)).mark (some (.ref e))) (callerA.deeper (envOf (Str.ofString "law") lawScope L fa cd)) (envOf (Str.ofString "law") lawScope L fa cd) E)
    (hT : ∀ h' tk' m', Names m' (.ref tub) (.int g.most tm) (.ref g.cn) (.ref g.sc) (.ref pl) (.ref pr) (.str x tx') → Fr h₀ L h' m' → News h₀ L h' led →
      wpAny (model PySem.Challenge.rw_qz0096_01.row.prog w) (callerA.deeper (envOf (Str.ofString "law") lawScope L fa cd)) (execs tail3 (envOf (Str.ofString "law") lawScope L fa cd)) Q E { s with heap := h', toks := tk' }) :
    wpAny (model PySem.Challenge.rw_qz0096_01.row.prog w) (callerA.deeper (envOf (Str.ofString "law") lawScope L fa cd)) (execs mid2 (envOf (Str.ofString "law") lawScope L fa cd)) Q E s := by
  subst hled
  revert X T
  k_fill
  intro X T
  conv in (occs := *) lawScope => all_goals whnf
  conv in mid2 => whnf
  k_steps
  all_goals first
    | exact (bne_self (by assumption)).elim
    | (refine Stop.go ?_
       (rename News _ _ _ _ => kN)
       (rename Fr _ _ _ _ => kF)
       exact hT _ _ _ ⟨rfl, rfl, rfl, rfl, rfl, rfl, rfl⟩ kF kN)
end
end Mine
end

/- part QBody3 -/
section
open PySem PySem.W PySem.Calls PyProof.Rows
namespace Mine
section
theorem freshQBody3 : True := by
  k_with_none
  trivial
set_option maxRecDepth 100000


local macro_rules | `(tactic| k_all) => `(tactic| exact lt_ne (by assumption) (by omega))
local macro_rules | `(tactic| k_all) => `(tactic| exact allLt_ne (by assumption) (by omega))
local macro_rules | `(tactic| k_all) => `(tactic| exact OwnOff.ne (by assumption) (List.Mem.head _))
local macro_rules | `(tactic| k_mem) => `(tactic| k_dflt assumption)
local macro_rules | `(tactic| k_mem) => `(tactic| k_dflt (k_extra "TLS"))

theorem words52 : True := by
  k_with "STOPFOR" => (refine stop_of ?_)
  k_with "TLS" => (first | exact List.Mem.head _ | assumption | (apply List.Mem.tail; k_extra "TLS"))
  k_with "ALLNE" => (repeat' (first | exact AllNe.nil | assumption | exact AllNe.of (by assumption) | exact AllNe.ofLt (by assumption) | refine AllNe.cons ?_ ?_ | omega))
  k_with "USE" => (
    (case k1 => k_asm)
    (case k2 => k_asm)
    (case k3 => k_asm)
    (case k5 => k_asm)
    (case kK => first | exact rfl | assumption)
    (case kd => ktr_room)
    (case ku => ktr_units)
    intro r9 led9 h9 tk9 F9 N9 P9)
  k_with "ITEM" => (
    k_dflt (first
      | (refine' item_listL (News.isList ?n1 ?n2) ?n3 ?n4 hxp ?_; (case n1 => k_asm); (case n2 => k_extra "TLS"); (case n3 => omega); (case n4 => omega))
      | (refine' item_listL (News.isList ?n1 ?n2) ?n3 ?n4 hxq ?_; (case n1 => k_asm); (case n2 => k_extra "TLS"); (case n3 => omega); (case n4 => omega)))
    k_whole)
  k_with "LPUT" => (
    k_dflt (refine' Fn.use ?k1 ?k2 ?k3 ?k4 ?k5 ?kK (lput_c w mean mg mb p.pa p.e p.d _ p.c hpc _ _ hpd x hx _ y hy _ g.most hmo _ _ ?of) ?kd ?ku ?_)
    (case k4 => k_asm)
    (case of => exact hof)
    k_extra "USE"
    k_dflt (rw [hlp] at P9; first | (obtain ⟨hr9, hl9⟩ := P9; subst hr9 hl9) | (obtain ⟨t9, td9, tc9, n9, hr9, hl9⟩ := P9; subst hr9 hl9))
    (try dsimp only))
  k_with "VOF" => (
    k_dflt (refine' Fn.use ?k1 ?k2 ?k3 ?k4 ?k5 ?kK (vof_c w mean mg mb g _ _ _ ?a3 ?a4) ?kd ?ku ?_)
    (case k4 => k_asm)
    (case a3 => k_dflt (k_extra "TLS"))
    (case a4 => k_dflt (k_extra "TLS"))
    k_extra "USE"
    obtain ⟨hr9, hl9⟩ := P9
    subst hr9 hl9
    (try dsimp only))
  k_with "PUTDIE" => (
    k_dflt (refine' FnE.use ?k1 ?k2 ?k3 ?k4 ?k5 ?kK hdie ?kd ?ku ?_; (case k4 => k_asm); (case k1 => k_asm); (case k2 => k_asm); (case k3 => k_asm); (case k5 => k_asm); (case kK => first | exact rfl | assumption); (case kd => ktr_room); (case ku => ktr_units))
    intro e9 t9 vs9 h9 tk9 G9 FG9 U9 R9
    (try dsimp only))
  k_with "PUT" => (
    k_dflt (refine' Fn.use ?k1 ?k2 ?k3 (news_rot ?k4) ?k5 ?kK (put_ok w mean mg mb g x hx tx y hy ty p.la p.ld p.e p.d p.to p.c hpc p.t2 _ _ _ _ _ hpd _ ?m1 ?m2 ?m3 ?m4 hne3 b f hsp hmost) ?kd ?ku ?_)
    (case k4 => k_asm)
    (case m1 => k_dflt (k_extra "TLS"))
    (case m2 => exact hs.mono (fun q hq => List.Mem.tail _ hq))
    (case m3 => k_dflt (exact off_cons hn1 ho1))
    (case m4 => k_dflt (exact off_cons hn2 ho2))
    k_extra "USE"
    k_dflt (obtain ⟨hr9, tz9, to9, tc9, hl9⟩ := P9; subst hr9 hl9)
    (try dsimp only))
  k_with "CAUGHT" => (
    k_dflt (refine' caught_own (KF := Mine.Hd.heap_39 w.params) (C := 301) ?c1 ?c2 ?c3 ?c4 ?c5 ?c6 ?c7 ?c8 ?c9 ?c10; (case c1 => assumption); (case c2 => assumption); (case c3 => assumption); (case c4 => assumption); (case c5 => assumption); (case c6 => assumption); (case c7 => k_is); (case c8 => exact die_is _); (case c10 => exact hE2 _))
    k_whole
    intro h9 F9 N9
    (try dsimp only)
    (try k_sweep))
  trivial

theorem news_rot {h₀ h : Heap} {L : Addr} {a b c : Addr × Obj} {r : List (Addr × Obj)} (N : News h₀ L h (a :: b :: c :: r)) : News h₀ L h (b :: c :: a :: r) := News.sub N fun q hq => by
  simp only [List.mem_cons] at hq ⊢
  rcases hq with h | h | h | h <;> simp [h]
theorem off_cons {a : Addr} {q : Addr × Obj} {r : List (Addr × Obj)} (h : @Ne Nat q.1 a) (o : OwnOff r [a]) : OwnOff (q :: r) [a] := fun p hp b hb => by
  rcases List.mem_cons.mp hp with rfl | hp
  · rw [List.mem_singleton.mp hb]; exact h
  · exact o p hp b hb

set_option maxHeartbeats 8000000 in
theorem mid2_ok (w : World) (mean : ExcName → Option Value) (mg mb : Str → Option Value) (h₀ : Heap) (L fa : Addr) (cd : Value) (s : Shared) (Q : Flow → Shared → Prop) (E : Value → Shared → Prop)
    (K0 : Below callerA h₀ [] h₀) (X : (Hd.heap_39 w.params).In h₀) (T : Top Hd.view_39 (looseW Hd.view_39 [Str.ofString "Limits"]) mean mg mb h₀)
    (tub pl pr : Addr) (g : Sc) (tm : Tok) (x : Str) (hx : x.length ≤ 100) (tx tx' : Tok) (y : Str) (hy : y.length ≤ 100) (ty : Tok) (m₁ : Str → Option Value) (kk : Int) (tv : Tok) (xs ys : List Value) (k1 k2 : Nat) (p : P)
    (rest : List (Addr × Obj)) (hs : g.Has w rest) (ho1 : OwnOff rest [g.scD]) (ho2 : OwnOff rest [p.ld]) (hop : OwnOff rest [p.pa]) (hn1 : @Ne Nat p.pa g.scD) (hn2 : @Ne Nat p.pa p.ld) (hne3 : @Ne Nat g.scD p.ld) (hpl : (pl, lst xs k1) ∈ rest) (hpr : (pr, lst ys k2) ∈ rest) (hk0 : 0 ≤ kk) (hk1 : kk ≤ 100) (hxp : xs[kk.toNat]? = some (.ref p.pa)) (hxq : ys[kk.toNat]? = some (.ref p.la))
    (hml : (p.la, instObj 362 p.ld) ∈ rest) (hpd : p.d ≤ 1000) (hpc : ∀ k, p.c = some k → -1000 ≤ k ∧ k ≤ 1000) (hmo : 0 ≤ g.most ∧ g.most ≤ 1000)
    (b f : Int) (hsp : spanOf x.length (lvOff x.length p.e p.d) p.c = some (b, f)) (hmost : ¬ (x.length : Int) - (f - b) + y.length > g.most)
    (F : Fr h₀ L s.heap (fun z => if z = Str.ofString "new" then some (.str y ty) else if z = Str.ofString "which" then some (.int kk tv) else shp (.ref tub) (.int g.most tm) (.ref g.cn) (.ref g.sc) (.ref pl) (.ref pr) (.str x tx') m₁ z))
    (N : News h₀ L s.heap ((p.pa, plObj p.e p.d p.td p.c p.t1 p.k) :: (g.scD, g.scDict x tx) :: (p.ld, lvDict g.cn g.sc p.e (lvO p.e p.d) p.to (cval p.c p.t2) p.a1 p.a2 p.a3 p.a4 p.a5) :: rest))
    (hT : ∀ tz tz' to tc td' tc' k h' tk' m', Names m' (.ref tub) (.int g.most tm) (.ref g.cn) (.ref g.sc) (.ref pl) (.ref pr) (.str (Txt.slice x none (some b) ++ y ++ Txt.slice x (some f) none) tz') → Fr h₀ L h' m' →
      News h₀ L h' ((g.scD, g.scDict (Txt.slice x none (some b) ++ y ++ Txt.slice x (some f) none) tz) :: (p.ld, lvDict g.cn g.sc p.e (if p.e then (lvO p.e p.d) + ((f - b) - y.length) else lvO p.e p.d) to (cval (putC p.c y.length) tc) p.a1 p.a2 p.a3 p.a4 p.a5) ::
        (p.pa, plObjI p.e (if p.e then (p.d : Int) + y.length - (f - b) else p.d) td' (putC p.c y.length) tc' k) :: rest) →
      wpAny (model PySem.Challenge.rw_qz0096_01.row.prog w) (callerA.deeper (envOf (Str.ofString "law") lawScope L fa cd)) (execs tail3 (envOf (Str.ofString "law") lawScope L fa cd)) Q E { s with heap := h', toks := tk' }) :
    wpAny (model PySem.Challenge.rw_qz0096_01.row.prog w) (callerA.deeper (envOf (Str.ofString "law") lawScope L fa cd)) (execs mid2 (envOf (Str.ofString "law") lawScope L fa cd)) Q E s := by
  have hlp := lawPut_some hsp hmost
  have hof : OwnOff ((g.scD, g.scDict x tx) :: (p.ld, lvDict g.cn g.sc p.e (lvO p.e p.d) p.to (cval p.c p.t2) p.a1 p.a2 p.a3 p.a4 p.a5) :: rest) [p.pa] := off_cons (Ne.symm hn1) (off_cons (Ne.symm hn2) hop)
  have hms := hs.sc
  revert X T
  k_fill
  intro X T
  conv in (occs := *) lawScope => all_goals whnf
  conv in mid2 => whnf
  k_steps
  all_goals first
    | exact (bne_self (by assumption)).elim
    | (refine Stop.go ?_
       (rename News _ _ _ _ => kN)
       (rename Fr _ _ _ _ => kF)
       exact hT _ _ _ _ _ _ _ _ _ _ ⟨rfl, rfl, rfl, rfl, rfl, rfl, rfl⟩ kF kN)
end
end Mine
end

/- part QHead2 -/
section
open PySem PySem.W PySem.Calls PyProof.Rows
namespace Mine
section
theorem freshQHead2 : True := by
  k_with_none
  trivial
set_option maxRecDepth 100000

local macro_rules | `(tactic| k_all) => `(tactic| exact lt_ne (by assumption) (by omega))
local macro_rules | `(tactic| k_all) => `(tactic| exact allLt_ne (by assumption) (by omega))
local macro_rules | `(tactic| k_all) => `(tactic| exact OwnOff.ne (by assumption) (List.Mem.head _))

theorem wordsL2 : True := by
  k_with "STOPDUE" => (refine stop_of ?_)
  k_with "ALLNE" => (repeat' (first | exact AllNe.nil | assumption | exact AllNe.of (by assumption) | exact AllNe.ofLt (by assumption) | refine AllNe.cons ?_ ?_ | omega))
  k_with "SEL" => (first | exact Sel.head | (apply Sel.tail; k_extra "SEL"))
  k_with "DIP" => (
    k_dflt (refine' dip_use ?k1 ?k2 ?k3 ?k4 ?k5 ?kK ?sel ?off ?h0 ?h1 ?hv ?hl ?hm ?hm2 ?kd ?ku ?_; (case k1 => k_asm); (case k2 => k_asm); (case k3 => k_asm); (case k4 => k_asm); (case k5 => k_asm); (case kK => first | exact rfl | assumption); (case sel => k_extra "SEL"); (case off => k_extra "ALLNE"); (case h0 => omega); (case h1 => omega); (case hv => assumption); (case hl => assumption); (case hm => omega); (case hm2 => omega); (case kd => ktr_room); (case ku => ktr_units))
    intro k9 t9 t9' n9 h9 tk9 F9 N9 hlo9 hhi9
    (try dsimp only)
    (try k_sweep))
  k_with "LET" => (
    k_dflt (refine' let_use ?k1 ?k2 ?k3 ?k4 ?k5 ?kK ?sel ?off ?h0 ?h1 ?hv ?hl ?hm ?hm2 ?kd ?ku ?_; (case k1 => k_asm); (case k2 => k_asm); (case k3 => k_asm); (case k4 => k_asm); (case k5 => k_asm); (case kK => first | exact rfl | assumption); (case sel => k_extra "SEL"); (case off => k_extra "ALLNE"); (case h0 => omega); (case h1 => omega); (case hv => assumption); (case hl => assumption); (case hm => omega); (case hm2 => omega); (case kd => ktr_room); (case ku => ktr_units))
    intro x9 t9 t9' n9 h9 tk9 F9 N9 hx9
    (try dsimp only)
    (try k_sweep))
  k_with "LEN3" => (
    k_dflt (refine' len_map (News.isList ?n1 ?n2) hps ?_; (case n1 => k_asm); (case n2 => k_dflt (k_extra "TLS")))
    k_whole)
  k_with "TLS" => (first | exact List.Mem.head _ | assumption | (apply List.Mem.tail; k_extra "TLS"))
  trivial

theorem Names.eq2 {m : Str → Option Value} {tub most counter scalar places parts text a b : Value} (N : Names m tub most counter scalar places parts text) (h1 : m (Str.ofString "new") = some a) (h2 : m (Str.ofString "which") = some b) :
    m = fun z => if z = Str.ofString "new" then some a else if z = Str.ofString "which" then some b else shp tub most counter scalar places parts text m z := by
  funext z
  split
  · next h => rw [h, h1]
  split
  · next h => rw [h, h2]
  exact congrFun N.eq z

theorem fr_eq2 {h₀ h : Heap} {L : Addr} {m : Str → Option Value} {tub most counter scalar places parts text a b : Value} (F : Fr h₀ L h m) (N : Names m tub most counter scalar places parts text) (h1 : m (Str.ofString "new") = some a) (h2 : m (Str.ofString "which") = some b) :
    Fr h₀ L h (fun z => if z = Str.ofString "new" then some a else if z = Str.ofString "which" then some b else shp tub most counter scalar places parts text m z) := by
  rw [← N.eq2 h1 h2]; exact F

set_option maxHeartbeats 8000000 in
theorem head2_c (w : World) (mean : ExcName → Option Value) (mg mb : Str → Option Value) (h₀ : Heap) (L fa : Addr) (cd : Value) (s : Shared) (Q : Flow → Shared → Prop) (E : Value → Shared → Prop)
    (K0 : Below callerA h₀ [] h₀) (X : (Hd.heap_39 w.params).In h₀) (T : Top Hd.view_39 (looseW Hd.view_39 [Str.ofString "Limits"]) mean mg mb h₀)
    (tub pl pr cn sc : Addr) (most : Int) (tm : Tok) (x : Str) (hx : x.length ≤ 100) (tx : Tok) (m₁ : Str → Option Value) (tv : Value) (at_ : Int) (ta : Tok) (vs : List Value) (ns : List Int) (hv : IntsAre vs ns) (hl : ns.length ≤ 1000) (kt k1 : Nat) (ps : List P) (hps : ps.length ≤ 10) (hps1 : 1 ≤ ps.length)
    (rest : List (Addr × Obj)) (h0 : 0 ≤ at_) (h1 : at_ ≤ 10000) (ho1 : OwnOff rest [tub]) (hpl : (pl, lst (ps.map fun p => .ref p.pa) k1) ∈ rest)
    (F : Fr h₀ L s.heap (fun y => if y = Str.ofString "turn" then some tv else shp (.ref tub) (.int most tm) (.ref cn) (.ref sc) (.ref pl) (.ref pr) (.str x tx) m₁ y))
    (N : News h₀ L s.heap ((tub, lst (.int at_ ta :: vs) kt) :: rest))
    (hT : ∀ (kk : Int) t y ty at' ta' kt' h' tk' m', 0 ≤ kk → kk < ps.length → y.length ≤ 100 → at_ ≤ at' → at' ≤ at_ + 20 →
      Fr h₀ L h' (fun z => if z = Str.ofString "new" then some (.str y ty) else if z = Str.ofString "which" then some (.int kk t) else shp (.ref tub) (.int most tm) (.ref cn) (.ref sc) (.ref pl) (.ref pr) (.str x tx) m' z) →
      News h₀ L h' ((tub, lst (.int at' ta' :: vs) kt') :: rest) →
      wpAny (model PySem.Challenge.rw_qz0096_01.row.prog w) (callerA.deeper (envOf (Str.ofString "law") lawScope L fa cd)) (execs mid2 (envOf (Str.ofString "law") lawScope L fa cd)) Q E { s with heap := h', toks := tk' }) :
    wpAny (model PySem.Challenge.rw_qz0096_01.row.prog w) (callerA.deeper (envOf (Str.ofString "law") lawScope L fa cd)) (execs loop2 (envOf (Str.ofString "law") lawScope L fa cd)) Q E s := by
  revert X T
  k_fill
  intro X T
  conv in (occs := *) lawScope => all_goals whnf
  conv in loop2 => whnf
  k_steps
  all_goals (
    refine Stop.go ?_
    (rename News _ _ _ _ => kN)
    (rename Fr _ _ _ _ => kF)
    refine hT _ _ _ _ _ _ _ _ _ _ ?_ ?_ ?_ ?_ ?_ (fr_eq2 kF ⟨rfl, rfl, rfl, rfl, rfl, rfl, rfl⟩ rfl rfl) kN <;> omega)
end
end Mine
end

/- part QInv -/
section
open PySem PySem.W PySem.Calls PyProof.Rows
namespace Mine
section
theorem freshQInv : True := by
  k_with_none
  trivial
set_option maxRecDepth 100000

/- the ledger between two turns -/
def full (g : Sc) (tub pl pr : Addr) (vs : List Value) (fx : List (Addr × Obj)) (at_ : Int) (ta : Tok) (kt : Nat) (x : Str) (tx : Tok) (k1 k2 : Nat) (ps : List P) : List (Addr × Obj) :=
  (tub, lst (.int at_ ta :: vs) kt) :: (g.scD, g.scDict x tx) :: (pl, lst (ps.map fun p => .ref p.pa) k1) :: (pr, lst (ps.map fun p => .ref p.la) k2) :: (ps.flatMap (P.led g.cn g.sc) ++ fx)
def P.adr (p : P) : List Nat := [p.la, p.ld, p.pa]
def adrs (g : Sc) (tub pl pr : Addr) (fx : List (Addr × Obj)) (ps : List P) : List Nat := tub :: g.scD :: pl :: pr :: (ps.flatMap P.adr ++ fx.map fun q => (q.1 : Nat))

theorem led_adr (cn sc : Addr) : ∀ ps : List P, (ps.flatMap (P.led cn sc)).map (fun q => (q.1 : Nat)) = ps.flatMap P.adr
  | [] => rfl
  | p :: ps => by rw [List.flatMap_cons, List.map_append, led_adr cn sc ps, List.flatMap_cons]; rfl
theorem full_adr {g : Sc} {tub pl pr : Addr} {vs : List Value} {fx : List (Addr × Obj)} {at_ : Int} {ta : Tok} {kt : Nat} {x : Str} {tx : Tok} {k1 k2 : Nat} {ps : List P} :
    (full g tub pl pr vs fx at_ ta kt x tx k1 k2 ps).map (fun q => (q.1 : Nat)) = adrs g tub pl pr fx ps := by
  unfold full adrs
  rw [List.map_cons, List.map_cons, List.map_cons, List.map_cons, List.map_append, led_adr]

theorem off_of {a : Addr} {r own : List (Addr × Obj)} {l : List Nat} (h : ((a : Nat) :: l).Nodup) (e : ∀ q ∈ r, (q.1 : Nat) ∈ l) (ho : ∀ q ∈ own, @Ne Nat q.1 a) : OwnOff (r ++ own) [a] := fun p hp b hb => by
  rw [List.mem_singleton.mp hb]
  rcases List.mem_append.mp hp with hp | hp
  · intro q
    exact (List.nodup_cons.mp h).1 (q ▸ e p hp)
  · exact ho p hp

/- what lies behind one part p of ps = A ++ p :: B -/
def behind (g : Sc) (tub pl pr : Addr) (vs : List Value) (fx : List (Addr × Obj)) (at_ : Int) (ta : Tok) (kt : Nat) (k1 k2 : Nat) (A B : List P) (p : P) (own : List (Addr × Obj)) : List (Addr × Obj) :=
  (tub, lst (.int at_ ta :: vs) kt) :: (pl, lst ((A ++ p :: B).map fun p => .ref p.pa) k1) :: (pr, lst ((A ++ p :: B).map fun p => .ref p.la) k2) :: (p.la, instObj 362 p.ld) :: ((A.flatMap (P.led g.cn g.sc) ++ B.flatMap (P.led g.cn g.sc) ++ fx) ++ own)

theorem flat_split {g : Sc} {A B : List P} {p : P} : (A ++ p :: B).flatMap (P.led g.cn g.sc) = A.flatMap (P.led g.cn g.sc) ++ ([(p.la, instObj 362 p.ld), (p.ld, lvDict g.cn g.sc p.e (lvO p.e p.d) p.to (cval p.c p.t2) p.a1 p.a2 p.a3 p.a4 p.a5), (p.pa, plObj p.e p.d p.td p.c p.t1 p.k)] ++ B.flatMap (P.led g.cn g.sc)) := by
  rw [List.flatMap_append, List.flatMap_cons]; rfl
theorem mem_there {q a b c d x y z : Addr × Obj} {FA FB fx own : List (Addr × Obj)} (h : q ∈ z :: b :: y :: a :: c :: d :: x :: ((FA ++ FB ++ fx) ++ own)) : q ∈ (a :: b :: c :: d :: ((FA ++ ([x, y, z] ++ FB)) ++ fx)) ++ own := by
  have k : ∀ r, r ∈ FA ++ ([x, y, z] ++ FB) → r ∈ (a :: b :: c :: d :: ((FA ++ ([x, y, z] ++ FB)) ++ fx)) ++ own := fun r hr => List.mem_append_left _ (.tail _ (.tail _ (.tail _ (.tail _ (List.mem_append_left _ hr)))))
  have k3 : ∀ r, r ∈ [x, y, z] → r ∈ FA ++ ([x, y, z] ++ FB) := fun r hr => List.mem_append_right _ (List.mem_append_left _ hr)
  rcases List.mem_cons.mp h with rfl | h
  · exact k _ (k3 _ (.tail _ (.tail _ (.head _))))
  rcases List.mem_cons.mp h with rfl | h
  · exact List.mem_append_left _ (.tail _ (.head _))
  rcases List.mem_cons.mp h with rfl | h
  · exact k _ (k3 _ (.tail _ (.head _)))
  rcases List.mem_cons.mp h with rfl | h
  · exact List.mem_append_left _ (.head _)
  rcases List.mem_cons.mp h with rfl | h
  · exact List.mem_append_left _ (.tail _ (.tail _ (.head _)))
  rcases List.mem_cons.mp h with rfl | h
  · exact List.mem_append_left _ (.tail _ (.tail _ (.tail _ (.head _))))
  rcases List.mem_cons.mp h with rfl | h
  · exact k _ (k3 _ (.head _))
  rcases List.mem_append.mp h with h | h
  · rcases List.mem_append.mp h with h | h
    · rcases List.mem_append.mp h with h | h
      · exact k _ (List.mem_append_left _ h)
      · exact k _ (List.mem_append_right _ (List.mem_append_right _ h))
    · exact List.mem_append_left _ (.tail _ (.tail _ (.tail _ (.tail _ (List.mem_append_right _ h)))))
  · exact List.mem_append_right _ h
theorem mem_back {q a b c d x y z : Addr × Obj} {FA FB fx own : List (Addr × Obj)} (h : q ∈ (a :: b :: c :: d :: ((FA ++ ([x, y, z] ++ FB)) ++ fx)) ++ own) : q ∈ z :: b :: y :: a :: c :: d :: x :: ((FA ++ FB ++ fx) ++ own) := by
  have k : ∀ r, r ∈ FA ++ FB ++ fx → r ∈ z :: b :: y :: a :: c :: d :: x :: ((FA ++ FB ++ fx) ++ own) := fun r hr => .tail _ (.tail _ (.tail _ (.tail _ (.tail _ (.tail _ (.tail _ (List.mem_append_left _ hr)))))))
  rcases List.mem_append.mp h with h | h
  · rcases List.mem_cons.mp h with rfl | h
    · exact .tail _ (.tail _ (.tail _ (.head _)))
    rcases List.mem_cons.mp h with rfl | h
    · exact .tail _ (.head _)
    rcases List.mem_cons.mp h with rfl | h
    · exact .tail _ (.tail _ (.tail _ (.tail _ (.head _))))
    rcases List.mem_cons.mp h with rfl | h
    · exact .tail _ (.tail _ (.tail _ (.tail _ (.tail _ (.head _)))))
    rcases List.mem_append.mp h with h | h
    · rcases List.mem_append.mp h with h | h
      · exact k _ (List.mem_append_left _ (List.mem_append_left _ h))
      · rcases List.mem_append.mp h with h | h
        · rcases List.mem_cons.mp h with rfl | h
          · exact .tail _ (.tail _ (.tail _ (.tail _ (.tail _ (.tail _ (.head _))))))
          rcases List.mem_cons.mp h with rfl | h
          · exact .tail _ (.tail _ (.head _))
          rw [List.mem_singleton.mp h]; exact .head _
        · exact k _ (List.mem_append_left _ (List.mem_append_right _ h))
    · exact k _ (List.mem_append_right _ h)
  · exact .tail _ (.tail _ (.tail _ (.tail _ (.tail _ (.tail _ (.tail _ (List.mem_append_right _ h)))))))
theorem full_split {h₀ h : Heap} {L : Addr} {g : Sc} {tub pl pr : Addr} {vs : List Value} {fx own : List (Addr × Obj)} {at_ : Int} {ta : Tok} {kt : Nat} {x : Str} {tx : Tok} {k1 k2 : Nat} {A B : List P} {p : P}
    (N : News h₀ L h (full g tub pl pr vs fx at_ ta kt x tx k1 k2 (A ++ p :: B) ++ own)) :
    News h₀ L h ((p.pa, plObj p.e p.d p.td p.c p.t1 p.k) :: (g.scD, g.scDict x tx) :: (p.ld, lvDict g.cn g.sc p.e (lvO p.e p.d) p.to (cval p.c p.t2) p.a1 p.a2 p.a3 p.a4 p.a5) :: behind g tub pl pr vs fx at_ ta kt k1 k2 A B p own) := News.sub N fun q hq => by
  unfold full
  rw [flat_split]
  exact mem_there hq
theorem full_join {h₀ h : Heap} {L : Addr} {g : Sc} {tub pl pr : Addr} {vs : List Value} {fx own : List (Addr × Obj)} {at_ : Int} {ta : Tok} {kt : Nat} {x : Str} {tx : Tok} {k1 k2 : Nat} {A B : List P} {p : P}
    (N : News h₀ L h ((p.pa, plObj p.e p.d p.td p.c p.t1 p.k) :: (g.scD, g.scDict x tx) :: (p.ld, lvDict g.cn g.sc p.e (lvO p.e p.d) p.to (cval p.c p.t2) p.a1 p.a2 p.a3 p.a4 p.a5) :: behind g tub pl pr vs fx at_ ta kt k1 k2 A B p own)) :
    News h₀ L h (full g tub pl pr vs fx at_ ta kt x tx k1 k2 (A ++ p :: B) ++ own) := News.sub N fun q hq => by
  unfold full at hq
  rw [flat_split] at hq
  exact mem_back hq

theorem behind_adr {g : Sc} {tub pl pr : Addr} {vs : List Value} {fx : List (Addr × Obj)} {at_ : Int} {ta : Tok} {kt k1 k2 : Nat} {A B : List P} {p : P} {own : List (Addr × Obj)} :
    ∃ r, behind g tub pl pr vs fx at_ ta kt k1 k2 A B p own = r ++ own ∧ ∀ q ∈ r, (q.1 : Nat) ∈ ([tub, pl, pr, p.la] ++ (A.flatMap P.adr ++ B.flatMap P.adr ++ fx.map fun q => (q.1 : Nat)) : List Nat) := by
  refine ⟨(tub, lst (.int at_ ta :: vs) kt) :: (pl, lst ((A ++ p :: B).map fun p => .ref p.pa) k1) :: (pr, lst ((A ++ p :: B).map fun p => .ref p.la) k2) :: (p.la, instObj 362 p.ld) :: (A.flatMap (P.led g.cn g.sc) ++ B.flatMap (P.led g.cn g.sc) ++ fx), rfl, fun q hq => ?_⟩
  rw [← led_adr g.cn g.sc A, ← led_adr g.cn g.sc B]
  simp only [List.mem_cons, List.mem_append, List.mem_map] at hq ⊢
  rcases hq with h | h | h | h | (h | h) | h
  · exact .inl (.inl (by rw [h]))
  · exact .inl (.inr (.inl (by rw [h])))
  · exact .inl (.inr (.inr (.inl (by rw [h]))))
  · exact .inl (.inr (.inr (.inr (.inl (by rw [h])))))
  · exact .inr (.inl (.inl ⟨q, h, rfl⟩))
  · exact .inr (.inl (.inr ⟨q, h, rfl⟩))
  · exact .inr (.inr ⟨q, h, rfl⟩)

theorem nodup_part {g : Sc} {tub pl pr : Addr} {fx : List (Addr × Obj)} {A B : List P} {p : P} (h : (adrs g tub pl pr fx (A ++ p :: B)).Nodup) :
    ((p.pa : Nat) :: g.scD :: p.ld :: ([tub, pl, pr, p.la] ++ (A.flatMap P.adr ++ B.flatMap P.adr ++ fx.map fun q => (q.1 : Nat)))).Nodup := by
  refine (List.Perm.nodup_iff ?_).mp h
  refine List.perm_iff_count.mpr fun a => ?_
  simp only [adrs, P.adr, List.flatMap_append, List.flatMap_cons, List.count_append, List.count_cons, List.count_nil, List.cons_append, List.nil_append]
  omega
end
end Mine
end

/- part QTurn2 -/
section
open PySem PySem.W PySem.Calls PyProof.Rows
namespace Mine
section
theorem freshQTurn2 : True := by
  k_with_none
  trivial
set_option maxRecDepth 100000

theorem span_le {n d : Nat} {c : Option Int} {b f : Int} (h : spanOf n (lvOff n true d) c = some (b, f)) : f - b ≤ d := by
  have hb := spanOf_bounds h
  have h1 : (n : Int) - d ≤ b := by
    rw [spanOf_law] at h
    unfold lawBegin at h
    simp only [if_true] at h
    by_cases c1 : (n : Int) - d > n
    · rw [if_pos c1] at h; cases h
    · rw [if_neg c1] at h
      by_cases c2 : lawEnd n ((n : Int) - d) c < 0 ∧ (n : Int) - d < 0
      · rw [if_pos c2] at h; cases h
      · rw [if_neg c2] at h
        simp only [Option.some.injEq, Prod.mk.injEq] at h
        have := h.1
        omega
  omega

structure J2 (w : World) (g : Sc) (tub pl pr : Addr) (vs : List Value) (fx : List (Addr × Obj)) (k1 k2 : Nat) (tm : Tok) (n : Nat) (i : Nat) (m : Str → Option Value) (nx : List (Addr × Obj)) : Prop where
  is : ∃ at_ ta kt x tx tx' ps, Names m (.ref tub) (.int g.most tm) (.ref g.cn) (.ref g.sc) (.ref pl) (.ref pr) (.str x tx') ∧ nx = full g tub pl pr vs fx at_ ta kt x tx k1 k2 ps ∧ (adrs g tub pl pr fx ps).Nodup ∧
    (∀ p ∈ ps, P.Ok (20 + 100 * i) p) ∧ 0 ≤ at_ ∧ at_ ≤ 1000 + 100 * i ∧ (x.length : Int) ≤ g.most ∧ ps.length = n

theorem held_of {g : Sc} {tub pl pr : Addr} {vs : List Value} {fx own : List (Addr × Obj)} {at_ : Int} {ta : Tok} {kt : Nat} {x : Str} {tx : Tok} {k1 k2 : Nat} {ps : List P} (hs : (g.sc, instObj 66 g.scD) ∈ fx) (ok : ∀ p ∈ ps, P.Ok 1000 p) :
    Held g x tx ps pl pr k1 k2 (full g tub pl pr vs fx at_ ta kt x tx k1 k2 ps ++ own) where
  pl := List.mem_append_left _ (.tail _ (.tail _ (.head _)))
  pr := List.mem_append_left _ (.tail _ (.tail _ (.tail _ (.head _))))
  parts := fun p hp q hq => List.mem_append_left _ (.tail _ (.tail _ (.tail _ (.tail _ (List.mem_append_left _ (List.mem_flatMap.mpr ⟨p, hp, hq⟩))))))
  sc := List.mem_append_left _ (.tail _ (.tail _ (.tail _ (.tail _ (List.mem_append_right _ hs)))))
  scD := List.mem_append_left _ (.tail _ (.head _))
  ok := ok

theorem behind_swap {g : Sc} {tub pl pr : Addr} {vs : List Value} {fx own : List (Addr × Obj)} {at_ : Int} {ta : Tok} {kt : Nat} {k1 k2 : Nat} {A B : List P} {p p' : P} (e1 : p'.pa = p.pa) (e2 : p'.la = p.la) (e3 : p'.ld = p.ld) :
    behind g tub pl pr vs fx at_ ta kt k1 k2 A B p' own = behind g tub pl pr vs fx at_ ta kt k1 k2 A B p own := by
  unfold behind
  simp only [List.map_append, List.map_cons, e1, e2, e3]
theorem news_rot2 {h₀ h : Heap} {L : Addr} {a b c : Addr × Obj} {r : List (Addr × Obj)} (N : News h₀ L h (b :: c :: a :: r)) : News h₀ L h (a :: b :: c :: r) := News.sub N fun q hq => by
  simp only [List.mem_cons] at hq ⊢
  rcases hq with h | h | h | h <;> simp [h]

/- a part after a put -/
def P.after (p : P) (n : Nat) (df : Int) (to td t1 t2 : Tok) (k : Nat) : P :=
  { p with d := if p.e then ((p.d : Int) + n - df).toNat else p.d, c := putC p.c n, to := to, td := td, t1 := t1, t2 := t2, k := k }
theorem P.after_d {p : P} {n : Nat} {df : Int} {to td t1 t2 : Tok} {k : Nat} (h : p.e = true → 0 ≤ (p.d : Int) + n - df) : (((p.after n df to td t1 t2 k).d : Nat) : Int) = if p.e then (p.d : Int) + n - df else p.d := by
  unfold P.after
  dsimp only
  split
  · next h1 => exact Int.toNat_of_nonneg (h h1)
  · rfl
theorem P.after_o {p : P} {n : Nat} {df : Int} {to td t1 t2 : Tok} {k : Nat} (h : p.e = true → 0 ≤ (p.d : Int) + n - df) : lvO p.e (p.after n df to td t1 t2 k).d = if p.e then lvO p.e p.d + (df - n) else lvO p.e p.d := by
  have e := P.after_d (to := to) (td := td) (t1 := t1) (t2 := t2) (k := k) h
  unfold lvO
  split
  · next h1 => rw [e, if_pos h1]; omega
  · next h1 => rw [e, if_neg h1]
theorem putC_ok {c : Option Int} {n : Nat} (hn : n ≤ 100) (hc : ∀ k, c = some k → -100 ≤ k ∧ k ≤ 100) : ∀ k, putC c n = some k → -100 ≤ k ∧ k ≤ 100 := by
  intro k hk
  unfold putC at hk
  split at hk
  · cases hk
  · next k' =>
    have := hc k' rfl
    split at hk <;> (cases hk; omega)

theorem turn2 (w : World) (mean : ExcName → Option Value) (mg mb : Str → Option Value) (h₀ : Heap) (L fa : Addr) (cd : Value) (s : Shared) (Q : Flow → Shared → Prop) (E : Value → Shared → Prop)
    (K0 : Below callerA h₀ [] h₀) (X : (Hd.heap_39 w.params).In h₀) (T : Top Hd.view_39 (looseW Hd.view_39 [Str.ofString "Limits"]) mean mg mb h₀)
    (tub pl pr : Addr) (g : Sc) (tm : Tok) (vs : List Value) (ns : List Int) (hv : IntsAre vs ns) (hl : ns.length ≤ 1000) (fx : List (Addr × Obj)) (hs : g.Has w fx) (k1 k2 n : Nat) (hn : n ≤ 10) (hn1 : 1 ≤ n) (hmo : 0 ≤ g.most ∧ g.most ≤ 50)
    (hE : PassesOwn (model PySem.Challenge.rw_qz0096_01.row.prog w) (callerA.deeper (envOf (Str.ofString "law") lawScope L fa cd)) (envOf (Str.ofString "law") lawScope L fa cd) E)
    (hE2 : ∀ e, PassesOwnAt (model PySem.Challenge.rw_qz0096_01.row.prog w) ((callerA.deeper (envOf (Str.ofString "law") lawScope L fa cd)).mark (some (.ref e))) (callerA.deeper (envOf (Str.ofString "law") lawScope L fa cd)) (envOf (Str.ofString "law") lawScope L fa cd) E)
    (i : Nat) (hi : i < 6) (tv : Value) (m₁ : Str → Option Value) (nx own : List (Addr × Obj)) (J : J2 w g tub pl pr vs fx k1 k2 tm n i m₁ nx) (hoff : OwnOff own (nx.map (·.1)))
    (F : Fr h₀ L s.heap (fun y => if y = Str.ofString "turn" then some tv else m₁ y)) (N : News h₀ L s.heap (nx ++ own)) :
    wpAny (model PySem.Challenge.rw_qz0096_01.row.prog w) (callerA.deeper (envOf (Str.ofString "law") lawScope L fa cd)) (execs loop2 (envOf (Str.ofString "law") lawScope L fa cd))
      (GPost h₀ L (J2 w g tub pl pr vs fx k1 k2 tm n (i + 1)) own s Q) E s := by
  obtain ⟨⟨at_, ta, kt, x, tx, tx', ps, hN, rfl, hnd, hok, hat0, hat1, hxm, hlen⟩⟩ := J
  rw [hN.eq] at F
  have hadr : ∀ q ∈ own, ∀ b ∈ adrs g tub pl pr fx ps, @Ne Nat q.1 b := fun q hq b hb => by
    rw [← full_adr (vs := vs) (at_ := at_) (ta := ta) (kt := kt) (x := x) (tx := tx) (k1 := k1) (k2 := k2)] at hb
    exact hoff q hq b hb
  have htub : OwnOff (((g.scD, g.scDict x tx) :: (pl, lst (ps.map fun p => .ref p.pa) k1) :: (pr, lst (ps.map fun p => .ref p.la) k2) :: (ps.flatMap (P.led g.cn g.sc) ++ fx)) ++ own) [tub] := by
    refine off_of (l := g.scD :: pl :: pr :: (ps.flatMap P.adr ++ fx.map fun q => (q.1 : Nat))) hnd (fun q hq => ?_) (fun q hq => hadr q hq tub (.head _))
    rw [← led_adr g.cn g.sc ps]
    have : ∀ l : List (Addr × Obj), q ∈ l → (q.1 : Nat) ∈ l.map (fun q => (q.1 : Nat)) := fun l h => List.mem_map.mpr ⟨q, h, rfl⟩
    have := this _ hq
    rw [List.map_cons, List.map_cons, List.map_cons, List.map_append] at this
    exact this
  refine head2_c w mean mg mb h₀ L fa cd s _ E K0 X T tub pl pr g.cn g.sc g.most tm x (by omega) tx' m₁ tv at_ ta vs ns hv hl kt k1 ps (by omega) (by omega) _ hat0 (by omega) htub (List.mem_append_left _ (.tail _ (.head _))) F N ?_
  intro kk t y ty at' ta' kt' h' tk' m' hk0 hk1 hy hle hle' F' N'
  obtain ⟨j, rfl⟩ : ∃ j : Nat, kk = (j : Int) := ⟨kk.toNat, by omega⟩
  have hj : j < ps.length := by omega
  obtain ⟨A, p, B, hps, hAl⟩ : ∃ A p B, ps = A ++ p :: B ∧ A.length = j := by
    refine ⟨ps.take j, ps[j], ps.drop (j + 1), ?_, by rw [List.length_take]; omega⟩
    rw [List.getElem_cons_drop, List.take_append_drop]
  subst hps
  have hpm : p ∈ A ++ p :: B := by simp
  have hpo := hok p hpm
  have hpd : p.d ≤ 1000 := by have := hpo.hd; omega
  have hpc : ∀ k, p.c = some k → -1000 ≤ k ∧ k ≤ 1000 := fun k hk => by have := hpo.hc k hk; omega
  have hxp : ((A ++ p :: B).map fun p => Value.ref p.pa)[((j : Nat) : Int).toNat]? = some (.ref p.pa) := by
    rw [Int.toNat_natCast, ← hAl]; simp
  have hxq : ((A ++ p :: B).map fun p => Value.ref p.la)[((j : Nat) : Int).toNat]? = some (.ref p.la) := by
    rw [Int.toNat_natCast, ← hAl]; simp
  have N1 := full_split (own := own) (g := g) (tub := tub) (pl := pl) (pr := pr) (vs := vs) (fx := fx) (at_ := at') (ta := ta') (kt := kt') (x := x) (tx := tx) (k1 := k1) (k2 := k2) (A := A) (B := B) (p := p) N'
  have h3 := nodup_part hnd
  obtain ⟨ha, hb⟩ := List.nodup_cons.mp h3
  obtain ⟨hb1, hc⟩ := List.nodup_cons.mp hb
  obtain ⟨hc1, hl3⟩ := List.nodup_cons.mp hc
  obtain ⟨r, hr, hrm⟩ := behind_adr (g := g) (tub := tub) (pl := pl) (pr := pr) (vs := vs) (fx := fx) (at_ := at') (ta := ta') (kt := kt') (k1 := k1) (k2 := k2) (A := A) (B := B) (p := p) (own := own)
  have off1 : OwnOff (behind g tub pl pr vs fx at' ta' kt' k1 k2 A B p own) [p.pa] := by
    rw [hr]; exact off_of (List.nodup_cons.mpr ⟨fun h => ha (.tail _ (.tail _ h)), hl3⟩) hrm (fun q hq => hadr q hq p.pa (by simp [adrs, P.adr]))
  have off2 : OwnOff (behind g tub pl pr vs fx at' ta' kt' k1 k2 A B p own) [g.scD] := by
    rw [hr]; exact off_of (List.nodup_cons.mpr ⟨fun h => hb1 (.tail _ h), hl3⟩) hrm (fun q hq => hadr q hq g.scD (by simp [adrs, P.adr]))
  have off3 : OwnOff (behind g tub pl pr vs fx at' ta' kt' k1 k2 A B p own) [p.ld] := by
    rw [hr]; exact off_of (List.nodup_cons.mpr ⟨hc1, hl3⟩) hrm (fun q hq => hadr q hq p.ld (by simp [adrs, P.adr]))
  have hn1 : @Ne Nat p.pa g.scD := fun h => ha (by rw [h]; exact .head _)
  have hn2 : @Ne Nat p.pa p.ld := fun h => ha (by rw [h]; exact .tail _ (.head _))
  have hn3 : @Ne Nat g.scD p.ld := fun h => hb1 (by rw [h]; exact .head _)
  have tail : ∀ (z : Str) (tz tz' : Tok) (p' : P) (h'' : Heap) (tk'' : Nat) (m'' : Str → Option Value), p'.pa = p.pa → p'.la = p.la → p'.ld = p.ld → P.Ok (20 + 100 * (i + 1)) p' → (z.length : Int) ≤ g.most →
      Names m'' (.ref tub) (.int g.most tm) (.ref g.cn) (.ref g.sc) (.ref pl) (.ref pr) (.str z tz') → Fr h₀ L h'' m'' → News h₀ L h'' (full g tub pl pr vs fx at' ta' kt' z tz k1 k2 (A ++ p' :: B) ++ own) →
      wpAny (model PySem.Challenge.rw_qz0096_01.row.prog w) (callerA.deeper (envOf (Str.ofString "law") lawScope L fa cd)) (execs tail3 (envOf (Str.ofString "law") lawScope L fa cd))
        (GPost h₀ L (J2 w g tub pl pr vs fx k1 k2 tm n (i + 1)) own s Q) E { s with heap := h'', toks := tk'' } := by
    intro z tz tz' p' h'' tk'' m'' e1 e2 e3 ok' hz hN2 F2 N2
    have hok2 : ∀ q ∈ A ++ p' :: B, P.Ok (20 + 100 * (i + 1)) q := by
      intro q hq
      rcases List.mem_append.mp hq with hq | hq
      · have := hok q (List.mem_append_left _ hq); exact ⟨by have := this.hd; omega, this.hc⟩
      · rcases List.mem_cons.mp hq with rfl | hq
        · exact ok'
        · have := hok q (List.mem_append_right _ (.tail _ hq)); exact ⟨by have := this.hd; omega, this.hc⟩
    have hlen2 : (A ++ p' :: B).length = n := by rw [← hlen]; simp
    have hadr2 : adrs g tub pl pr fx (A ++ p' :: B) = adrs g tub pl pr fx (A ++ p :: B) := by
      simp only [adrs, P.adr, List.flatMap_append, List.flatMap_cons, e1, e2, e3]
    rw [hN2.eq] at F2
    refine tail3_c w mean mg mb h₀ L fa cd _ _ E K0 X T tub pl pr g g.most tm z (by omega) tz tz' m'' k1 k2 (A ++ p' :: B) (by omega) (full g tub pl pr vs fx at' ta' kt' z tz k1 k2 (A ++ p' :: B) ++ own)
      (held_of hs.sc fun q hq => ⟨by have := (hok2 q hq).hd; omega, (hok2 q hq).hc⟩) F2 N2 hE ?_
    intro h3' tk3 m3 hN3 F3 N3
    refine ⟨h3', tk3, m3, full g tub pl pr vs fx at' ta' kt' z tz k1 k2 (A ++ p' :: B), rfl, F3, N3, ?_, ⟨⟨at', ta', kt', z, tz, tz', A ++ p' :: B, hN3, rfl, by rw [hadr2]; exact hnd, hok2, by omega, by omega, hz, hlen2⟩⟩⟩
    intro q hq b hb
    have hb' : (b : Nat) ∈ adrs g tub pl pr fx (A ++ p :: B) := by rw [← hadr2, ← full_adr (vs := vs) (at_ := at') (ta := ta') (kt := kt') (x := z) (tx := tz) (k1 := k1) (k2 := k2)]; exact hb
    exact hadr q hq b hb'
  have hml : (p.la, instObj 362 p.ld) ∈ (p.pa, plObj p.e p.d p.td p.c p.t1 p.k) :: (g.scD, g.scDict x tx) :: (p.ld, lvDict g.cn g.sc p.e (lvO p.e p.d) p.to (cval p.c p.t2) p.a1 p.a2 p.a3 p.a4 p.a5) :: behind g tub pl pr vs fx at' ta' kt' k1 k2 A B p own := .tail _ (.tail _ (.tail _ (.tail _ (.tail _ (.tail _ (.head _))))))
  have hmd : (p.ld, lvDict g.cn g.sc p.e (lvO p.e p.d) p.to (cval p.c p.t2) p.a1 p.a2 p.a3 p.a4 p.a5) ∈ (p.pa, plObj p.e p.d p.td p.c p.t1 p.k) :: (g.scD, g.scDict x tx) :: (p.ld, lvDict g.cn g.sc p.e (lvO p.e p.d) p.to (cval p.c p.t2) p.a1 p.a2 p.a3 p.a4 p.a5) :: behind g tub pl pr vs fx at' ta' kt' k1 k2 A B p own := .tail _ (.tail _ (.head _))
  have hmfx : ∀ q ∈ fx, q ∈ (p.pa, plObj p.e p.d p.td p.c p.t1 p.k) :: (g.scD, g.scDict x tx) :: (p.ld, lvDict g.cn g.sc p.e (lvO p.e p.d) p.to (cval p.c p.t2) p.a1 p.a2 p.a3 p.a4 p.a5) :: behind g tub pl pr vs fx at' ta' kt' k1 k2 A B p own := fun q hq => .tail _ (.tail _ (.tail _ (.tail _ (.tail _ (.tail _ (.tail _ (List.mem_append_left _ (List.mem_append_right _ hq))))))))
  have hms := hmfx _ hs.sc
  have hmsd : (g.scD, g.scDict x tx) ∈ (p.pa, plObj p.e p.d p.td p.c p.t1 p.k) :: (g.scD, g.scDict x tx) :: (p.ld, lvDict g.cn g.sc p.e (lvO p.e p.d) p.to (cval p.c p.t2) p.a1 p.a2 p.a3 p.a4 p.a5) :: behind g tub pl pr vs fx at' ta' kt' k1 k2 A B p own := .tail _ (.head _)
  have die : lawPut x p.e p.d p.c y g.most = none → FnE w mean mg mb 359 [.ref p.la, .str y ty] 6 ((p.pa, plObj p.e p.d p.td p.c p.t1 p.k) :: (g.scD, g.scDict x tx) :: (p.ld, lvDict g.cn g.sc p.e (lvO p.e p.d) p.to (cval p.c p.t2) p.a1 p.a2 p.a3 p.a4 p.a5) :: behind g tub pl pr vs fx at' ta' kt' k1 k2 A B p own) →
      wpAny (model PySem.Challenge.rw_qz0096_01.row.prog w) (callerA.deeper (envOf (Str.ofString "law") lawScope L fa cd)) (execs mid2 (envOf (Str.ofString "law") lawScope L fa cd))
        (GPost h₀ L (J2 w g tub pl pr vs fx k1 k2 tm n (i + 1)) own s Q) E { s with heap := h', toks := tk' } := by
    intro hlp hdie
    refine mid2_die w mean mg mb h₀ L fa cd _ _ E K0 X T tub pl pr g tm x (by omega) tx tx' y hy ty m' ((j : Nat) : Int) t _ _ k1 k2 p _ ((g.scD, g.scDict x tx) :: (p.ld, lvDict g.cn g.sc p.e (lvO p.e p.d) p.to (cval p.c p.t2) p.a1 p.a2 p.a3 p.a4 p.a5) :: behind g tub pl pr vs fx at' ta' kt' k1 k2 A B p own) rfl
      (off_cons (Ne.symm hn1) (off_cons (Ne.symm hn2) off1)) (.tail _ (.tail _ (.tail _ (.head _)))) (.tail _ (.tail _ (.tail _ (.tail _ (.head _))))) (by omega) (by omega) hxp hxq
      (.tail _ (.tail _ (.tail _ (.tail _ (.tail _ (.head _)))))) (.tail _ (.head _)) ?_ (.head _) hpd hpc ⟨hmo.1, by omega⟩ hlp hdie F' N1 hE2 ?_
    · exact .tail _ (.tail _ (.tail _ (.tail _ (.tail _ (.tail _ (List.mem_append_left _ (List.mem_append_right _ hs.sc)))))))
    · intro h'' tk'' m'' hN2 F2 N2
      exact tail x tx tx' p h'' tk'' m'' rfl rfl rfl ⟨by have := hpo.hd; omega, hpo.hc⟩ hxm hN2 F2 (full_join N2)
  by_cases hsn : spanOf x.length (lvOff x.length p.e p.d) p.c = none
  · exact die (lawPut_none1 hsn) (put_die1 w mean mg mb g x (by omega) tx y ty p.la p.ld p.e p.d p.to p.c hpc p.t2 p.a1 p.a2 p.a3 p.a4 p.a5 hpd _ hml hmd hms hmsd hsn)
  obtain ⟨⟨b, f⟩, hsp⟩ := Option.ne_none_iff_exists'.mp hsn
  by_cases hmost : (x.length : Int) - (f - b) + y.length > g.most
  · exact die (lawPut_none2 hsp hmost) (put_die2 w mean mg mb g x (by omega) tx y hy ty p.la p.ld p.e p.d p.to p.c hpc p.t2 p.a1 p.a2 p.a3 p.a4 p.a5 hpd _ hml hmd hmsd (hs.mono fun q hq => hmfx q hq) b f hsp hmost)
  have hbs := spanOf_bounds hsp
  have hz := whole_len (y := y) hbs.1 hbs.2.1 hbs.2.2
  have hdd : p.e = true → 0 ≤ (p.d : Int) + y.length - (f - b) := fun he => by
    rw [he] at hsp
    have := span_le hsp
    omega
  refine mid2_ok w mean mg mb h₀ L fa cd _ _ E K0 X T tub pl pr g tm x (by omega) tx tx' y hy ty m' ((j : Nat) : Int) t _ _ k1 k2 p (behind g tub pl pr vs fx at' ta' kt' k1 k2 A B p own)
    (hs.mono fun q hq => .tail _ (.tail _ (.tail _ (.tail _ (List.mem_append_left _ (List.mem_append_right _ hq)))))) off2 off3 off1 hn1 hn2 hn3 (.tail _ (.head _)) (.tail _ (.tail _ (.head _))) (by omega) (by omega) hxp hxq
    (.tail _ (.tail _ (.tail _ (.head _)))) hpd hpc ⟨hmo.1, by omega⟩ b f hsp hmost F' N1 ?_
  intro tz tz' to tc td' tc' k h'' tk'' m'' hN2 F2 N2
  have e1 := P.after_d (to := to) (td := td') (t1 := tc') (t2 := tc) (k := k) hdd
  have e2 := P.after_o (to := to) (td := td') (t1 := tc') (t2 := tc) (k := k) hdd
  refine tail _ tz tz' (p.after y.length (f - b) to td' tc' tc k) h'' tk'' m'' rfl rfl rfl ⟨?_, putC_ok hy hpo.hc⟩ (by omega) hN2 F2 (full_join ?_)
  · have := hpo.hd
    by_cases he : p.e = true
    · rw [if_pos he] at e1; omega
    · rw [if_neg he] at e1; omega
  · rw [behind_swap (p := p) (p' := p.after y.length (f - b) to td' tc' tc k) rfl rfl rfl]
    refine news_rot2 ?_
    show News h₀ L h'' ((g.scD, g.scDict _ tz) :: (p.ld, lvDict g.cn g.sc p.e (lvO p.e (p.after y.length (f - b) to td' tc' tc k).d) to (cval (putC p.c y.length) tc) p.a1 p.a2 p.a3 p.a4 p.a5) :: (p.pa, plObjI p.e ((p.after y.length (f - b) to td' tc' tc k).d : Int) td' (putC p.c y.length) tc' k) :: behind g tub pl pr vs fx at' ta' kt' k1 k2 A B p own)
    rw [e1, e2]
    exact N2
end
end Mine
end

/- part QRest2 -/
section
open PySem PySem.W PySem.Calls PyProof.Rows
namespace Mine
section
theorem freshQRest2 : True := by
  k_with_none
  trivial
set_option maxRecDepth 100000

def rest2 : List Stmt := lawBody.drop 7

local macro_rules | `(tactic| k_all) => `(tactic| exact lt_ne (by assumption) (by omega))
local macro_rules | `(tactic| k_all) => `(tactic| exact allLt_ne (by assumption) (by omega))
local macro_rules | `(tactic| k_all) => `(tactic| exact OwnOff.ne (by assumption) (List.Mem.head _))

theorem words61 : True := by
  k_with "ALLNE" => (repeat' (first | exact AllNe.nil | assumption | exact AllNe.of (by assumption) | exact AllNe.ofLt (by assumption) | refine AllNe.cons ?_ ?_ | omega))
  k_with "SEL" => (first | exact Sel.head | (apply Sel.tail; k_extra "SEL"))
  k_with "DIP" => (
    k_dflt (refine' dip_use ?k1 ?k2 ?k3 ?k4 ?k5 ?kK ?sel ?off ?h0 ?h1 ?hv ?hl ?hm ?hm2 ?kd ?ku ?_; (case k1 => k_asm); (case k2 => k_asm); (case k3 => k_asm); (case k4 => k_asm); (case k5 => k_asm); (case kK => first | exact rfl | assumption); (case sel => k_extra "SEL"); (case off => k_extra "ALLNE"); (case h0 => omega); (case h1 => omega); (case hv => assumption); (case hl => assumption); (case hm => omega); (case hm2 => omega); (case kd => ktr_room); (case ku => ktr_units))
    intro k9 t9 t9' n9 h9 tk9 F9 N9 hlo9 hhi9
    (try dsimp only)
    (try k_sweep))
  k_with "FOR3" => (k_dflt (refine For_invV h₀ rfl rfl ?_ (by intro _; rfl) hE))
  k_with "ITER3" => (refine stop_of ?_)
  trivial

theorem size_k {k : Int} (h : 0 ≤ k) : Builtin.Range.rangeSize 0 k 1 = ((k.toNat : Nat) : Int) := by
  rw [rangeSize_one]; split <;> omega
theorem small_k {k : Int} (h0 : 0 ≤ k) (h : k ≤ 10) : Builtin.Range.small 0 k 1 = true := small_one (by omega) (by omega) (by omega) (by omega)

set_option maxHeartbeats 8000000 in
theorem rest2_c (w : World) (mean : ExcName → Option Value) (mg mb : Str → Option Value) (h₀ : Heap) (L fa : Addr) (cd : Value) (s : Shared) (Q : Flow → Shared → Prop) (E : Value → Shared → Prop)
    (K0 : Below callerA h₀ [] h₀) (X : (Hd.heap_39 w.params).In h₀) (T : Top Hd.view_39 (looseW Hd.view_39 [Str.ofString "Limits"]) mean mg mb h₀)
    (tub pl pr : Addr) (g : Sc) (tm : Tok) (vs : List Value) (ns : List Int) (hv : IntsAre vs ns) (hl : ns.length ≤ 1000) (fx : List (Addr × Obj)) (hs : g.Has w fx) (k1 k2 : Nat) (hmo : 0 ≤ g.most ∧ g.most ≤ 50)
    (at_ : Int) (ta : Tok) (kt : Nat) (x : Str) (tx tx' : Tok) (ps : List P) (m₁ : Str → Option Value) (hn : ps.length ≤ 10) (hn1 : 1 ≤ ps.length) (hnd : (adrs g tub pl pr fx ps).Nodup) (hok : ∀ p ∈ ps, P.Ok 10 p) (hat0 : 0 ≤ at_) (hat1 : at_ ≤ 900) (hxm : (x.length : Int) ≤ g.most)
    (hE : PassesOwn (model PySem.Challenge.rw_qz0096_01.row.prog w) (callerA.deeper (envOf (Str.ofString "law") lawScope L fa cd)) (envOf (Str.ofString "law") lawScope L fa cd) E)
    (hE2 : ∀ e, PassesOwnAt (model PySem.Challenge.rw_qz0096_01.row.prog w) ((callerA.deeper (envOf (Str.ofString "law") lawScope L fa cd)).mark (some (.ref e))) (callerA.deeper (envOf (Str.ofString "law") lawScope L fa cd)) (envOf (Str.ofString "law") lawScope L fa cd) E)
    (F : Fr h₀ L s.heap (shp (.ref tub) (.int g.most tm) (.ref g.cn) (.ref g.sc) (.ref pl) (.ref pr) (.str x tx') m₁))
    (N : News h₀ L s.heap (full g tub pl pr vs fx at_ ta kt x tx k1 k2 ps))
    (hQ : ∀ h' tk' m', Fr h₀ L h' m' → Q (.ret (.bool true)) { s with heap := h', toks := tk' }) :
    wpAny (model PySem.Challenge.rw_qz0096_01.row.prog w) (callerA.deeper (envOf (Str.ofString "law") lawScope L fa cd)) (execs rest2 (envOf (Str.ofString "law") lawScope L fa cd)) Q E s := by
  obtain ⟨rest, hrest⟩ : ∃ rest, rest = (g.scD, g.scDict x tx) :: (pl, lst (ps.map fun p => .ref p.pa) k1) :: (pr, lst (ps.map fun p => .ref p.la) k2) :: (ps.flatMap (P.led g.cn g.sc) ++ fx) := ⟨_, rfl⟩
  have htub : OwnOff rest [tub] := by
    rw [hrest, ← List.append_nil (_ :: _)]
    refine off_of (l := g.scD :: pl :: pr :: (ps.flatMap P.adr ++ fx.map fun q => (q.1 : Nat))) hnd (fun q hq => ?_) (fun q hq => by cases hq)
    rw [← led_adr g.cn g.sc ps]
    have : ∀ l : List (Addr × Obj), q ∈ l → (q.1 : Nat) ∈ l.map (fun q => (q.1 : Nat)) := fun l h => List.mem_map.mpr ⟨q, h, rfl⟩
    have := this _ hq
    rw [List.map_cons, List.map_cons, List.map_cons, List.map_append] at this
    exact this
  have N1 : News h₀ L s.heap ((tub, lst (.int at_ ta :: vs) kt) :: rest) := by rw [hrest]; exact N
  clear N
  revert X T
  k_fill
  intro X T
  conv in (occs := *) lawScope => all_goals whnf
  conv in rest2 => whnf
  k_steps
  refine Stop.go ?_
  (rename IsRange _ _ _ _ _ _ _ _ => hR)
  (rename News _ _ _ _ => kN)
  (rename Fr _ _ _ _ => kF)
  refine iter_rangeG (n := (1 + k9).toNat) (fun i m nx => J2 w g tub pl pr vs fx k1 k2 tm ps.length i m nx) rfl hR (small_k (by omega) (by omega)) (size_k (by omega)) kF kN ?_ ?_ ?_
  · exact ⟨⟨_, _, _, x, tx, tx', ps, ⟨rfl, rfl, rfl, rfl, rfl, rfl, rfl⟩, by rw [hrest]; rfl, hnd, fun p hp => ⟨by have := (hok p hp).hd; omega, (hok p hp).hc⟩, by omega, by omega, hxm, rfl⟩⟩
  · intro i t m₂ nx h tk own hi J hoff F' N'
    exact turn2 w mean mg mb h₀ L fa cd _ _ E K0 X T tub pl pr g tm vs ns hv hl fx hs k1 k2 ps.length hn hn1 hmo hE hE2 i (by omega) _ m₂ nx own J hoff F' N'
  · intro m₂ nx h tk J F' N'
    k_steps
    exact hQ _ _ _ F'
end
end Mine
end

/- part QRest1 -/
section
open PySem PySem.W PySem.Calls PyProof.Rows
namespace Mine
section
theorem freshQRest1 : True := by
  k_with_none
  trivial
set_option maxRecDepth 100000

def rest1 : List Stmt := lawBody.drop 6

structure J1 (g : Sc) (tub pl pr : Addr) (vs : List Value) (fx : List (Addr × Obj)) (x : Str) (tx : Tok) (tm : Tok) (tx' : Tok) (i : Nat) (m : Str → Option Value) (nx : List (Addr × Obj)) : Prop where
  is : ∃ at_ ta kt k1 k2 ps, Names m (.ref tub) (.int g.most tm) (.ref g.cn) (.ref g.sc) (.ref pl) (.ref pr) (.str x tx') ∧ nx = full g tub pl pr vs fx at_ ta kt x tx k1 k2 ps ∧ (adrs g tub pl pr fx ps).Nodup ∧
    (∀ p ∈ ps, P.Ok 10 p) ∧ 0 ≤ at_ ∧ at_ ≤ 100 + 5 * i ∧ ps.length = i

theorem nodup_more {g : Sc} {tub pl pr : Addr} {fx : List (Addr × Obj)} {ps : List P} {p : P} (h : (adrs g tub pl pr fx ps).Nodup) (lt : ∀ a ∈ adrs g tub pl pr fx ps, @LT.lt Nat _ a p.pa) (l1 : @LT.lt Nat _ p.pa p.ld) (l2 : @LT.lt Nat _ p.ld p.la) :
    (adrs g tub pl pr fx (ps ++ [p])).Nodup := by
  have : ((p.la : Nat) :: p.ld :: p.pa :: adrs g tub pl pr fx ps).Nodup := by
    refine List.nodup_cons.mpr ⟨fun hm => ?_, List.nodup_cons.mpr ⟨fun hm => ?_, List.nodup_cons.mpr ⟨fun hm => ?_, h⟩⟩⟩
    · rcases List.mem_cons.mp hm with h1 | hm
      · have h2 : @Eq Nat p.la p.ld := h1; omega
      · rcases List.mem_cons.mp hm with h1 | hm
        · have h2 : @Eq Nat p.la p.pa := h1; omega
        · have := lt _ hm; omega
    · rcases List.mem_cons.mp hm with h1 | hm
      · have h2 : @Eq Nat p.ld p.pa := h1; omega
      · have := lt _ hm; omega
    · have := lt _ hm; omega
  refine (List.Perm.nodup_iff ?_).mp this
  refine List.perm_iff_count.mpr fun a => ?_
  simp only [adrs, P.adr, List.flatMap_append, List.flatMap_cons, List.flatMap_nil, List.count_append, List.count_cons, List.count_nil, List.cons_append, List.nil_append]
  omega
theorem nodup_three {g : Sc} {tub pl pr : Addr} {fx : List (Addr × Obj)} {ps : List P} (h : (adrs g tub pl pr fx ps).Nodup) :
    ((tub : Nat) :: pl :: pr :: g.scD :: (ps.flatMap P.adr ++ fx.map fun q => (q.1 : Nat))).Nodup := by
  refine (List.Perm.nodup_iff ?_).mp h
  refine List.perm_iff_count.mpr fun a => ?_
  simp only [adrs, List.count_append, List.count_cons]
  omega
theorem adrs_more {g : Sc} {tub pl pr : Addr} {fx : List (Addr × Obj)} {ps : List P} {p : P} {a : Nat} (h : a ∈ adrs g tub pl pr fx (ps ++ [p])) : a ∈ adrs g tub pl pr fx ps ∨ a = p.la ∨ a = p.ld ∨ a = p.pa := by
  simp only [adrs, P.adr, List.flatMap_append, List.flatMap_cons, List.flatMap_nil, List.mem_append, List.mem_cons, List.not_mem_nil, or_false, List.append_nil] at h ⊢
  rcases h with h | h | h | h | ((h | h | h | h) | h) <;> simp [h]

theorem turn1 (w : World) (mean : ExcName → Option Value) (mg mb : Str → Option Value) (h₀ : Heap) (L fa : Addr) (cd : Value) (s : Shared) (Q : Flow → Shared → Prop) (E : Value → Shared → Prop)
    (K0 : Below callerA h₀ [] h₀) (X : (Hd.heap_39 w.params).In h₀) (T : Top Hd.view_39 (looseW Hd.view_39 [Str.ofString "Limits"]) mean mg mb h₀)
    (tub pl pr : Addr) (g : Sc) (tm : Tok) (vs : List Value) (ns : List Int) (hv : IntsAre vs ns) (hl : ns.length ≤ 1000) (fx : List (Addr × Obj)) (x : Str) (tx tx' : Tok)
    (i : Nat) (hi : i < 3) (tv : Value) (m₁ : Str → Option Value) (nx own : List (Addr × Obj)) (J : J1 g tub pl pr vs fx x tx tm tx' i m₁ nx) (hoff : OwnOff own (nx.map (·.1)))
    (F : Fr h₀ L s.heap (fun y => if y = Str.ofString "turn" then some tv else m₁ y)) (N : News h₀ L s.heap (nx ++ own)) :
    wpAny (model PySem.Challenge.rw_qz0096_01.row.prog w) (callerA.deeper (envOf (Str.ofString "law") lawScope L fa cd)) (execs loop1 (envOf (Str.ofString "law") lawScope L fa cd))
      (GPost h₀ L (J1 g tub pl pr vs fx x tx tm tx' (i + 1)) own s Q) E s := by
  obtain ⟨⟨at_, ta, kt, k1, k2, ps, hN, rfl, hnd, hok, hat0, hat1, hlen⟩⟩ := J
  rw [hN.eq] at F
  have hadr : ∀ q ∈ own, ∀ b ∈ adrs g tub pl pr fx ps, @Ne Nat q.1 b := fun q hq b hb => by
    rw [← full_adr (vs := vs) (at_ := at_) (ta := ta) (kt := kt) (x := x) (tx := tx) (k1 := k1) (k2 := k2)] at hb
    exact hoff q hq b hb
  have h3 := nodup_three hnd
  obtain ⟨ha, hb⟩ := List.nodup_cons.mp h3
  obtain ⟨hb1, hc⟩ := List.nodup_cons.mp hb
  obtain ⟨hc1, hl3⟩ := List.nodup_cons.mp hc
  have hrm : ∀ q ∈ (g.scD, g.scDict x tx) :: (ps.flatMap (P.led g.cn g.sc) ++ fx), (q.1 : Nat) ∈ (g.scD : Nat) :: (ps.flatMap P.adr ++ fx.map fun q => (q.1 : Nat)) := fun q hq => by
    rw [← led_adr g.cn g.sc ps]
    have : ∀ l : List (Addr × Obj), q ∈ l → (q.1 : Nat) ∈ l.map (fun q => (q.1 : Nat)) := fun l h => List.mem_map.mpr ⟨q, h, rfl⟩
    have := this _ hq
    rw [List.map_cons, List.map_append] at this
    exact this
  refine body1_c w mean mg mb h₀ L fa cd s _ E K0 X T tub pl pr g.cn g.sc g.most tm x tx' m₁ tv at_ ta vs ns hv hl kt k1 k2 (ps.map fun p => .ref p.pa) (ps.map fun p => .ref p.la) ((g.scD, g.scDict x tx) :: (ps.flatMap (P.led g.cn g.sc) ++ fx) ++ own) hat0 (by omega)
    (off_of (List.nodup_cons.mpr ⟨fun h => ha (.tail _ (.tail _ h)), hl3⟩) hrm fun q hq => hadr q hq tub (by simp [adrs]))
    (off_of (List.nodup_cons.mpr ⟨fun h => hb1 (.tail _ h), hl3⟩) hrm fun q hq => hadr q hq pl (by simp [adrs]))
    (off_of (List.nodup_cons.mpr ⟨hc1, hl3⟩) hrm fun q hq => hadr q hq pr (by simp [adrs]))
    (fun h => ha (by rw [h]; exact .head _)) (fun h => ha (by rw [h]; exact .tail _ (.head _))) (fun h => hb1 (by rw [h]; exact .head _)) F (News.sub N fun q hq => ?_) (by rw [List.length_map]; omega) (by rw [List.length_map]; omega) ?_
  · simp only [full, List.mem_cons, List.mem_append, List.cons_append] at hq ⊢
    rcases hq with h | h | h | h | ((h | h) | h) <;> simp [h]
  · intro p at' ta' kt' k1' k2' h' tk' m' hN2 F2 N2 hle hle' hpo hlt l1 l2
    obtain ⟨lt1, lt2, lt3, lt4⟩ := hlt
    have lt : ∀ a ∈ adrs g tub pl pr fx ps, @LT.lt Nat _ a p.pa := fun a hm => by
      have key : ∀ a ∈ ((g.scD, g.scDict x tx) :: (ps.flatMap (P.led g.cn g.sc) ++ fx)).map (fun q => (q.1 : Nat)), @LT.lt Nat _ a p.pa := fun a hm => by
        obtain ⟨q, hq, rfl⟩ := List.mem_map.mp hm
        exact ktn_ltOf lt4 q (List.mem_append_left _ hq)
      rw [List.map_cons, List.map_append, led_adr] at key
      simp only [adrs, List.mem_cons] at hm
      rcases hm with h | h | h | h | h
      · rw [h]; exact lt1
      · exact key _ (by rw [h]; exact .head _)
      · rw [h]; exact lt2
      · rw [h]; exact lt3
      · exact key _ (.tail _ h)
    refine ⟨h', tk', m', full g tub pl pr vs fx at' ta' kt' x tx k1' k2' (ps ++ [p]), rfl, F2, News.sub N2 fun q hq => ?_, ?_, ⟨⟨at', ta', kt', k1', k2', ps ++ [p], hN2, rfl, nodup_more hnd lt l1 l2, ?_, by omega, by omega, by rw [List.length_append, hlen]; rfl⟩⟩⟩
    · simp only [full, List.map_append, List.map_cons, List.map_nil, List.flatMap_append, List.flatMap_cons, List.flatMap_nil, List.append_nil, List.mem_cons, List.mem_append, List.cons_append] at hq ⊢
      rcases hq with h | h | h | h | ((h | h) | h) | h <;> simp [h]
    · intro q hq b hb
      have hb' : (b : Nat) ∈ adrs g tub pl pr fx (ps ++ [p]) := by rw [← full_adr (vs := vs) (at_ := at') (ta := ta') (kt := kt') (x := x) (tx := tx) (k1 := k1') (k2 := k2')]; exact hb
      have hq2 : @LT.lt Nat _ q.1 p.pa := ktn_ltOf lt4 q (List.mem_append_right _ hq)
      rcases adrs_more hb' with h | h | h | h
      · exact hadr q hq b h
      · intro e; have e' : @Eq Nat q.1 b := e; omega
      · intro e; have e' : @Eq Nat q.1 b := e; omega
      · intro e; have e' : @Eq Nat q.1 b := e; omega
    · intro q hq
      rcases List.mem_append.mp hq with hq | hq
      · exact hok q hq
      · rw [List.mem_singleton.mp hq]; exact hpo

local macro_rules | `(tactic| k_all) => `(tactic| exact lt_ne (by assumption) (by omega))
local macro_rules | `(tactic| k_all) => `(tactic| exact allLt_ne (by assumption) (by omega))
local macro_rules | `(tactic| k_all) => `(tactic| exact OwnOff.ne (by assumption) (List.Mem.head _))

theorem words62 : True := by
  k_with "ALLNE" => (repeat' (first | exact AllNe.nil | assumption | exact AllNe.of (by assumption) | exact AllNe.ofLt (by assumption) | refine AllNe.cons ?_ ?_ | omega))
  k_with "SEL" => (first | exact Sel.head | (apply Sel.tail; k_extra "SEL"))
  k_with "DIP" => (
    k_dflt (refine' dip_use ?k1 ?k2 ?k3 ?k4 ?k5 ?kK ?sel ?off ?h0 ?h1 ?hv ?hl ?hm ?hm2 ?kd ?ku ?_; (case k1 => k_asm); (case k2 => k_asm); (case k3 => k_asm); (case k4 => k_asm); (case k5 => k_asm); (case kK => first | exact rfl | assumption); (case sel => k_extra "SEL"); (case off => k_extra "ALLNE"); (case h0 => omega); (case h1 => omega); (case hv => assumption); (case hl => assumption); (case hm => omega); (case hm2 => omega); (case kd => ktr_room); (case ku => ktr_units))
    intro k9 t9 t9' n9 h9 tk9 F9 N9 hlo9 hhi9
    (try dsimp only)
    (try k_sweep))
  k_with "FOR3" => (k_dflt (refine For_invV h₀ rfl rfl ?_ (by intro _; rfl) hE))
  k_with "ITER3" => (refine stop_of ?_)
  trivial

theorem size_eq {k : Int} {n : Nat} (h : k = n) : Builtin.Range.rangeSize 0 k 1 = (n : Int) := by
  rw [rangeSize_one]; split <;> omega
set_option maxHeartbeats 8000000 in
theorem rest1_c (w : World) (mean : ExcName → Option Value) (mg mb : Str → Option Value) (h₀ : Heap) (L fa : Addr) (cd : Value) (s : Shared) (Q : Flow → Shared → Prop) (E : Value → Shared → Prop)
    (K0 : Below callerA h₀ [] h₀) (X : (Hd.heap_39 w.params).In h₀) (T : Top Hd.view_39 (looseW Hd.view_39 [Str.ofString "Limits"]) mean mg mb h₀)
    (tub pl pr : Addr) (g : Sc) (tm : Tok) (vs : List Value) (ns : List Int) (hv : IntsAre vs ns) (hl : ns.length ≤ 1000) (fx : List (Addr × Obj)) (hs : g.Has w fx) (hmo : 0 ≤ g.most ∧ g.most ≤ 50)
    (at_ : Int) (ta : Tok) (kt k1 k2 : Nat) (x : Str) (tx tx' : Tok) (m₁ : Str → Option Value) (hnd : (adrs g tub pl pr fx []).Nodup) (hat0 : 0 ≤ at_) (hat1 : at_ ≤ 90) (hxm : (x.length : Int) ≤ g.most)
    (hE : PassesOwn (model PySem.Challenge.rw_qz0096_01.row.prog w) (callerA.deeper (envOf (Str.ofString "law") lawScope L fa cd)) (envOf (Str.ofString "law") lawScope L fa cd) E)
    (hE2 : ∀ e, PassesOwnAt (model PySem.Challenge.rw_qz0096_01.row.prog w) ((callerA.deeper (envOf (Str.ofString "law") lawScope L fa cd)).mark (some (.ref e))) (callerA.deeper (envOf (Str.ofString "law") lawScope L fa cd)) (envOf (Str.ofString "law") lawScope L fa cd) E)
    (F : Fr h₀ L s.heap (shp (.ref tub) (.int g.most tm) (.ref g.cn) (.ref g.sc) (.ref pl) (.ref pr) (.str x tx') m₁))
    (N : News h₀ L s.heap (full g tub pl pr vs fx at_ ta kt x tx k1 k2 []))
    (hQ : ∀ h' tk' m', Fr h₀ L h' m' → Q (.ret (.bool true)) { s with heap := h', toks := tk' }) :
    wpAny (model PySem.Challenge.rw_qz0096_01.row.prog w) (callerA.deeper (envOf (Str.ofString "law") lawScope L fa cd)) (execs rest1 (envOf (Str.ofString "law") lawScope L fa cd)) Q E s := by
  obtain ⟨rest, hrest⟩ : ∃ rest, rest = (g.scD, g.scDict x tx) :: (pl, lst [] k1) :: (pr, lst [] k2) :: fx := ⟨_, rfl⟩
  have htub : OwnOff rest [tub] := by
    rw [hrest, ← List.append_nil (_ :: _)]
    have hnd' : ((tub : Nat) :: g.scD :: pl :: pr :: (fx.map fun q => (q.1 : Nat))).Nodup := hnd
    refine off_of (l := g.scD :: pl :: pr :: (fx.map fun q => (q.1 : Nat))) hnd' (fun q hq => ?_) (fun q hq => by cases hq)
    have : ∀ l : List (Addr × Obj), q ∈ l → (q.1 : Nat) ∈ l.map (fun q => (q.1 : Nat)) := fun l h => List.mem_map.mpr ⟨q, h, rfl⟩
    exact this _ hq
  have N1 : News h₀ L s.heap ((tub, lst (.int at_ ta :: vs) kt) :: rest) := by rw [hrest]; exact N
  clear N
  revert X T
  k_fill
  intro X T
  conv in (occs := *) lawScope => all_goals whnf
  conv in rest1 => whnf
  k_steps
  all_goals (
    refine Stop.go ?_
    (rename IsRange _ _ _ _ _ _ _ _ => hR)
    (rename News _ _ _ _ => kN)
    (rename Fr _ _ _ _ => kF)
    refine iter_rangeG (n := (1 + k9).toNat) (fun i m nx => J1 g tub pl pr vs fx x tx tm tx' i m nx) rfl hR (small_k (by omega) (by omega)) (size_eq (by omega)) kF kN ?_ ?_ ?_
    · exact ⟨⟨_, _, _, k1, k2, [], ⟨rfl, rfl, rfl, rfl, rfl, rfl, rfl⟩, by rw [hrest]; rfl, hnd, List.forall_mem_nil _, by omega, by omega, rfl⟩⟩
    · intro i t m₂ nx h tk own hi J hoff F' N'
      exact turn1 w mean mg mb h₀ L fa cd _ _ E K0 X T tub pl pr g tm vs ns hv hl fx x tx tx' i (by omega) _ m₂ nx own J hoff F' N'
    · intro m₂ nx h tk J F' N'
      obtain ⟨⟨at2, ta2, kt2, k12, k22, ps, hN, rfl, hnd2, hok, hat20, hat21, hlen⟩⟩ := J
      rw [hN.eq] at F'
      refine rest2_c w mean mg mb h₀ L fa cd _ _ E K0 X T tub pl pr g tm vs ns hv hl fx hs k12 k22 hmo at2 ta2 kt2 x tx tx' ps m₂ (by omega) (by omega) hnd2 hok hat20 (by omega) hxm hE hE2 F' N' ?_
      intro h' tk' m' F3
      exact hQ _ _ _ F3)
end
end Mine
end

/- part QEnd -/
section
open PySem PySem.W PySem.Calls PyProof.Rows
namespace Mine
section
theorem freshQEnd : True := by
  k_with_none
  trivial
set_option maxRecDepth 100000

theorem pw_cons {a b : Nat} {l : List Nat} (h : b < a) (hp : List.Pairwise (fun a b => b < a) (b :: l)) : List.Pairwise (fun a b => b < a) (a :: b :: l) :=
  List.pairwise_cons.mpr ⟨fun c hc => by
    rcases List.mem_cons.mp hc with rfl | hc
    · exact h
    · exact Nat.lt_trans ((List.pairwise_cons.mp hp).1 c hc) h, hp⟩
set_option maxHeartbeats 4000000 in
theorem law_end {w : World} {mean : ExcName → Option Value} {mg mb : Str → Option Value} {h₀ : Heap} {L fa : Addr} {cd : Value} {s : Shared} {Q : Flow → Shared → Prop} {E : Value → Shared → Prop}
    {DD l0 l1 l2 xs ds tub d1 d2 x1 d3 l3 x2 d4 x3 d5 : Addr} {oD o2 o3 oEm oPl : Obj} {r : List (Addr × Obj)} {m₀ : Str → Option Value}
    {a0 a1 a2 a3 a4 a5 a6 a7 a10 a11 a12 a13 a14 a15 a16 a17 a18 a19 a20 a21 : Int} {t0 t1 t2 t3 t4 t5 t6 t7 t10 t11 t12 t13 t14 t15 t16 t17 t18 t19 t20 t21 : Tok}
    {num tx tx' ta tm tmost : Tok} {cnt lastv vw vd vt vi : Value} {x : Str} {at_ most : Int} {vs : List Value} {ns : List Int} {kt : Nat}
    (K0 : Below callerA h₀ [] h₀) (F : Fr h₀ L s.heap m₀) (X : (Hd.heap_39 w.params).In h₀)
    (N : News h₀ L s.heap ((DD, oD) :: (l0, W.listOf #[] 0) :: (l1, W.listOf #[] 0) :: (l2, o2) :: (xs, instObj 66 ds) ::
      (ds, dictOf [ent a0 (Str.ofString "number") t0 (.int (0 + 1) num), ent a1 (Str.ofString "count") t1 cnt, ent a2 (Str.ofString "blessed") t2 .none, ent a3 (Str.ofString "weak") t3 (.ref l2), ent a4 (Str.ofString "is_destroyed") t4 (.bool false), ent a5 (Str.ofString "is_freed") t5 (.bool false), ent a6 (Str.ofString "value") t6 (.str x tx), ent a7 (Str.ofString "magic") t7 .none] 8) ::
      (tub, lst (.int at_ ta :: vs) kt) :: (d1, oEm) :: (d2, oPl) :: (x1, instObj 458 d3) ::
      (d3, dictOf [ent a10 (Str.ofString "heap") t10 (.ref x2), ent a11 (Str.ofString "destroy") t11 .none, ent a12 (Str.ofString "places") t12 (.ref d2), ent a13 (Str.ofString "empties") t13 (.ref d1)] 4) ::
      (l3, o3) :: (x2, instObj 225 d4) :: (d4, dictOf [ent a14 (Str.ofString "limits") t14 (.ref x3), ent a15 (Str.ofString "last") t15 lastv, ent a16 (Str.ofString "zero") t16 (.ref l3)] 3) :: (x3, instObj 480 d5) ::
      (d5, dictOf [ent a17 (Str.ofString "width") t17 vw, ent a18 (Str.ofString "depth") t18 vd, ent a19 (Str.ofString "steps") t19 vt, ent a20 (Str.ofString "text") t20 (.int most tmost), ent a21 (Str.ofString "items") t21 vi] 5) :: r))
    (T : Top Hd.view_39 (looseW Hd.view_39 [Str.ofString "Limits"]) mean mg mb h₀)
    (hN : Names m₀ (.ref tub) (.int most tm) (.ref x1) (.ref xs) (.ref l1) (.ref l0) (.str x tx'))
    (hv : IntsAre vs ns) (hl : ns.length ≤ 1000)
    (hpl : Obj.IsDictOf (intKind PySem.Challenge.rw_qz0096_01.row.prog w) oPl []) (hem : Obj.IsDictOf (intKind PySem.Challenge.rw_qz0096_01.row.prog w) oEm []) (lpl : (d2 == sysModules) = false) (lem : (d1 == sysModules) = false)
    (hat0 : 0 ≤ at_) (hat1 : at_ ≤ 90) (hxm : (x.length : Int) ≤ most) (hmo : 0 ≤ most ∧ most ≤ 50)
    (q1 : @LT.lt Nat _ tub d5) (q2 : @LT.lt Nat _ d5 x3) (q3 : @LT.lt Nat _ x3 d4) (q4 : @LT.lt Nat _ d4 x2) (q5 : @LT.lt Nat _ x2 d3) (q6 : @LT.lt Nat _ d3 x1) (q7 : @LT.lt Nat _ x1 d2) (q8 : @LT.lt Nat _ d2 d1) (q9 : @LT.lt Nat _ d1 ds) (q10 : @LT.lt Nat _ ds xs) (q11 : @LT.lt Nat _ xs l1) (q12 : @LT.lt Nat _ l1 l0)
    (hE : PassesOwn (model PySem.Challenge.rw_qz0096_01.row.prog w) (callerA.deeper (envOf (Str.ofString "law") lawScope L fa cd)) (envOf (Str.ofString "law") lawScope L fa cd) E)
    (hE2 : ∀ e, PassesOwnAt (model PySem.Challenge.rw_qz0096_01.row.prog w) ((callerA.deeper (envOf (Str.ofString "law") lawScope L fa cd)).mark (some (.ref e))) (callerA.deeper (envOf (Str.ofString "law") lawScope L fa cd)) (envOf (Str.ofString "law") lawScope L fa cd) E)
    (hQ : ∀ h' tk' m', Fr h₀ L h' m' → Q (.ret (.bool true)) { s with heap := h', toks := tk' }) :
    wpAny (model PySem.Challenge.rw_qz0096_01.row.prog w) (callerA.deeper (envOf (Str.ofString "law") lawScope L fa cd)) (execs rest1 (envOf (Str.ofString "law") lawScope L fa cd)) Q E s := by
  let g : Sc := { cn := x1, cnD := d3, cpl := d2, cem := d1, hp := x2, hpD := d4, zr := l3, lim := x3, limD := d5, sc := xs, scD := ds, wk := l2, oPl := oPl, oEm := oEm, vw := vw, vd := vd, vs := vt, vi := vi, most := most, tmost := tmost, last := lastv, num := num, cnt := cnt
                  ht := fun i => ([⟨a0, t0⟩, ⟨a1, t1⟩, ⟨a2, t2⟩, ⟨a3, t3⟩, ⟨a4, t4⟩, ⟨a5, t5⟩, ⟨a6, t6⟩, ⟨a7, t7⟩, ⟨a0, t0⟩, ⟨a0, t0⟩, ⟨a10, t10⟩, ⟨a11, t11⟩, ⟨a12, t12⟩, ⟨a13, t13⟩, ⟨a14, t14⟩, ⟨a15, t15⟩, ⟨a16, t16⟩, ⟨a17, t17⟩, ⟨a18, t18⟩, ⟨a19, t19⟩, ⟨a20, t20⟩, ⟨a21, t21⟩] : List HT).getD i ⟨a0, t0⟩ }
  rw [hN.eq] at F
  have hs : g.Has w g.fixed := ⟨.head _, .tail _ (.head _), .tail _ (.tail _ (.head _)), .tail _ (.tail _ (.tail _ (.head _))), .tail _ (.tail _ (.tail _ (.tail _ (.head _)))), .tail _ (.tail _ (.tail _ (.tail _ (.tail _ (.head _))))),
    .tail _ (.tail _ (.tail _ (.tail _ (.tail _ (.tail _ (.head _)))))), .tail _ (.tail _ (.tail _ (.tail _ (.tail _ (.tail _ (.tail _ (.head _))))))), .tail _ (.tail _ (.tail _ (.tail _ (.tail _ (.tail _ (.tail _ (.tail _ (.head _)))))))), hpl, hem, lpl, lem⟩
  have hnd : (adrs g tub l1 l0 g.fixed []).Nodup := by
    show ([(tub : Nat), ds, l1, l0, x1, d3, d2, d1, x2, d4, x3, d5, xs] : List Nat).Nodup
    have key : ([(l0 : Nat), l1, xs, ds, d1, d2, x1, d3, x2, d4, x3, d5, tub] : List Nat).Nodup := by
      have nd : ∀ l : List Nat, List.Pairwise (fun a b => b < a) l → l.Nodup := fun l h => h.imp fun {a b} hab e => by omega
      exact nd _ (pw_cons q12 (pw_cons q11 (pw_cons q10 (pw_cons q9 (pw_cons q8 (pw_cons q7 (pw_cons q6 (pw_cons q5 (pw_cons q4 (pw_cons q3 (pw_cons q2 (pw_cons q1 (List.pairwise_singleton _ _)))))))))))))
    refine (List.Perm.nodup_iff (List.perm_iff_count.mpr fun a => ?_)).mp key
    simp only [List.count_cons]
    omega
  refine rest1_c w mean mg mb h₀ L fa cd s Q E K0 X T tub l1 l0 g tm vs ns hv hl g.fixed hs hmo at_ ta kt 0 0 x tx tx' m₀ hnd hat0 hat1 hxm hE hE2 F (News.sub N fun q hq => ?_) hQ
  have hq' : q ∈ [(tub, lst (.int at_ ta :: vs) kt), (ds, g.scDict x tx), (l1, lst [] 0), (l0, lst [] 0), (g.cn, instObj 458 g.cnD),
     (g.cnD, dictOf [ent (g.ht 10).h (Str.ofString "heap") (g.ht 10).t (.ref g.hp), ent (g.ht 11).h (Str.ofString "destroy") (g.ht 11).t .none, ent (g.ht 12).h (Str.ofString "places") (g.ht 12).t (.ref g.cpl), ent (g.ht 13).h (Str.ofString "empties") (g.ht 13).t (.ref g.cem)] 4),
     (g.cpl, g.oPl), (g.cem, g.oEm), (g.hp, instObj 225 g.hpD),
     (g.hpD, dictOf [ent (g.ht 14).h (Str.ofString "limits") (g.ht 14).t (.ref g.lim), ent (g.ht 15).h (Str.ofString "last") (g.ht 15).t g.last, ent (g.ht 16).h (Str.ofString "zero") (g.ht 16).t (.ref g.zr)] 3),
     (g.lim, instObj 480 g.limD),
     (g.limD, dictOf [ent (g.ht 17).h (Str.ofString "width") (g.ht 17).t g.vw, ent (g.ht 18).h (Str.ofString "depth") (g.ht 18).t g.vd, ent (g.ht 19).h (Str.ofString "steps") (g.ht 19).t g.vs, ent (g.ht 20).h (Str.ofString "text") (g.ht 20).t (.int g.most g.tmost), ent (g.ht 21).h (Str.ofString "items") (g.ht 21).t g.vi] 5),
     (g.sc, instObj 66 g.scD)] := hq
  clear hq
  simp only [List.mem_cons, List.not_mem_nil, or_false] at hq'
  rcases hq' with rfl | rfl | rfl | rfl | rfl | rfl | rfl | rfl | rfl | rfl | rfl | rfl | rfl
  · exact .tail _ (.tail _ (.tail _ (.tail _ (.tail _ (.tail _ (.head _))))))
  · exact .tail _ (.tail _ (.tail _ (.tail _ (.tail _ (.head _)))))
  · exact .tail _ (.tail _ (.head _))
  · exact .tail _ (.head _)
  · exact .tail _ (.tail _ (.tail _ (.tail _ (.tail _ (.tail _ (.tail _ (.tail _ (.tail _ (.head _)))))))))
  · exact .tail _ (.tail _ (.tail _ (.tail _ (.tail _ (.tail _ (.tail _ (.tail _ (.tail _ (.tail _ (.head _))))))))))
  · exact .tail _ (.tail _ (.tail _ (.tail _ (.tail _ (.tail _ (.tail _ (.tail _ (.head _))))))))
  · exact .tail _ (.tail _ (.tail _ (.tail _ (.tail _ (.tail _ (.tail _ (.head _)))))))
  · exact .tail _ (.tail _ (.tail _ (.tail _ (.tail _ (.tail _ (.tail _ (.tail _ (.tail _ (.tail _ (.tail _ (.tail _ (.head _))))))))))))
  · exact .tail _ (.tail _ (.tail _ (.tail _ (.tail _ (.tail _ (.tail _ (.tail _ (.tail _ (.tail _ (.tail _ (.tail _ (.tail _ (.head _)))))))))))))
  · exact .tail _ (.tail _ (.tail _ (.tail _ (.tail _ (.tail _ (.tail _ (.tail _ (.tail _ (.tail _ (.tail _ (.tail _ (.tail _ (.tail _ (.head _))))))))))))))
  · exact .tail _ (.tail _ (.tail _ (.tail _ (.tail _ (.tail _ (.tail _ (.tail _ (.tail _ (.tail _ (.tail _ (.tail _ (.tail _ (.tail _ (.tail _ (.head _)))))))))))))))
  · exact .tail _ (.tail _ (.tail _ (.tail _ (.head _))))
end
end Mine
end

/- part QMain -/
section
open PySem PySem.W PySem.Calls PyProof.Rows
namespace Mine
section
theorem freshQMain : True := by
  k_with_none
  trivial
set_option maxRecDepth 100000

local macro_rules | `(tactic| k_all) => `(tactic| exact lt_ne (by assumption) (by omega))
local macro_rules | `(tactic| k_all) => `(tactic| exact allLt_ne (by assumption) (by omega))
local macro_rules | `(tactic| k_all) => `(tactic| exact OwnOff.ne (by assumption) (List.Mem.head _))

theorem ints_cons {ws : List Value} {n : Int} {ns : List Int} (h : IntsAre ws ([n] ++ ns)) : ∃ t vs, ws = .int n t :: vs ∧ IntsAre vs ns := by
  cases h with
  | cons _ t h => exact ⟨t, _, rfl, h⟩

theorem words71 : True := by
  k_with "STOPFOR" => (refine stop_of ?_)
  k_with "ALLNE" => (repeat' (first | exact AllNe.nil | assumption | exact AllNe.of (by assumption) | exact AllNe.ofLt (by assumption) | refine AllNe.cons ?_ ?_ | omega))
  k_with "SEL" => (first | exact Sel.head | (apply Sel.tail; k_extra "SEL"))
  k_with "DIPM" => (
    k_dflt (refine' dip_use ?k1 ?k2 ?k3 ?k4 ?k5 ?kK ?sel ?off ?h0 ?h1 ?hv ?hl ?hm ?hm2 ?kd ?ku ?_; (case k1 => k_asm); (case k2 => k_asm); (case k3 => k_asm); (case k4 => k_asm); (case k5 => k_asm); (case kK => first | exact rfl | assumption); (case sel => k_extra "SEL"); (case off => k_extra "ALLNE"); (case h0 => omega); (case h1 => omega); (case hv => assumption); (case hl => assumption); (case hm => omega); (case hm2 => omega); (case kd => ktr_room); (case ku => ktr_units))
    intro k9 t9 t9' n9 h9 tk9 F9 N9 hlo9 hhi9
    (try dsimp only)
    (try k_sweep))
  k_with "LET" => (
    k_dflt (refine' let_use ?k1 ?k2 ?k3 ?k4 ?k5 ?kK ?sel ?off ?h0 ?h1 ?hv ?hl ?hm ?hm2 ?kd ?ku ?_; (case k1 => k_asm); (case k2 => k_asm); (case k3 => k_asm); (case k4 => k_asm); (case k5 => k_asm); (case kK => first | exact rfl | assumption); (case sel => k_extra "SEL"); (case off => k_extra "ALLNE"); (case h0 => omega); (case h1 => omega); (case hv => assumption); (case hl => assumption); (case hm => omega); (case hm2 => omega); (case kd => ktr_room); (case ku => ktr_units))
    intro x9 t9 t9' n9 h9 tk9 F9 N9 hx9
    (try dsimp only)
    (try k_sweep))
  k_with "FOR" => (refine stop_of ?_)
  k_with "JOIN" => (
    k_dflt (refine' law_end ?k1 ?k2 ?k3 ?k4 ?k5 ?hN ?hv ?hl ?hpl ?hem ?lpl ?lem ?b0 ?b1 ?b2 ?b3 ?o1 ?o2 ?o3 ?o4 ?o5 ?o6 ?o7 ?o8 ?o9 ?o10 ?o11 ?o12 ?hE ?hE2 ?_; (case k2 => k_asm); (case k4 => k_asm); (case k1 => k_asm); (case k3 => k_asm); (case k5 => k_asm); (case hN => exact ⟨rfl, rfl, rfl, rfl, rfl, rfl, rfl⟩); (case hv => assumption); (case hl => assumption); (case hpl => assumption); (case hem => assumption); (case lpl => assumption); (case lem => assumption); (case hE => exact PassesOwn.leaving); (case hE2 => exact fun _ => PassesOwnAt.leaving))
    all_goals first
      | omega
      | (constructor <;> omega)
      | skip
    intro h9 tk9 m9 F9
    (try dsimp only))
  trivial

set_option maxHeartbeats 8000000 in
theorem look : PySem.Challenge.rw_qz0096_01.Holds := by
  w_on
  refine holds_law Hd.said0 fun said => ?_
  refine holds_open (q := Hd.view_39) (loose := [Str.ofString "Limits"]) (Xt := fun x => xlAt Hd.view_39 [] x && recOk (RowW.records PySem.Challenge.rw_qz0096_01.row.toRowW) x) (XP := XL Hd.view_39 [])
    (Yf := Hook.obs (kHook Hd.heap_39 Hd.kAs Hd.kEq)) (Ya := Hook.val (kHook Hd.heap_39 Hd.kAs Hd.kEq)) (YP := Hook.says (kHook Hd.heap_39 Hd.kAs Hd.kEq)) (N := 8794) Hd.left (Hook.of _) (Hook.keeps _)
    (fun x e => xl_of x (Bool.and_eq_true_iff.mp e).1) XL.keeps (by rfl) (by rfl) (by rfl) (fun x e => recFacts_of (Bool.and_eq_true_iff.mp e).2) (by rfl) (by first | assumption | decide +kernel) (by decide +kernel) ⟨rfl, rfl, rfl, rfl, rfl, by decide +kernel⟩ ?hw ?hc
  case hw => w_witness2
  case hc => w_strict (
    k_with "L491" => (refine stop_of ?_)
    k_fill
    intro w s₀ s₁ mg mb G Y fa o pm cd doc dV kV ho hd0 hcd hD hmg hg args vals as hpre hlay hrd hwl hlo
    have KX := kIn_of Y
    have X := (Ground.X G).1
    have V := (Ground.X G).2
    have GL := glob_more (Ground.glob G Hd.nm1 Hd.nm2) V
    refine Ground.open G ?_
    intro T B D TE TW
    try (refine guard_noD D (by decide +kernel) ?_; clear D)
    obtain ⟨_, _, M⟩ := bmod_of_top T
    have TA := at_of_top T
    try (obtain ⟨_, _, he, B0⟩ := based_of_top T rfl hmg ho hd0; have he' : cd = _ := he; subst he'; clear he)
    clear hmg
    wrow_args hpre hlay hrd hwl hlo
    all_goals (
      first | refine callC_kw (enter_call ?_) | refine enter_call ?_ | refine callC_kw (enter_callW ?_) | refine enter_callW ?_ | w_how
      w_top on
      try refine codeAny_mono ?_ (fun _ _ g => GoodW.toG g)
      have K0 := below_caller (Top.heap T)
      w_call any ho hd0 hcd hD T F
      clear hd0 TA
      k_drop
      skip)
    all_goals (try k_fold)
    k_steps
    k_with "L491" => k_extra "DIPM"
    (rename IntsAre _ (_ ++ _) => hI2)
    (rename List Int => script)
    obtain ⟨ta, vs, rfl, hv⟩ := ints_cons hI2
    have hlen50 : (List.take 50 script).length ≤ 1000 := by rw [List.length_take]; omega
    refine Stop.go ?_
    k_steps
    refine Stop.go ?_
    k_extra "JOIN"
    k_steps)
end
end Mine
end

theorem PySem.Challenge.cw_qz0096_01_holds : PySem.Challenge.rw_qz0096_01.Holds := by
  exact Mine.look
