import PyProof.Rows.All
import Wide.All
import OpenK.AllK
import Wide.FinOn
import PySem.Challenge.RW_xw0308_02
open PySem PySem.W PyProof.Rows PySem.Calls PySem.Spec
set_option Elab.async false
set_option compiler.extract_closed false
local macro_rules | `(tactic| walk_at $s:str) => `(tactic| k_extra $s)

set_option linter.unusedVariables false
namespace Mine
abbrev pw : Program := PySem.Challenge.pw_xw0308_02
def vw : Program := view pw [1, 2, 3, 4, 5, 7, 8, 9, 10, 11, 12, 13, 14, 15, 16, 17, 19, 21, 22, 23, 25, 26, 27, 29, 30, 31, 32, 34, 35, 36, 37, 38, 39, 40, 41, 42, 43, 44, 45, 46, 47, 48, 49, 50, 51, 53, 54, 55, 56, 57, 58, 59, 60, 61, 63, 65, 66, 67, 68]
def loose : List PySem.Str := ["SnobolError", "plain_count"]
def N : Nat := 8000
def defOf : Stmt → PySem.Arguments × List Stmt × PySem.Scope
  | .FunctionDef _ args body _ _ _ scope .. => (args, body, scope)
  | _ => default
def inCls : Stmt → List Stmt
  | .ClassDef _ _ _ body .. => body
  | _ => []
def top (i : Nat) : PySem.Arguments × List Stmt × PySem.Scope := defOf ((pw.main.body.drop i).headD default)
def meth (i j : Nat) : PySem.Arguments × List Stmt × PySem.Scope := defOf ((inCls ((pw.main.body.drop i).headD default)).drop j |>.headD default)
noncomputable def F19a : PySem.Arguments := by
  refine (?f : (x : PySem.Arguments) → x = (top 1).1 → PySem.Arguments) ?x ?h
  case f => exact fun x _ => x
  case h => conv => rhs; whnf
noncomputable def F19b : List Stmt := by
  refine (?f : (x : List Stmt) → x = (top 1).2.1 → List Stmt) ?x ?h
  case f => exact fun x _ => x
  case h => conv => rhs; whnf
noncomputable def F19s : PySem.Scope := by
  refine (?f : (x : PySem.Scope) → x = (top 1).2.2 → PySem.Scope) ?x ?h
  case f => exact fun x _ => x
  case h => conv => rhs; whnf
noncomputable def F21a : PySem.Arguments := by
  refine (?f : (x : PySem.Arguments) → x = (top 1).1 → PySem.Arguments) ?x ?h
  case f => exact fun x _ => x
  case h => conv => rhs; whnf
noncomputable def F21b : List Stmt := by
  refine (?f : (x : List Stmt) → x = (top 1).2.1 → List Stmt) ?x ?h
  case f => exact fun x _ => x
  case h => conv => rhs; whnf
noncomputable def F21s : PySem.Scope := by
  refine (?f : (x : PySem.Scope) → x = (top 1).2.2 → PySem.Scope) ?x ?h
  case f => exact fun x _ => x
  case h => conv => rhs; whnf
noncomputable def F26a : PySem.Arguments := by
  refine (?f : (x : PySem.Arguments) → x = (top 2).1 → PySem.Arguments) ?x ?h
  case f => exact fun x _ => x
  case h => conv => rhs; whnf
noncomputable def F26b : List Stmt := by
  refine (?f : (x : List Stmt) → x = (top 2).2.1 → List Stmt) ?x ?h
  case f => exact fun x _ => x
  case h => conv => rhs; whnf
noncomputable def F26s : PySem.Scope := by
  refine (?f : (x : PySem.Scope) → x = (top 2).2.2 → PySem.Scope) ?x ?h
  case f => exact fun x _ => x
  case h => conv => rhs; whnf
noncomputable def F28a : PySem.Arguments := by
  refine (?f : (x : PySem.Arguments) → x = (top 2).1 → PySem.Arguments) ?x ?h
  case f => exact fun x _ => x
  case h => conv => rhs; whnf
noncomputable def F28b : List Stmt := by
  refine (?f : (x : List Stmt) → x = (top 2).2.1 → List Stmt) ?x ?h
  case f => exact fun x _ => x
  case h => conv => rhs; whnf
noncomputable def F28s : PySem.Scope := by
  refine (?f : (x : PySem.Scope) → x = (top 2).2.2 → PySem.Scope) ?x ?h
  case f => exact fun x _ => x
  case h => conv => rhs; whnf
noncomputable def F33a : PySem.Arguments := by
  refine (?f : (x : PySem.Arguments) → x = (top 3).1 → PySem.Arguments) ?x ?h
  case f => exact fun x _ => x
  case h => conv => rhs; whnf
noncomputable def F33b : List Stmt := by
  refine (?f : (x : List Stmt) → x = (top 3).2.1 → List Stmt) ?x ?h
  case f => exact fun x _ => x
  case h => conv => rhs; whnf
noncomputable def F33s : PySem.Scope := by
  refine (?f : (x : PySem.Scope) → x = (top 3).2.2 → PySem.Scope) ?x ?h
  case f => exact fun x _ => x
  case h => conv => rhs; whnf
noncomputable def F35a : PySem.Arguments := by
  refine (?f : (x : PySem.Arguments) → x = (top 3).1 → PySem.Arguments) ?x ?h
  case f => exact fun x _ => x
  case h => conv => rhs; whnf
noncomputable def F35b : List Stmt := by
  refine (?f : (x : List Stmt) → x = (top 3).2.1 → List Stmt) ?x ?h
  case f => exact fun x _ => x
  case h => conv => rhs; whnf
noncomputable def F35s : PySem.Scope := by
  refine (?f : (x : PySem.Scope) → x = (top 3).2.2 → PySem.Scope) ?x ?h
  case f => exact fun x _ => x
  case h => conv => rhs; whnf
noncomputable def F40a : PySem.Arguments := by
  refine (?f : (x : PySem.Arguments) → x = (top 4).1 → PySem.Arguments) ?x ?h
  case f => exact fun x _ => x
  case h => conv => rhs; whnf
noncomputable def F40b : List Stmt := by
  refine (?f : (x : List Stmt) → x = (top 4).2.1 → List Stmt) ?x ?h
  case f => exact fun x _ => x
  case h => conv => rhs; whnf
noncomputable def F40s : PySem.Scope := by
  refine (?f : (x : PySem.Scope) → x = (top 4).2.2 → PySem.Scope) ?x ?h
  case f => exact fun x _ => x
  case h => conv => rhs; whnf
noncomputable def F42a : PySem.Arguments := by
  refine (?f : (x : PySem.Arguments) → x = (top 4).1 → PySem.Arguments) ?x ?h
  case f => exact fun x _ => x
  case h => conv => rhs; whnf
noncomputable def F42b : List Stmt := by
  refine (?f : (x : List Stmt) → x = (top 4).2.1 → List Stmt) ?x ?h
  case f => exact fun x _ => x
  case h => conv => rhs; whnf
noncomputable def F42s : PySem.Scope := by
  refine (?f : (x : PySem.Scope) → x = (top 4).2.2 → PySem.Scope) ?x ?h
  case f => exact fun x _ => x
  case h => conv => rhs; whnf
noncomputable def F47a : PySem.Arguments := by
  refine (?f : (x : PySem.Arguments) → x = (top 5).1 → PySem.Arguments) ?x ?h
  case f => exact fun x _ => x
  case h => conv => rhs; whnf
noncomputable def F47b : List Stmt := by
  refine (?f : (x : List Stmt) → x = (top 5).2.1 → List Stmt) ?x ?h
  case f => exact fun x _ => x
  case h => conv => rhs; whnf
noncomputable def F47s : PySem.Scope := by
  refine (?f : (x : PySem.Scope) → x = (top 5).2.2 → PySem.Scope) ?x ?h
  case f => exact fun x _ => x
  case h => conv => rhs; whnf
noncomputable def F49a : PySem.Arguments := by
  refine (?f : (x : PySem.Arguments) → x = (top 5).1 → PySem.Arguments) ?x ?h
  case f => exact fun x _ => x
  case h => conv => rhs; whnf
noncomputable def F49b : List Stmt := by
  refine (?f : (x : List Stmt) → x = (top 5).2.1 → List Stmt) ?x ?h
  case f => exact fun x _ => x
  case h => conv => rhs; whnf
noncomputable def F49s : PySem.Scope := by
  refine (?f : (x : PySem.Scope) → x = (top 5).2.2 → PySem.Scope) ?x ?h
  case f => exact fun x _ => x
  case h => conv => rhs; whnf
noncomputable def F64a : PySem.Arguments := by
  refine (?f : (x : PySem.Arguments) → x = (meth 7 0).1 → PySem.Arguments) ?x ?h
  case f => exact fun x _ => x
  case h => conv => rhs; whnf
noncomputable def F64b : List Stmt := by
  refine (?f : (x : List Stmt) → x = (meth 7 0).2.1 → List Stmt) ?x ?h
  case f => exact fun x _ => x
  case h => conv => rhs; whnf
noncomputable def F64s : PySem.Scope := by
  refine (?f : (x : PySem.Scope) → x = (meth 7 0).2.2 → PySem.Scope) ?x ?h
  case f => exact fun x _ => x
  case h => conv => rhs; whnf
noncomputable def F66a : PySem.Arguments := by
  refine (?f : (x : PySem.Arguments) → x = (meth 7 0).1 → PySem.Arguments) ?x ?h
  case f => exact fun x _ => x
  case h => conv => rhs; whnf
noncomputable def F66b : List Stmt := by
  refine (?f : (x : List Stmt) → x = (meth 7 0).2.1 → List Stmt) ?x ?h
  case f => exact fun x _ => x
  case h => conv => rhs; whnf
noncomputable def F66s : PySem.Scope := by
  refine (?f : (x : PySem.Scope) → x = (meth 7 0).2.2 → PySem.Scope) ?x ?h
  case f => exact fun x _ => x
  case h => conv => rhs; whnf
noncomputable def F98a : PySem.Arguments := by
  refine (?f : (x : PySem.Arguments) → x = (meth 9 0).1 → PySem.Arguments) ?x ?h
  case f => exact fun x _ => x
  case h => conv => rhs; whnf
noncomputable def F98b : List Stmt := by
  refine (?f : (x : List Stmt) → x = (meth 9 0).2.1 → List Stmt) ?x ?h
  case f => exact fun x _ => x
  case h => conv => rhs; whnf
noncomputable def F98s : PySem.Scope := by
  refine (?f : (x : PySem.Scope) → x = (meth 9 0).2.2 → PySem.Scope) ?x ?h
  case f => exact fun x _ => x
  case h => conv => rhs; whnf
noncomputable def F100a : PySem.Arguments := by
  refine (?f : (x : PySem.Arguments) → x = (meth 9 0).1 → PySem.Arguments) ?x ?h
  case f => exact fun x _ => x
  case h => conv => rhs; whnf
noncomputable def F100b : List Stmt := by
  refine (?f : (x : List Stmt) → x = (meth 9 0).2.1 → List Stmt) ?x ?h
  case f => exact fun x _ => x
  case h => conv => rhs; whnf
noncomputable def F100s : PySem.Scope := by
  refine (?f : (x : PySem.Scope) → x = (meth 9 0).2.2 → PySem.Scope) ?x ?h
  case f => exact fun x _ => x
  case h => conv => rhs; whnf
noncomputable def F119a : PySem.Arguments := by
  refine (?f : (x : PySem.Arguments) → x = (meth 10 0).1 → PySem.Arguments) ?x ?h
  case f => exact fun x _ => x
  case h => conv => rhs; whnf
noncomputable def F119b : List Stmt := by
  refine (?f : (x : List Stmt) → x = (meth 10 0).2.1 → List Stmt) ?x ?h
  case f => exact fun x _ => x
  case h => conv => rhs; whnf
noncomputable def F119s : PySem.Scope := by
  refine (?f : (x : PySem.Scope) → x = (meth 10 0).2.2 → PySem.Scope) ?x ?h
  case f => exact fun x _ => x
  case h => conv => rhs; whnf
noncomputable def F121a : PySem.Arguments := by
  refine (?f : (x : PySem.Arguments) → x = (meth 10 0).1 → PySem.Arguments) ?x ?h
  case f => exact fun x _ => x
  case h => conv => rhs; whnf
noncomputable def F121b : List Stmt := by
  refine (?f : (x : List Stmt) → x = (meth 10 0).2.1 → List Stmt) ?x ?h
  case f => exact fun x _ => x
  case h => conv => rhs; whnf
noncomputable def F121s : PySem.Scope := by
  refine (?f : (x : PySem.Scope) → x = (meth 10 0).2.2 → PySem.Scope) ?x ?h
  case f => exact fun x _ => x
  case h => conv => rhs; whnf
noncomputable def F133a : PySem.Arguments := by
  refine (?f : (x : PySem.Arguments) → x = (top 11).1 → PySem.Arguments) ?x ?h
  case f => exact fun x _ => x
  case h => conv => rhs; whnf
noncomputable def F133b : List Stmt := by
  refine (?f : (x : List Stmt) → x = (top 11).2.1 → List Stmt) ?x ?h
  case f => exact fun x _ => x
  case h => conv => rhs; whnf
noncomputable def F133s : PySem.Scope := by
  refine (?f : (x : PySem.Scope) → x = (top 11).2.2 → PySem.Scope) ?x ?h
  case f => exact fun x _ => x
  case h => conv => rhs; whnf
noncomputable def F135a : PySem.Arguments := by
  refine (?f : (x : PySem.Arguments) → x = (top 11).1 → PySem.Arguments) ?x ?h
  case f => exact fun x _ => x
  case h => conv => rhs; whnf
noncomputable def F135b : List Stmt := by
  refine (?f : (x : List Stmt) → x = (top 11).2.1 → List Stmt) ?x ?h
  case f => exact fun x _ => x
  case h => conv => rhs; whnf
noncomputable def F135s : PySem.Scope := by
  refine (?f : (x : PySem.Scope) → x = (top 11).2.2 → PySem.Scope) ?x ?h
  case f => exact fun x _ => x
  case h => conv => rhs; whnf
noncomputable def F140a : PySem.Arguments := by
  refine (?f : (x : PySem.Arguments) → x = (top 12).1 → PySem.Arguments) ?x ?h
  case f => exact fun x _ => x
  case h => conv => rhs; whnf
noncomputable def F140b : List Stmt := by
  refine (?f : (x : List Stmt) → x = (top 12).2.1 → List Stmt) ?x ?h
  case f => exact fun x _ => x
  case h => conv => rhs; whnf
noncomputable def F140s : PySem.Scope := by
  refine (?f : (x : PySem.Scope) → x = (top 12).2.2 → PySem.Scope) ?x ?h
  case f => exact fun x _ => x
  case h => conv => rhs; whnf
noncomputable def F142a : PySem.Arguments := by
  refine (?f : (x : PySem.Arguments) → x = (top 12).1 → PySem.Arguments) ?x ?h
  case f => exact fun x _ => x
  case h => conv => rhs; whnf
noncomputable def F142b : List Stmt := by
  refine (?f : (x : List Stmt) → x = (top 12).2.1 → List Stmt) ?x ?h
  case f => exact fun x _ => x
  case h => conv => rhs; whnf
noncomputable def F142s : PySem.Scope := by
  refine (?f : (x : PySem.Scope) → x = (top 12).2.2 → PySem.Scope) ?x ?h
  case f => exact fun x _ => x
  case h => conv => rhs; whnf
noncomputable def F147a : PySem.Arguments := by
  refine (?f : (x : PySem.Arguments) → x = (top 13).1 → PySem.Arguments) ?x ?h
  case f => exact fun x _ => x
  case h => conv => rhs; whnf
noncomputable def F147b : List Stmt := by
  refine (?f : (x : List Stmt) → x = (top 13).2.1 → List Stmt) ?x ?h
  case f => exact fun x _ => x
  case h => conv => rhs; whnf
noncomputable def F147s : PySem.Scope := by
  refine (?f : (x : PySem.Scope) → x = (top 13).2.2 → PySem.Scope) ?x ?h
  case f => exact fun x _ => x
  case h => conv => rhs; whnf
noncomputable def F149a : PySem.Arguments := by
  refine (?f : (x : PySem.Arguments) → x = (top 13).1 → PySem.Arguments) ?x ?h
  case f => exact fun x _ => x
  case h => conv => rhs; whnf
noncomputable def F149b : List Stmt := by
  refine (?f : (x : List Stmt) → x = (top 13).2.1 → List Stmt) ?x ?h
  case f => exact fun x _ => x
  case h => conv => rhs; whnf
noncomputable def F149s : PySem.Scope := by
  refine (?f : (x : PySem.Scope) → x = (top 13).2.2 → PySem.Scope) ?x ?h
  case f => exact fun x _ => x
  case h => conv => rhs; whnf
noncomputable def F154a : PySem.Arguments := by
  refine (?f : (x : PySem.Arguments) → x = (top 14).1 → PySem.Arguments) ?x ?h
  case f => exact fun x _ => x
  case h => conv => rhs; whnf
noncomputable def F154b : List Stmt := by
  refine (?f : (x : List Stmt) → x = (top 14).2.1 → List Stmt) ?x ?h
  case f => exact fun x _ => x
  case h => conv => rhs; whnf
noncomputable def F154s : PySem.Scope := by
  refine (?f : (x : PySem.Scope) → x = (top 14).2.2 → PySem.Scope) ?x ?h
  case f => exact fun x _ => x
  case h => conv => rhs; whnf
noncomputable def F156a : PySem.Arguments := by
  refine (?f : (x : PySem.Arguments) → x = (top 14).1 → PySem.Arguments) ?x ?h
  case f => exact fun x _ => x
  case h => conv => rhs; whnf
noncomputable def F156b : List Stmt := by
  refine (?f : (x : List Stmt) → x = (top 14).2.1 → List Stmt) ?x ?h
  case f => exact fun x _ => x
  case h => conv => rhs; whnf
noncomputable def F156s : PySem.Scope := by
  refine (?f : (x : PySem.Scope) → x = (top 14).2.2 → PySem.Scope) ?x ?h
  case f => exact fun x _ => x
  case h => conv => rhs; whnf
noncomputable def F161a : PySem.Arguments := by
  refine (?f : (x : PySem.Arguments) → x = (top 15).1 → PySem.Arguments) ?x ?h
  case f => exact fun x _ => x
  case h => conv => rhs; whnf
noncomputable def F161b : List Stmt := by
  refine (?f : (x : List Stmt) → x = (top 15).2.1 → List Stmt) ?x ?h
  case f => exact fun x _ => x
  case h => conv => rhs; whnf
noncomputable def F161s : PySem.Scope := by
  refine (?f : (x : PySem.Scope) → x = (top 15).2.2 → PySem.Scope) ?x ?h
  case f => exact fun x _ => x
  case h => conv => rhs; whnf
noncomputable def F163a : PySem.Arguments := by
  refine (?f : (x : PySem.Arguments) → x = (top 15).1 → PySem.Arguments) ?x ?h
  case f => exact fun x _ => x
  case h => conv => rhs; whnf
noncomputable def F163b : List Stmt := by
  refine (?f : (x : List Stmt) → x = (top 15).2.1 → List Stmt) ?x ?h
  case f => exact fun x _ => x
  case h => conv => rhs; whnf
noncomputable def F163s : PySem.Scope := by
  refine (?f : (x : PySem.Scope) → x = (top 15).2.2 → PySem.Scope) ?x ?h
  case f => exact fun x _ => x
  case h => conv => rhs; whnf
noncomputable def F168a : PySem.Arguments := by
  refine (?f : (x : PySem.Arguments) → x = (top 16).1 → PySem.Arguments) ?x ?h
  case f => exact fun x _ => x
  case h => conv => rhs; whnf
noncomputable def F168b : List Stmt := by
  refine (?f : (x : List Stmt) → x = (top 16).2.1 → List Stmt) ?x ?h
  case f => exact fun x _ => x
  case h => conv => rhs; whnf
noncomputable def F168s : PySem.Scope := by
  refine (?f : (x : PySem.Scope) → x = (top 16).2.2 → PySem.Scope) ?x ?h
  case f => exact fun x _ => x
  case h => conv => rhs; whnf
noncomputable def F170a : PySem.Arguments := by
  refine (?f : (x : PySem.Arguments) → x = (top 16).1 → PySem.Arguments) ?x ?h
  case f => exact fun x _ => x
  case h => conv => rhs; whnf
noncomputable def F170b : List Stmt := by
  refine (?f : (x : List Stmt) → x = (top 16).2.1 → List Stmt) ?x ?h
  case f => exact fun x _ => x
  case h => conv => rhs; whnf
noncomputable def F170s : PySem.Scope := by
  refine (?f : (x : PySem.Scope) → x = (top 16).2.2 → PySem.Scope) ?x ?h
  case f => exact fun x _ => x
  case h => conv => rhs; whnf
noncomputable def F175a : PySem.Arguments := by
  refine (?f : (x : PySem.Arguments) → x = (top 17).1 → PySem.Arguments) ?x ?h
  case f => exact fun x _ => x
  case h => conv => rhs; whnf
noncomputable def F175b : List Stmt := by
  refine (?f : (x : List Stmt) → x = (top 17).2.1 → List Stmt) ?x ?h
  case f => exact fun x _ => x
  case h => conv => rhs; whnf
noncomputable def F175s : PySem.Scope := by
  refine (?f : (x : PySem.Scope) → x = (top 17).2.2 → PySem.Scope) ?x ?h
  case f => exact fun x _ => x
  case h => conv => rhs; whnf
noncomputable def F177a : PySem.Arguments := by
  refine (?f : (x : PySem.Arguments) → x = (top 17).1 → PySem.Arguments) ?x ?h
  case f => exact fun x _ => x
  case h => conv => rhs; whnf
noncomputable def F177b : List Stmt := by
  refine (?f : (x : List Stmt) → x = (top 17).2.1 → List Stmt) ?x ?h
  case f => exact fun x _ => x
  case h => conv => rhs; whnf
noncomputable def F177s : PySem.Scope := by
  refine (?f : (x : PySem.Scope) → x = (top 17).2.2 → PySem.Scope) ?x ?h
  case f => exact fun x _ => x
  case h => conv => rhs; whnf
noncomputable def F189a : PySem.Arguments := by
  refine (?f : (x : PySem.Arguments) → x = (meth 19 0).1 → PySem.Arguments) ?x ?h
  case f => exact fun x _ => x
  case h => conv => rhs; whnf
noncomputable def F189b : List Stmt := by
  refine (?f : (x : List Stmt) → x = (meth 19 0).2.1 → List Stmt) ?x ?h
  case f => exact fun x _ => x
  case h => conv => rhs; whnf
noncomputable def F189s : PySem.Scope := by
  refine (?f : (x : PySem.Scope) → x = (meth 19 0).2.2 → PySem.Scope) ?x ?h
  case f => exact fun x _ => x
  case h => conv => rhs; whnf
noncomputable def F191a : PySem.Arguments := by
  refine (?f : (x : PySem.Arguments) → x = (meth 19 0).1 → PySem.Arguments) ?x ?h
  case f => exact fun x _ => x
  case h => conv => rhs; whnf
noncomputable def F191b : List Stmt := by
  refine (?f : (x : List Stmt) → x = (meth 19 0).2.1 → List Stmt) ?x ?h
  case f => exact fun x _ => x
  case h => conv => rhs; whnf
noncomputable def F191s : PySem.Scope := by
  refine (?f : (x : PySem.Scope) → x = (meth 19 0).2.2 → PySem.Scope) ?x ?h
  case f => exact fun x _ => x
  case h => conv => rhs; whnf
noncomputable def F196a : PySem.Arguments := by
  refine (?f : (x : PySem.Arguments) → x = (meth 19 1).1 → PySem.Arguments) ?x ?h
  case f => exact fun x _ => x
  case h => conv => rhs; whnf
noncomputable def F196b : List Stmt := by
  refine (?f : (x : List Stmt) → x = (meth 19 1).2.1 → List Stmt) ?x ?h
  case f => exact fun x _ => x
  case h => conv => rhs; whnf
noncomputable def F196s : PySem.Scope := by
  refine (?f : (x : PySem.Scope) → x = (meth 19 1).2.2 → PySem.Scope) ?x ?h
  case f => exact fun x _ => x
  case h => conv => rhs; whnf
noncomputable def F198a : PySem.Arguments := by
  refine (?f : (x : PySem.Arguments) → x = (meth 19 1).1 → PySem.Arguments) ?x ?h
  case f => exact fun x _ => x
  case h => conv => rhs; whnf
noncomputable def F198b : List Stmt := by
  refine (?f : (x : List Stmt) → x = (meth 19 1).2.1 → List Stmt) ?x ?h
  case f => exact fun x _ => x
  case h => conv => rhs; whnf
noncomputable def F198s : PySem.Scope := by
  refine (?f : (x : PySem.Scope) → x = (meth 19 1).2.2 → PySem.Scope) ?x ?h
  case f => exact fun x _ => x
  case h => conv => rhs; whnf
noncomputable def F203a : PySem.Arguments := by
  refine (?f : (x : PySem.Arguments) → x = (meth 19 2).1 → PySem.Arguments) ?x ?h
  case f => exact fun x _ => x
  case h => conv => rhs; whnf
noncomputable def F203b : List Stmt := by
  refine (?f : (x : List Stmt) → x = (meth 19 2).2.1 → List Stmt) ?x ?h
  case f => exact fun x _ => x
  case h => conv => rhs; whnf
noncomputable def F203s : PySem.Scope := by
  refine (?f : (x : PySem.Scope) → x = (meth 19 2).2.2 → PySem.Scope) ?x ?h
  case f => exact fun x _ => x
  case h => conv => rhs; whnf
noncomputable def F205a : PySem.Arguments := by
  refine (?f : (x : PySem.Arguments) → x = (meth 19 2).1 → PySem.Arguments) ?x ?h
  case f => exact fun x _ => x
  case h => conv => rhs; whnf
noncomputable def F205b : List Stmt := by
  refine (?f : (x : List Stmt) → x = (meth 19 2).2.1 → List Stmt) ?x ?h
  case f => exact fun x _ => x
  case h => conv => rhs; whnf
noncomputable def F205s : PySem.Scope := by
  refine (?f : (x : PySem.Scope) → x = (meth 19 2).2.2 → PySem.Scope) ?x ?h
  case f => exact fun x _ => x
  case h => conv => rhs; whnf
noncomputable def F210a : PySem.Arguments := by
  refine (?f : (x : PySem.Arguments) → x = (meth 19 3).1 → PySem.Arguments) ?x ?h
  case f => exact fun x _ => x
  case h => conv => rhs; whnf
noncomputable def F210b : List Stmt := by
  refine (?f : (x : List Stmt) → x = (meth 19 3).2.1 → List Stmt) ?x ?h
  case f => exact fun x _ => x
  case h => conv => rhs; whnf
noncomputable def F210s : PySem.Scope := by
  refine (?f : (x : PySem.Scope) → x = (meth 19 3).2.2 → PySem.Scope) ?x ?h
  case f => exact fun x _ => x
  case h => conv => rhs; whnf
noncomputable def F212a : PySem.Arguments := by
  refine (?f : (x : PySem.Arguments) → x = (meth 19 3).1 → PySem.Arguments) ?x ?h
  case f => exact fun x _ => x
  case h => conv => rhs; whnf
noncomputable def F212b : List Stmt := by
  refine (?f : (x : List Stmt) → x = (meth 19 3).2.1 → List Stmt) ?x ?h
  case f => exact fun x _ => x
  case h => conv => rhs; whnf
noncomputable def F212s : PySem.Scope := by
  refine (?f : (x : PySem.Scope) → x = (meth 19 3).2.2 → PySem.Scope) ?x ?h
  case f => exact fun x _ => x
  case h => conv => rhs; whnf
noncomputable def F222a : PySem.Arguments := by
  refine (?f : (x : PySem.Arguments) → x = (top 21).1 → PySem.Arguments) ?x ?h
  case f => exact fun x _ => x
  case h => conv => rhs; whnf
noncomputable def F222b : List Stmt := by
  refine (?f : (x : List Stmt) → x = (top 21).2.1 → List Stmt) ?x ?h
  case f => exact fun x _ => x
  case h => conv => rhs; whnf
noncomputable def F222s : PySem.Scope := by
  refine (?f : (x : PySem.Scope) → x = (top 21).2.2 → PySem.Scope) ?x ?h
  case f => exact fun x _ => x
  case h => conv => rhs; whnf
noncomputable def F224a : PySem.Arguments := by
  refine (?f : (x : PySem.Arguments) → x = (top 21).1 → PySem.Arguments) ?x ?h
  case f => exact fun x _ => x
  case h => conv => rhs; whnf
noncomputable def F224b : List Stmt := by
  refine (?f : (x : List Stmt) → x = (top 21).2.1 → List Stmt) ?x ?h
  case f => exact fun x _ => x
  case h => conv => rhs; whnf
noncomputable def F224s : PySem.Scope := by
  refine (?f : (x : PySem.Scope) → x = (top 21).2.2 → PySem.Scope) ?x ?h
  case f => exact fun x _ => x
  case h => conv => rhs; whnf
noncomputable def F229a : PySem.Arguments := by
  refine (?f : (x : PySem.Arguments) → x = (top 22).1 → PySem.Arguments) ?x ?h
  case f => exact fun x _ => x
  case h => conv => rhs; whnf
noncomputable def F229b : List Stmt := by
  refine (?f : (x : List Stmt) → x = (top 22).2.1 → List Stmt) ?x ?h
  case f => exact fun x _ => x
  case h => conv => rhs; whnf
noncomputable def F229s : PySem.Scope := by
  refine (?f : (x : PySem.Scope) → x = (top 22).2.2 → PySem.Scope) ?x ?h
  case f => exact fun x _ => x
  case h => conv => rhs; whnf
noncomputable def F231a : PySem.Arguments := by
  refine (?f : (x : PySem.Arguments) → x = (top 22).1 → PySem.Arguments) ?x ?h
  case f => exact fun x _ => x
  case h => conv => rhs; whnf
noncomputable def F231b : List Stmt := by
  refine (?f : (x : List Stmt) → x = (top 22).2.1 → List Stmt) ?x ?h
  case f => exact fun x _ => x
  case h => conv => rhs; whnf
noncomputable def F231s : PySem.Scope := by
  refine (?f : (x : PySem.Scope) → x = (top 22).2.2 → PySem.Scope) ?x ?h
  case f => exact fun x _ => x
  case h => conv => rhs; whnf
noncomputable def F236a : PySem.Arguments := by
  refine (?f : (x : PySem.Arguments) → x = (top 23).1 → PySem.Arguments) ?x ?h
  case f => exact fun x _ => x
  case h => conv => rhs; whnf
noncomputable def F236b : List Stmt := by
  refine (?f : (x : List Stmt) → x = (top 23).2.1 → List Stmt) ?x ?h
  case f => exact fun x _ => x
  case h => conv => rhs; whnf
noncomputable def F236s : PySem.Scope := by
  refine (?f : (x : PySem.Scope) → x = (top 23).2.2 → PySem.Scope) ?x ?h
  case f => exact fun x _ => x
  case h => conv => rhs; whnf
noncomputable def F238a : PySem.Arguments := by
  refine (?f : (x : PySem.Arguments) → x = (top 23).1 → PySem.Arguments) ?x ?h
  case f => exact fun x _ => x
  case h => conv => rhs; whnf
noncomputable def F238b : List Stmt := by
  refine (?f : (x : List Stmt) → x = (top 23).2.1 → List Stmt) ?x ?h
  case f => exact fun x _ => x
  case h => conv => rhs; whnf
noncomputable def F238s : PySem.Scope := by
  refine (?f : (x : PySem.Scope) → x = (top 23).2.2 → PySem.Scope) ?x ?h
  case f => exact fun x _ => x
  case h => conv => rhs; whnf
noncomputable def F246a : PySem.Arguments := by
  refine (?f : (x : PySem.Arguments) → x = (top 28).1 → PySem.Arguments) ?x ?h
  case f => exact fun x _ => x
  case h => conv => rhs; whnf
noncomputable def F246b : List Stmt := by
  refine (?f : (x : List Stmt) → x = (top 28).2.1 → List Stmt) ?x ?h
  case f => exact fun x _ => x
  case h => conv => rhs; whnf
noncomputable def F246s : PySem.Scope := by
  refine (?f : (x : PySem.Scope) → x = (top 28).2.2 → PySem.Scope) ?x ?h
  case f => exact fun x _ => x
  case h => conv => rhs; whnf
noncomputable def F248a : PySem.Arguments := by
  refine (?f : (x : PySem.Arguments) → x = (top 28).1 → PySem.Arguments) ?x ?h
  case f => exact fun x _ => x
  case h => conv => rhs; whnf
noncomputable def F248b : List Stmt := by
  refine (?f : (x : List Stmt) → x = (top 28).2.1 → List Stmt) ?x ?h
  case f => exact fun x _ => x
  case h => conv => rhs; whnf
noncomputable def F248s : PySem.Scope := by
  refine (?f : (x : PySem.Scope) → x = (top 28).2.2 → PySem.Scope) ?x ?h
  case f => exact fun x _ => x
  case h => conv => rhs; whnf
noncomputable def F253a : PySem.Arguments := by
  refine (?f : (x : PySem.Arguments) → x = (top 29).1 → PySem.Arguments) ?x ?h
  case f => exact fun x _ => x
  case h => conv => rhs; whnf
noncomputable def F253b : List Stmt := by
  refine (?f : (x : List Stmt) → x = (top 29).2.1 → List Stmt) ?x ?h
  case f => exact fun x _ => x
  case h => conv => rhs; whnf
noncomputable def F253s : PySem.Scope := by
  refine (?f : (x : PySem.Scope) → x = (top 29).2.2 → PySem.Scope) ?x ?h
  case f => exact fun x _ => x
  case h => conv => rhs; whnf
noncomputable def F255a : PySem.Arguments := by
  refine (?f : (x : PySem.Arguments) → x = (top 29).1 → PySem.Arguments) ?x ?h
  case f => exact fun x _ => x
  case h => conv => rhs; whnf
noncomputable def F255b : List Stmt := by
  refine (?f : (x : List Stmt) → x = (top 29).2.1 → List Stmt) ?x ?h
  case f => exact fun x _ => x
  case h => conv => rhs; whnf
noncomputable def F255s : PySem.Scope := by
  refine (?f : (x : PySem.Scope) → x = (top 29).2.2 → PySem.Scope) ?x ?h
  case f => exact fun x _ => x
  case h => conv => rhs; whnf
noncomputable def F260a : PySem.Arguments := by
  refine (?f : (x : PySem.Arguments) → x = (top 30).1 → PySem.Arguments) ?x ?h
  case f => exact fun x _ => x
  case h => conv => rhs; whnf
noncomputable def F260b : List Stmt := by
  refine (?f : (x : List Stmt) → x = (top 30).2.1 → List Stmt) ?x ?h
  case f => exact fun x _ => x
  case h => conv => rhs; whnf
noncomputable def F260s : PySem.Scope := by
  refine (?f : (x : PySem.Scope) → x = (top 30).2.2 → PySem.Scope) ?x ?h
  case f => exact fun x _ => x
  case h => conv => rhs; whnf
noncomputable def F262a : PySem.Arguments := by
  refine (?f : (x : PySem.Arguments) → x = (top 30).1 → PySem.Arguments) ?x ?h
  case f => exact fun x _ => x
  case h => conv => rhs; whnf
noncomputable def F262b : List Stmt := by
  refine (?f : (x : List Stmt) → x = (top 30).2.1 → List Stmt) ?x ?h
  case f => exact fun x _ => x
  case h => conv => rhs; whnf
noncomputable def F262s : PySem.Scope := by
  refine (?f : (x : PySem.Scope) → x = (top 30).2.2 → PySem.Scope) ?x ?h
  case f => exact fun x _ => x
  case h => conv => rhs; whnf
noncomputable def F267a : PySem.Arguments := by
  refine (?f : (x : PySem.Arguments) → x = (top 31).1 → PySem.Arguments) ?x ?h
  case f => exact fun x _ => x
  case h => conv => rhs; whnf
noncomputable def F267b : List Stmt := by
  refine (?f : (x : List Stmt) → x = (top 31).2.1 → List Stmt) ?x ?h
  case f => exact fun x _ => x
  case h => conv => rhs; whnf
noncomputable def F267s : PySem.Scope := by
  refine (?f : (x : PySem.Scope) → x = (top 31).2.2 → PySem.Scope) ?x ?h
  case f => exact fun x _ => x
  case h => conv => rhs; whnf
noncomputable def F269a : PySem.Arguments := by
  refine (?f : (x : PySem.Arguments) → x = (top 31).1 → PySem.Arguments) ?x ?h
  case f => exact fun x _ => x
  case h => conv => rhs; whnf
noncomputable def F269b : List Stmt := by
  refine (?f : (x : List Stmt) → x = (top 31).2.1 → List Stmt) ?x ?h
  case f => exact fun x _ => x
  case h => conv => rhs; whnf
noncomputable def F269s : PySem.Scope := by
  refine (?f : (x : PySem.Scope) → x = (top 31).2.2 → PySem.Scope) ?x ?h
  case f => exact fun x _ => x
  case h => conv => rhs; whnf
noncomputable def F274a : PySem.Arguments := by
  refine (?f : (x : PySem.Arguments) → x = (top 32).1 → PySem.Arguments) ?x ?h
  case f => exact fun x _ => x
  case h => conv => rhs; whnf
noncomputable def F274b : List Stmt := by
  refine (?f : (x : List Stmt) → x = (top 32).2.1 → List Stmt) ?x ?h
  case f => exact fun x _ => x
  case h => conv => rhs; whnf
noncomputable def F274s : PySem.Scope := by
  refine (?f : (x : PySem.Scope) → x = (top 32).2.2 → PySem.Scope) ?x ?h
  case f => exact fun x _ => x
  case h => conv => rhs; whnf
noncomputable def F276a : PySem.Arguments := by
  refine (?f : (x : PySem.Arguments) → x = (top 32).1 → PySem.Arguments) ?x ?h
  case f => exact fun x _ => x
  case h => conv => rhs; whnf
noncomputable def F276b : List Stmt := by
  refine (?f : (x : List Stmt) → x = (top 32).2.1 → List Stmt) ?x ?h
  case f => exact fun x _ => x
  case h => conv => rhs; whnf
noncomputable def F276s : PySem.Scope := by
  refine (?f : (x : PySem.Scope) → x = (top 32).2.2 → PySem.Scope) ?x ?h
  case f => exact fun x _ => x
  case h => conv => rhs; whnf
noncomputable def F281a : PySem.Arguments := by
  refine (?f : (x : PySem.Arguments) → x = (top 36).1 → PySem.Arguments) ?x ?h
  case f => exact fun x _ => x
  case h => conv => rhs; whnf
noncomputable def F281b : List Stmt := by
  refine (?f : (x : List Stmt) → x = (top 36).2.1 → List Stmt) ?x ?h
  case f => exact fun x _ => x
  case h => conv => rhs; whnf
noncomputable def F281s : PySem.Scope := by
  refine (?f : (x : PySem.Scope) → x = (top 36).2.2 → PySem.Scope) ?x ?h
  case f => exact fun x _ => x
  case h => conv => rhs; whnf
noncomputable def F283a : PySem.Arguments := by
  refine (?f : (x : PySem.Arguments) → x = (top 36).1 → PySem.Arguments) ?x ?h
  case f => exact fun x _ => x
  case h => conv => rhs; whnf
noncomputable def F283b : List Stmt := by
  refine (?f : (x : List Stmt) → x = (top 36).2.1 → List Stmt) ?x ?h
  case f => exact fun x _ => x
  case h => conv => rhs; whnf
noncomputable def F283s : PySem.Scope := by
  refine (?f : (x : PySem.Scope) → x = (top 36).2.2 → PySem.Scope) ?x ?h
  case f => exact fun x _ => x
  case h => conv => rhs; whnf
noncomputable def F288a : PySem.Arguments := by
  refine (?f : (x : PySem.Arguments) → x = (top 37).1 → PySem.Arguments) ?x ?h
  case f => exact fun x _ => x
  case h => conv => rhs; whnf
noncomputable def F288b : List Stmt := by
  refine (?f : (x : List Stmt) → x = (top 37).2.1 → List Stmt) ?x ?h
  case f => exact fun x _ => x
  case h => conv => rhs; whnf
noncomputable def F288s : PySem.Scope := by
  refine (?f : (x : PySem.Scope) → x = (top 37).2.2 → PySem.Scope) ?x ?h
  case f => exact fun x _ => x
  case h => conv => rhs; whnf
noncomputable def F290a : PySem.Arguments := by
  refine (?f : (x : PySem.Arguments) → x = (top 37).1 → PySem.Arguments) ?x ?h
  case f => exact fun x _ => x
  case h => conv => rhs; whnf
noncomputable def F290b : List Stmt := by
  refine (?f : (x : List Stmt) → x = (top 37).2.1 → List Stmt) ?x ?h
  case f => exact fun x _ => x
  case h => conv => rhs; whnf
noncomputable def F290s : PySem.Scope := by
  refine (?f : (x : PySem.Scope) → x = (top 37).2.2 → PySem.Scope) ?x ?h
  case f => exact fun x _ => x
  case h => conv => rhs; whnf
noncomputable def F295a : PySem.Arguments := by
  refine (?f : (x : PySem.Arguments) → x = (top 38).1 → PySem.Arguments) ?x ?h
  case f => exact fun x _ => x
  case h => conv => rhs; whnf
noncomputable def F295b : List Stmt := by
  refine (?f : (x : List Stmt) → x = (top 38).2.1 → List Stmt) ?x ?h
  case f => exact fun x _ => x
  case h => conv => rhs; whnf
noncomputable def F295s : PySem.Scope := by
  refine (?f : (x : PySem.Scope) → x = (top 38).2.2 → PySem.Scope) ?x ?h
  case f => exact fun x _ => x
  case h => conv => rhs; whnf
noncomputable def F297a : PySem.Arguments := by
  refine (?f : (x : PySem.Arguments) → x = (top 38).1 → PySem.Arguments) ?x ?h
  case f => exact fun x _ => x
  case h => conv => rhs; whnf
noncomputable def F297b : List Stmt := by
  refine (?f : (x : List Stmt) → x = (top 38).2.1 → List Stmt) ?x ?h
  case f => exact fun x _ => x
  case h => conv => rhs; whnf
noncomputable def F297s : PySem.Scope := by
  refine (?f : (x : PySem.Scope) → x = (top 38).2.2 → PySem.Scope) ?x ?h
  case f => exact fun x _ => x
  case h => conv => rhs; whnf
noncomputable def F302a : PySem.Arguments := by
  refine (?f : (x : PySem.Arguments) → x = (top 39).1 → PySem.Arguments) ?x ?h
  case f => exact fun x _ => x
  case h => conv => rhs; whnf
noncomputable def F302b : List Stmt := by
  refine (?f : (x : List Stmt) → x = (top 39).2.1 → List Stmt) ?x ?h
  case f => exact fun x _ => x
  case h => conv => rhs; whnf
noncomputable def F302s : PySem.Scope := by
  refine (?f : (x : PySem.Scope) → x = (top 39).2.2 → PySem.Scope) ?x ?h
  case f => exact fun x _ => x
  case h => conv => rhs; whnf
noncomputable def F304a : PySem.Arguments := by
  refine (?f : (x : PySem.Arguments) → x = (top 39).1 → PySem.Arguments) ?x ?h
  case f => exact fun x _ => x
  case h => conv => rhs; whnf
noncomputable def F304b : List Stmt := by
  refine (?f : (x : List Stmt) → x = (top 39).2.1 → List Stmt) ?x ?h
  case f => exact fun x _ => x
  case h => conv => rhs; whnf
noncomputable def F304s : PySem.Scope := by
  refine (?f : (x : PySem.Scope) → x = (top 39).2.2 → PySem.Scope) ?x ?h
  case f => exact fun x _ => x
  case h => conv => rhs; whnf
noncomputable def F309a : PySem.Arguments := by
  refine (?f : (x : PySem.Arguments) → x = (top 40).1 → PySem.Arguments) ?x ?h
  case f => exact fun x _ => x
  case h => conv => rhs; whnf
noncomputable def F309b : List Stmt := by
  refine (?f : (x : List Stmt) → x = (top 40).2.1 → List Stmt) ?x ?h
  case f => exact fun x _ => x
  case h => conv => rhs; whnf
noncomputable def F309s : PySem.Scope := by
  refine (?f : (x : PySem.Scope) → x = (top 40).2.2 → PySem.Scope) ?x ?h
  case f => exact fun x _ => x
  case h => conv => rhs; whnf
noncomputable def F311a : PySem.Arguments := by
  refine (?f : (x : PySem.Arguments) → x = (top 40).1 → PySem.Arguments) ?x ?h
  case f => exact fun x _ => x
  case h => conv => rhs; whnf
noncomputable def F311b : List Stmt := by
  refine (?f : (x : List Stmt) → x = (top 40).2.1 → List Stmt) ?x ?h
  case f => exact fun x _ => x
  case h => conv => rhs; whnf
noncomputable def F311s : PySem.Scope := by
  refine (?f : (x : PySem.Scope) → x = (top 40).2.2 → PySem.Scope) ?x ?h
  case f => exact fun x _ => x
  case h => conv => rhs; whnf
noncomputable def F316a : PySem.Arguments := by
  refine (?f : (x : PySem.Arguments) → x = (top 41).1 → PySem.Arguments) ?x ?h
  case f => exact fun x _ => x
  case h => conv => rhs; whnf
noncomputable def F316b : List Stmt := by
  refine (?f : (x : List Stmt) → x = (top 41).2.1 → List Stmt) ?x ?h
  case f => exact fun x _ => x
  case h => conv => rhs; whnf
noncomputable def F316s : PySem.Scope := by
  refine (?f : (x : PySem.Scope) → x = (top 41).2.2 → PySem.Scope) ?x ?h
  case f => exact fun x _ => x
  case h => conv => rhs; whnf
noncomputable def F318a : PySem.Arguments := by
  refine (?f : (x : PySem.Arguments) → x = (top 41).1 → PySem.Arguments) ?x ?h
  case f => exact fun x _ => x
  case h => conv => rhs; whnf
noncomputable def F318b : List Stmt := by
  refine (?f : (x : List Stmt) → x = (top 41).2.1 → List Stmt) ?x ?h
  case f => exact fun x _ => x
  case h => conv => rhs; whnf
noncomputable def F318s : PySem.Scope := by
  refine (?f : (x : PySem.Scope) → x = (top 41).2.2 → PySem.Scope) ?x ?h
  case f => exact fun x _ => x
  case h => conv => rhs; whnf
noncomputable def F323a : PySem.Arguments := by
  refine (?f : (x : PySem.Arguments) → x = (top 42).1 → PySem.Arguments) ?x ?h
  case f => exact fun x _ => x
  case h => conv => rhs; whnf
noncomputable def F323b : List Stmt := by
  refine (?f : (x : List Stmt) → x = (top 42).2.1 → List Stmt) ?x ?h
  case f => exact fun x _ => x
  case h => conv => rhs; whnf
noncomputable def F323s : PySem.Scope := by
  refine (?f : (x : PySem.Scope) → x = (top 42).2.2 → PySem.Scope) ?x ?h
  case f => exact fun x _ => x
  case h => conv => rhs; whnf
noncomputable def F325a : PySem.Arguments := by
  refine (?f : (x : PySem.Arguments) → x = (top 42).1 → PySem.Arguments) ?x ?h
  case f => exact fun x _ => x
  case h => conv => rhs; whnf
noncomputable def F325b : List Stmt := by
  refine (?f : (x : List Stmt) → x = (top 42).2.1 → List Stmt) ?x ?h
  case f => exact fun x _ => x
  case h => conv => rhs; whnf
noncomputable def F325s : PySem.Scope := by
  refine (?f : (x : PySem.Scope) → x = (top 42).2.2 → PySem.Scope) ?x ?h
  case f => exact fun x _ => x
  case h => conv => rhs; whnf
noncomputable def F330a : PySem.Arguments := by
  refine (?f : (x : PySem.Arguments) → x = (top 43).1 → PySem.Arguments) ?x ?h
  case f => exact fun x _ => x
  case h => conv => rhs; whnf
noncomputable def F330b : List Stmt := by
  refine (?f : (x : List Stmt) → x = (top 43).2.1 → List Stmt) ?x ?h
  case f => exact fun x _ => x
  case h => conv => rhs; whnf
noncomputable def F330s : PySem.Scope := by
  refine (?f : (x : PySem.Scope) → x = (top 43).2.2 → PySem.Scope) ?x ?h
  case f => exact fun x _ => x
  case h => conv => rhs; whnf
noncomputable def F332a : PySem.Arguments := by
  refine (?f : (x : PySem.Arguments) → x = (top 43).1 → PySem.Arguments) ?x ?h
  case f => exact fun x _ => x
  case h => conv => rhs; whnf
noncomputable def F332b : List Stmt := by
  refine (?f : (x : List Stmt) → x = (top 43).2.1 → List Stmt) ?x ?h
  case f => exact fun x _ => x
  case h => conv => rhs; whnf
noncomputable def F332s : PySem.Scope := by
  refine (?f : (x : PySem.Scope) → x = (top 43).2.2 → PySem.Scope) ?x ?h
  case f => exact fun x _ => x
  case h => conv => rhs; whnf
noncomputable def F337a : PySem.Arguments := by
  refine (?f : (x : PySem.Arguments) → x = (top 44).1 → PySem.Arguments) ?x ?h
  case f => exact fun x _ => x
  case h => conv => rhs; whnf
noncomputable def F337b : List Stmt := by
  refine (?f : (x : List Stmt) → x = (top 44).2.1 → List Stmt) ?x ?h
  case f => exact fun x _ => x
  case h => conv => rhs; whnf
noncomputable def F337s : PySem.Scope := by
  refine (?f : (x : PySem.Scope) → x = (top 44).2.2 → PySem.Scope) ?x ?h
  case f => exact fun x _ => x
  case h => conv => rhs; whnf
noncomputable def F339a : PySem.Arguments := by
  refine (?f : (x : PySem.Arguments) → x = (top 44).1 → PySem.Arguments) ?x ?h
  case f => exact fun x _ => x
  case h => conv => rhs; whnf
noncomputable def F339b : List Stmt := by
  refine (?f : (x : List Stmt) → x = (top 44).2.1 → List Stmt) ?x ?h
  case f => exact fun x _ => x
  case h => conv => rhs; whnf
noncomputable def F339s : PySem.Scope := by
  refine (?f : (x : PySem.Scope) → x = (top 44).2.2 → PySem.Scope) ?x ?h
  case f => exact fun x _ => x
  case h => conv => rhs; whnf
noncomputable def F344a : PySem.Arguments := by
  refine (?f : (x : PySem.Arguments) → x = (top 45).1 → PySem.Arguments) ?x ?h
  case f => exact fun x _ => x
  case h => conv => rhs; whnf
noncomputable def F344b : List Stmt := by
  refine (?f : (x : List Stmt) → x = (top 45).2.1 → List Stmt) ?x ?h
  case f => exact fun x _ => x
  case h => conv => rhs; whnf
noncomputable def F344s : PySem.Scope := by
  refine (?f : (x : PySem.Scope) → x = (top 45).2.2 → PySem.Scope) ?x ?h
  case f => exact fun x _ => x
  case h => conv => rhs; whnf
noncomputable def F346a : PySem.Arguments := by
  refine (?f : (x : PySem.Arguments) → x = (top 45).1 → PySem.Arguments) ?x ?h
  case f => exact fun x _ => x
  case h => conv => rhs; whnf
noncomputable def F346b : List Stmt := by
  refine (?f : (x : List Stmt) → x = (top 45).2.1 → List Stmt) ?x ?h
  case f => exact fun x _ => x
  case h => conv => rhs; whnf
noncomputable def F346s : PySem.Scope := by
  refine (?f : (x : PySem.Scope) → x = (top 45).2.2 → PySem.Scope) ?x ?h
  case f => exact fun x _ => x
  case h => conv => rhs; whnf
noncomputable def F351a : PySem.Arguments := by
  refine (?f : (x : PySem.Arguments) → x = (top 46).1 → PySem.Arguments) ?x ?h
  case f => exact fun x _ => x
  case h => conv => rhs; whnf
noncomputable def F351b : List Stmt := by
  refine (?f : (x : List Stmt) → x = (top 46).2.1 → List Stmt) ?x ?h
  case f => exact fun x _ => x
  case h => conv => rhs; whnf
noncomputable def F351s : PySem.Scope := by
  refine (?f : (x : PySem.Scope) → x = (top 46).2.2 → PySem.Scope) ?x ?h
  case f => exact fun x _ => x
  case h => conv => rhs; whnf
noncomputable def F353a : PySem.Arguments := by
  refine (?f : (x : PySem.Arguments) → x = (top 46).1 → PySem.Arguments) ?x ?h
  case f => exact fun x _ => x
  case h => conv => rhs; whnf
noncomputable def F353b : List Stmt := by
  refine (?f : (x : List Stmt) → x = (top 46).2.1 → List Stmt) ?x ?h
  case f => exact fun x _ => x
  case h => conv => rhs; whnf
noncomputable def F353s : PySem.Scope := by
  refine (?f : (x : PySem.Scope) → x = (top 46).2.2 → PySem.Scope) ?x ?h
  case f => exact fun x _ => x
  case h => conv => rhs; whnf
noncomputable def F358a : PySem.Arguments := by
  refine (?f : (x : PySem.Arguments) → x = (top 47).1 → PySem.Arguments) ?x ?h
  case f => exact fun x _ => x
  case h => conv => rhs; whnf
noncomputable def F358b : List Stmt := by
  refine (?f : (x : List Stmt) → x = (top 47).2.1 → List Stmt) ?x ?h
  case f => exact fun x _ => x
  case h => conv => rhs; whnf
noncomputable def F358s : PySem.Scope := by
  refine (?f : (x : PySem.Scope) → x = (top 47).2.2 → PySem.Scope) ?x ?h
  case f => exact fun x _ => x
  case h => conv => rhs; whnf
noncomputable def F360a : PySem.Arguments := by
  refine (?f : (x : PySem.Arguments) → x = (top 47).1 → PySem.Arguments) ?x ?h
  case f => exact fun x _ => x
  case h => conv => rhs; whnf
noncomputable def F360b : List Stmt := by
  refine (?f : (x : List Stmt) → x = (top 47).2.1 → List Stmt) ?x ?h
  case f => exact fun x _ => x
  case h => conv => rhs; whnf
noncomputable def F360s : PySem.Scope := by
  refine (?f : (x : PySem.Scope) → x = (top 47).2.2 → PySem.Scope) ?x ?h
  case f => exact fun x _ => x
  case h => conv => rhs; whnf
noncomputable def F365a : PySem.Arguments := by
  refine (?f : (x : PySem.Arguments) → x = (top 48).1 → PySem.Arguments) ?x ?h
  case f => exact fun x _ => x
  case h => conv => rhs; whnf
noncomputable def F365b : List Stmt := by
  refine (?f : (x : List Stmt) → x = (top 48).2.1 → List Stmt) ?x ?h
  case f => exact fun x _ => x
  case h => conv => rhs; whnf
noncomputable def F365s : PySem.Scope := by
  refine (?f : (x : PySem.Scope) → x = (top 48).2.2 → PySem.Scope) ?x ?h
  case f => exact fun x _ => x
  case h => conv => rhs; whnf
noncomputable def F367a : PySem.Arguments := by
  refine (?f : (x : PySem.Arguments) → x = (top 48).1 → PySem.Arguments) ?x ?h
  case f => exact fun x _ => x
  case h => conv => rhs; whnf
noncomputable def F367b : List Stmt := by
  refine (?f : (x : List Stmt) → x = (top 48).2.1 → List Stmt) ?x ?h
  case f => exact fun x _ => x
  case h => conv => rhs; whnf
noncomputable def F367s : PySem.Scope := by
  refine (?f : (x : PySem.Scope) → x = (top 48).2.2 → PySem.Scope) ?x ?h
  case f => exact fun x _ => x
  case h => conv => rhs; whnf
noncomputable def F372a : PySem.Arguments := by
  refine (?f : (x : PySem.Arguments) → x = (top 49).1 → PySem.Arguments) ?x ?h
  case f => exact fun x _ => x
  case h => conv => rhs; whnf
noncomputable def F372b : List Stmt := by
  refine (?f : (x : List Stmt) → x = (top 49).2.1 → List Stmt) ?x ?h
  case f => exact fun x _ => x
  case h => conv => rhs; whnf
noncomputable def F372s : PySem.Scope := by
  refine (?f : (x : PySem.Scope) → x = (top 49).2.2 → PySem.Scope) ?x ?h
  case f => exact fun x _ => x
  case h => conv => rhs; whnf
noncomputable def F374a : PySem.Arguments := by
  refine (?f : (x : PySem.Arguments) → x = (top 49).1 → PySem.Arguments) ?x ?h
  case f => exact fun x _ => x
  case h => conv => rhs; whnf
noncomputable def F374b : List Stmt := by
  refine (?f : (x : List Stmt) → x = (top 49).2.1 → List Stmt) ?x ?h
  case f => exact fun x _ => x
  case h => conv => rhs; whnf
noncomputable def F374s : PySem.Scope := by
  refine (?f : (x : PySem.Scope) → x = (top 49).2.2 → PySem.Scope) ?x ?h
  case f => exact fun x _ => x
  case h => conv => rhs; whnf
noncomputable def F379a : PySem.Arguments := by
  refine (?f : (x : PySem.Arguments) → x = (top 50).1 → PySem.Arguments) ?x ?h
  case f => exact fun x _ => x
  case h => conv => rhs; whnf
noncomputable def F379b : List Stmt := by
  refine (?f : (x : List Stmt) → x = (top 50).2.1 → List Stmt) ?x ?h
  case f => exact fun x _ => x
  case h => conv => rhs; whnf
noncomputable def F379s : PySem.Scope := by
  refine (?f : (x : PySem.Scope) → x = (top 50).2.2 → PySem.Scope) ?x ?h
  case f => exact fun x _ => x
  case h => conv => rhs; whnf
noncomputable def F381a : PySem.Arguments := by
  refine (?f : (x : PySem.Arguments) → x = (top 50).1 → PySem.Arguments) ?x ?h
  case f => exact fun x _ => x
  case h => conv => rhs; whnf
noncomputable def F381b : List Stmt := by
  refine (?f : (x : List Stmt) → x = (top 50).2.1 → List Stmt) ?x ?h
  case f => exact fun x _ => x
  case h => conv => rhs; whnf
noncomputable def F381s : PySem.Scope := by
  refine (?f : (x : PySem.Scope) → x = (top 50).2.2 → PySem.Scope) ?x ?h
  case f => exact fun x _ => x
  case h => conv => rhs; whnf
noncomputable def F386a : PySem.Arguments := by
  refine (?f : (x : PySem.Arguments) → x = (top 51).1 → PySem.Arguments) ?x ?h
  case f => exact fun x _ => x
  case h => conv => rhs; whnf
noncomputable def F386b : List Stmt := by
  refine (?f : (x : List Stmt) → x = (top 51).2.1 → List Stmt) ?x ?h
  case f => exact fun x _ => x
  case h => conv => rhs; whnf
noncomputable def F386s : PySem.Scope := by
  refine (?f : (x : PySem.Scope) → x = (top 51).2.2 → PySem.Scope) ?x ?h
  case f => exact fun x _ => x
  case h => conv => rhs; whnf
noncomputable def F388a : PySem.Arguments := by
  refine (?f : (x : PySem.Arguments) → x = (top 51).1 → PySem.Arguments) ?x ?h
  case f => exact fun x _ => x
  case h => conv => rhs; whnf
noncomputable def F388b : List Stmt := by
  refine (?f : (x : List Stmt) → x = (top 51).2.1 → List Stmt) ?x ?h
  case f => exact fun x _ => x
  case h => conv => rhs; whnf
noncomputable def F388s : PySem.Scope := by
  refine (?f : (x : PySem.Scope) → x = (top 51).2.2 → PySem.Scope) ?x ?h
  case f => exact fun x _ => x
  case h => conv => rhs; whnf
noncomputable def F393a : PySem.Arguments := by
  refine (?f : (x : PySem.Arguments) → x = (top 54).1 → PySem.Arguments) ?x ?h
  case f => exact fun x _ => x
  case h => conv => rhs; whnf
noncomputable def F393b : List Stmt := by
  refine (?f : (x : List Stmt) → x = (top 54).2.1 → List Stmt) ?x ?h
  case f => exact fun x _ => x
  case h => conv => rhs; whnf
noncomputable def F393s : PySem.Scope := by
  refine (?f : (x : PySem.Scope) → x = (top 54).2.2 → PySem.Scope) ?x ?h
  case f => exact fun x _ => x
  case h => conv => rhs; whnf
noncomputable def F395a : PySem.Arguments := by
  refine (?f : (x : PySem.Arguments) → x = (top 54).1 → PySem.Arguments) ?x ?h
  case f => exact fun x _ => x
  case h => conv => rhs; whnf
noncomputable def F395b : List Stmt := by
  refine (?f : (x : List Stmt) → x = (top 54).2.1 → List Stmt) ?x ?h
  case f => exact fun x _ => x
  case h => conv => rhs; whnf
noncomputable def F395s : PySem.Scope := by
  refine (?f : (x : PySem.Scope) → x = (top 54).2.2 → PySem.Scope) ?x ?h
  case f => exact fun x _ => x
  case h => conv => rhs; whnf
noncomputable def F400a : PySem.Arguments := by
  refine (?f : (x : PySem.Arguments) → x = (top 55).1 → PySem.Arguments) ?x ?h
  case f => exact fun x _ => x
  case h => conv => rhs; whnf
noncomputable def F400b : List Stmt := by
  refine (?f : (x : List Stmt) → x = (top 55).2.1 → List Stmt) ?x ?h
  case f => exact fun x _ => x
  case h => conv => rhs; whnf
noncomputable def F400s : PySem.Scope := by
  refine (?f : (x : PySem.Scope) → x = (top 55).2.2 → PySem.Scope) ?x ?h
  case f => exact fun x _ => x
  case h => conv => rhs; whnf
noncomputable def F402a : PySem.Arguments := by
  refine (?f : (x : PySem.Arguments) → x = (top 55).1 → PySem.Arguments) ?x ?h
  case f => exact fun x _ => x
  case h => conv => rhs; whnf
noncomputable def F402b : List Stmt := by
  refine (?f : (x : List Stmt) → x = (top 55).2.1 → List Stmt) ?x ?h
  case f => exact fun x _ => x
  case h => conv => rhs; whnf
noncomputable def F402s : PySem.Scope := by
  refine (?f : (x : PySem.Scope) → x = (top 55).2.2 → PySem.Scope) ?x ?h
  case f => exact fun x _ => x
  case h => conv => rhs; whnf
noncomputable def F407a : PySem.Arguments := by
  refine (?f : (x : PySem.Arguments) → x = (top 56).1 → PySem.Arguments) ?x ?h
  case f => exact fun x _ => x
  case h => conv => rhs; whnf
noncomputable def F407b : List Stmt := by
  refine (?f : (x : List Stmt) → x = (top 56).2.1 → List Stmt) ?x ?h
  case f => exact fun x _ => x
  case h => conv => rhs; whnf
noncomputable def F407s : PySem.Scope := by
  refine (?f : (x : PySem.Scope) → x = (top 56).2.2 → PySem.Scope) ?x ?h
  case f => exact fun x _ => x
  case h => conv => rhs; whnf
noncomputable def F409a : PySem.Arguments := by
  refine (?f : (x : PySem.Arguments) → x = (top 56).1 → PySem.Arguments) ?x ?h
  case f => exact fun x _ => x
  case h => conv => rhs; whnf
noncomputable def F409b : List Stmt := by
  refine (?f : (x : List Stmt) → x = (top 56).2.1 → List Stmt) ?x ?h
  case f => exact fun x _ => x
  case h => conv => rhs; whnf
noncomputable def F409s : PySem.Scope := by
  refine (?f : (x : PySem.Scope) → x = (top 56).2.2 → PySem.Scope) ?x ?h
  case f => exact fun x _ => x
  case h => conv => rhs; whnf
noncomputable def F414a : PySem.Arguments := by
  refine (?f : (x : PySem.Arguments) → x = (top 57).1 → PySem.Arguments) ?x ?h
  case f => exact fun x _ => x
  case h => conv => rhs; whnf
noncomputable def F414b : List Stmt := by
  refine (?f : (x : List Stmt) → x = (top 57).2.1 → List Stmt) ?x ?h
  case f => exact fun x _ => x
  case h => conv => rhs; whnf
noncomputable def F414s : PySem.Scope := by
  refine (?f : (x : PySem.Scope) → x = (top 57).2.2 → PySem.Scope) ?x ?h
  case f => exact fun x _ => x
  case h => conv => rhs; whnf
noncomputable def F416a : PySem.Arguments := by
  refine (?f : (x : PySem.Arguments) → x = (top 57).1 → PySem.Arguments) ?x ?h
  case f => exact fun x _ => x
  case h => conv => rhs; whnf
noncomputable def F416b : List Stmt := by
  refine (?f : (x : List Stmt) → x = (top 57).2.1 → List Stmt) ?x ?h
  case f => exact fun x _ => x
  case h => conv => rhs; whnf
noncomputable def F416s : PySem.Scope := by
  refine (?f : (x : PySem.Scope) → x = (top 57).2.2 → PySem.Scope) ?x ?h
  case f => exact fun x _ => x
  case h => conv => rhs; whnf
noncomputable def F421a : PySem.Arguments := by
  refine (?f : (x : PySem.Arguments) → x = (top 58).1 → PySem.Arguments) ?x ?h
  case f => exact fun x _ => x
  case h => conv => rhs; whnf
noncomputable def F421b : List Stmt := by
  refine (?f : (x : List Stmt) → x = (top 58).2.1 → List Stmt) ?x ?h
  case f => exact fun x _ => x
  case h => conv => rhs; whnf
noncomputable def F421s : PySem.Scope := by
  refine (?f : (x : PySem.Scope) → x = (top 58).2.2 → PySem.Scope) ?x ?h
  case f => exact fun x _ => x
  case h => conv => rhs; whnf
noncomputable def F423a : PySem.Arguments := by
  refine (?f : (x : PySem.Arguments) → x = (top 58).1 → PySem.Arguments) ?x ?h
  case f => exact fun x _ => x
  case h => conv => rhs; whnf
noncomputable def F423b : List Stmt := by
  refine (?f : (x : List Stmt) → x = (top 58).2.1 → List Stmt) ?x ?h
  case f => exact fun x _ => x
  case h => conv => rhs; whnf
noncomputable def F423s : PySem.Scope := by
  refine (?f : (x : PySem.Scope) → x = (top 58).2.2 → PySem.Scope) ?x ?h
  case f => exact fun x _ => x
  case h => conv => rhs; whnf
noncomputable def F428a : PySem.Arguments := by
  refine (?f : (x : PySem.Arguments) → x = (top 59).1 → PySem.Arguments) ?x ?h
  case f => exact fun x _ => x
  case h => conv => rhs; whnf
noncomputable def F428b : List Stmt := by
  refine (?f : (x : List Stmt) → x = (top 59).2.1 → List Stmt) ?x ?h
  case f => exact fun x _ => x
  case h => conv => rhs; whnf
noncomputable def F428s : PySem.Scope := by
  refine (?f : (x : PySem.Scope) → x = (top 59).2.2 → PySem.Scope) ?x ?h
  case f => exact fun x _ => x
  case h => conv => rhs; whnf
noncomputable def F430a : PySem.Arguments := by
  refine (?f : (x : PySem.Arguments) → x = (top 59).1 → PySem.Arguments) ?x ?h
  case f => exact fun x _ => x
  case h => conv => rhs; whnf
noncomputable def F430b : List Stmt := by
  refine (?f : (x : List Stmt) → x = (top 59).2.1 → List Stmt) ?x ?h
  case f => exact fun x _ => x
  case h => conv => rhs; whnf
noncomputable def F430s : PySem.Scope := by
  refine (?f : (x : PySem.Scope) → x = (top 59).2.2 → PySem.Scope) ?x ?h
  case f => exact fun x _ => x
  case h => conv => rhs; whnf
noncomputable def F435a : PySem.Arguments := by
  refine (?f : (x : PySem.Arguments) → x = (top 60).1 → PySem.Arguments) ?x ?h
  case f => exact fun x _ => x
  case h => conv => rhs; whnf
noncomputable def F435b : List Stmt := by
  refine (?f : (x : List Stmt) → x = (top 60).2.1 → List Stmt) ?x ?h
  case f => exact fun x _ => x
  case h => conv => rhs; whnf
noncomputable def F435s : PySem.Scope := by
  refine (?f : (x : PySem.Scope) → x = (top 60).2.2 → PySem.Scope) ?x ?h
  case f => exact fun x _ => x
  case h => conv => rhs; whnf
noncomputable def F437a : PySem.Arguments := by
  refine (?f : (x : PySem.Arguments) → x = (top 60).1 → PySem.Arguments) ?x ?h
  case f => exact fun x _ => x
  case h => conv => rhs; whnf
noncomputable def F437b : List Stmt := by
  refine (?f : (x : List Stmt) → x = (top 60).2.1 → List Stmt) ?x ?h
  case f => exact fun x _ => x
  case h => conv => rhs; whnf
noncomputable def F437s : PySem.Scope := by
  refine (?f : (x : PySem.Scope) → x = (top 60).2.2 → PySem.Scope) ?x ?h
  case f => exact fun x _ => x
  case h => conv => rhs; whnf
noncomputable def F442a : PySem.Arguments := by
  refine (?f : (x : PySem.Arguments) → x = (top 61).1 → PySem.Arguments) ?x ?h
  case f => exact fun x _ => x
  case h => conv => rhs; whnf
noncomputable def F442b : List Stmt := by
  refine (?f : (x : List Stmt) → x = (top 61).2.1 → List Stmt) ?x ?h
  case f => exact fun x _ => x
  case h => conv => rhs; whnf
noncomputable def F442s : PySem.Scope := by
  refine (?f : (x : PySem.Scope) → x = (top 61).2.2 → PySem.Scope) ?x ?h
  case f => exact fun x _ => x
  case h => conv => rhs; whnf
noncomputable def F444a : PySem.Arguments := by
  refine (?f : (x : PySem.Arguments) → x = (top 61).1 → PySem.Arguments) ?x ?h
  case f => exact fun x _ => x
  case h => conv => rhs; whnf
noncomputable def F444b : List Stmt := by
  refine (?f : (x : List Stmt) → x = (top 61).2.1 → List Stmt) ?x ?h
  case f => exact fun x _ => x
  case h => conv => rhs; whnf
noncomputable def F444s : PySem.Scope := by
  refine (?f : (x : PySem.Scope) → x = (top 61).2.2 → PySem.Scope) ?x ?h
  case f => exact fun x _ => x
  case h => conv => rhs; whnf
noncomputable def F457a : PySem.Arguments := by
  refine (?f : (x : PySem.Arguments) → x = (meth 63 0).1 → PySem.Arguments) ?x ?h
  case f => exact fun x _ => x
  case h => conv => rhs; whnf
noncomputable def F457b : List Stmt := by
  refine (?f : (x : List Stmt) → x = (meth 63 0).2.1 → List Stmt) ?x ?h
  case f => exact fun x _ => x
  case h => conv => rhs; whnf
noncomputable def F457s : PySem.Scope := by
  refine (?f : (x : PySem.Scope) → x = (meth 63 0).2.2 → PySem.Scope) ?x ?h
  case f => exact fun x _ => x
  case h => conv => rhs; whnf
noncomputable def F459a : PySem.Arguments := by
  refine (?f : (x : PySem.Arguments) → x = (meth 63 0).1 → PySem.Arguments) ?x ?h
  case f => exact fun x _ => x
  case h => conv => rhs; whnf
noncomputable def F459b : List Stmt := by
  refine (?f : (x : List Stmt) → x = (meth 63 0).2.1 → List Stmt) ?x ?h
  case f => exact fun x _ => x
  case h => conv => rhs; whnf
noncomputable def F459s : PySem.Scope := by
  refine (?f : (x : PySem.Scope) → x = (meth 63 0).2.2 → PySem.Scope) ?x ?h
  case f => exact fun x _ => x
  case h => conv => rhs; whnf
noncomputable def F469a : PySem.Arguments := by
  refine (?f : (x : PySem.Arguments) → x = (top 65).1 → PySem.Arguments) ?x ?h
  case f => exact fun x _ => x
  case h => conv => rhs; whnf
noncomputable def F469b : List Stmt := by
  refine (?f : (x : List Stmt) → x = (top 65).2.1 → List Stmt) ?x ?h
  case f => exact fun x _ => x
  case h => conv => rhs; whnf
noncomputable def F469s : PySem.Scope := by
  refine (?f : (x : PySem.Scope) → x = (top 65).2.2 → PySem.Scope) ?x ?h
  case f => exact fun x _ => x
  case h => conv => rhs; whnf
noncomputable def F471a : PySem.Arguments := by
  refine (?f : (x : PySem.Arguments) → x = (top 65).1 → PySem.Arguments) ?x ?h
  case f => exact fun x _ => x
  case h => conv => rhs; whnf
noncomputable def F471b : List Stmt := by
  refine (?f : (x : List Stmt) → x = (top 65).2.1 → List Stmt) ?x ?h
  case f => exact fun x _ => x
  case h => conv => rhs; whnf
noncomputable def F471s : PySem.Scope := by
  refine (?f : (x : PySem.Scope) → x = (top 65).2.2 → PySem.Scope) ?x ?h
  case f => exact fun x _ => x
  case h => conv => rhs; whnf
noncomputable def F476a : PySem.Arguments := by
  refine (?f : (x : PySem.Arguments) → x = (top 66).1 → PySem.Arguments) ?x ?h
  case f => exact fun x _ => x
  case h => conv => rhs; whnf
noncomputable def F476b : List Stmt := by
  refine (?f : (x : List Stmt) → x = (top 66).2.1 → List Stmt) ?x ?h
  case f => exact fun x _ => x
  case h => conv => rhs; whnf
noncomputable def F476s : PySem.Scope := by
  refine (?f : (x : PySem.Scope) → x = (top 66).2.2 → PySem.Scope) ?x ?h
  case f => exact fun x _ => x
  case h => conv => rhs; whnf
noncomputable def F478a : PySem.Arguments := by
  refine (?f : (x : PySem.Arguments) → x = (top 66).1 → PySem.Arguments) ?x ?h
  case f => exact fun x _ => x
  case h => conv => rhs; whnf
noncomputable def F478b : List Stmt := by
  refine (?f : (x : List Stmt) → x = (top 66).2.1 → List Stmt) ?x ?h
  case f => exact fun x _ => x
  case h => conv => rhs; whnf
noncomputable def F478s : PySem.Scope := by
  refine (?f : (x : PySem.Scope) → x = (top 66).2.2 → PySem.Scope) ?x ?h
  case f => exact fun x _ => x
  case h => conv => rhs; whnf
noncomputable def F483a : PySem.Arguments := by
  refine (?f : (x : PySem.Arguments) → x = (top 67).1 → PySem.Arguments) ?x ?h
  case f => exact fun x _ => x
  case h => conv => rhs; whnf
noncomputable def F483b : List Stmt := by
  refine (?f : (x : List Stmt) → x = (top 67).2.1 → List Stmt) ?x ?h
  case f => exact fun x _ => x
  case h => conv => rhs; whnf
noncomputable def F483s : PySem.Scope := by
  refine (?f : (x : PySem.Scope) → x = (top 67).2.2 → PySem.Scope) ?x ?h
  case f => exact fun x _ => x
  case h => conv => rhs; whnf
noncomputable def F485a : PySem.Arguments := by
  refine (?f : (x : PySem.Arguments) → x = (top 67).1 → PySem.Arguments) ?x ?h
  case f => exact fun x _ => x
  case h => conv => rhs; whnf
noncomputable def F485b : List Stmt := by
  refine (?f : (x : List Stmt) → x = (top 67).2.1 → List Stmt) ?x ?h
  case f => exact fun x _ => x
  case h => conv => rhs; whnf
noncomputable def F485s : PySem.Scope := by
  refine (?f : (x : PySem.Scope) → x = (top 67).2.2 → PySem.Scope) ?x ?h
  case f => exact fun x _ => x
  case h => conv => rhs; whnf
noncomputable def F488a : PySem.Arguments := by
  refine (?f : (x : PySem.Arguments) → x = (top 68).1 → PySem.Arguments) ?x ?h
  case f => exact fun x _ => x
  case h => conv => rhs; whnf
noncomputable def F488b : List Stmt := by
  refine (?f : (x : List Stmt) → x = (top 68).2.1 → List Stmt) ?x ?h
  case f => exact fun x _ => x
  case h => conv => rhs; whnf
noncomputable def F488s : PySem.Scope := by
  refine (?f : (x : PySem.Scope) → x = (top 68).2.2 → PySem.Scope) ?x ?h
  case f => exact fun x _ => x
  case h => conv => rhs; whnf
noncomputable def F490a : PySem.Arguments := by
  refine (?f : (x : PySem.Arguments) → x = (top 68).1 → PySem.Arguments) ?x ?h
  case f => exact fun x _ => x
  case h => conv => rhs; whnf
noncomputable def F490b : List Stmt := by
  refine (?f : (x : List Stmt) → x = (top 68).2.1 → List Stmt) ?x ?h
  case f => exact fun x _ => x
  case h => conv => rhs; whnf
noncomputable def F490s : PySem.Scope := by
  refine (?f : (x : PySem.Scope) → x = (top 68).2.2 → PySem.Scope) ?x ?h
  case f => exact fun x _ => x
  case h => conv => rhs; whnf
set_option maxRecDepth 100000 in
noncomputable def Kraw : Params → Frag := fun P =>
  (nat_lit 2, ({ cls := Value.none, data := Data.dict #[{ hash := PyData.keyHash P (Str.ofString "type.__subclasses__.Exception.0"), key := Value.str (Str.ofString "type.__subclasses__.Exception.0") 280, val := Value.int 69 0 }, { hash := PyData.keyHash P (Str.ofString "type.__subclasses__.Exception.n"), key := Value.str (Str.ofString "type.__subclasses__.Exception.n") 281, val := Value.int 1 0 }] 2 } : Obj)) ::
  (nat_lit 3, ({ cls := Value.type "dict", data := Data.dict #[{ hash := PyData.keyHash P (Str.ofString "__name__"), key := Value.str (Str.ofString "__name__") 165, val := Value.str (Str.ofString "law_xw0308_02") 897 }, { hash := PyData.keyHash P (Str.ofString "__doc__"), key := Value.str (Str.ofString "__doc__") 166, val := Value.none }, { hash := PyData.keyHash P (Str.ofString "__package__"), key := Value.str (Str.ofString "__package__") 167, val := Value.none }, { hash := PyData.keyHash P (Str.ofString "__loader__"), key := Value.str (Str.ofString "__loader__") 168, val := Value.builtin "__main__.__loader__#opaque" }, { hash := PyData.keyHash P (Str.ofString "__spec__"), key := Value.str (Str.ofString "__spec__") 169, val := Value.none }, { hash := PyData.keyHash P (Str.ofString "__annotations__"), key := Value.str (Str.ofString "__annotations__") 170, val := Value.ref 6 }, { hash := PyData.keyHash P (Str.ofString "__builtins__"), key := Value.str (Str.ofString "__builtins__") 171, val := Value.ref 4 }, { hash := PyData.keyHash P (Str.ofString "__file__"), key := Value.str (Str.ofString "__file__") 173, val := Value.str (Str.ofString "/claim/cut.py") 172 }, { hash := PyData.keyHash P (Str.ofString "__cached__"), key := Value.str (Str.ofString "__cached__") 174, val := Value.none }, { hash := PyData.keyHash P (Str.ofString "give_names"), key := Value.str (Str.ofString "give_names") 198, val := Value.ref 21 }, { hash := PyData.keyHash P (Str.ofString "three_pieces"), key := Value.str (Str.ofString "three_pieces") 206, val := Value.ref 28 }, { hash := PyData.keyHash P (Str.ofString "spliced"), key := Value.str (Str.ofString "spliced") 218, val := Value.ref 35 }, { hash := PyData.keyHash P (Str.ofString "replace_once"), key := Value.str (Str.ofString "replace_once") 232, val := Value.ref 42 }, { hash := PyData.keyHash P (Str.ofString "replace_often"), key := Value.str (Str.ofString "replace_often") 247, val := Value.ref 49 }, { hash := PyData.keyHash P (Str.ofString "SnobolError"), key := Value.str (Str.ofString "SnobolError") 283, val := Value.ref 69 }, { hash := PyData.keyHash P (Str.ofString "Failure"), key := Value.str (Str.ofString "Failure") 303, val := Value.ref 82 }, { hash := PyData.keyHash P (Str.ofString "Pattern"), key := Value.str (Str.ofString "Pattern") 332, val := Value.ref 103 }, { hash := PyData.keyHash P (Str.ofString "Delayed"), key := Value.str (Str.ofString "Delayed") 361, val := Value.ref 124 }, { hash := PyData.keyHash P (Str.ofString "is_fail"), key := Value.str (Str.ofString "is_fail") 368, val := Value.ref 135 }, { hash := PyData.keyHash P (Str.ofString "fits"), key := Value.str (Str.ofString "fits") 376, val := Value.ref 142 }, { hash := PyData.keyHash P (Str.ofString "whole_of_text"), key := Value.str (Str.ofString "whole_of_text") 387, val := Value.ref 149 }, { hash := PyData.keyHash P (Str.ofString "text_of_whole"), key := Value.str (Str.ofString "text_of_whole") 396, val := Value.ref 156 }, { hash := PyData.keyHash P (Str.ofString "to_whole"), key := Value.str (Str.ofString "to_whole") 404, val := Value.ref 163 }, { hash := PyData.keyHash P (Str.ofString "to_text"), key := Value.str (Str.ofString "to_text") 411, val := Value.ref 170 }, { hash := PyData.keyHash P (Str.ofString "need_text"), key := Value.str (Str.ofString "need_text") 419, val := Value.ref 177 }, { hash := PyData.keyHash P (Str.ofString "PlainHost"), key := Value.str (Str.ofString "PlainHost") 481, val := Value.ref 215 }, { hash := PyData.keyHash P (Str.ofString "replaced_signs"), key := Value.str (Str.ofString "replaced_signs") 489, val := Value.ref 224 }, { hash := PyData.keyHash P (Str.ofString "told_or_fail"), key := Value.str (Str.ofString "told_or_fail") 496, val := Value.ref 231 }, { hash := PyData.keyHash P (Str.ofString "text_replace"), key := Value.str (Str.ofString "text_replace") 506, val := Value.ref 238 }, { hash := PyData.keyHash P (Str.ofString "COUNTED"), key := Value.str (Str.ofString "COUNTED") 514, val := Value.ref 239 }, { hash := PyData.keyHash P (Str.ofString "SIGNED"), key := Value.str (Str.ofString "SIGNED") 519, val := Value.ref 240 }, { hash := PyData.keyHash P (Str.ofString "WIDTH_OF_COUNT"), key := Value.str (Str.ofString "WIDTH_OF_COUNT") 521, val := Value.int 64 520 }, { hash := PyData.keyHash P (Str.ofString "plain_count"), key := Value.str (Str.ofString "plain_count") 531, val := Value.ref 248 }, { hash := PyData.keyHash P (Str.ofString "plain_signs"), key := Value.str (Str.ofString "plain_signs") 540, val := Value.ref 255 }, { hash := PyData.keyHash P (Str.ofString "pattern_of"), key := Value.str (Str.ofString "pattern_of") 548, val := Value.ref 262 }, { hash := PyData.keyHash P (Str.ofString "is_delayed"), key := Value.str (Str.ofString "is_delayed") 555, val := Value.ref 269 }, { hash := PyData.keyHash P (Str.ofString "settled"), key := Value.str (Str.ofString "settled") 564, val := Value.ref 276 }, { hash := PyData.keyHash P (Str.ofString "OPENING"), key := Value.str (Str.ofString "OPENING") 568, val := Value.str (Str.ofString "(") 567 }, { hash := PyData.keyHash P (Str.ofString "CLOSING"), key := Value.str (Str.ofString "CLOSING") 570, val := Value.str (Str.ofString ")") 569 }, { hash := PyData.keyHash P (Str.ofString "chars_end"), key := Value.str (Str.ofString "chars_end") 580, val := Value.ref 283 }, { hash := PyData.keyHash P (Str.ofString "len_end"), key := Value.str (Str.ofString "len_end") 589, val := Value.ref 290 }, { hash := PyData.keyHash P (Str.ofString "pos_end"), key := Value.str (Str.ofString "pos_end") 597, val := Value.ref 297 }, { hash := PyData.keyHash P (Str.ofString "rpos_end"), key := Value.str (Str.ofString "rpos_end") 606, val := Value.ref 304 }, { hash := PyData.keyHash P (Str.ofString "tab_end"), key := Value.str (Str.ofString "tab_end") 615, val := Value.ref 311 }, { hash := PyData.keyHash P (Str.ofString "rtab_end"), key := Value.str (Str.ofString "rtab_end") 625, val := Value.ref 318 }, { hash := PyData.keyHash P (Str.ofString "rem_end"), key := Value.str (Str.ofString "rem_end") 632, val := Value.ref 325 }, { hash := PyData.keyHash P (Str.ofString "any_at"), key := Value.str (Str.ofString "any_at") 641, val := Value.ref 332 }, { hash := PyData.keyHash P (Str.ofString "notany_at"), key := Value.str (Str.ofString "notany_at") 650, val := Value.ref 339 }, { hash := PyData.keyHash P (Str.ofString "run_end"), key := Value.str (Str.ofString "run_end") 660, val := Value.ref 346 }, { hash := PyData.keyHash P (Str.ofString "span_end"), key := Value.str (Str.ofString "span_end") 670, val := Value.ref 353 }, { hash := PyData.keyHash P (Str.ofString "break_end"), key := Value.str (Str.ofString "break_end") 680, val := Value.ref 360 }, { hash := PyData.keyHash P (Str.ofString "bal_end"), key := Value.str (Str.ofString "bal_end") 689, val := Value.ref 367 }, { hash := PyData.keyHash P (Str.ofString "bal_ends"), key := Value.str (Str.ofString "bal_ends") 699, val := Value.ref 374 }, { hash := PyData.keyHash P (Str.ofString "one_end"), key := Value.str (Str.ofString "one_end") 709, val := Value.ref 381 }, { hash := PyData.keyHash P (Str.ofString "plain_end"), key := Value.str (Str.ofString "plain_end") 718, val := Value.ref 388 }, { hash := PyData.keyHash P (Str.ofString "LOST"), key := Value.str (Str.ofString "LOST") 722, val := Value.str (Str.ofString "lost") 721 }, { hash := PyData.keyHash P (Str.ofString "match_plain"), key := Value.str (Str.ofString "match_plain") 734, val := Value.ref 395 }, { hash := PyData.keyHash P (Str.ofString "match_at"), key := Value.str (Str.ofString "match_at") 745, val := Value.ref 402 }, { hash := PyData.keyHash P (Str.ofString "tried"), key := Value.str (Str.ofString "tried") 760, val := Value.ref 409 }, { hash := PyData.keyHash P (Str.ofString "advanced"), key := Value.str (Str.ofString "advanced") 776, val := Value.ref 416 }, { hash := PyData.keyHash P (Str.ofString "led_in"), key := Value.str (Str.ofString "led_in") 788, val := Value.ref 423 }, { hash := PyData.keyHash P (Str.ofString "led_out"), key := Value.str (Str.ofString "led_out") 804, val := Value.ref 430 }, { hash := PyData.keyHash P (Str.ofString "steered"), key := Value.str (Str.ofString "steered") 816, val := Value.ref 437 }, { hash := PyData.keyHash P (Str.ofString "taken"), key := Value.str (Str.ofString "taken") 833, val := Value.ref 444 }, { hash := PyData.keyHash P (Str.ofString "World"), key := Value.str (Str.ofString "World") 896, val := Value.ref 462 }, { hash := PyData.keyHash P (Str.ofString "_law_sizes"), key := Value.str (Str.ofString "_law_sizes") 904, val := Value.ref 471 }, { hash := PyData.keyHash P (Str.ofString "_law_marked"), key := Value.str (Str.ofString "_law_marked") 916, val := Value.ref 478 }, { hash := PyData.keyHash P (Str.ofString "_law_done"), key := Value.str (Str.ofString "_law_done") 928, val := Value.ref 485 }, { hash := PyData.keyHash P (Str.ofString "law"), key := Value.str (Str.ofString "law") 934, val := Value.ref 490 }] 69 } : Obj)) ::
  (nat_lit 15, ({ cls := Value.type "tuple", data := Data.seq #[] } : Obj)) ::
  (nat_lit 17, ({ cls := Value.type "tuple", data := Data.seq #[Value.str (Str.ofString "found") 192, Value.str (Str.ofString "give") 193, Value.str (Str.ofString "ref") 194, Value.str (Str.ofString "text") 195] } : Obj)) ::
  (nat_lit 18, ({ cls := Value.type "tuple", data := Data.seq #[] } : Obj)) ::
  (nat_lit 20, ({ cls := Value.type "code", data := Data.fields #[Value.str (Str.ofString "give_names") 189, Value.str (Str.ofString "give_names") 190, Value.str (Str.ofString "/claim/cut.py") 191, Value.int 2 0, Value.int 2 0, Value.int 0 0, Value.int 0 0, Value.int 3 0, Value.ref 15, Value.bool true, Value.int 181 0, Value.ref 16, Value.none, Value.ref 17, Value.ref 18, Value.ref 19, Value.int 196 0, Value.int 2 0, Value.str (Str.ofString "/claim/cut.py") 197] } : Obj)) ::
  (nat_lit 21, ({ cls := Value.type "function", data := Data.func { name := Str.ofString "give_names", qualname := Str.ofString "give_names", params := F21a, body := FuncBody.stmts F21b, scope := F21s, globals := 3, closure := [], defaults := Value.none, kwdefaults := Value.none, pyModule := Value.str (Str.ofString "snobol.matchcore") 187, code := Value.ref 20 } } : Obj)) ::
  (nat_lit 22, ({ cls := Value.type "tuple", data := Data.seq #[] } : Obj)) ::
  (nat_lit 24, ({ cls := Value.type "tuple", data := Data.seq #[Value.str (Str.ofString "subject") 202, Value.str (Str.ofString "found") 203] } : Obj)) ::
  (nat_lit 25, ({ cls := Value.type "tuple", data := Data.seq #[] } : Obj)) ::
  (nat_lit 27, ({ cls := Value.type "code", data := Data.fields #[Value.str (Str.ofString "three_pieces") 199, Value.str (Str.ofString "three_pieces") 200, Value.str (Str.ofString "/claim/cut.py") 201, Value.int 5 0, Value.int 2 0, Value.int 0 0, Value.int 0 0, Value.int 3 0, Value.ref 22, Value.bool true, Value.int 181 0, Value.ref 23, Value.none, Value.ref 24, Value.ref 25, Value.ref 26, Value.int 204 0, Value.int 5 0, Value.str (Str.ofString "/claim/cut.py") 205] } : Obj)) ::
  (nat_lit 28, ({ cls := Value.type "function", data := Data.func { name := Str.ofString "three_pieces", qualname := Str.ofString "three_pieces", params := F28a, body := FuncBody.stmts F28b, scope := F28s, globals := 3, closure := [], defaults := Value.none, kwdefaults := Value.none, pyModule := Value.str (Str.ofString "snobol.matchcore") 187, code := Value.ref 27 } } : Obj)) ::
  (nat_lit 29, ({ cls := Value.type "tuple", data := Data.seq #[] } : Obj)) ::
  (nat_lit 31, ({ cls := Value.type "tuple", data := Data.seq #[Value.str (Str.ofString "subject") 210, Value.str (Str.ofString "found") 211, Value.str (Str.ofString "text") 212, Value.str (Str.ofString "ahead") 213, Value.str (Str.ofString "met") 214, Value.str (Str.ofString "behind") 215] } : Obj)) ::
  (nat_lit 32, ({ cls := Value.type "tuple", data := Data.seq #[] } : Obj)) ::
  (nat_lit 34, ({ cls := Value.type "code", data := Data.fields #[Value.str (Str.ofString "spliced") 207, Value.str (Str.ofString "spliced") 208, Value.str (Str.ofString "/claim/cut.py") 209, Value.int 7 0, Value.int 3 0, Value.int 0 0, Value.int 0 0, Value.int 3 0, Value.ref 29, Value.bool true, Value.int 181 0, Value.ref 30, Value.none, Value.ref 31, Value.ref 32, Value.ref 33, Value.int 216 0, Value.int 7 0, Value.str (Str.ofString "/claim/cut.py") 217] } : Obj)) ::
  (nat_lit 35, ({ cls := Value.type "function", data := Data.func { name := Str.ofString "spliced", qualname := Str.ofString "spliced", params := F35a, body := FuncBody.stmts F35b, scope := F35s, globals := 3, closure := [], defaults := Value.none, kwdefaults := Value.none, pyModule := Value.str (Str.ofString "snobol.matchcore") 187, code := Value.ref 34 } } : Obj)) ::
  (nat_lit 36, ({ cls := Value.type "tuple", data := Data.seq #[] } : Obj)) ::
  (nat_lit 38, ({ cls := Value.type "tuple", data := Data.seq #[Value.str (Str.ofString "matcher") 222, Value.str (Str.ofString "node") 223, Value.str (Str.ofString "subject") 224, Value.str (Str.ofString "is_anchored") 225, Value.str (Str.ofString "host") 226, Value.str (Str.ofString "text_of") 227, Value.str (Str.ofString "found") 228, Value.str (Str.ofString "text") 229] } : Obj)) ::
  (nat_lit 39, ({ cls := Value.type "tuple", data := Data.seq #[] } : Obj)) ::
  (nat_lit 41, ({ cls := Value.type "code", data := Data.fields #[Value.str (Str.ofString "replace_once") 219, Value.str (Str.ofString "replace_once") 220, Value.str (Str.ofString "/claim/cut.py") 221, Value.int 10 0, Value.int 6 0, Value.int 0 0, Value.int 0 0, Value.int 3 0, Value.ref 36, Value.bool true, Value.int 181 0, Value.ref 37, Value.none, Value.ref 38, Value.ref 39, Value.ref 40, Value.int 230 0, Value.int 10 0, Value.str (Str.ofString "/claim/cut.py") 231] } : Obj)) ::
  (nat_lit 42, ({ cls := Value.type "function", data := Data.func { name := Str.ofString "replace_once", qualname := Str.ofString "replace_once", params := F42a, body := FuncBody.stmts F42b, scope := F42s, globals := 3, closure := [], defaults := Value.none, kwdefaults := Value.none, pyModule := Value.str (Str.ofString "snobol.matchcore") 187, code := Value.ref 41 } } : Obj)) ::
  (nat_lit 43, ({ cls := Value.type "tuple", data := Data.seq #[] } : Obj)) ::
  (nat_lit 45, ({ cls := Value.type "tuple", data := Data.seq #[Value.str (Str.ofString "matcher") 236, Value.str (Str.ofString "node") 237, Value.str (Str.ofString "subject") 238, Value.str (Str.ofString "is_anchored") 239, Value.str (Str.ofString "host") 240, Value.str (Str.ofString "text_of") 241, Value.str (Str.ofString "most") 242, Value.str (Str.ofString "many") 243, Value.str (Str.ofString "later") 244] } : Obj)) ::
  (nat_lit 46, ({ cls := Value.type "tuple", data := Data.seq #[] } : Obj)) ::
  (nat_lit 48, ({ cls := Value.type "code", data := Data.fields #[Value.str (Str.ofString "replace_often") 233, Value.str (Str.ofString "replace_often") 234, Value.str (Str.ofString "/claim/cut.py") 235, Value.int 17 0, Value.int 7 0, Value.int 0 0, Value.int 0 0, Value.int 3 0, Value.ref 43, Value.bool true, Value.int 181 0, Value.ref 44, Value.none, Value.ref 45, Value.ref 46, Value.ref 47, Value.int 245 0, Value.int 17 0, Value.str (Str.ofString "/claim/cut.py") 246] } : Obj)) ::
  (nat_lit 49, ({ cls := Value.type "function", data := Data.func { name := Str.ofString "replace_often", qualname := Str.ofString "replace_often", params := F49a, body := FuncBody.stmts F49b, scope := F49s, globals := 3, closure := [], defaults := Value.none, kwdefaults := Value.none, pyModule := Value.str (Str.ofString "snobol.matchcore") 187, code := Value.ref 48 } } : Obj)) ::
  (nat_lit 50, ({ cls := Value.type "tuple", data := Data.seq #[Value.type "Exception"] } : Obj)) ::
  (nat_lit 53, ({ cls := Value.type "cell", data := Data.cell (some (Value.ref 69)) } : Obj)) ::
  (nat_lit 58, ({ cls := Value.type "tuple", data := Data.seq #[Value.str (Str.ofString "") 262] } : Obj)) ::
  (nat_lit 59, ({ cls := Value.type "tuple", data := Data.seq #[Value.ref 53] } : Obj)) ::
  (nat_lit 60, ({ cls := Value.type "tuple", data := Data.seq #[Value.str (Str.ofString "__class__") 266] } : Obj)) ::
  (nat_lit 62, ({ cls := Value.type "tuple", data := Data.seq #[Value.str (Str.ofString "self") 267, Value.str (Str.ofString "number") 268, Value.str (Str.ofString "told") 269] } : Obj)) ::
  (nat_lit 63, ({ cls := Value.type "tuple", data := Data.seq #[] } : Obj)) ::
  (nat_lit 65, ({ cls := Value.type "code", data := Data.fields #[Value.str (Str.ofString "__init__") 263, Value.str (Str.ofString "SnobolError.__init__") 264, Value.str (Str.ofString "/claim/cut.py") 265, Value.int 28 0, Value.int 3 0, Value.int 0 0, Value.int 0 0, Value.int 3 0, Value.ref 60, Value.bool true, Value.int 181 0, Value.ref 61, Value.none, Value.ref 62, Value.ref 63, Value.ref 64, Value.int 270 0, Value.int 28 0, Value.str (Str.ofString "/claim/cut.py") 271] } : Obj)) ::
  (nat_lit 66, ({ cls := Value.type "function", data := Data.func { name := Str.ofString "__init__", qualname := Str.ofString "SnobolError.__init__", params := F66a, body := FuncBody.stmts F66b, scope := F66s, globals := 3, closure := [(Str.ofString "__class__", 53)], defaults := Value.ref 58, kwdefaults := Value.none, pyModule := Value.str (Str.ofString "snobol.values") 248, code := Value.ref 65, closureTuple := Value.ref 59 } } : Obj)) ::
  (nat_lit 67, ({ cls := Value.type "tuple", data := Data.seq #[Value.str (Str.ofString "number") 273, Value.str (Str.ofString "told") 274] } : Obj)) ::
  (nat_lit 68, ({ cls := Value.type "dict", data := Data.dict #[{ hash := PyData.keyHash P (Str.ofString "__module__"), key := Value.str (Str.ofString "__module__") 257, val := Value.str (Str.ofString "snobol.values") 248 }, { hash := PyData.keyHash P (Str.ofString "__firstlineno__"), key := Value.str (Str.ofString "__firstlineno__") 261, val := Value.int 26 260 }, { hash := PyData.keyHash P (Str.ofString "__init__"), key := Value.str (Str.ofString "__init__") 272, val := Value.ref 66 }, { hash := PyData.keyHash P (Str.ofString "__static_attributes__"), key := Value.str (Str.ofString "__static_attributes__") 275, val := Value.ref 67 }, { hash := PyData.keyHash P (Str.ofString "__weakref__"), key := Value.str (Str.ofString "__weakref__") 278, val := Value.ref 70 }, { hash := PyData.keyHash P (Str.ofString "__doc__"), key := Value.str (Str.ofString "__doc__") 279, val := Value.none }] 4 } : Obj)) ::
  (nat_lit 69, ({ cls := Value.type "type", data := Data.cls { name := Str.ofString "SnobolError", bases := [Value.type "Exception"], mro := [Value.ref 69, Value.type "Exception", Value.type "BaseException", Value.type "object"], ns := 68, qualname := Str.ofString "SnobolError" }, slots := #[some (Value.ref 50), none, some (Value.str (Str.ofString "SnobolError") 250), some (Value.str (Str.ofString "SnobolError") 258), some (Value.builtin "Exception.__new__"), some (Value.bool true)] } : Obj)) ::
  (nat_lit 70, ({ cls := Value.type "getset_descriptor", data := Data.fields #[Value.str (Str.ofString "__weakref__") 277, Value.ref 69, Value.builtin "ExceptionGroup.__weakref__", Value.none] } : Obj)) ::
  (nat_lit 80, ({ cls := Value.type "tuple", data := Data.seq #[] } : Obj)) ::
  (nat_lit 81, ({ cls := Value.type "dict", data := Data.dict #[{ hash := PyData.keyHash P (Str.ofString "__module__"), key := Value.str (Str.ofString "__module__") 291, val := Value.str (Str.ofString "snobol.values") 248 }, { hash := PyData.keyHash P (Str.ofString "__firstlineno__"), key := Value.str (Str.ofString "__firstlineno__") 295, val := Value.int 32 294 }, { hash := PyData.keyHash P (Str.ofString "__static_attributes__"), key := Value.str (Str.ofString "__static_attributes__") 296, val := Value.ref 80 }, { hash := PyData.keyHash P (Str.ofString "__dict__"), key := Value.str (Str.ofString "__dict__") 298, val := Value.ref 83 }, { hash := PyData.keyHash P (Str.ofString "__weakref__"), key := Value.str (Str.ofString "__weakref__") 300, val := Value.ref 84 }, { hash := PyData.keyHash P (Str.ofString "__doc__"), key := Value.str (Str.ofString "__doc__") 301, val := Value.none }] 4 } : Obj)) ::
  (nat_lit 82, ({ cls := Value.type "type", data := Data.cls { name := Str.ofString "Failure", bases := [Value.type "object"], mro := [Value.ref 82, Value.type "object"], ns := 81, qualname := Str.ofString "Failure" }, slots := #[none, none, some (Value.str (Str.ofString "Failure") 284), some (Value.str (Str.ofString "Failure") 292), some (Value.builtin "object.__new__"), some (Value.bool true)] } : Obj)) ::
  (nat_lit 83, ({ cls := Value.type "getset_descriptor", data := Data.fields #[Value.str (Str.ofString "__dict__") 297, Value.ref 82, Value.builtin "function.__dict__", Value.builtin "function.__dict__#set"] } : Obj)) ::
  (nat_lit 84, ({ cls := Value.type "getset_descriptor", data := Data.fields #[Value.str (Str.ofString "__weakref__") 299, Value.ref 82, Value.builtin "ExceptionGroup.__weakref__", Value.none] } : Obj)) ::
  (nat_lit 94, ({ cls := Value.type "tuple", data := Data.seq #[] } : Obj)) ::
  (nat_lit 96, ({ cls := Value.type "tuple", data := Data.seq #[Value.str (Str.ofString "self") 319, Value.str (Str.ofString "node") 320] } : Obj)) ::
  (nat_lit 97, ({ cls := Value.type "tuple", data := Data.seq #[] } : Obj)) ::
  (nat_lit 99, ({ cls := Value.type "code", data := Data.fields #[Value.str (Str.ofString "__init__") 316, Value.str (Str.ofString "Pattern.__init__") 317, Value.str (Str.ofString "/claim/cut.py") 318, Value.int 36 0, Value.int 2 0, Value.int 0 0, Value.int 0 0, Value.int 3 0, Value.ref 94, Value.bool true, Value.int 181 0, Value.ref 95, Value.none, Value.ref 96, Value.ref 97, Value.ref 98, Value.int 321 0, Value.int 36 0, Value.str (Str.ofString "/claim/cut.py") 322] } : Obj)) ::
  (nat_lit 100, ({ cls := Value.type "function", data := Data.func { name := Str.ofString "__init__", qualname := Str.ofString "Pattern.__init__", params := F100a, body := FuncBody.stmts F100b, scope := F100s, globals := 3, closure := [], defaults := Value.none, kwdefaults := Value.none, pyModule := Value.str (Str.ofString "snobol.values") 248, code := Value.ref 99 } } : Obj)) ::
  (nat_lit 101, ({ cls := Value.type "tuple", data := Data.seq #[Value.str (Str.ofString "node") 324] } : Obj)) ::
  (nat_lit 102, ({ cls := Value.type "dict", data := Data.dict #[{ hash := PyData.keyHash P (Str.ofString "__module__"), key := Value.str (Str.ofString "__module__") 311, val := Value.str (Str.ofString "snobol.values") 248 }, { hash := PyData.keyHash P (Str.ofString "__firstlineno__"), key := Value.str (Str.ofString "__firstlineno__") 315, val := Value.int 34 314 }, { hash := PyData.keyHash P (Str.ofString "__init__"), key := Value.str (Str.ofString "__init__") 323, val := Value.ref 100 }, { hash := PyData.keyHash P (Str.ofString "__static_attributes__"), key := Value.str (Str.ofString "__static_attributes__") 325, val := Value.ref 101 }, { hash := PyData.keyHash P (Str.ofString "__dict__"), key := Value.str (Str.ofString "__dict__") 327, val := Value.ref 104 }, { hash := PyData.keyHash P (Str.ofString "__weakref__"), key := Value.str (Str.ofString "__weakref__") 329, val := Value.ref 105 }, { hash := PyData.keyHash P (Str.ofString "__doc__"), key := Value.str (Str.ofString "__doc__") 330, val := Value.none }] 4 } : Obj)) ::
  (nat_lit 103, ({ cls := Value.type "type", data := Data.cls { name := Str.ofString "Pattern", bases := [Value.type "object"], mro := [Value.ref 103, Value.type "object"], ns := 102, qualname := Str.ofString "Pattern" }, slots := #[none, none, some (Value.str (Str.ofString "Pattern") 304), some (Value.str (Str.ofString "Pattern") 312), some (Value.builtin "object.__new__"), some (Value.bool true)] } : Obj)) ::
  (nat_lit 104, ({ cls := Value.type "getset_descriptor", data := Data.fields #[Value.str (Str.ofString "__dict__") 326, Value.ref 103, Value.builtin "function.__dict__", Value.builtin "function.__dict__#set"] } : Obj)) ::
  (nat_lit 105, ({ cls := Value.type "getset_descriptor", data := Data.fields #[Value.str (Str.ofString "__weakref__") 328, Value.ref 103, Value.builtin "ExceptionGroup.__weakref__", Value.none] } : Obj)) ::
  (nat_lit 115, ({ cls := Value.type "tuple", data := Data.seq #[] } : Obj)) ::
  (nat_lit 117, ({ cls := Value.type "tuple", data := Data.seq #[Value.str (Str.ofString "self") 348, Value.str (Str.ofString "tree") 349] } : Obj)) ::
  (nat_lit 118, ({ cls := Value.type "tuple", data := Data.seq #[] } : Obj)) ::
  (nat_lit 120, ({ cls := Value.type "code", data := Data.fields #[Value.str (Str.ofString "__init__") 345, Value.str (Str.ofString "Delayed.__init__") 346, Value.str (Str.ofString "/claim/cut.py") 347, Value.int 40 0, Value.int 2 0, Value.int 0 0, Value.int 0 0, Value.int 3 0, Value.ref 115, Value.bool true, Value.int 181 0, Value.ref 116, Value.none, Value.ref 117, Value.ref 118, Value.ref 119, Value.int 350 0, Value.int 40 0, Value.str (Str.ofString "/claim/cut.py") 351] } : Obj)) ::
  (nat_lit 121, ({ cls := Value.type "function", data := Data.func { name := Str.ofString "__init__", qualname := Str.ofString "Delayed.__init__", params := F121a, body := FuncBody.stmts F121b, scope := F121s, globals := 3, closure := [], defaults := Value.none, kwdefaults := Value.none, pyModule := Value.str (Str.ofString "snobol.values") 248, code := Value.ref 120 } } : Obj)) ::
  (nat_lit 122, ({ cls := Value.type "tuple", data := Data.seq #[Value.str (Str.ofString "tree") 353] } : Obj)) ::
  (nat_lit 123, ({ cls := Value.type "dict", data := Data.dict #[{ hash := PyData.keyHash P (Str.ofString "__module__"), key := Value.str (Str.ofString "__module__") 340, val := Value.str (Str.ofString "snobol.values") 248 }, { hash := PyData.keyHash P (Str.ofString "__firstlineno__"), key := Value.str (Str.ofString "__firstlineno__") 344, val := Value.int 38 343 }, { hash := PyData.keyHash P (Str.ofString "__init__"), key := Value.str (Str.ofString "__init__") 352, val := Value.ref 121 }, { hash := PyData.keyHash P (Str.ofString "__static_attributes__"), key := Value.str (Str.ofString "__static_attributes__") 354, val := Value.ref 122 }, { hash := PyData.keyHash P (Str.ofString "__dict__"), key := Value.str (Str.ofString "__dict__") 356, val := Value.ref 125 }, { hash := PyData.keyHash P (Str.ofString "__weakref__"), key := Value.str (Str.ofString "__weakref__") 358, val := Value.ref 126 }, { hash := PyData.keyHash P (Str.ofString "__doc__"), key := Value.str (Str.ofString "__doc__") 359, val := Value.none }] 4 } : Obj)) ::
  (nat_lit 124, ({ cls := Value.type "type", data := Data.cls { name := Str.ofString "Delayed", bases := [Value.type "object"], mro := [Value.ref 124, Value.type "object"], ns := 123, qualname := Str.ofString "Delayed" }, slots := #[none, none, some (Value.str (Str.ofString "Delayed") 333), some (Value.str (Str.ofString "Delayed") 341), some (Value.builtin "object.__new__"), some (Value.bool true)] } : Obj)) ::
  (nat_lit 125, ({ cls := Value.type "getset_descriptor", data := Data.fields #[Value.str (Str.ofString "__dict__") 355, Value.ref 124, Value.builtin "function.__dict__", Value.builtin "function.__dict__#set"] } : Obj)) ::
  (nat_lit 126, ({ cls := Value.type "getset_descriptor", data := Data.fields #[Value.str (Str.ofString "__weakref__") 357, Value.ref 124, Value.builtin "ExceptionGroup.__weakref__", Value.none] } : Obj)) ::
  (nat_lit 129, ({ cls := Value.type "tuple", data := Data.seq #[] } : Obj)) ::
  (nat_lit 131, ({ cls := Value.type "tuple", data := Data.seq #[Value.str (Str.ofString "value") 365] } : Obj)) ::
  (nat_lit 132, ({ cls := Value.type "tuple", data := Data.seq #[] } : Obj)) ::
  (nat_lit 134, ({ cls := Value.type "code", data := Data.fields #[Value.str (Str.ofString "is_fail") 362, Value.str (Str.ofString "is_fail") 363, Value.str (Str.ofString "/claim/cut.py") 364, Value.int 42 0, Value.int 1 0, Value.int 0 0, Value.int 0 0, Value.int 3 0, Value.ref 129, Value.bool true, Value.int 181 0, Value.ref 130, Value.none, Value.ref 131, Value.ref 132, Value.ref 133, Value.int 366 0, Value.int 42 0, Value.str (Str.ofString "/claim/cut.py") 367] } : Obj)) ::
  (nat_lit 135, ({ cls := Value.type "function", data := Data.func { name := Str.ofString "is_fail", qualname := Str.ofString "is_fail", params := F135a, body := FuncBody.stmts F135b, scope := F135s, globals := 3, closure := [], defaults := Value.none, kwdefaults := Value.none, pyModule := Value.str (Str.ofString "snobol.values") 248, code := Value.ref 134 } } : Obj)) ::
  (nat_lit 136, ({ cls := Value.type "tuple", data := Data.seq #[] } : Obj)) ::
  (nat_lit 138, ({ cls := Value.type "tuple", data := Data.seq #[Value.str (Str.ofString "number") 372, Value.str (Str.ofString "width") 373] } : Obj)) ::
  (nat_lit 139, ({ cls := Value.type "tuple", data := Data.seq #[] } : Obj)) ::
  (nat_lit 141, ({ cls := Value.type "code", data := Data.fields #[Value.str (Str.ofString "fits") 369, Value.str (Str.ofString "fits") 370, Value.str (Str.ofString "/claim/cut.py") 371, Value.int 44 0, Value.int 2 0, Value.int 0 0, Value.int 0 0, Value.int 3 0, Value.ref 136, Value.bool true, Value.int 181 0, Value.ref 137, Value.none, Value.ref 138, Value.ref 139, Value.ref 140, Value.int 374 0, Value.int 44 0, Value.str (Str.ofString "/claim/cut.py") 375] } : Obj)) ::
  (nat_lit 142, ({ cls := Value.type "function", data := Data.func { name := Str.ofString "fits", qualname := Str.ofString "fits", params := F142a, body := FuncBody.stmts F142b, scope := F142s, globals := 3, closure := [], defaults := Value.none, kwdefaults := Value.none, pyModule := Value.str (Str.ofString "snobol.values") 248, code := Value.ref 141 } } : Obj)) ::
  (nat_lit 143, ({ cls := Value.type "tuple", data := Data.seq #[] } : Obj)) ::
  (nat_lit 145, ({ cls := Value.type "tuple", data := Data.seq #[Value.str (Str.ofString "text") 380, Value.str (Str.ofString "width") 381, Value.str (Str.ofString "digits") 382, Value.str (Str.ofString "number") 383, Value.str (Str.ofString "sign") 384] } : Obj)) ::
  (nat_lit 146, ({ cls := Value.type "tuple", data := Data.seq #[] } : Obj)) ::
  (nat_lit 148, ({ cls := Value.type "code", data := Data.fields #[Value.str (Str.ofString "whole_of_text") 377, Value.str (Str.ofString "whole_of_text") 378, Value.str (Str.ofString "/claim/cut.py") 379, Value.int 46 0, Value.int 2 0, Value.int 0 0, Value.int 0 0, Value.int 3 0, Value.ref 143, Value.bool true, Value.int 181 0, Value.ref 144, Value.none, Value.ref 145, Value.ref 146, Value.ref 147, Value.int 385 0, Value.int 46 0, Value.str (Str.ofString "/claim/cut.py") 386] } : Obj)) ::
  (nat_lit 149, ({ cls := Value.type "function", data := Data.func { name := Str.ofString "whole_of_text", qualname := Str.ofString "whole_of_text", params := F149a, body := FuncBody.stmts F149b, scope := F149s, globals := 3, closure := [], defaults := Value.none, kwdefaults := Value.none, pyModule := Value.str (Str.ofString "snobol.values") 248, code := Value.ref 148 } } : Obj)) ::
  (nat_lit 150, ({ cls := Value.type "tuple", data := Data.seq #[] } : Obj)) ::
  (nat_lit 152, ({ cls := Value.type "tuple", data := Data.seq #[Value.str (Str.ofString "number") 391, Value.str (Str.ofString "left") 392, Value.str (Str.ofString "found") 393] } : Obj)) ::
  (nat_lit 153, ({ cls := Value.type "tuple", data := Data.seq #[] } : Obj)) ::
  (nat_lit 155, ({ cls := Value.type "code", data := Data.fields #[Value.str (Str.ofString "text_of_whole") 388, Value.str (Str.ofString "text_of_whole") 389, Value.str (Str.ofString "/claim/cut.py") 390, Value.int 59 0, Value.int 1 0, Value.int 0 0, Value.int 0 0, Value.int 3 0, Value.ref 150, Value.bool true, Value.int 181 0, Value.ref 151, Value.none, Value.ref 152, Value.ref 153, Value.ref 154, Value.int 394 0, Value.int 59 0, Value.str (Str.ofString "/claim/cut.py") 395] } : Obj)) ::
  (nat_lit 156, ({ cls := Value.type "function", data := Data.func { name := Str.ofString "text_of_whole", qualname := Str.ofString "text_of_whole", params := F156a, body := FuncBody.stmts F156b, scope := F156s, globals := 3, closure := [], defaults := Value.none, kwdefaults := Value.none, pyModule := Value.str (Str.ofString "snobol.values") 248, code := Value.ref 155 } } : Obj)) ::
  (nat_lit 157, ({ cls := Value.type "tuple", data := Data.seq #[] } : Obj)) ::
  (nat_lit 159, ({ cls := Value.type "tuple", data := Data.seq #[Value.str (Str.ofString "value") 400, Value.str (Str.ofString "width") 401] } : Obj)) ::
  (nat_lit 160, ({ cls := Value.type "tuple", data := Data.seq #[] } : Obj)) ::
  (nat_lit 162, ({ cls := Value.type "code", data := Data.fields #[Value.str (Str.ofString "to_whole") 397, Value.str (Str.ofString "to_whole") 398, Value.str (Str.ofString "/claim/cut.py") 399, Value.int 65 0, Value.int 2 0, Value.int 0 0, Value.int 0 0, Value.int 3 0, Value.ref 157, Value.bool true, Value.int 181 0, Value.ref 158, Value.none, Value.ref 159, Value.ref 160, Value.ref 161, Value.int 402 0, Value.int 65 0, Value.str (Str.ofString "/claim/cut.py") 403] } : Obj)) ::
  (nat_lit 163, ({ cls := Value.type "function", data := Data.func { name := Str.ofString "to_whole", qualname := Str.ofString "to_whole", params := F163a, body := FuncBody.stmts F163b, scope := F163s, globals := 3, closure := [], defaults := Value.none, kwdefaults := Value.none, pyModule := Value.str (Str.ofString "snobol.values") 248, code := Value.ref 162 } } : Obj)) ::
  (nat_lit 164, ({ cls := Value.type "tuple", data := Data.seq #[] } : Obj)) ::
  (nat_lit 166, ({ cls := Value.type "tuple", data := Data.seq #[Value.str (Str.ofString "value") 408] } : Obj)) ::
  (nat_lit 167, ({ cls := Value.type "tuple", data := Data.seq #[] } : Obj)) ::
  (nat_lit 169, ({ cls := Value.type "code", data := Data.fields #[Value.str (Str.ofString "to_text") 405, Value.str (Str.ofString "to_text") 406, Value.str (Str.ofString "/claim/cut.py") 407, Value.int 69 0, Value.int 1 0, Value.int 0 0, Value.int 0 0, Value.int 3 0, Value.ref 164, Value.bool true, Value.int 181 0, Value.ref 165, Value.none, Value.ref 166, Value.ref 167, Value.ref 168, Value.int 409 0, Value.int 69 0, Value.str (Str.ofString "/claim/cut.py") 410] } : Obj)) ::
  (nat_lit 170, ({ cls := Value.type "function", data := Data.func { name := Str.ofString "to_text", qualname := Str.ofString "to_text", params := F170a, body := FuncBody.stmts F170b, scope := F170s, globals := 3, closure := [], defaults := Value.none, kwdefaults := Value.none, pyModule := Value.str (Str.ofString "snobol.values") 248, code := Value.ref 169 } } : Obj)) ::
  (nat_lit 171, ({ cls := Value.type "tuple", data := Data.seq #[] } : Obj)) ::
  (nat_lit 173, ({ cls := Value.type "tuple", data := Data.seq #[Value.str (Str.ofString "value") 415, Value.str (Str.ofString "text") 416] } : Obj)) ::
  (nat_lit 174, ({ cls := Value.type "tuple", data := Data.seq #[] } : Obj)) ::
  (nat_lit 176, ({ cls := Value.type "code", data := Data.fields #[Value.str (Str.ofString "need_text") 412, Value.str (Str.ofString "need_text") 413, Value.str (Str.ofString "/claim/cut.py") 414, Value.int 73 0, Value.int 1 0, Value.int 0 0, Value.int 0 0, Value.int 3 0, Value.ref 171, Value.bool true, Value.int 181 0, Value.ref 172, Value.none, Value.ref 173, Value.ref 174, Value.ref 175, Value.int 417 0, Value.int 73 0, Value.str (Str.ofString "/claim/cut.py") 418] } : Obj)) ::
  (nat_lit 177, ({ cls := Value.type "function", data := Data.func { name := Str.ofString "need_text", qualname := Str.ofString "need_text", params := F177a, body := FuncBody.stmts F177b, scope := F177s, globals := 3, closure := [], defaults := Value.none, kwdefaults := Value.none, pyModule := Value.str (Str.ofString "snobol.values") 248, code := Value.ref 176 } } : Obj)) ::
  (nat_lit 185, ({ cls := Value.type "tuple", data := Data.seq #[] } : Obj)) ::
  (nat_lit 187, ({ cls := Value.type "tuple", data := Data.seq #[Value.str (Str.ofString "self") 437, Value.str (Str.ofString "values") 438, Value.str (Str.ofString "limit") 439, Value.str (Str.ofString "refused") 440] } : Obj)) ::
  (nat_lit 188, ({ cls := Value.type "tuple", data := Data.seq #[] } : Obj)) ::
  (nat_lit 190, ({ cls := Value.type "code", data := Data.fields #[Value.str (Str.ofString "__init__") 434, Value.str (Str.ofString "PlainHost.__init__") 435, Value.str (Str.ofString "/claim/cut.py") 436, Value.int 81 0, Value.int 4 0, Value.int 0 0, Value.int 0 0, Value.int 3 0, Value.ref 185, Value.bool true, Value.int 181 0, Value.ref 186, Value.none, Value.ref 187, Value.ref 188, Value.ref 189, Value.int 441 0, Value.int 81 0, Value.str (Str.ofString "/claim/cut.py") 442] } : Obj)) ::
  (nat_lit 191, ({ cls := Value.type "function", data := Data.func { name := Str.ofString "__init__", qualname := Str.ofString "PlainHost.__init__", params := F191a, body := FuncBody.stmts F191b, scope := F191s, globals := 3, closure := [], defaults := Value.none, kwdefaults := Value.none, pyModule := Value.str (Str.ofString "snobol.hosts") 420, code := Value.ref 190 } } : Obj)) ::
  (nat_lit 192, ({ cls := Value.type "tuple", data := Data.seq #[] } : Obj)) ::
  (nat_lit 194, ({ cls := Value.type "tuple", data := Data.seq #[Value.str (Str.ofString "self") 447, Value.str (Str.ofString "tree") 448] } : Obj)) ::
  (nat_lit 195, ({ cls := Value.type "tuple", data := Data.seq #[] } : Obj)) ::
  (nat_lit 197, ({ cls := Value.type "code", data := Data.fields #[Value.str (Str.ofString "value_of") 444, Value.str (Str.ofString "PlainHost.value_of") 445, Value.str (Str.ofString "/claim/cut.py") 446, Value.int 89 0, Value.int 2 0, Value.int 0 0, Value.int 0 0, Value.int 3 0, Value.ref 192, Value.bool true, Value.int 181 0, Value.ref 193, Value.none, Value.ref 194, Value.ref 195, Value.ref 196, Value.int 449 0, Value.int 89 0, Value.str (Str.ofString "/claim/cut.py") 450] } : Obj)) ::
  (nat_lit 198, ({ cls := Value.type "function", data := Data.func { name := Str.ofString "value_of", qualname := Str.ofString "PlainHost.value_of", params := F198a, body := FuncBody.stmts F198b, scope := F198s, globals := 3, closure := [], defaults := Value.none, kwdefaults := Value.none, pyModule := Value.str (Str.ofString "snobol.hosts") 420, code := Value.ref 197 } } : Obj)) ::
  (nat_lit 199, ({ cls := Value.type "tuple", data := Data.seq #[] } : Obj)) ::
  (nat_lit 201, ({ cls := Value.type "tuple", data := Data.seq #[Value.str (Str.ofString "self") 455, Value.str (Str.ofString "ref") 456, Value.str (Str.ofString "value") 457] } : Obj)) ::
  (nat_lit 202, ({ cls := Value.type "tuple", data := Data.seq #[] } : Obj)) ::
  (nat_lit 204, ({ cls := Value.type "code", data := Data.fields #[Value.str (Str.ofString "assign") 452, Value.str (Str.ofString "PlainHost.assign") 453, Value.str (Str.ofString "/claim/cut.py") 454, Value.int 94 0, Value.int 3 0, Value.int 0 0, Value.int 0 0, Value.int 3 0, Value.ref 199, Value.bool true, Value.int 181 0, Value.ref 200, Value.none, Value.ref 201, Value.ref 202, Value.ref 203, Value.int 458 0, Value.int 94 0, Value.str (Str.ofString "/claim/cut.py") 459] } : Obj)) ::
  (nat_lit 205, ({ cls := Value.type "function", data := Data.func { name := Str.ofString "assign", qualname := Str.ofString "PlainHost.assign", params := F205a, body := FuncBody.stmts F205b, scope := F205s, globals := 3, closure := [], defaults := Value.none, kwdefaults := Value.none, pyModule := Value.str (Str.ofString "snobol.hosts") 420, code := Value.ref 204 } } : Obj)) ::
  (nat_lit 206, ({ cls := Value.type "tuple", data := Data.seq #[] } : Obj)) ::
  (nat_lit 208, ({ cls := Value.type "tuple", data := Data.seq #[Value.str (Str.ofString "self") 464] } : Obj)) ::
  (nat_lit 209, ({ cls := Value.type "tuple", data := Data.seq #[] } : Obj)) ::
  (nat_lit 211, ({ cls := Value.type "code", data := Data.fields #[Value.str (Str.ofString "step") 461, Value.str (Str.ofString "PlainHost.step") 462, Value.str (Str.ofString "/claim/cut.py") 463, Value.int 101 0, Value.int 1 0, Value.int 0 0, Value.int 0 0, Value.int 3 0, Value.ref 206, Value.bool true, Value.int 181 0, Value.ref 207, Value.none, Value.ref 208, Value.ref 209, Value.ref 210, Value.int 465 0, Value.int 101 0, Value.str (Str.ofString "/claim/cut.py") 466] } : Obj)) ::
  (nat_lit 212, ({ cls := Value.type "function", data := Data.func { name := Str.ofString "step", qualname := Str.ofString "PlainHost.step", params := F212a, body := FuncBody.stmts F212b, scope := F212s, globals := 3, closure := [], defaults := Value.none, kwdefaults := Value.none, pyModule := Value.str (Str.ofString "snobol.hosts") 420, code := Value.ref 211 } } : Obj)) ::
  (nat_lit 213, ({ cls := Value.type "tuple", data := Data.seq #[Value.str (Str.ofString "limit") 468, Value.str (Str.ofString "log") 469, Value.str (Str.ofString "refused") 470, Value.str (Str.ofString "steps") 471, Value.str (Str.ofString "values") 472, Value.str (Str.ofString "width") 473] } : Obj)) ::
  (nat_lit 214, ({ cls := Value.type "dict", data := Data.dict #[{ hash := PyData.keyHash P (Str.ofString "__module__"), key := Value.str (Str.ofString "__module__") 429, val := Value.str (Str.ofString "snobol.hosts") 420 }, { hash := PyData.keyHash P (Str.ofString "__firstlineno__"), key := Value.str (Str.ofString "__firstlineno__") 433, val := Value.int 79 432 }, { hash := PyData.keyHash P (Str.ofString "__init__"), key := Value.str (Str.ofString "__init__") 443, val := Value.ref 191 }, { hash := PyData.keyHash P (Str.ofString "value_of"), key := Value.str (Str.ofString "value_of") 451, val := Value.ref 198 }, { hash := PyData.keyHash P (Str.ofString "assign"), key := Value.str (Str.ofString "assign") 460, val := Value.ref 205 }, { hash := PyData.keyHash P (Str.ofString "step"), key := Value.str (Str.ofString "step") 467, val := Value.ref 212 }, { hash := PyData.keyHash P (Str.ofString "__static_attributes__"), key := Value.str (Str.ofString "__static_attributes__") 474, val := Value.ref 213 }, { hash := PyData.keyHash P (Str.ofString "__dict__"), key := Value.str (Str.ofString "__dict__") 476, val := Value.ref 216 }, { hash := PyData.keyHash P (Str.ofString "__weakref__"), key := Value.str (Str.ofString "__weakref__") 478, val := Value.ref 217 }, { hash := PyData.keyHash P (Str.ofString "__doc__"), key := Value.str (Str.ofString "__doc__") 479, val := Value.none }] 4 } : Obj)) ::
  (nat_lit 215, ({ cls := Value.type "type", data := Data.cls { name := Str.ofString "PlainHost", bases := [Value.type "object"], mro := [Value.ref 215, Value.type "object"], ns := 214, qualname := Str.ofString "PlainHost" }, slots := #[none, none, some (Value.str (Str.ofString "PlainHost") 422), some (Value.str (Str.ofString "PlainHost") 430), some (Value.builtin "object.__new__"), some (Value.bool true)] } : Obj)) ::
  (nat_lit 216, ({ cls := Value.type "getset_descriptor", data := Data.fields #[Value.str (Str.ofString "__dict__") 475, Value.ref 215, Value.builtin "function.__dict__", Value.builtin "function.__dict__#set"] } : Obj)) ::
  (nat_lit 217, ({ cls := Value.type "getset_descriptor", data := Data.fields #[Value.str (Str.ofString "__weakref__") 477, Value.ref 215, Value.builtin "ExceptionGroup.__weakref__", Value.none] } : Obj)) ::
  (nat_lit 220, ({ cls := Value.type "tuple", data := Data.seq #[] } : Obj)) ::
  (nat_lit 223, ({ cls := Value.type "code", data := Data.fields #[Value.str (Str.ofString "replaced_signs") 484, Value.str (Str.ofString "replaced_signs") 485, Value.str (Str.ofString "/claim/cut.py") 486, Value.int 106 0, Value.int 3 0, Value.int 0 0, Value.int 0 0, Value.int 3 0, Value.ref 220, Value.bool true, Value.int 181 0, Value.ref 221, Value.none, Value.none, Value.none, Value.ref 222, Value.int 487 0, Value.int 106 0, Value.str (Str.ofString "/claim/cut.py") 488] } : Obj)) ::
  (nat_lit 224, ({ cls := Value.type "function", data := Data.func { name := Str.ofString "replaced_signs", qualname := Str.ofString "replaced_signs", params := F224a, body := FuncBody.stmts F224b, scope := F224s, globals := 3, closure := [], defaults := Value.none, kwdefaults := Value.none, pyModule := Value.str (Str.ofString "snobol.strings") 482, code := Value.ref 223 } } : Obj)) ::
  (nat_lit 225, ({ cls := Value.type "tuple", data := Data.seq #[] } : Obj)) ::
  (nat_lit 227, ({ cls := Value.type "tuple", data := Data.seq #[Value.str (Str.ofString "value") 493] } : Obj)) ::
  (nat_lit 228, ({ cls := Value.type "tuple", data := Data.seq #[] } : Obj)) ::
  (nat_lit 230, ({ cls := Value.type "code", data := Data.fields #[Value.str (Str.ofString "told_or_fail") 490, Value.str (Str.ofString "told_or_fail") 491, Value.str (Str.ofString "/claim/cut.py") 492, Value.int 113 0, Value.int 1 0, Value.int 0 0, Value.int 0 0, Value.int 3 0, Value.ref 225, Value.bool true, Value.int 181 0, Value.ref 226, Value.none, Value.ref 227, Value.ref 228, Value.ref 229, Value.int 494 0, Value.int 113 0, Value.str (Str.ofString "/claim/cut.py") 495] } : Obj)) ::
  (nat_lit 231, ({ cls := Value.type "function", data := Data.func { name := Str.ofString "told_or_fail", qualname := Str.ofString "told_or_fail", params := F231a, body := FuncBody.stmts F231b, scope := F231s, globals := 3, closure := [], defaults := Value.none, kwdefaults := Value.none, pyModule := Value.str (Str.ofString "snobol.strings") 482, code := Value.ref 230 } } : Obj)) ::
  (nat_lit 232, ({ cls := Value.type "tuple", data := Data.seq #[] } : Obj)) ::
  (nat_lit 234, ({ cls := Value.type "tuple", data := Data.seq #[Value.str (Str.ofString "world") 500, Value.str (Str.ofString "args") 501, Value.str (Str.ofString "text") 502, Value.str (Str.ofString "olds") 503] } : Obj)) ::
  (nat_lit 235, ({ cls := Value.type "tuple", data := Data.seq #[] } : Obj)) ::
  (nat_lit 237, ({ cls := Value.type "code", data := Data.fields #[Value.str (Str.ofString "text_replace") 497, Value.str (Str.ofString "text_replace") 498, Value.str (Str.ofString "/claim/cut.py") 499, Value.int 115 0, Value.int 2 0, Value.int 0 0, Value.int 0 0, Value.int 3 0, Value.ref 232, Value.bool true, Value.int 181 0, Value.ref 233, Value.none, Value.ref 234, Value.ref 235, Value.ref 236, Value.int 504 0, Value.int 115 0, Value.str (Str.ofString "/claim/cut.py") 505] } : Obj)) ::
  (nat_lit 238, ({ cls := Value.type "function", data := Data.func { name := Str.ofString "text_replace", qualname := Str.ofString "text_replace", params := F238a, body := FuncBody.stmts F238b, scope := F238s, globals := 3, closure := [], defaults := Value.none, kwdefaults := Value.none, pyModule := Value.str (Str.ofString "snobol.strings") 482, code := Value.ref 237 } } : Obj)) ::
  (nat_lit 239, ({ cls := Value.type "tuple", data := Data.seq #[Value.str (Str.ofString "len") 509, Value.str (Str.ofString "pos") 510, Value.str (Str.ofString "rpos") 511, Value.str (Str.ofString "tab") 512, Value.str (Str.ofString "rtab") 513] } : Obj)) ::
  (nat_lit 240, ({ cls := Value.type "tuple", data := Data.seq #[Value.str (Str.ofString "any") 515, Value.str (Str.ofString "notany") 516, Value.str (Str.ofString "span") 517, Value.str (Str.ofString "break") 518] } : Obj)) ::
  (nat_lit 241, ({ cls := Value.type "tuple", data := Data.seq #[Value.int 64 520] } : Obj)) ::
  (nat_lit 242, ({ cls := Value.type "tuple", data := Data.seq #[] } : Obj)) ::
  (nat_lit 244, ({ cls := Value.type "tuple", data := Data.seq #[Value.str (Str.ofString "value") 525, Value.str (Str.ofString "kind") 526, Value.str (Str.ofString "width") 527, Value.str (Str.ofString "count") 528] } : Obj)) ::
  (nat_lit 245, ({ cls := Value.type "tuple", data := Data.seq #[] } : Obj)) ::
  (nat_lit 247, ({ cls := Value.type "code", data := Data.fields #[Value.str (Str.ofString "plain_count") 522, Value.str (Str.ofString "plain_count") 523, Value.str (Str.ofString "/claim/cut.py") 524, Value.int 122 0, Value.int 3 0, Value.int 0 0, Value.int 0 0, Value.int 3 0, Value.ref 242, Value.bool true, Value.int 181 0, Value.ref 243, Value.none, Value.ref 244, Value.ref 245, Value.ref 246, Value.int 529 0, Value.int 122 0, Value.str (Str.ofString "/claim/cut.py") 530] } : Obj)) ::
  (nat_lit 248, ({ cls := Value.type "function", data := Data.func { name := Str.ofString "plain_count", qualname := Str.ofString "plain_count", params := F248a, body := FuncBody.stmts F248b, scope := F248s, globals := 3, closure := [], defaults := Value.ref 241, kwdefaults := Value.none, pyModule := Value.str (Str.ofString "snobol.nodes") 507, code := Value.ref 247 } } : Obj)) ::
  (nat_lit 249, ({ cls := Value.type "tuple", data := Data.seq #[] } : Obj)) ::
  (nat_lit 251, ({ cls := Value.type "tuple", data := Data.seq #[Value.str (Str.ofString "value") 535, Value.str (Str.ofString "kind") 536, Value.str (Str.ofString "text") 537] } : Obj)) ::
  (nat_lit 252, ({ cls := Value.type "tuple", data := Data.seq #[] } : Obj)) ::
  (nat_lit 254, ({ cls := Value.type "code", data := Data.fields #[Value.str (Str.ofString "plain_signs") 532, Value.str (Str.ofString "plain_signs") 533, Value.str (Str.ofString "/claim/cut.py") 534, Value.int 129 0, Value.int 2 0, Value.int 0 0, Value.int 0 0, Value.int 3 0, Value.ref 249, Value.bool true, Value.int 181 0, Value.ref 250, Value.none, Value.ref 251, Value.ref 252, Value.ref 253, Value.int 538 0, Value.int 129 0, Value.str (Str.ofString "/claim/cut.py") 539] } : Obj)) ::
  (nat_lit 255, ({ cls := Value.type "function", data := Data.func { name := Str.ofString "plain_signs", qualname := Str.ofString "plain_signs", params := F255a, body := FuncBody.stmts F255b, scope := F255s, globals := 3, closure := [], defaults := Value.none, kwdefaults := Value.none, pyModule := Value.str (Str.ofString "snobol.nodes") 507, code := Value.ref 254 } } : Obj)) ::
  (nat_lit 256, ({ cls := Value.type "tuple", data := Data.seq #[] } : Obj)) ::
  (nat_lit 258, ({ cls := Value.type "tuple", data := Data.seq #[Value.str (Str.ofString "value") 544, Value.str (Str.ofString "text") 545] } : Obj)) ::
  (nat_lit 259, ({ cls := Value.type "tuple", data := Data.seq #[] } : Obj)) ::
  (nat_lit 261, ({ cls := Value.type "code", data := Data.fields #[Value.str (Str.ofString "pattern_of") 541, Value.str (Str.ofString "pattern_of") 542, Value.str (Str.ofString "/claim/cut.py") 543, Value.int 134 0, Value.int 1 0, Value.int 0 0, Value.int 0 0, Value.int 3 0, Value.ref 256, Value.bool true, Value.int 181 0, Value.ref 257, Value.none, Value.ref 258, Value.ref 259, Value.ref 260, Value.int 546 0, Value.int 134 0, Value.str (Str.ofString "/claim/cut.py") 547] } : Obj)) ::
  (nat_lit 262, ({ cls := Value.type "function", data := Data.func { name := Str.ofString "pattern_of", qualname := Str.ofString "pattern_of", params := F262a, body := FuncBody.stmts F262b, scope := F262s, globals := 3, closure := [], defaults := Value.none, kwdefaults := Value.none, pyModule := Value.str (Str.ofString "snobol.nodes") 507, code := Value.ref 261 } } : Obj)) ::
  (nat_lit 263, ({ cls := Value.type "tuple", data := Data.seq #[] } : Obj)) ::
  (nat_lit 265, ({ cls := Value.type "tuple", data := Data.seq #[Value.str (Str.ofString "told") 552] } : Obj)) ::
  (nat_lit 266, ({ cls := Value.type "tuple", data := Data.seq #[] } : Obj)) ::
  (nat_lit 268, ({ cls := Value.type "code", data := Data.fields #[Value.str (Str.ofString "is_delayed") 549, Value.str (Str.ofString "is_delayed") 550, Value.str (Str.ofString "/claim/cut.py") 551, Value.int 143 0, Value.int 1 0, Value.int 0 0, Value.int 0 0, Value.int 3 0, Value.ref 263, Value.bool true, Value.int 181 0, Value.ref 264, Value.none, Value.ref 265, Value.ref 266, Value.ref 267, Value.int 553 0, Value.int 143 0, Value.str (Str.ofString "/claim/cut.py") 554] } : Obj)) ::
  (nat_lit 269, ({ cls := Value.type "function", data := Data.func { name := Str.ofString "is_delayed", qualname := Str.ofString "is_delayed", params := F269a, body := FuncBody.stmts F269b, scope := F269s, globals := 3, closure := [], defaults := Value.none, kwdefaults := Value.none, pyModule := Value.str (Str.ofString "snobol.nodes") 507, code := Value.ref 268 } } : Obj)) ::
  (nat_lit 270, ({ cls := Value.type "tuple", data := Data.seq #[] } : Obj)) ::
  (nat_lit 272, ({ cls := Value.type "tuple", data := Data.seq #[Value.str (Str.ofString "node") 559, Value.str (Str.ofString "host") 560, Value.str (Str.ofString "value") 561] } : Obj)) ::
  (nat_lit 273, ({ cls := Value.type "tuple", data := Data.seq #[] } : Obj)) ::
  (nat_lit 275, ({ cls := Value.type "code", data := Data.fields #[Value.str (Str.ofString "settled") 556, Value.str (Str.ofString "settled") 557, Value.str (Str.ofString "/claim/cut.py") 558, Value.int 145 0, Value.int 2 0, Value.int 0 0, Value.int 0 0, Value.int 3 0, Value.ref 270, Value.bool true, Value.int 181 0, Value.ref 271, Value.none, Value.ref 272, Value.ref 273, Value.ref 274, Value.int 562 0, Value.int 145 0, Value.str (Str.ofString "/claim/cut.py") 563] } : Obj)) ::
  (nat_lit 276, ({ cls := Value.type "function", data := Data.func { name := Str.ofString "settled", qualname := Str.ofString "settled", params := F276a, body := FuncBody.stmts F276b, scope := F276s, globals := 3, closure := [], defaults := Value.none, kwdefaults := Value.none, pyModule := Value.str (Str.ofString "snobol.nodes") 507, code := Value.ref 275 } } : Obj)) ::
  (nat_lit 277, ({ cls := Value.type "tuple", data := Data.seq #[] } : Obj)) ::
  (nat_lit 279, ({ cls := Value.type "tuple", data := Data.seq #[Value.str (Str.ofString "subject") 574, Value.str (Str.ofString "at") 575, Value.str (Str.ofString "text") 576, Value.str (Str.ofString "end") 577] } : Obj)) ::
  (nat_lit 280, ({ cls := Value.type "tuple", data := Data.seq #[] } : Obj)) ::
  (nat_lit 282, ({ cls := Value.type "code", data := Data.fields #[Value.str (Str.ofString "chars_end") 571, Value.str (Str.ofString "chars_end") 572, Value.str (Str.ofString "/claim/cut.py") 573, Value.int 157 0, Value.int 3 0, Value.int 0 0, Value.int 0 0, Value.int 3 0, Value.ref 277, Value.bool true, Value.int 181 0, Value.ref 278, Value.none, Value.ref 279, Value.ref 280, Value.ref 281, Value.int 578 0, Value.int 157 0, Value.str (Str.ofString "/claim/cut.py") 579] } : Obj)) ::
  (nat_lit 283, ({ cls := Value.type "function", data := Data.func { name := Str.ofString "chars_end", qualname := Str.ofString "chars_end", params := F283a, body := FuncBody.stmts F283b, scope := F283s, globals := 3, closure := [], defaults := Value.none, kwdefaults := Value.none, pyModule := Value.str (Str.ofString "snobol.primitives") 565, code := Value.ref 282 } } : Obj)) ::
  (nat_lit 284, ({ cls := Value.type "tuple", data := Data.seq #[] } : Obj)) ::
  (nat_lit 286, ({ cls := Value.type "tuple", data := Data.seq #[Value.str (Str.ofString "subject") 584, Value.str (Str.ofString "at") 585, Value.str (Str.ofString "many") 586] } : Obj)) ::
  (nat_lit 287, ({ cls := Value.type "tuple", data := Data.seq #[] } : Obj)) ::
  (nat_lit 289, ({ cls := Value.type "code", data := Data.fields #[Value.str (Str.ofString "len_end") 581, Value.str (Str.ofString "len_end") 582, Value.str (Str.ofString "/claim/cut.py") 583, Value.int 160 0, Value.int 3 0, Value.int 0 0, Value.int 0 0, Value.int 3 0, Value.ref 284, Value.bool true, Value.int 181 0, Value.ref 285, Value.none, Value.ref 286, Value.ref 287, Value.ref 288, Value.int 587 0, Value.int 160 0, Value.str (Str.ofString "/claim/cut.py") 588] } : Obj)) ::
  (nat_lit 290, ({ cls := Value.type "function", data := Data.func { name := Str.ofString "len_end", qualname := Str.ofString "len_end", params := F290a, body := FuncBody.stmts F290b, scope := F290s, globals := 3, closure := [], defaults := Value.none, kwdefaults := Value.none, pyModule := Value.str (Str.ofString "snobol.primitives") 565, code := Value.ref 289 } } : Obj)) ::
  (nat_lit 291, ({ cls := Value.type "tuple", data := Data.seq #[] } : Obj)) ::
  (nat_lit 293, ({ cls := Value.type "tuple", data := Data.seq #[Value.str (Str.ofString "at") 593, Value.str (Str.ofString "place") 594] } : Obj)) ::
  (nat_lit 294, ({ cls := Value.type "tuple", data := Data.seq #[] } : Obj)) ::
  (nat_lit 296, ({ cls := Value.type "code", data := Data.fields #[Value.str (Str.ofString "pos_end") 590, Value.str (Str.ofString "pos_end") 591, Value.str (Str.ofString "/claim/cut.py") 592, Value.int 162 0, Value.int 2 0, Value.int 0 0, Value.int 0 0, Value.int 3 0, Value.ref 291, Value.bool true, Value.int 181 0, Value.ref 292, Value.none, Value.ref 293, Value.ref 294, Value.ref 295, Value.int 595 0, Value.int 162 0, Value.str (Str.ofString "/claim/cut.py") 596] } : Obj)) ::
  (nat_lit 297, ({ cls := Value.type "function", data := Data.func { name := Str.ofString "pos_end", qualname := Str.ofString "pos_end", params := F297a, body := FuncBody.stmts F297b, scope := F297s, globals := 3, closure := [], defaults := Value.none, kwdefaults := Value.none, pyModule := Value.str (Str.ofString "snobol.primitives") 565, code := Value.ref 296 } } : Obj)) ::
  (nat_lit 298, ({ cls := Value.type "tuple", data := Data.seq #[] } : Obj)) ::
  (nat_lit 300, ({ cls := Value.type "tuple", data := Data.seq #[Value.str (Str.ofString "subject") 601, Value.str (Str.ofString "at") 602, Value.str (Str.ofString "place") 603] } : Obj)) ::
  (nat_lit 301, ({ cls := Value.type "tuple", data := Data.seq #[] } : Obj)) ::
  (nat_lit 303, ({ cls := Value.type "code", data := Data.fields #[Value.str (Str.ofString "rpos_end") 598, Value.str (Str.ofString "rpos_end") 599, Value.str (Str.ofString "/claim/cut.py") 600, Value.int 164 0, Value.int 3 0, Value.int 0 0, Value.int 0 0, Value.int 3 0, Value.ref 298, Value.bool true, Value.int 181 0, Value.ref 299, Value.none, Value.ref 300, Value.ref 301, Value.ref 302, Value.int 604 0, Value.int 164 0, Value.str (Str.ofString "/claim/cut.py") 605] } : Obj)) ::
  (nat_lit 304, ({ cls := Value.type "function", data := Data.func { name := Str.ofString "rpos_end", qualname := Str.ofString "rpos_end", params := F304a, body := FuncBody.stmts F304b, scope := F304s, globals := 3, closure := [], defaults := Value.none, kwdefaults := Value.none, pyModule := Value.str (Str.ofString "snobol.primitives") 565, code := Value.ref 303 } } : Obj)) ::
  (nat_lit 305, ({ cls := Value.type "tuple", data := Data.seq #[] } : Obj)) ::
  (nat_lit 307, ({ cls := Value.type "tuple", data := Data.seq #[Value.str (Str.ofString "subject") 610, Value.str (Str.ofString "at") 611, Value.str (Str.ofString "place") 612] } : Obj)) ::
  (nat_lit 308, ({ cls := Value.type "tuple", data := Data.seq #[] } : Obj)) ::
  (nat_lit 310, ({ cls := Value.type "code", data := Data.fields #[Value.str (Str.ofString "tab_end") 607, Value.str (Str.ofString "tab_end") 608, Value.str (Str.ofString "/claim/cut.py") 609, Value.int 166 0, Value.int 3 0, Value.int 0 0, Value.int 0 0, Value.int 3 0, Value.ref 305, Value.bool true, Value.int 181 0, Value.ref 306, Value.none, Value.ref 307, Value.ref 308, Value.ref 309, Value.int 613 0, Value.int 166 0, Value.str (Str.ofString "/claim/cut.py") 614] } : Obj)) ::
  (nat_lit 311, ({ cls := Value.type "function", data := Data.func { name := Str.ofString "tab_end", qualname := Str.ofString "tab_end", params := F311a, body := FuncBody.stmts F311b, scope := F311s, globals := 3, closure := [], defaults := Value.none, kwdefaults := Value.none, pyModule := Value.str (Str.ofString "snobol.primitives") 565, code := Value.ref 310 } } : Obj)) ::
  (nat_lit 312, ({ cls := Value.type "tuple", data := Data.seq #[] } : Obj)) ::
  (nat_lit 314, ({ cls := Value.type "tuple", data := Data.seq #[Value.str (Str.ofString "subject") 619, Value.str (Str.ofString "at") 620, Value.str (Str.ofString "place") 621, Value.str (Str.ofString "goal") 622] } : Obj)) ::
  (nat_lit 315, ({ cls := Value.type "tuple", data := Data.seq #[] } : Obj)) ::
  (nat_lit 317, ({ cls := Value.type "code", data := Data.fields #[Value.str (Str.ofString "rtab_end") 616, Value.str (Str.ofString "rtab_end") 617, Value.str (Str.ofString "/claim/cut.py") 618, Value.int 168 0, Value.int 3 0, Value.int 0 0, Value.int 0 0, Value.int 3 0, Value.ref 312, Value.bool true, Value.int 181 0, Value.ref 313, Value.none, Value.ref 314, Value.ref 315, Value.ref 316, Value.int 623 0, Value.int 168 0, Value.str (Str.ofString "/claim/cut.py") 624] } : Obj)) ::
  (nat_lit 318, ({ cls := Value.type "function", data := Data.func { name := Str.ofString "rtab_end", qualname := Str.ofString "rtab_end", params := F318a, body := FuncBody.stmts F318b, scope := F318s, globals := 3, closure := [], defaults := Value.none, kwdefaults := Value.none, pyModule := Value.str (Str.ofString "snobol.primitives") 565, code := Value.ref 317 } } : Obj)) ::
  (nat_lit 319, ({ cls := Value.type "tuple", data := Data.seq #[] } : Obj)) ::
  (nat_lit 321, ({ cls := Value.type "tuple", data := Data.seq #[Value.str (Str.ofString "subject") 629] } : Obj)) ::
  (nat_lit 322, ({ cls := Value.type "tuple", data := Data.seq #[] } : Obj)) ::
  (nat_lit 324, ({ cls := Value.type "code", data := Data.fields #[Value.str (Str.ofString "rem_end") 626, Value.str (Str.ofString "rem_end") 627, Value.str (Str.ofString "/claim/cut.py") 628, Value.int 171 0, Value.int 1 0, Value.int 0 0, Value.int 0 0, Value.int 3 0, Value.ref 319, Value.bool true, Value.int 181 0, Value.ref 320, Value.none, Value.ref 321, Value.ref 322, Value.ref 323, Value.int 630 0, Value.int 171 0, Value.str (Str.ofString "/claim/cut.py") 631] } : Obj)) ::
  (nat_lit 325, ({ cls := Value.type "function", data := Data.func { name := Str.ofString "rem_end", qualname := Str.ofString "rem_end", params := F325a, body := FuncBody.stmts F325b, scope := F325s, globals := 3, closure := [], defaults := Value.none, kwdefaults := Value.none, pyModule := Value.str (Str.ofString "snobol.primitives") 565, code := Value.ref 324 } } : Obj)) ::
  (nat_lit 326, ({ cls := Value.type "tuple", data := Data.seq #[] } : Obj)) ::
  (nat_lit 328, ({ cls := Value.type "tuple", data := Data.seq #[Value.str (Str.ofString "subject") 636, Value.str (Str.ofString "at") 637, Value.str (Str.ofString "signs") 638] } : Obj)) ::
  (nat_lit 329, ({ cls := Value.type "tuple", data := Data.seq #[] } : Obj)) ::
  (nat_lit 331, ({ cls := Value.type "code", data := Data.fields #[Value.str (Str.ofString "any_at") 633, Value.str (Str.ofString "any_at") 634, Value.str (Str.ofString "/claim/cut.py") 635, Value.int 173 0, Value.int 3 0, Value.int 0 0, Value.int 0 0, Value.int 3 0, Value.ref 326, Value.bool true, Value.int 181 0, Value.ref 327, Value.none, Value.ref 328, Value.ref 329, Value.ref 330, Value.int 639 0, Value.int 173 0, Value.str (Str.ofString "/claim/cut.py") 640] } : Obj)) ::
  (nat_lit 332, ({ cls := Value.type "function", data := Data.func { name := Str.ofString "any_at", qualname := Str.ofString "any_at", params := F332a, body := FuncBody.stmts F332b, scope := F332s, globals := 3, closure := [], defaults := Value.none, kwdefaults := Value.none, pyModule := Value.str (Str.ofString "snobol.primitives") 565, code := Value.ref 331 } } : Obj)) ::
  (nat_lit 333, ({ cls := Value.type "tuple", data := Data.seq #[] } : Obj)) ::
  (nat_lit 335, ({ cls := Value.type "tuple", data := Data.seq #[Value.str (Str.ofString "subject") 645, Value.str (Str.ofString "at") 646, Value.str (Str.ofString "signs") 647] } : Obj)) ::
  (nat_lit 336, ({ cls := Value.type "tuple", data := Data.seq #[] } : Obj)) ::
  (nat_lit 338, ({ cls := Value.type "code", data := Data.fields #[Value.str (Str.ofString "notany_at") 642, Value.str (Str.ofString "notany_at") 643, Value.str (Str.ofString "/claim/cut.py") 644, Value.int 175 0, Value.int 3 0, Value.int 0 0, Value.int 0 0, Value.int 3 0, Value.ref 333, Value.bool true, Value.int 181 0, Value.ref 334, Value.none, Value.ref 335, Value.ref 336, Value.ref 337, Value.int 648 0, Value.int 175 0, Value.str (Str.ofString "/claim/cut.py") 649] } : Obj)) ::
  (nat_lit 339, ({ cls := Value.type "function", data := Data.func { name := Str.ofString "notany_at", qualname := Str.ofString "notany_at", params := F339a, body := FuncBody.stmts F339b, scope := F339s, globals := 3, closure := [], defaults := Value.none, kwdefaults := Value.none, pyModule := Value.str (Str.ofString "snobol.primitives") 565, code := Value.ref 338 } } : Obj)) ::
  (nat_lit 340, ({ cls := Value.type "tuple", data := Data.seq #[] } : Obj)) ::
  (nat_lit 342, ({ cls := Value.type "tuple", data := Data.seq #[Value.str (Str.ofString "subject") 654, Value.str (Str.ofString "at") 655, Value.str (Str.ofString "signs") 656, Value.str (Str.ofString "is_in") 657] } : Obj)) ::
  (nat_lit 343, ({ cls := Value.type "tuple", data := Data.seq #[] } : Obj)) ::
  (nat_lit 345, ({ cls := Value.type "code", data := Data.fields #[Value.str (Str.ofString "run_end") 651, Value.str (Str.ofString "run_end") 652, Value.str (Str.ofString "/claim/cut.py") 653, Value.int 177 0, Value.int 4 0, Value.int 0 0, Value.int 0 0, Value.int 3 0, Value.ref 340, Value.bool true, Value.int 181 0, Value.ref 341, Value.none, Value.ref 342, Value.ref 343, Value.ref 344, Value.int 658 0, Value.int 177 0, Value.str (Str.ofString "/claim/cut.py") 659] } : Obj)) ::
  (nat_lit 346, ({ cls := Value.type "function", data := Data.func { name := Str.ofString "run_end", qualname := Str.ofString "run_end", params := F346a, body := FuncBody.stmts F346b, scope := F346s, globals := 3, closure := [], defaults := Value.none, kwdefaults := Value.none, pyModule := Value.str (Str.ofString "snobol.primitives") 565, code := Value.ref 345 } } : Obj)) ::
  (nat_lit 347, ({ cls := Value.type "tuple", data := Data.seq #[] } : Obj)) ::
  (nat_lit 349, ({ cls := Value.type "tuple", data := Data.seq #[Value.str (Str.ofString "subject") 664, Value.str (Str.ofString "at") 665, Value.str (Str.ofString "signs") 666, Value.str (Str.ofString "end") 667] } : Obj)) ::
  (nat_lit 350, ({ cls := Value.type "tuple", data := Data.seq #[] } : Obj)) ::
  (nat_lit 352, ({ cls := Value.type "code", data := Data.fields #[Value.str (Str.ofString "span_end") 661, Value.str (Str.ofString "span_end") 662, Value.str (Str.ofString "/claim/cut.py") 663, Value.int 181 0, Value.int 3 0, Value.int 0 0, Value.int 0 0, Value.int 3 0, Value.ref 347, Value.bool true, Value.int 181 0, Value.ref 348, Value.none, Value.ref 349, Value.ref 350, Value.ref 351, Value.int 668 0, Value.int 181 0, Value.str (Str.ofString "/claim/cut.py") 669] } : Obj)) ::
  (nat_lit 353, ({ cls := Value.type "function", data := Data.func { name := Str.ofString "span_end", qualname := Str.ofString "span_end", params := F353a, body := FuncBody.stmts F353b, scope := F353s, globals := 3, closure := [], defaults := Value.none, kwdefaults := Value.none, pyModule := Value.str (Str.ofString "snobol.primitives") 565, code := Value.ref 352 } } : Obj)) ::
  (nat_lit 354, ({ cls := Value.type "tuple", data := Data.seq #[] } : Obj)) ::
  (nat_lit 356, ({ cls := Value.type "tuple", data := Data.seq #[Value.str (Str.ofString "subject") 674, Value.str (Str.ofString "at") 675, Value.str (Str.ofString "signs") 676, Value.str (Str.ofString "end") 677] } : Obj)) ::
  (nat_lit 357, ({ cls := Value.type "tuple", data := Data.seq #[] } : Obj)) ::
  (nat_lit 359, ({ cls := Value.type "code", data := Data.fields #[Value.str (Str.ofString "break_end") 671, Value.str (Str.ofString "break_end") 672, Value.str (Str.ofString "/claim/cut.py") 673, Value.int 184 0, Value.int 3 0, Value.int 0 0, Value.int 0 0, Value.int 3 0, Value.ref 354, Value.bool true, Value.int 181 0, Value.ref 355, Value.none, Value.ref 356, Value.ref 357, Value.ref 358, Value.int 678 0, Value.int 184 0, Value.str (Str.ofString "/claim/cut.py") 679] } : Obj)) ::
  (nat_lit 360, ({ cls := Value.type "function", data := Data.func { name := Str.ofString "break_end", qualname := Str.ofString "break_end", params := F360a, body := FuncBody.stmts F360b, scope := F360s, globals := 3, closure := [], defaults := Value.none, kwdefaults := Value.none, pyModule := Value.str (Str.ofString "snobol.primitives") 565, code := Value.ref 359 } } : Obj)) ::
  (nat_lit 361, ({ cls := Value.type "tuple", data := Data.seq #[] } : Obj)) ::
  (nat_lit 363, ({ cls := Value.type "tuple", data := Data.seq #[Value.str (Str.ofString "subject") 684, Value.str (Str.ofString "at") 685, Value.str (Str.ofString "level") 686] } : Obj)) ::
  (nat_lit 364, ({ cls := Value.type "tuple", data := Data.seq #[] } : Obj)) ::
  (nat_lit 366, ({ cls := Value.type "code", data := Data.fields #[Value.str (Str.ofString "bal_end") 681, Value.str (Str.ofString "bal_end") 682, Value.str (Str.ofString "/claim/cut.py") 683, Value.int 187 0, Value.int 2 0, Value.int 0 0, Value.int 0 0, Value.int 3 0, Value.ref 361, Value.bool true, Value.int 181 0, Value.ref 362, Value.none, Value.ref 363, Value.ref 364, Value.ref 365, Value.int 687 0, Value.int 187 0, Value.str (Str.ofString "/claim/cut.py") 688] } : Obj)) ::
  (nat_lit 367, ({ cls := Value.type "function", data := Data.func { name := Str.ofString "bal_end", qualname := Str.ofString "bal_end", params := F367a, body := FuncBody.stmts F367b, scope := F367s, globals := 3, closure := [], defaults := Value.none, kwdefaults := Value.none, pyModule := Value.str (Str.ofString "snobol.primitives") 565, code := Value.ref 366 } } : Obj)) ::
  (nat_lit 368, ({ cls := Value.type "tuple", data := Data.seq #[] } : Obj)) ::
  (nat_lit 370, ({ cls := Value.type "tuple", data := Data.seq #[Value.str (Str.ofString "subject") 693, Value.str (Str.ofString "at") 694, Value.str (Str.ofString "found") 695, Value.str (Str.ofString "end") 696] } : Obj)) ::
  (nat_lit 371, ({ cls := Value.type "tuple", data := Data.seq #[] } : Obj)) ::
  (nat_lit 373, ({ cls := Value.type "code", data := Data.fields #[Value.str (Str.ofString "bal_ends") 690, Value.str (Str.ofString "bal_ends") 691, Value.str (Str.ofString "/claim/cut.py") 692, Value.int 200 0, Value.int 2 0, Value.int 0 0, Value.int 0 0, Value.int 3 0, Value.ref 368, Value.bool true, Value.int 181 0, Value.ref 369, Value.none, Value.ref 370, Value.ref 371, Value.ref 372, Value.int 697 0, Value.int 200 0, Value.str (Str.ofString "/claim/cut.py") 698] } : Obj)) ::
  (nat_lit 374, ({ cls := Value.type "function", data := Data.func { name := Str.ofString "bal_ends", qualname := Str.ofString "bal_ends", params := F374a, body := FuncBody.stmts F374b, scope := F374s, globals := 3, closure := [], defaults := Value.none, kwdefaults := Value.none, pyModule := Value.str (Str.ofString "snobol.primitives") 565, code := Value.ref 373 } } : Obj)) ::
  (nat_lit 375, ({ cls := Value.type "tuple", data := Data.seq #[] } : Obj)) ::
  (nat_lit 377, ({ cls := Value.type "tuple", data := Data.seq #[Value.str (Str.ofString "kind") 703, Value.str (Str.ofString "subject") 704, Value.str (Str.ofString "at") 705, Value.str (Str.ofString "told") 706] } : Obj)) ::
  (nat_lit 378, ({ cls := Value.type "tuple", data := Data.seq #[] } : Obj)) ::
  (nat_lit 380, ({ cls := Value.type "code", data := Data.fields #[Value.str (Str.ofString "one_end") 700, Value.str (Str.ofString "one_end") 701, Value.str (Str.ofString "/claim/cut.py") 702, Value.int 206 0, Value.int 4 0, Value.int 0 0, Value.int 0 0, Value.int 3 0, Value.ref 375, Value.bool true, Value.int 181 0, Value.ref 376, Value.none, Value.ref 377, Value.ref 378, Value.ref 379, Value.int 707 0, Value.int 206 0, Value.str (Str.ofString "/claim/cut.py") 708] } : Obj)) ::
  (nat_lit 381, ({ cls := Value.type "function", data := Data.func { name := Str.ofString "one_end", qualname := Str.ofString "one_end", params := F381a, body := FuncBody.stmts F381b, scope := F381s, globals := 3, closure := [], defaults := Value.none, kwdefaults := Value.none, pyModule := Value.str (Str.ofString "snobol.primitives") 565, code := Value.ref 380 } } : Obj)) ::
  (nat_lit 382, ({ cls := Value.type "tuple", data := Data.seq #[] } : Obj)) ::
  (nat_lit 384, ({ cls := Value.type "tuple", data := Data.seq #[Value.str (Str.ofString "node") 713, Value.str (Str.ofString "subject") 714, Value.str (Str.ofString "at") 715] } : Obj)) ::
  (nat_lit 385, ({ cls := Value.type "tuple", data := Data.seq #[] } : Obj)) ::
  (nat_lit 387, ({ cls := Value.type "code", data := Data.fields #[Value.str (Str.ofString "plain_end") 710, Value.str (Str.ofString "plain_end") 711, Value.str (Str.ofString "/claim/cut.py") 712, Value.int 226 0, Value.int 3 0, Value.int 0 0, Value.int 0 0, Value.int 3 0, Value.ref 382, Value.bool true, Value.int 181 0, Value.ref 383, Value.none, Value.ref 384, Value.ref 385, Value.ref 386, Value.int 716 0, Value.int 226 0, Value.str (Str.ofString "/claim/cut.py") 717] } : Obj)) ::
  (nat_lit 388, ({ cls := Value.type "function", data := Data.func { name := Str.ofString "plain_end", qualname := Str.ofString "plain_end", params := F388a, body := FuncBody.stmts F388b, scope := F388s, globals := 3, closure := [], defaults := Value.none, kwdefaults := Value.none, pyModule := Value.str (Str.ofString "snobol.primitives") 565, code := Value.ref 387 } } : Obj)) ::
  (nat_lit 389, ({ cls := Value.type "tuple", data := Data.seq #[] } : Obj)) ::
  (nat_lit 391, ({ cls := Value.type "tuple", data := Data.seq #[Value.str (Str.ofString "node") 726, Value.str (Str.ofString "subject") 727, Value.str (Str.ofString "is_anchored") 728, Value.str (Str.ofString "host") 729, Value.str (Str.ofString "begin") 730, Value.str (Str.ofString "found") 731] } : Obj)) ::
  (nat_lit 392, ({ cls := Value.type "tuple", data := Data.seq #[] } : Obj)) ::
  (nat_lit 394, ({ cls := Value.type "code", data := Data.fields #[Value.str (Str.ofString "match_plain") 723, Value.str (Str.ofString "match_plain") 724, Value.str (Str.ofString "/claim/cut.py") 725, Value.int 230 0, Value.int 4 0, Value.int 0 0, Value.int 0 0, Value.int 3 0, Value.ref 389, Value.bool true, Value.int 181 0, Value.ref 390, Value.none, Value.ref 391, Value.ref 392, Value.ref 393, Value.int 732 0, Value.int 230 0, Value.str (Str.ofString "/claim/cut.py") 733] } : Obj)) ::
  (nat_lit 395, ({ cls := Value.type "function", data := Data.func { name := Str.ofString "match_plain", qualname := Str.ofString "match_plain", params := F395a, body := FuncBody.stmts F395b, scope := F395s, globals := 3, closure := [], defaults := Value.none, kwdefaults := Value.none, pyModule := Value.str (Str.ofString "snobol.trial") 719, code := Value.ref 394 } } : Obj)) ::
  (nat_lit 396, ({ cls := Value.type "tuple", data := Data.seq #[] } : Obj)) ::
  (nat_lit 398, ({ cls := Value.type "tuple", data := Data.seq #[Value.str (Str.ofString "node") 738, Value.str (Str.ofString "subject") 739, Value.str (Str.ofString "begin") 740, Value.str (Str.ofString "host") 741, Value.str (Str.ofString "found") 742] } : Obj)) ::
  (nat_lit 399, ({ cls := Value.type "tuple", data := Data.seq #[] } : Obj)) ::
  (nat_lit 401, ({ cls := Value.type "code", data := Data.fields #[Value.str (Str.ofString "match_at") 735, Value.str (Str.ofString "match_at") 736, Value.str (Str.ofString "/claim/cut.py") 737, Value.int 236 0, Value.int 4 0, Value.int 0 0, Value.int 0 0, Value.int 3 0, Value.ref 396, Value.bool true, Value.int 181 0, Value.ref 397, Value.none, Value.ref 398, Value.ref 399, Value.ref 400, Value.int 743 0, Value.int 236 0, Value.str (Str.ofString "/claim/cut.py") 744] } : Obj)) ::
  (nat_lit 402, ({ cls := Value.type "function", data := Data.func { name := Str.ofString "match_at", qualname := Str.ofString "match_at", params := F402a, body := FuncBody.stmts F402b, scope := F402s, globals := 3, closure := [], defaults := Value.none, kwdefaults := Value.none, pyModule := Value.str (Str.ofString "snobol.trial") 719, code := Value.ref 401 } } : Obj)) ::
  (nat_lit 403, ({ cls := Value.type "tuple", data := Data.seq #[] } : Obj)) ::
  (nat_lit 405, ({ cls := Value.type "tuple", data := Data.seq #[Value.str (Str.ofString "node") 749, Value.str (Str.ofString "subject") 750, Value.str (Str.ofString "begin") 751, Value.str (Str.ofString "host") 752, Value.str (Str.ofString "pile") 753, Value.str (Str.ofString "way") 754, Value.str (Str.ofString "chain") 755, Value.str (Str.ofString "at") 756, Value.str (Str.ofString "named") 757] } : Obj)) ::
  (nat_lit 406, ({ cls := Value.type "tuple", data := Data.seq #[] } : Obj)) ::
  (nat_lit 408, ({ cls := Value.type "code", data := Data.fields #[Value.str (Str.ofString "tried") 746, Value.str (Str.ofString "tried") 747, Value.str (Str.ofString "/claim/cut.py") 748, Value.int 239 0, Value.int 4 0, Value.int 0 0, Value.int 0 0, Value.int 3 0, Value.ref 403, Value.bool true, Value.int 181 0, Value.ref 404, Value.none, Value.ref 405, Value.ref 406, Value.ref 407, Value.int 758 0, Value.int 239 0, Value.str (Str.ofString "/claim/cut.py") 759] } : Obj)) ::
  (nat_lit 409, ({ cls := Value.type "function", data := Data.func { name := Str.ofString "tried", qualname := Str.ofString "tried", params := F409a, body := FuncBody.stmts F409b, scope := F409s, globals := 3, closure := [], defaults := Value.none, kwdefaults := Value.none, pyModule := Value.str (Str.ofString "snobol.trial") 719, code := Value.ref 408 } } : Obj)) ::
  (nat_lit 410, ({ cls := Value.type "tuple", data := Data.seq #[] } : Obj)) ::
  (nat_lit 412, ({ cls := Value.type "tuple", data := Data.seq #[Value.str (Str.ofString "chain") 764, Value.str (Str.ofString "at") 765, Value.str (Str.ofString "named") 766, Value.str (Str.ofString "subject") 767, Value.str (Str.ofString "pile") 768, Value.str (Str.ofString "host") 769, Value.str (Str.ofString "here") 770, Value.str (Str.ofString "rest") 771, Value.str (Str.ofString "kind") 772, Value.str (Str.ofString "value") 773] } : Obj)) ::
  (nat_lit 413, ({ cls := Value.type "tuple", data := Data.seq #[] } : Obj)) ::
  (nat_lit 415, ({ cls := Value.type "code", data := Data.fields #[Value.str (Str.ofString "advanced") 761, Value.str (Str.ofString "advanced") 762, Value.str (Str.ofString "/claim/cut.py") 763, Value.int 257 0, Value.int 6 0, Value.int 0 0, Value.int 0 0, Value.int 3 0, Value.ref 410, Value.bool true, Value.int 181 0, Value.ref 411, Value.none, Value.ref 412, Value.ref 413, Value.ref 414, Value.int 774 0, Value.int 257 0, Value.str (Str.ofString "/claim/cut.py") 775] } : Obj)) ::
  (nat_lit 416, ({ cls := Value.type "function", data := Data.func { name := Str.ofString "advanced", qualname := Str.ofString "advanced", params := F416a, body := FuncBody.stmts F416b, scope := F416s, globals := 3, closure := [], defaults := Value.none, kwdefaults := Value.none, pyModule := Value.str (Str.ofString "snobol.trial") 719, code := Value.ref 415 } } : Obj)) ::
  (nat_lit 417, ({ cls := Value.type "tuple", data := Data.seq #[] } : Obj)) ::
  (nat_lit 419, ({ cls := Value.type "tuple", data := Data.seq #[Value.str (Str.ofString "here") 780, Value.str (Str.ofString "rest") 781, Value.str (Str.ofString "at") 782, Value.str (Str.ofString "named") 783, Value.str (Str.ofString "pile") 784, Value.str (Str.ofString "kind") 785] } : Obj)) ::
  (nat_lit 420, ({ cls := Value.type "tuple", data := Data.seq #[] } : Obj)) ::
  (nat_lit 422, ({ cls := Value.type "code", data := Data.fields #[Value.str (Str.ofString "led_in") 777, Value.str (Str.ofString "led_in") 778, Value.str (Str.ofString "/claim/cut.py") 779, Value.int 272 0, Value.int 5 0, Value.int 0 0, Value.int 0 0, Value.int 3 0, Value.ref 417, Value.bool true, Value.int 181 0, Value.ref 418, Value.none, Value.ref 419, Value.ref 420, Value.ref 421, Value.int 786 0, Value.int 272 0, Value.str (Str.ofString "/claim/cut.py") 787] } : Obj)) ::
  (nat_lit 423, ({ cls := Value.type "function", data := Data.func { name := Str.ofString "led_in", qualname := Str.ofString "led_in", params := F423a, body := FuncBody.stmts F423b, scope := F423s, globals := 3, closure := [], defaults := Value.none, kwdefaults := Value.none, pyModule := Value.str (Str.ofString "snobol.trial") 719, code := Value.ref 422 } } : Obj)) ::
  (nat_lit 424, ({ cls := Value.type "tuple", data := Data.seq #[] } : Obj)) ::
  (nat_lit 426, ({ cls := Value.type "tuple", data := Data.seq #[Value.str (Str.ofString "here") 792, Value.str (Str.ofString "rest") 793, Value.str (Str.ofString "at") 794, Value.str (Str.ofString "named") 795, Value.str (Str.ofString "subject") 796, Value.str (Str.ofString "pile") 797, Value.str (Str.ofString "host") 798, Value.str (Str.ofString "kind") 799, Value.str (Str.ofString "told") 800, Value.str (Str.ofString "begin") 801] } : Obj)) ::
  (nat_lit 427, ({ cls := Value.type "tuple", data := Data.seq #[] } : Obj)) ::
  (nat_lit 429, ({ cls := Value.type "code", data := Data.fields #[Value.str (Str.ofString "led_out") 789, Value.str (Str.ofString "led_out") 790, Value.str (Str.ofString "/claim/cut.py") 791, Value.int 283 0, Value.int 7 0, Value.int 0 0, Value.int 0 0, Value.int 3 0, Value.ref 424, Value.bool true, Value.int 181 0, Value.ref 425, Value.none, Value.ref 426, Value.ref 427, Value.ref 428, Value.int 802 0, Value.int 283 0, Value.str (Str.ofString "/claim/cut.py") 803] } : Obj)) ::
  (nat_lit 430, ({ cls := Value.type "function", data := Data.func { name := Str.ofString "led_out", qualname := Str.ofString "led_out", params := F430a, body := FuncBody.stmts F430b, scope := F430s, globals := 3, closure := [], defaults := Value.none, kwdefaults := Value.none, pyModule := Value.str (Str.ofString "snobol.trial") 719, code := Value.ref 429 } } : Obj)) ::
  (nat_lit 431, ({ cls := Value.type "tuple", data := Data.seq #[] } : Obj)) ::
  (nat_lit 433, ({ cls := Value.type "tuple", data := Data.seq #[Value.str (Str.ofString "chain") 808, Value.str (Str.ofString "at") 809, Value.str (Str.ofString "named") 810, Value.str (Str.ofString "pile") 811, Value.str (Str.ofString "kind") 812, Value.str (Str.ofString "rest") 813] } : Obj)) ::
  (nat_lit 434, ({ cls := Value.type "tuple", data := Data.seq #[] } : Obj)) ::
  (nat_lit 436, ({ cls := Value.type "code", data := Data.fields #[Value.str (Str.ofString "steered") 805, Value.str (Str.ofString "steered") 806, Value.str (Str.ofString "/claim/cut.py") 807, Value.int 290 0, Value.int 4 0, Value.int 0 0, Value.int 0 0, Value.int 3 0, Value.ref 431, Value.bool true, Value.int 181 0, Value.ref 432, Value.none, Value.ref 433, Value.ref 434, Value.ref 435, Value.int 814 0, Value.int 290 0, Value.str (Str.ofString "/claim/cut.py") 815] } : Obj)) ::
  (nat_lit 437, ({ cls := Value.type "function", data := Data.func { name := Str.ofString "steered", qualname := Str.ofString "steered", params := F437a, body := FuncBody.stmts F437b, scope := F437s, globals := 3, closure := [], defaults := Value.none, kwdefaults := Value.none, pyModule := Value.str (Str.ofString "snobol.trial") 719, code := Value.ref 436 } } : Obj)) ::
  (nat_lit 438, ({ cls := Value.type "tuple", data := Data.seq #[] } : Obj)) ::
  (nat_lit 440, ({ cls := Value.type "tuple", data := Data.seq #[Value.str (Str.ofString "here") 820, Value.str (Str.ofString "rest") 821, Value.str (Str.ofString "at") 822, Value.str (Str.ofString "named") 823, Value.str (Str.ofString "subject") 824, Value.str (Str.ofString "pile") 825, Value.str (Str.ofString "host") 826, Value.str (Str.ofString "kind") 827, Value.str (Str.ofString "ends") 828, Value.str (Str.ofString "end") 829, Value.str (Str.ofString "plain") 830] } : Obj)) ::
  (nat_lit 441, ({ cls := Value.type "tuple", data := Data.seq #[] } : Obj)) ::
  (nat_lit 443, ({ cls := Value.type "code", data := Data.fields #[Value.str (Str.ofString "taken") 817, Value.str (Str.ofString "taken") 818, Value.str (Str.ofString "/claim/cut.py") 819, Value.int 298 0, Value.int 7 0, Value.int 0 0, Value.int 0 0, Value.int 3 0, Value.ref 438, Value.bool true, Value.int 181 0, Value.ref 439, Value.none, Value.ref 440, Value.ref 441, Value.ref 442, Value.int 831 0, Value.int 298 0, Value.str (Str.ofString "/claim/cut.py") 832] } : Obj)) ::
  (nat_lit 444, ({ cls := Value.type "function", data := Data.func { name := Str.ofString "taken", qualname := Str.ofString "taken", params := F444a, body := FuncBody.stmts F444b, scope := F444s, globals := 3, closure := [], defaults := Value.none, kwdefaults := Value.none, pyModule := Value.str (Str.ofString "snobol.trial") 719, code := Value.ref 443 } } : Obj)) ::
  (nat_lit 452, ({ cls := Value.type "tuple", data := Data.seq #[Value.int 32 848, Value.int 5000 849, Value.int 30 850, Value.int 5000 851] } : Obj)) ::
  (nat_lit 453, ({ cls := Value.type "tuple", data := Data.seq #[] } : Obj)) ::
  (nat_lit 455, ({ cls := Value.type "tuple", data := Data.seq #[Value.str (Str.ofString "self") 855, Value.str (Str.ofString "width") 856, Value.str (Str.ofString "most_steps") 857, Value.str (Str.ofString "most_depth") 858, Value.str (Str.ofString "most_length") 859] } : Obj)) ::
  (nat_lit 456, ({ cls := Value.type "tuple", data := Data.seq #[] } : Obj)) ::
  (nat_lit 458, ({ cls := Value.type "code", data := Data.fields #[Value.str (Str.ofString "__init__") 852, Value.str (Str.ofString "World.__init__") 853, Value.str (Str.ofString "/claim/cut.py") 854, Value.int 317 0, Value.int 5 0, Value.int 0 0, Value.int 0 0, Value.int 3 0, Value.ref 453, Value.bool true, Value.int 181 0, Value.ref 454, Value.none, Value.ref 455, Value.ref 456, Value.ref 457, Value.int 860 0, Value.int 317 0, Value.str (Str.ofString "/claim/cut.py") 861] } : Obj)) ::
  (nat_lit 459, ({ cls := Value.type "function", data := Data.func { name := Str.ofString "__init__", qualname := Str.ofString "World.__init__", params := F459a, body := FuncBody.stmts F459b, scope := F459s, globals := 3, closure := [], defaults := Value.ref 452, kwdefaults := Value.none, pyModule := Value.str (Str.ofString "snobol.world") 834, code := Value.ref 458 } } : Obj)) ::
  (nat_lit 460, ({ cls := Value.type "tuple", data := Data.seq #[Value.str (Str.ofString "aside") 863, Value.str (Str.ofString "depth") 864, Value.str (Str.ofString "evaluate") 865, Value.str (Str.ofString "functions") 866, Value.str (Str.ofString "holders") 867, Value.str (Str.ofString "inputs") 868, Value.str (Str.ofString "kept_names") 869, Value.str (Str.ofString "keywords") 870, Value.str (Str.ofString "labels") 871, Value.str (Str.ofString "made") 872, Value.str (Str.ofString "make_code") 873, Value.str (Str.ofString "matcher") 874, Value.str (Str.ofString "most_depth") 875, Value.str (Str.ofString "most_items") 876, Value.str (Str.ofString "most_length") 877, Value.str (Str.ofString "most_steps") 878, Value.str (Str.ofString "nested") 879, Value.str (Str.ofString "opsyns") 880, Value.str (Str.ofString "outputs") 881, Value.str (Str.ofString "read_names") 882, Value.str (Str.ofString "steps") 883, Value.str (Str.ofString "store") 884, Value.str (Str.ofString "traced") 885, Value.str (Str.ofString "traces") 886, Value.str (Str.ofString "width") 887, Value.str (Str.ofString "write_names") 888] } : Obj)) ::
  (nat_lit 461, ({ cls := Value.type "dict", data := Data.dict #[{ hash := PyData.keyHash P (Str.ofString "__module__"), key := Value.str (Str.ofString "__module__") 843, val := Value.str (Str.ofString "snobol.world") 834 }, { hash := PyData.keyHash P (Str.ofString "__firstlineno__"), key := Value.str (Str.ofString "__firstlineno__") 847, val := Value.int 315 846 }, { hash := PyData.keyHash P (Str.ofString "__init__"), key := Value.str (Str.ofString "__init__") 862, val := Value.ref 459 }, { hash := PyData.keyHash P (Str.ofString "__static_attributes__"), key := Value.str (Str.ofString "__static_attributes__") 889, val := Value.ref 460 }, { hash := PyData.keyHash P (Str.ofString "__dict__"), key := Value.str (Str.ofString "__dict__") 891, val := Value.ref 463 }, { hash := PyData.keyHash P (Str.ofString "__weakref__"), key := Value.str (Str.ofString "__weakref__") 893, val := Value.ref 464 }, { hash := PyData.keyHash P (Str.ofString "__doc__"), key := Value.str (Str.ofString "__doc__") 894, val := Value.none }] 4 } : Obj)) ::
  (nat_lit 462, ({ cls := Value.type "type", data := Data.cls { name := Str.ofString "World", bases := [Value.type "object"], mro := [Value.ref 462, Value.type "object"], ns := 461, qualname := Str.ofString "World" }, slots := #[none, none, some (Value.str (Str.ofString "World") 836), some (Value.str (Str.ofString "World") 844), some (Value.builtin "object.__new__"), some (Value.bool true)] } : Obj)) ::
  (nat_lit 463, ({ cls := Value.type "getset_descriptor", data := Data.fields #[Value.str (Str.ofString "__dict__") 890, Value.ref 462, Value.builtin "function.__dict__", Value.builtin "function.__dict__#set"] } : Obj)) ::
  (nat_lit 464, ({ cls := Value.type "getset_descriptor", data := Data.fields #[Value.str (Str.ofString "__weakref__") 892, Value.ref 462, Value.builtin "ExceptionGroup.__weakref__", Value.none] } : Obj)) ::
  (nat_lit 467, ({ cls := Value.type "tuple", data := Data.seq #[] } : Obj)) ::
  (nat_lit 470, ({ cls := Value.type "code", data := Data.fields #[Value.str (Str.ofString "_law_sizes") 899, Value.str (Str.ofString "_law_sizes") 900, Value.str (Str.ofString "/claim/cut.py") 901, Value.int 345 0, Value.int 1 0, Value.int 0 0, Value.int 0 0, Value.int 3 0, Value.ref 467, Value.bool true, Value.int 181 0, Value.ref 468, Value.none, Value.none, Value.none, Value.ref 469, Value.int 902 0, Value.int 345 0, Value.str (Str.ofString "/claim/cut.py") 903] } : Obj)) ::
  (nat_lit 471, ({ cls := Value.type "function", data := Data.func { name := Str.ofString "_law_sizes", qualname := Str.ofString "_law_sizes", params := F471a, body := FuncBody.stmts F471b, scope := F471s, globals := 3, closure := [], defaults := Value.none, kwdefaults := Value.none, pyModule := Value.str (Str.ofString "law_xw0308_02") 897, code := Value.ref 470 } } : Obj)) ::
  (nat_lit 472, ({ cls := Value.type "tuple", data := Data.seq #[] } : Obj)) ::
  (nat_lit 474, ({ cls := Value.type "tuple", data := Data.seq #[Value.str (Str.ofString "heaps") 908, Value.str (Str.ofString "old") 909, Value.str (Str.ofString "new") 910, Value.str (Str.ofString "many") 911, Value.str (Str.ofString "found") 912] } : Obj)) ::
  (nat_lit 475, ({ cls := Value.type "tuple", data := Data.seq #[Value.str (Str.ofString "new") 913] } : Obj)) ::
  (nat_lit 477, ({ cls := Value.type "code", data := Data.fields #[Value.str (Str.ofString "_law_marked") 905, Value.str (Str.ofString "_law_marked") 906, Value.str (Str.ofString "/claim/cut.py") 907, Value.int 347 0, Value.int 4 0, Value.int 0 0, Value.int 0 0, Value.int 3 0, Value.ref 472, Value.bool true, Value.int 181 0, Value.ref 473, Value.none, Value.ref 474, Value.ref 475, Value.ref 476, Value.int 914 0, Value.int 347 0, Value.str (Str.ofString "/claim/cut.py") 915] } : Obj)) ::
  (nat_lit 478, ({ cls := Value.type "function", data := Data.func { name := Str.ofString "_law_marked", qualname := Str.ofString "_law_marked", params := F478a, body := FuncBody.stmts F478b, scope := F478s, globals := 3, closure := [], defaults := Value.none, kwdefaults := Value.none, pyModule := Value.str (Str.ofString "law_xw0308_02") 897, code := Value.ref 477 } } : Obj)) ::
  (nat_lit 479, ({ cls := Value.type "tuple", data := Data.seq #[] } : Obj)) ::
  (nat_lit 481, ({ cls := Value.type "tuple", data := Data.seq #[Value.str (Str.ofString "heaps") 920, Value.str (Str.ofString "sizes") 921, Value.str (Str.ofString "slope") 922, Value.str (Str.ofString "least") 923, Value.str (Str.ofString "whole") 924, Value.str (Str.ofString "marked") 925] } : Obj)) ::
  (nat_lit 482, ({ cls := Value.type "tuple", data := Data.seq #[] } : Obj)) ::
  (nat_lit 484, ({ cls := Value.type "code", data := Data.fields #[Value.str (Str.ofString "_law_done") 917, Value.str (Str.ofString "_law_done") 918, Value.str (Str.ofString "/claim/cut.py") 919, Value.int 350 0, Value.int 1 0, Value.int 0 0, Value.int 0 0, Value.int 3 0, Value.ref 479, Value.bool true, Value.int 181 0, Value.ref 480, Value.none, Value.ref 481, Value.ref 482, Value.ref 483, Value.int 926 0, Value.int 350 0, Value.str (Str.ofString "/claim/cut.py") 927] } : Obj)) ::
  (nat_lit 485, ({ cls := Value.type "function", data := Data.func { name := Str.ofString "_law_done", qualname := Str.ofString "_law_done", params := F485a, body := FuncBody.stmts F485b, scope := F485s, globals := 3, closure := [], defaults := Value.none, kwdefaults := Value.none, pyModule := Value.str (Str.ofString "law_xw0308_02") 897, code := Value.ref 484 } } : Obj)) ::
  (nat_lit 486, ({ cls := Value.type "tuple", data := Data.seq #[] } : Obj)) ::
  (nat_lit 489, ({ cls := Value.type "code", data := Data.fields #[Value.str (Str.ofString "law") 929, Value.str (Str.ofString "law") 930, Value.str (Str.ofString "/claim/cut.py") 931, Value.int 361 0, Value.int 1 0, Value.int 0 0, Value.int 0 0, Value.int 3 0, Value.ref 486, Value.bool true, Value.int 181 0, Value.ref 487, Value.none, Value.none, Value.none, Value.ref 488, Value.int 932 0, Value.int 361 0, Value.str (Str.ofString "/claim/cut.py") 933] } : Obj)) ::
  (nat_lit 490, ({ cls := Value.type "function", data := Data.func { name := Str.ofString "law", qualname := Str.ofString "law", params := F490a, body := FuncBody.stmts F490b, scope := F490s, globals := 3, closure := [], defaults := Value.none, kwdefaults := Value.none, pyModule := Value.str (Str.ofString "law_xw0308_02") 897, code := Value.ref 489 } } : Obj)) :: []
set_option maxRecDepth 100000 in
set_option maxHeartbeats 8000000 in
noncomputable def K : Params → Frag := by
  refine (?f : (x : Params → Frag) → x = Kraw → Params → Frag) ?x ?h
  case f => exact fun x _ => x
  case h =>
    delta Kraw F21a F21b F21s F28a F28b F28s F35a F35b F35s F42a F42b F42s F49a F49b F49s F66a F66b F66s F100a F100b F100s F121a F121b F121s F135a F135b F135s F142a F142b F142s F149a F149b F149s F156a F156b F156s F163a F163b F163s F170a F170b F170s F177a F177b F177s F191a F191b F191s F198a F198b F198s F205a F205b F205s F212a F212b F212s F224a F224b F224s F231a F231b F231s F238a F238b F238s F248a F248b F248s F255a F255b F255s F262a F262b F262s F269a F269b F269s F276a F276b F276s F283a F283b F283s F290a F290b F290s F297a F297b F297s F304a F304b F304s F311a F311b F311s F318a F318b F318s F325a F325b F325s F332a F332b F332s F339a F339b F339s F346a F346b F346s F353a F353b F353s F360a F360b F360s F367a F367b F367s F374a F374b F374s F381a F381b F381s F388a F388b F388s F395a F395b F395s F402a F402b F402s F409a F409b F409s F416a F416b F416s F423a F423b F423s F430a F430b F430s F437a F437b F437s F444a F444b F444s F459a F459b F459s F471a F471b F471s F478a F478b F478s F485a F485b F485s F490a F490b F490s
    exact rfl
def as : List Addr := [nat_lit 2, nat_lit 3, nat_lit 15, nat_lit 17, nat_lit 18, nat_lit 20, nat_lit 21, nat_lit 22, nat_lit 24, nat_lit 25, nat_lit 27, nat_lit 28, nat_lit 29, nat_lit 31, nat_lit 32, nat_lit 34, nat_lit 35, nat_lit 36, nat_lit 38, nat_lit 39, nat_lit 41, nat_lit 42, nat_lit 43, nat_lit 45, nat_lit 46, nat_lit 48, nat_lit 49, nat_lit 50, nat_lit 53, nat_lit 58, nat_lit 59, nat_lit 60, nat_lit 62, nat_lit 63, nat_lit 65, nat_lit 66, nat_lit 67, nat_lit 68, nat_lit 69, nat_lit 70, nat_lit 80, nat_lit 81, nat_lit 82, nat_lit 83, nat_lit 84, nat_lit 94, nat_lit 96, nat_lit 97, nat_lit 99, nat_lit 100, nat_lit 101, nat_lit 102, nat_lit 103, nat_lit 104, nat_lit 105, nat_lit 115, nat_lit 117, nat_lit 118, nat_lit 120, nat_lit 121, nat_lit 122, nat_lit 123, nat_lit 124, nat_lit 125, nat_lit 126, nat_lit 129, nat_lit 131, nat_lit 132, nat_lit 134, nat_lit 135, nat_lit 136, nat_lit 138, nat_lit 139, nat_lit 141, nat_lit 142, nat_lit 143, nat_lit 145, nat_lit 146, nat_lit 148, nat_lit 149, nat_lit 150, nat_lit 152, nat_lit 153, nat_lit 155, nat_lit 156, nat_lit 157, nat_lit 159, nat_lit 160, nat_lit 162, nat_lit 163, nat_lit 164, nat_lit 166, nat_lit 167, nat_lit 169, nat_lit 170, nat_lit 171, nat_lit 173, nat_lit 174, nat_lit 176, nat_lit 177, nat_lit 185, nat_lit 187, nat_lit 188, nat_lit 190, nat_lit 191, nat_lit 192, nat_lit 194, nat_lit 195, nat_lit 197, nat_lit 198, nat_lit 199, nat_lit 201, nat_lit 202, nat_lit 204, nat_lit 205, nat_lit 206, nat_lit 208, nat_lit 209, nat_lit 211, nat_lit 212, nat_lit 213, nat_lit 214, nat_lit 215, nat_lit 216, nat_lit 217, nat_lit 220, nat_lit 223, nat_lit 224, nat_lit 225, nat_lit 227, nat_lit 228, nat_lit 230, nat_lit 231, nat_lit 232, nat_lit 234, nat_lit 235, nat_lit 237, nat_lit 238, nat_lit 239, nat_lit 240, nat_lit 241, nat_lit 242, nat_lit 244, nat_lit 245, nat_lit 247, nat_lit 248, nat_lit 249, nat_lit 251, nat_lit 252, nat_lit 254, nat_lit 255, nat_lit 256, nat_lit 258, nat_lit 259, nat_lit 261, nat_lit 262, nat_lit 263, nat_lit 265, nat_lit 266, nat_lit 268, nat_lit 269, nat_lit 270, nat_lit 272, nat_lit 273, nat_lit 275, nat_lit 276, nat_lit 277, nat_lit 279, nat_lit 280, nat_lit 282, nat_lit 283, nat_lit 284, nat_lit 286, nat_lit 287, nat_lit 289, nat_lit 290, nat_lit 291, nat_lit 293, nat_lit 294, nat_lit 296, nat_lit 297, nat_lit 298, nat_lit 300, nat_lit 301, nat_lit 303, nat_lit 304, nat_lit 305, nat_lit 307, nat_lit 308, nat_lit 310, nat_lit 311, nat_lit 312, nat_lit 314, nat_lit 315, nat_lit 317, nat_lit 318, nat_lit 319, nat_lit 321, nat_lit 322, nat_lit 324, nat_lit 325, nat_lit 326, nat_lit 328, nat_lit 329, nat_lit 331, nat_lit 332, nat_lit 333, nat_lit 335, nat_lit 336, nat_lit 338, nat_lit 339, nat_lit 340, nat_lit 342, nat_lit 343, nat_lit 345, nat_lit 346, nat_lit 347, nat_lit 349, nat_lit 350, nat_lit 352, nat_lit 353, nat_lit 354, nat_lit 356, nat_lit 357, nat_lit 359, nat_lit 360, nat_lit 361, nat_lit 363, nat_lit 364, nat_lit 366, nat_lit 367, nat_lit 368, nat_lit 370, nat_lit 371, nat_lit 373, nat_lit 374, nat_lit 375, nat_lit 377, nat_lit 378, nat_lit 380, nat_lit 381, nat_lit 382, nat_lit 384, nat_lit 385, nat_lit 387, nat_lit 388, nat_lit 389, nat_lit 391, nat_lit 392, nat_lit 394, nat_lit 395, nat_lit 396, nat_lit 398, nat_lit 399, nat_lit 401, nat_lit 402, nat_lit 403, nat_lit 405, nat_lit 406, nat_lit 408, nat_lit 409, nat_lit 410, nat_lit 412, nat_lit 413, nat_lit 415, nat_lit 416, nat_lit 417, nat_lit 419, nat_lit 420, nat_lit 422, nat_lit 423, nat_lit 424, nat_lit 426, nat_lit 427, nat_lit 429, nat_lit 430, nat_lit 431, nat_lit 433, nat_lit 434, nat_lit 436, nat_lit 437, nat_lit 438, nat_lit 440, nat_lit 441, nat_lit 443, nat_lit 444, nat_lit 452, nat_lit 453, nat_lit 455, nat_lit 456, nat_lit 458, nat_lit 459, nat_lit 460, nat_lit 461, nat_lit 462, nat_lit 463, nat_lit 464, nat_lit 467, nat_lit 470, nat_lit 471, nat_lit 472, nat_lit 474, nat_lit 475, nat_lit 477, nat_lit 478, nat_lit 479, nat_lit 481, nat_lit 482, nat_lit 484, nat_lit 485, nat_lit 486, nat_lit 489, nat_lit 490]
noncomputable abbrev H : Hook := kHook K as (fun _ => by kernel_rfl)
def o11 : Obj := { cls := .type "tuple", data := .seq #[] }
def o12 : Obj := { cls := .none, data := .fields #[] }
def o13 : Obj := { cls := .type "code", data := .fields #[.str "<module>" 182, .str "<module>" 183, .str "/claim/cut.py" 184, .int 1 0, .int 0 0, .int 0 0, .int 0 0, .int 0 0, .ref 11, .bool false, .int 181 0, .ref 12, .none, .none, .none, .none, .int 185 0, .int 1 0, .str "/claim/cut.py" 186] }
def o14 : Obj := { cls := .type "frame", slots := #[some (.ref 13), some (.ref 3), some (.ref 3), none, some (.str "__main__" 164), none, some (.ref 0)] }
noncomputable def tree0 (P : Params) : BT := (.node (boot_o_0 P) (.node (boot_o_1 P) (.node (boot_o_3 P) (.node (boot_o_7 P) .nil .nil) (.node (o11) .nil .nil)) (.node (boot_o_5 P) (.node (boot_o_9 P) .nil .nil) (.node (o13) .nil .nil))) (.node (boot_o_2 P) (.node (boot_o_4 P) (.node (boot_o_8 P) .nil .nil) (.node (o12) .nil .nil)) (.node (boot_o_6 P) (.node (boot_o_10 P) .nil .nil) (.node (o14) .nil .nil))))
noncomputable def v1o2 (P : Params) : Obj := { cls := Value.none, data := Data.dict #[{ hash := PyData.keyHash P (Str.ofString "type.__subclasses__.Exception.0"), key := Value.str (Str.ofString "type.__subclasses__.Exception.0") 280, val := Value.int 69 0 }, { hash := PyData.keyHash P (Str.ofString "type.__subclasses__.Exception.n"), key := Value.str (Str.ofString "type.__subclasses__.Exception.n") 281, val := Value.int 1 0 }] 2 }
noncomputable def v1o3 (P : Params) : Obj := { cls := Value.type "dict", data := Data.dict #[{ hash := PyData.keyHash P (Str.ofString "__name__"), key := Value.str (Str.ofString "__name__") 165, val := Value.str (Str.ofString "snobol.values") 248 }, { hash := PyData.keyHash P (Str.ofString "__doc__"), key := Value.str (Str.ofString "__doc__") 166, val := Value.none }, { hash := PyData.keyHash P (Str.ofString "__package__"), key := Value.str (Str.ofString "__package__") 167, val := Value.none }, { hash := PyData.keyHash P (Str.ofString "__loader__"), key := Value.str (Str.ofString "__loader__") 168, val := Value.builtin "__main__.__loader__#opaque" }, { hash := PyData.keyHash P (Str.ofString "__spec__"), key := Value.str (Str.ofString "__spec__") 169, val := Value.none }, { hash := PyData.keyHash P (Str.ofString "__annotations__"), key := Value.str (Str.ofString "__annotations__") 170, val := Value.ref 6 }, { hash := PyData.keyHash P (Str.ofString "__builtins__"), key := Value.str (Str.ofString "__builtins__") 171, val := Value.ref 4 }, { hash := PyData.keyHash P (Str.ofString "__file__"), key := Value.str (Str.ofString "__file__") 173, val := Value.str (Str.ofString "/claim/cut.py") 172 }, { hash := PyData.keyHash P (Str.ofString "__cached__"), key := Value.str (Str.ofString "__cached__") 174, val := Value.none }, { hash := PyData.keyHash P (Str.ofString "give_names"), key := Value.str (Str.ofString "give_names") 198, val := Value.ref 21 }, { hash := PyData.keyHash P (Str.ofString "three_pieces"), key := Value.str (Str.ofString "three_pieces") 206, val := Value.ref 28 }, { hash := PyData.keyHash P (Str.ofString "spliced"), key := Value.str (Str.ofString "spliced") 218, val := Value.ref 35 }, { hash := PyData.keyHash P (Str.ofString "replace_once"), key := Value.str (Str.ofString "replace_once") 232, val := Value.ref 42 }, { hash := PyData.keyHash P (Str.ofString "replace_often"), key := Value.str (Str.ofString "replace_often") 247, val := Value.ref 49 }, { hash := PyData.keyHash P (Str.ofString "SnobolError"), key := Value.str (Str.ofString "SnobolError") 283, val := Value.ref 69 }, { hash := PyData.keyHash P (Str.ofString "Failure"), key := Value.str (Str.ofString "Failure") 303, val := Value.ref 82 }] 16 }
noncomputable def v1o12 (P : Params) : Obj := { cls := Value.none, data := Data.fields #[Value.int 2 0, Value.int 0 0, Value.ref 20, Value.int 5 0, Value.int 0 0, Value.ref 27, Value.int 7 0, Value.int 0 0, Value.ref 34, Value.int 10 0, Value.int 0 0, Value.ref 41, Value.int 17 0, Value.int 0 0, Value.ref 48, Value.int 26 0, Value.int 0 0, Value.ref 56, Value.int 32 0, Value.int 0 0, Value.ref 78] }
noncomputable def v1o15 (P : Params) : Obj := { cls := Value.type "tuple", data := Data.seq #[] }
noncomputable def v1o16 (P : Params) : Obj := { cls := Value.none, data := Data.fields #[] }
noncomputable def v1o17 (P : Params) : Obj := { cls := Value.type "tuple", data := Data.seq #[Value.str (Str.ofString "found") 192, Value.str (Str.ofString "give") 193, Value.str (Str.ofString "ref") 194, Value.str (Str.ofString "text") 195] }
noncomputable def v1o18 (P : Params) : Obj := { cls := Value.type "tuple", data := Data.seq #[] }
noncomputable def v1o19 (P : Params) : Obj := { cls := Value.none, data := Data.func { name := Str.ofString "give_names", qualname := Str.ofString "give_names", params := F19a, body := FuncBody.stmts F19b, scope := F19s, globals := 0, closure := [], defaults := Value.none, kwdefaults := Value.none } }
noncomputable def v1o20 (P : Params) : Obj := { cls := Value.type "code", data := Data.fields #[Value.str (Str.ofString "give_names") 189, Value.str (Str.ofString "give_names") 190, Value.str (Str.ofString "/claim/cut.py") 191, Value.int 2 0, Value.int 2 0, Value.int 0 0, Value.int 0 0, Value.int 3 0, Value.ref 15, Value.bool true, Value.int 181 0, Value.ref 16, Value.none, Value.ref 17, Value.ref 18, Value.ref 19, Value.int 196 0, Value.int 2 0, Value.str (Str.ofString "/claim/cut.py") 197] }
noncomputable def v1o21 (P : Params) : Obj := { cls := Value.type "function", data := Data.func { name := Str.ofString "give_names", qualname := Str.ofString "give_names", params := F21a, body := FuncBody.stmts F21b, scope := F21s, globals := 3, closure := [], defaults := Value.none, kwdefaults := Value.none, pyModule := Value.str (Str.ofString "snobol.matchcore") 187, code := Value.ref 20 } }
noncomputable def v1o22 (P : Params) : Obj := { cls := Value.type "tuple", data := Data.seq #[] }
noncomputable def v1o23 (P : Params) : Obj := { cls := Value.none, data := Data.fields #[] }
noncomputable def v1o24 (P : Params) : Obj := { cls := Value.type "tuple", data := Data.seq #[Value.str (Str.ofString "subject") 202, Value.str (Str.ofString "found") 203] }
noncomputable def v1o25 (P : Params) : Obj := { cls := Value.type "tuple", data := Data.seq #[] }
noncomputable def v1o26 (P : Params) : Obj := { cls := Value.none, data := Data.func { name := Str.ofString "three_pieces", qualname := Str.ofString "three_pieces", params := F26a, body := FuncBody.stmts F26b, scope := F26s, globals := 0, closure := [], defaults := Value.none, kwdefaults := Value.none } }
noncomputable def v1o27 (P : Params) : Obj := { cls := Value.type "code", data := Data.fields #[Value.str (Str.ofString "three_pieces") 199, Value.str (Str.ofString "three_pieces") 200, Value.str (Str.ofString "/claim/cut.py") 201, Value.int 5 0, Value.int 2 0, Value.int 0 0, Value.int 0 0, Value.int 3 0, Value.ref 22, Value.bool true, Value.int 181 0, Value.ref 23, Value.none, Value.ref 24, Value.ref 25, Value.ref 26, Value.int 204 0, Value.int 5 0, Value.str (Str.ofString "/claim/cut.py") 205] }
noncomputable def v1o28 (P : Params) : Obj := { cls := Value.type "function", data := Data.func { name := Str.ofString "three_pieces", qualname := Str.ofString "three_pieces", params := F28a, body := FuncBody.stmts F28b, scope := F28s, globals := 3, closure := [], defaults := Value.none, kwdefaults := Value.none, pyModule := Value.str (Str.ofString "snobol.matchcore") 187, code := Value.ref 27 } }
noncomputable def v1o29 (P : Params) : Obj := { cls := Value.type "tuple", data := Data.seq #[] }
noncomputable def v1o30 (P : Params) : Obj := { cls := Value.none, data := Data.fields #[] }
noncomputable def v1o31 (P : Params) : Obj := { cls := Value.type "tuple", data := Data.seq #[Value.str (Str.ofString "subject") 210, Value.str (Str.ofString "found") 211, Value.str (Str.ofString "text") 212, Value.str (Str.ofString "ahead") 213, Value.str (Str.ofString "met") 214, Value.str (Str.ofString "behind") 215] }
noncomputable def v1o32 (P : Params) : Obj := { cls := Value.type "tuple", data := Data.seq #[] }
noncomputable def v1o33 (P : Params) : Obj := { cls := Value.none, data := Data.func { name := Str.ofString "spliced", qualname := Str.ofString "spliced", params := F33a, body := FuncBody.stmts F33b, scope := F33s, globals := 0, closure := [], defaults := Value.none, kwdefaults := Value.none } }
noncomputable def v1o34 (P : Params) : Obj := { cls := Value.type "code", data := Data.fields #[Value.str (Str.ofString "spliced") 207, Value.str (Str.ofString "spliced") 208, Value.str (Str.ofString "/claim/cut.py") 209, Value.int 7 0, Value.int 3 0, Value.int 0 0, Value.int 0 0, Value.int 3 0, Value.ref 29, Value.bool true, Value.int 181 0, Value.ref 30, Value.none, Value.ref 31, Value.ref 32, Value.ref 33, Value.int 216 0, Value.int 7 0, Value.str (Str.ofString "/claim/cut.py") 217] }
noncomputable def v1o35 (P : Params) : Obj := { cls := Value.type "function", data := Data.func { name := Str.ofString "spliced", qualname := Str.ofString "spliced", params := F35a, body := FuncBody.stmts F35b, scope := F35s, globals := 3, closure := [], defaults := Value.none, kwdefaults := Value.none, pyModule := Value.str (Str.ofString "snobol.matchcore") 187, code := Value.ref 34 } }
noncomputable def v1o36 (P : Params) : Obj := { cls := Value.type "tuple", data := Data.seq #[] }
noncomputable def v1o37 (P : Params) : Obj := { cls := Value.none, data := Data.fields #[] }
noncomputable def v1o38 (P : Params) : Obj := { cls := Value.type "tuple", data := Data.seq #[Value.str (Str.ofString "matcher") 222, Value.str (Str.ofString "node") 223, Value.str (Str.ofString "subject") 224, Value.str (Str.ofString "is_anchored") 225, Value.str (Str.ofString "host") 226, Value.str (Str.ofString "text_of") 227, Value.str (Str.ofString "found") 228, Value.str (Str.ofString "text") 229] }
noncomputable def v1o39 (P : Params) : Obj := { cls := Value.type "tuple", data := Data.seq #[] }
noncomputable def v1o40 (P : Params) : Obj := { cls := Value.none, data := Data.func { name := Str.ofString "replace_once", qualname := Str.ofString "replace_once", params := F40a, body := FuncBody.stmts F40b, scope := F40s, globals := 0, closure := [], defaults := Value.none, kwdefaults := Value.none } }
noncomputable def v1o41 (P : Params) : Obj := { cls := Value.type "code", data := Data.fields #[Value.str (Str.ofString "replace_once") 219, Value.str (Str.ofString "replace_once") 220, Value.str (Str.ofString "/claim/cut.py") 221, Value.int 10 0, Value.int 6 0, Value.int 0 0, Value.int 0 0, Value.int 3 0, Value.ref 36, Value.bool true, Value.int 181 0, Value.ref 37, Value.none, Value.ref 38, Value.ref 39, Value.ref 40, Value.int 230 0, Value.int 10 0, Value.str (Str.ofString "/claim/cut.py") 231] }
noncomputable def v1o42 (P : Params) : Obj := { cls := Value.type "function", data := Data.func { name := Str.ofString "replace_once", qualname := Str.ofString "replace_once", params := F42a, body := FuncBody.stmts F42b, scope := F42s, globals := 3, closure := [], defaults := Value.none, kwdefaults := Value.none, pyModule := Value.str (Str.ofString "snobol.matchcore") 187, code := Value.ref 41 } }
noncomputable def v1o43 (P : Params) : Obj := { cls := Value.type "tuple", data := Data.seq #[] }
noncomputable def v1o44 (P : Params) : Obj := { cls := Value.none, data := Data.fields #[] }
noncomputable def v1o45 (P : Params) : Obj := { cls := Value.type "tuple", data := Data.seq #[Value.str (Str.ofString "matcher") 236, Value.str (Str.ofString "node") 237, Value.str (Str.ofString "subject") 238, Value.str (Str.ofString "is_anchored") 239, Value.str (Str.ofString "host") 240, Value.str (Str.ofString "text_of") 241, Value.str (Str.ofString "most") 242, Value.str (Str.ofString "many") 243, Value.str (Str.ofString "later") 244] }
noncomputable def v1o46 (P : Params) : Obj := { cls := Value.type "tuple", data := Data.seq #[] }
noncomputable def v1o47 (P : Params) : Obj := { cls := Value.none, data := Data.func { name := Str.ofString "replace_often", qualname := Str.ofString "replace_often", params := F47a, body := FuncBody.stmts F47b, scope := F47s, globals := 0, closure := [], defaults := Value.none, kwdefaults := Value.none } }
noncomputable def v1o48 (P : Params) : Obj := { cls := Value.type "code", data := Data.fields #[Value.str (Str.ofString "replace_often") 233, Value.str (Str.ofString "replace_often") 234, Value.str (Str.ofString "/claim/cut.py") 235, Value.int 17 0, Value.int 7 0, Value.int 0 0, Value.int 0 0, Value.int 3 0, Value.ref 43, Value.bool true, Value.int 181 0, Value.ref 44, Value.none, Value.ref 45, Value.ref 46, Value.ref 47, Value.int 245 0, Value.int 17 0, Value.str (Str.ofString "/claim/cut.py") 246] }
noncomputable def v1o49 (P : Params) : Obj := { cls := Value.type "function", data := Data.func { name := Str.ofString "replace_often", qualname := Str.ofString "replace_often", params := F49a, body := FuncBody.stmts F49b, scope := F49s, globals := 3, closure := [], defaults := Value.none, kwdefaults := Value.none, pyModule := Value.str (Str.ofString "snobol.matchcore") 187, code := Value.ref 48 } }
noncomputable def v1o50 (P : Params) : Obj := { cls := Value.type "tuple", data := Data.seq #[Value.type "Exception"] }
noncomputable def v1o51 (P : Params) : Obj := { cls := Value.type "builtin_function_or_method", data := Data.fields #[Value.builtin "type.__prepare__", Value.type "type"] }
noncomputable def v1o52 (P : Params) : Obj := { cls := Value.type "dict", data := Data.dict #[{ hash := PyData.keyHash P (Str.ofString "__module__"), key := Value.str (Str.ofString "__module__") 257, val := Value.str (Str.ofString "snobol.values") 248 }, { hash := PyData.keyHash P (Str.ofString "__qualname__"), key := Value.str (Str.ofString "__qualname__") 259, val := Value.str (Str.ofString "SnobolError") 258 }, { hash := PyData.keyHash P (Str.ofString "__firstlineno__"), key := Value.str (Str.ofString "__firstlineno__") 261, val := Value.int 26 260 }, { hash := PyData.keyHash P (Str.ofString "__init__"), key := Value.str (Str.ofString "__init__") 272, val := Value.ref 66 }, { hash := PyData.keyHash P (Str.ofString "__static_attributes__"), key := Value.str (Str.ofString "__static_attributes__") 275, val := Value.ref 67 }, { hash := PyData.keyHash P (Str.ofString "__classcell__"), key := Value.str (Str.ofString "__classcell__") 276, val := Value.ref 53 }] 6 }
noncomputable def v1o53 (P : Params) : Obj := { cls := Value.type "cell", data := Data.cell (some (Value.ref 69)) }
noncomputable def v1o54 (P : Params) : Obj := { cls := Value.type "tuple", data := Data.seq #[] }
noncomputable def v1o55 (P : Params) : Obj := { cls := Value.none, data := Data.fields #[Value.int 28 0, Value.int 4 0, Value.ref 65] }
noncomputable def v1o56 (P : Params) : Obj := { cls := Value.type "code", data := Data.fields #[Value.str (Str.ofString "SnobolError") 252, Value.str (Str.ofString "SnobolError") 253, Value.str (Str.ofString "/claim/cut.py") 254, Value.int 26 0, Value.int 0 0, Value.int 0 0, Value.int 0 0, Value.int 0 0, Value.ref 54, Value.bool false, Value.int 181 0, Value.ref 55, Value.none, Value.none, Value.none, Value.none, Value.int 255 0, Value.int 26 0, Value.str (Str.ofString "/claim/cut.py") 256] }
noncomputable def v1o57 (P : Params) : Obj := { cls := Value.type "frame", slots := #[some (Value.ref 56), some (Value.ref 3), some (Value.ref 52), none, some (Value.str (Str.ofString "snobol.values") 248), none, some (Value.ref 0)] }
noncomputable def v1o58 (P : Params) : Obj := { cls := Value.type "tuple", data := Data.seq #[Value.str (Str.ofString "") 262] }
noncomputable def v1o59 (P : Params) : Obj := { cls := Value.type "tuple", data := Data.seq #[Value.ref 53] }
noncomputable def v1o60 (P : Params) : Obj := { cls := Value.type "tuple", data := Data.seq #[Value.str (Str.ofString "__class__") 266] }
noncomputable def v1o61 (P : Params) : Obj := { cls := Value.none, data := Data.fields #[] }
noncomputable def v1o62 (P : Params) : Obj := { cls := Value.type "tuple", data := Data.seq #[Value.str (Str.ofString "self") 267, Value.str (Str.ofString "number") 268, Value.str (Str.ofString "told") 269] }
noncomputable def v1o63 (P : Params) : Obj := { cls := Value.type "tuple", data := Data.seq #[] }
noncomputable def v1o64 (P : Params) : Obj := { cls := Value.none, data := Data.func { name := Str.ofString "__init__", qualname := Str.ofString "SnobolError.__init__", params := F64a, body := FuncBody.stmts F64b, scope := F64s, globals := 0, closure := [], defaults := Value.none, kwdefaults := Value.none } }
noncomputable def v1o65 (P : Params) : Obj := { cls := Value.type "code", data := Data.fields #[Value.str (Str.ofString "__init__") 263, Value.str (Str.ofString "SnobolError.__init__") 264, Value.str (Str.ofString "/claim/cut.py") 265, Value.int 28 0, Value.int 3 0, Value.int 0 0, Value.int 0 0, Value.int 3 0, Value.ref 60, Value.bool true, Value.int 181 0, Value.ref 61, Value.none, Value.ref 62, Value.ref 63, Value.ref 64, Value.int 270 0, Value.int 28 0, Value.str (Str.ofString "/claim/cut.py") 271] }
noncomputable def v1o66 (P : Params) : Obj := { cls := Value.type "function", data := Data.func { name := Str.ofString "__init__", qualname := Str.ofString "SnobolError.__init__", params := F66a, body := FuncBody.stmts F66b, scope := F66s, globals := 3, closure := [(Str.ofString "__class__", 53)], defaults := Value.ref 58, kwdefaults := Value.none, pyModule := Value.str (Str.ofString "snobol.values") 248, code := Value.ref 65, closureTuple := Value.ref 59 } }
noncomputable def v1o67 (P : Params) : Obj := { cls := Value.type "tuple", data := Data.seq #[Value.str (Str.ofString "number") 273, Value.str (Str.ofString "told") 274] }
noncomputable def v1o68 (P : Params) : Obj := { cls := Value.type "dict", data := Data.dict #[{ hash := PyData.keyHash P (Str.ofString "__module__"), key := Value.str (Str.ofString "__module__") 257, val := Value.str (Str.ofString "snobol.values") 248 }, { hash := PyData.keyHash P (Str.ofString "__firstlineno__"), key := Value.str (Str.ofString "__firstlineno__") 261, val := Value.int 26 260 }, { hash := PyData.keyHash P (Str.ofString "__init__"), key := Value.str (Str.ofString "__init__") 272, val := Value.ref 66 }, { hash := PyData.keyHash P (Str.ofString "__static_attributes__"), key := Value.str (Str.ofString "__static_attributes__") 275, val := Value.ref 67 }, { hash := PyData.keyHash P (Str.ofString "__weakref__"), key := Value.str (Str.ofString "__weakref__") 278, val := Value.ref 70 }, { hash := PyData.keyHash P (Str.ofString "__doc__"), key := Value.str (Str.ofString "__doc__") 279, val := Value.none }] 4 }
noncomputable def v1o69 (P : Params) : Obj := { cls := Value.type "type", data := Data.cls { name := Str.ofString "SnobolError", bases := [Value.type "Exception"], mro := [Value.ref 69, Value.type "Exception", Value.type "BaseException", Value.type "object"], ns := 68, qualname := Str.ofString "SnobolError" }, slots := #[some (Value.ref 50), none, some (Value.str (Str.ofString "SnobolError") 250), some (Value.str (Str.ofString "SnobolError") 258), some (Value.builtin "Exception.__new__"), some (Value.bool true)] }
noncomputable def v1o70 (P : Params) : Obj := { cls := Value.type "getset_descriptor", data := Data.fields #[Value.str (Str.ofString "__weakref__") 277, Value.ref 69, Value.builtin "ExceptionGroup.__weakref__", Value.none] }
noncomputable def v1o71 (P : Params) : Obj := { cls := Value.type "super", data := Data.fields #[Value.ref 69, Value.ref 69, Value.ref 69] }
noncomputable def v1o72 (P : Params) : Obj := { cls := Value.type "builtin_function_or_method", data := Data.fields #[Value.builtin "object.__init_subclass__", Value.ref 69] }
noncomputable def v1o73 (P : Params) : Obj := { cls := Value.type "tuple", data := Data.seq #[] }
noncomputable def v1o74 (P : Params) : Obj := { cls := Value.type "builtin_function_or_method", data := Data.fields #[Value.builtin "type.__prepare__", Value.type "type"] }
noncomputable def v1o75 (P : Params) : Obj := { cls := Value.type "dict", data := Data.dict #[{ hash := PyData.keyHash P (Str.ofString "__module__"), key := Value.str (Str.ofString "__module__") 291, val := Value.str (Str.ofString "snobol.values") 248 }, { hash := PyData.keyHash P (Str.ofString "__qualname__"), key := Value.str (Str.ofString "__qualname__") 293, val := Value.str (Str.ofString "Failure") 292 }, { hash := PyData.keyHash P (Str.ofString "__firstlineno__"), key := Value.str (Str.ofString "__firstlineno__") 295, val := Value.int 32 294 }, { hash := PyData.keyHash P (Str.ofString "__static_attributes__"), key := Value.str (Str.ofString "__static_attributes__") 296, val := Value.ref 80 }] 4 }
noncomputable def v1o76 (P : Params) : Obj := { cls := Value.type "tuple", data := Data.seq #[] }
noncomputable def v1o77 (P : Params) : Obj := { cls := Value.none, data := Data.fields #[] }
noncomputable def v1o78 (P : Params) : Obj := { cls := Value.type "code", data := Data.fields #[Value.str (Str.ofString "Failure") 286, Value.str (Str.ofString "Failure") 287, Value.str (Str.ofString "/claim/cut.py") 288, Value.int 32 0, Value.int 0 0, Value.int 0 0, Value.int 0 0, Value.int 0 0, Value.ref 76, Value.bool false, Value.int 181 0, Value.ref 77, Value.none, Value.none, Value.none, Value.none, Value.int 289 0, Value.int 32 0, Value.str (Str.ofString "/claim/cut.py") 290] }
noncomputable def v1o79 (P : Params) : Obj := { cls := Value.type "frame", slots := #[some (Value.ref 78), some (Value.ref 3), some (Value.ref 75), none, some (Value.str (Str.ofString "snobol.values") 248), none, some (Value.ref 0)] }
noncomputable def v1o80 (P : Params) : Obj := { cls := Value.type "tuple", data := Data.seq #[] }
noncomputable def v1o81 (P : Params) : Obj := { cls := Value.type "dict", data := Data.dict #[{ hash := PyData.keyHash P (Str.ofString "__module__"), key := Value.str (Str.ofString "__module__") 291, val := Value.str (Str.ofString "snobol.values") 248 }, { hash := PyData.keyHash P (Str.ofString "__firstlineno__"), key := Value.str (Str.ofString "__firstlineno__") 295, val := Value.int 32 294 }, { hash := PyData.keyHash P (Str.ofString "__static_attributes__"), key := Value.str (Str.ofString "__static_attributes__") 296, val := Value.ref 80 }, { hash := PyData.keyHash P (Str.ofString "__dict__"), key := Value.str (Str.ofString "__dict__") 298, val := Value.ref 83 }, { hash := PyData.keyHash P (Str.ofString "__weakref__"), key := Value.str (Str.ofString "__weakref__") 300, val := Value.ref 84 }, { hash := PyData.keyHash P (Str.ofString "__doc__"), key := Value.str (Str.ofString "__doc__") 301, val := Value.none }] 4 }
noncomputable def v1o82 (P : Params) : Obj := { cls := Value.type "type", data := Data.cls { name := Str.ofString "Failure", bases := [Value.type "object"], mro := [Value.ref 82, Value.type "object"], ns := 81, qualname := Str.ofString "Failure" }, slots := #[none, none, some (Value.str (Str.ofString "Failure") 284), some (Value.str (Str.ofString "Failure") 292), some (Value.builtin "object.__new__"), some (Value.bool true)] }
noncomputable def v1o83 (P : Params) : Obj := { cls := Value.type "getset_descriptor", data := Data.fields #[Value.str (Str.ofString "__dict__") 297, Value.ref 82, Value.builtin "function.__dict__", Value.builtin "function.__dict__#set"] }
noncomputable def v1o84 (P : Params) : Obj := { cls := Value.type "getset_descriptor", data := Data.fields #[Value.str (Str.ofString "__weakref__") 299, Value.ref 82, Value.builtin "ExceptionGroup.__weakref__", Value.none] }
noncomputable def v1o85 (P : Params) : Obj := { cls := Value.type "super", data := Data.fields #[Value.ref 82, Value.ref 82, Value.ref 82] }
noncomputable def v1o86 (P : Params) : Obj := { cls := Value.type "builtin_function_or_method", data := Data.fields #[Value.builtin "object.__init_subclass__", Value.ref 82] }
set_option maxRecDepth 100000 in
noncomputable def tree1 (P : Params) : BT := (.node (boot_o_0 P) (.node (boot_o_1 P) (.node (v1o3 P) (.node (boot_o_7 P) (.node (v1o15 P) (.node (v1o31 P) (.node (v1o63 P) .nil .nil) .nil) (.node (v1o47 P) (.node (v1o79 P) .nil .nil) .nil)) (.node (v1o23 P) (.node (v1o39 P) (.node (v1o71 P) .nil .nil) .nil) (.node (v1o55 P) .nil .nil))) (.node (o11) (.node (v1o19 P) (.node (v1o35 P) (.node (v1o67 P) .nil .nil) .nil) (.node (v1o51 P) (.node (v1o83 P) .nil .nil) .nil)) (.node (v1o27 P) (.node (v1o43 P) (.node (v1o75 P) .nil .nil) .nil) (.node (v1o59 P) .nil .nil)))) (.node (boot_o_5 P) (.node (boot_o_9 P) (.node (v1o17 P) (.node (v1o33 P) (.node (v1o65 P) .nil .nil) .nil) (.node (v1o49 P) (.node (v1o81 P) .nil .nil) .nil)) (.node (v1o25 P) (.node (v1o41 P) (.node (v1o73 P) .nil .nil) .nil) (.node (v1o57 P) .nil .nil))) (.node (o13) (.node (v1o21 P) (.node (v1o37 P) (.node (v1o69 P) .nil .nil) .nil) (.node (v1o53 P) (.node (v1o85 P) .nil .nil) .nil)) (.node (v1o29 P) (.node (v1o45 P) (.node (v1o77 P) .nil .nil) .nil) (.node (v1o61 P) .nil .nil))))) (.node (v1o2 P) (.node (boot_o_4 P) (.node (boot_o_8 P) (.node (v1o16 P) (.node (v1o32 P) (.node (v1o64 P) .nil .nil) .nil) (.node (v1o48 P) (.node (v1o80 P) .nil .nil) .nil)) (.node (v1o24 P) (.node (v1o40 P) (.node (v1o72 P) .nil .nil) .nil) (.node (v1o56 P) .nil .nil))) (.node (v1o12 P) (.node (v1o20 P) (.node (v1o36 P) (.node (v1o68 P) .nil .nil) .nil) (.node (v1o52 P) (.node (v1o84 P) .nil .nil) .nil)) (.node (v1o28 P) (.node (v1o44 P) (.node (v1o76 P) .nil .nil) .nil) (.node (v1o60 P) .nil .nil)))) (.node (boot_o_6 P) (.node (boot_o_10 P) (.node (v1o18 P) (.node (v1o34 P) (.node (v1o66 P) .nil .nil) .nil) (.node (v1o50 P) (.node (v1o82 P) .nil .nil) .nil)) (.node (v1o26 P) (.node (v1o42 P) (.node (v1o74 P) .nil .nil) .nil) (.node (v1o58 P) .nil .nil))) (.node (o14) (.node (v1o22 P) (.node (v1o38 P) (.node (v1o70 P) .nil .nil) .nil) (.node (v1o54 P) (.node (v1o86 P) .nil .nil) .nil)) (.node (v1o30 P) (.node (v1o46 P) (.node (v1o78 P) .nil .nil) .nil) (.node (v1o62 P) .nil .nil))))))
noncomputable def v2o3 (P : Params) : Obj := { cls := Value.type "dict", data := Data.dict #[{ hash := PyData.keyHash P (Str.ofString "__name__"), key := Value.str (Str.ofString "__name__") 165, val := Value.str (Str.ofString "snobol.hosts") 420 }, { hash := PyData.keyHash P (Str.ofString "__doc__"), key := Value.str (Str.ofString "__doc__") 166, val := Value.none }, { hash := PyData.keyHash P (Str.ofString "__package__"), key := Value.str (Str.ofString "__package__") 167, val := Value.none }, { hash := PyData.keyHash P (Str.ofString "__loader__"), key := Value.str (Str.ofString "__loader__") 168, val := Value.builtin "__main__.__loader__#opaque" }, { hash := PyData.keyHash P (Str.ofString "__spec__"), key := Value.str (Str.ofString "__spec__") 169, val := Value.none }, { hash := PyData.keyHash P (Str.ofString "__annotations__"), key := Value.str (Str.ofString "__annotations__") 170, val := Value.ref 6 }, { hash := PyData.keyHash P (Str.ofString "__builtins__"), key := Value.str (Str.ofString "__builtins__") 171, val := Value.ref 4 }, { hash := PyData.keyHash P (Str.ofString "__file__"), key := Value.str (Str.ofString "__file__") 173, val := Value.str (Str.ofString "/claim/cut.py") 172 }, { hash := PyData.keyHash P (Str.ofString "__cached__"), key := Value.str (Str.ofString "__cached__") 174, val := Value.none }, { hash := PyData.keyHash P (Str.ofString "give_names"), key := Value.str (Str.ofString "give_names") 198, val := Value.ref 21 }, { hash := PyData.keyHash P (Str.ofString "three_pieces"), key := Value.str (Str.ofString "three_pieces") 206, val := Value.ref 28 }, { hash := PyData.keyHash P (Str.ofString "spliced"), key := Value.str (Str.ofString "spliced") 218, val := Value.ref 35 }, { hash := PyData.keyHash P (Str.ofString "replace_once"), key := Value.str (Str.ofString "replace_once") 232, val := Value.ref 42 }, { hash := PyData.keyHash P (Str.ofString "replace_often"), key := Value.str (Str.ofString "replace_often") 247, val := Value.ref 49 }, { hash := PyData.keyHash P (Str.ofString "SnobolError"), key := Value.str (Str.ofString "SnobolError") 283, val := Value.ref 69 }, { hash := PyData.keyHash P (Str.ofString "Failure"), key := Value.str (Str.ofString "Failure") 303, val := Value.ref 82 }, { hash := PyData.keyHash P (Str.ofString "Pattern"), key := Value.str (Str.ofString "Pattern") 332, val := Value.ref 103 }, { hash := PyData.keyHash P (Str.ofString "Delayed"), key := Value.str (Str.ofString "Delayed") 361, val := Value.ref 124 }, { hash := PyData.keyHash P (Str.ofString "is_fail"), key := Value.str (Str.ofString "is_fail") 368, val := Value.ref 135 }, { hash := PyData.keyHash P (Str.ofString "fits"), key := Value.str (Str.ofString "fits") 376, val := Value.ref 142 }, { hash := PyData.keyHash P (Str.ofString "whole_of_text"), key := Value.str (Str.ofString "whole_of_text") 387, val := Value.ref 149 }, { hash := PyData.keyHash P (Str.ofString "text_of_whole"), key := Value.str (Str.ofString "text_of_whole") 396, val := Value.ref 156 }, { hash := PyData.keyHash P (Str.ofString "to_whole"), key := Value.str (Str.ofString "to_whole") 404, val := Value.ref 163 }, { hash := PyData.keyHash P (Str.ofString "to_text"), key := Value.str (Str.ofString "to_text") 411, val := Value.ref 170 }, { hash := PyData.keyHash P (Str.ofString "need_text"), key := Value.str (Str.ofString "need_text") 419, val := Value.ref 177 }] 25 }
noncomputable def v2o12 (P : Params) : Obj := { cls := Value.none, data := Data.fields #[Value.int 2 0, Value.int 0 0, Value.ref 20, Value.int 5 0, Value.int 0 0, Value.ref 27, Value.int 7 0, Value.int 0 0, Value.ref 34, Value.int 10 0, Value.int 0 0, Value.ref 41, Value.int 17 0, Value.int 0 0, Value.ref 48, Value.int 26 0, Value.int 0 0, Value.ref 56, Value.int 32 0, Value.int 0 0, Value.ref 78, Value.int 34 0, Value.int 0 0, Value.ref 92, Value.int 38 0, Value.int 0 0, Value.ref 113, Value.int 42 0, Value.int 0 0, Value.ref 134, Value.int 44 0, Value.int 0 0, Value.ref 141, Value.int 46 0, Value.int 0 0, Value.ref 148, Value.int 59 0, Value.int 0 0, Value.ref 155, Value.int 65 0, Value.int 0 0, Value.ref 162, Value.int 69 0, Value.int 0 0, Value.ref 169, Value.int 73 0, Value.int 0 0, Value.ref 176] }
noncomputable def v2o87 (P : Params) : Obj := { cls := Value.type "tuple", data := Data.seq #[] }
noncomputable def v2o88 (P : Params) : Obj := { cls := Value.type "builtin_function_or_method", data := Data.fields #[Value.builtin "type.__prepare__", Value.type "type"] }
noncomputable def v2o89 (P : Params) : Obj := { cls := Value.type "dict", data := Data.dict #[{ hash := PyData.keyHash P (Str.ofString "__module__"), key := Value.str (Str.ofString "__module__") 311, val := Value.str (Str.ofString "snobol.values") 248 }, { hash := PyData.keyHash P (Str.ofString "__qualname__"), key := Value.str (Str.ofString "__qualname__") 313, val := Value.str (Str.ofString "Pattern") 312 }, { hash := PyData.keyHash P (Str.ofString "__firstlineno__"), key := Value.str (Str.ofString "__firstlineno__") 315, val := Value.int 34 314 }, { hash := PyData.keyHash P (Str.ofString "__init__"), key := Value.str (Str.ofString "__init__") 323, val := Value.ref 100 }, { hash := PyData.keyHash P (Str.ofString "__static_attributes__"), key := Value.str (Str.ofString "__static_attributes__") 325, val := Value.ref 101 }] 5 }
noncomputable def v2o90 (P : Params) : Obj := { cls := Value.type "tuple", data := Data.seq #[] }
noncomputable def v2o91 (P : Params) : Obj := { cls := Value.none, data := Data.fields #[Value.int 36 0, Value.int 4 0, Value.ref 99] }
noncomputable def v2o92 (P : Params) : Obj := { cls := Value.type "code", data := Data.fields #[Value.str (Str.ofString "Pattern") 306, Value.str (Str.ofString "Pattern") 307, Value.str (Str.ofString "/claim/cut.py") 308, Value.int 34 0, Value.int 0 0, Value.int 0 0, Value.int 0 0, Value.int 0 0, Value.ref 90, Value.bool false, Value.int 181 0, Value.ref 91, Value.none, Value.none, Value.none, Value.none, Value.int 309 0, Value.int 34 0, Value.str (Str.ofString "/claim/cut.py") 310] }
noncomputable def v2o93 (P : Params) : Obj := { cls := Value.type "frame", slots := #[some (Value.ref 92), some (Value.ref 3), some (Value.ref 89), none, some (Value.str (Str.ofString "snobol.values") 248), none, some (Value.ref 0)] }
noncomputable def v2o94 (P : Params) : Obj := { cls := Value.type "tuple", data := Data.seq #[] }
noncomputable def v2o95 (P : Params) : Obj := { cls := Value.none, data := Data.fields #[] }
noncomputable def v2o96 (P : Params) : Obj := { cls := Value.type "tuple", data := Data.seq #[Value.str (Str.ofString "self") 319, Value.str (Str.ofString "node") 320] }
noncomputable def v2o97 (P : Params) : Obj := { cls := Value.type "tuple", data := Data.seq #[] }
noncomputable def v2o98 (P : Params) : Obj := { cls := Value.none, data := Data.func { name := Str.ofString "__init__", qualname := Str.ofString "Pattern.__init__", params := F98a, body := FuncBody.stmts F98b, scope := F98s, globals := 0, closure := [], defaults := Value.none, kwdefaults := Value.none } }
noncomputable def v2o99 (P : Params) : Obj := { cls := Value.type "code", data := Data.fields #[Value.str (Str.ofString "__init__") 316, Value.str (Str.ofString "Pattern.__init__") 317, Value.str (Str.ofString "/claim/cut.py") 318, Value.int 36 0, Value.int 2 0, Value.int 0 0, Value.int 0 0, Value.int 3 0, Value.ref 94, Value.bool true, Value.int 181 0, Value.ref 95, Value.none, Value.ref 96, Value.ref 97, Value.ref 98, Value.int 321 0, Value.int 36 0, Value.str (Str.ofString "/claim/cut.py") 322] }
noncomputable def v2o100 (P : Params) : Obj := { cls := Value.type "function", data := Data.func { name := Str.ofString "__init__", qualname := Str.ofString "Pattern.__init__", params := F100a, body := FuncBody.stmts F100b, scope := F100s, globals := 3, closure := [], defaults := Value.none, kwdefaults := Value.none, pyModule := Value.str (Str.ofString "snobol.values") 248, code := Value.ref 99 } }
noncomputable def v2o101 (P : Params) : Obj := { cls := Value.type "tuple", data := Data.seq #[Value.str (Str.ofString "node") 324] }
noncomputable def v2o102 (P : Params) : Obj := { cls := Value.type "dict", data := Data.dict #[{ hash := PyData.keyHash P (Str.ofString "__module__"), key := Value.str (Str.ofString "__module__") 311, val := Value.str (Str.ofString "snobol.values") 248 }, { hash := PyData.keyHash P (Str.ofString "__firstlineno__"), key := Value.str (Str.ofString "__firstlineno__") 315, val := Value.int 34 314 }, { hash := PyData.keyHash P (Str.ofString "__init__"), key := Value.str (Str.ofString "__init__") 323, val := Value.ref 100 }, { hash := PyData.keyHash P (Str.ofString "__static_attributes__"), key := Value.str (Str.ofString "__static_attributes__") 325, val := Value.ref 101 }, { hash := PyData.keyHash P (Str.ofString "__dict__"), key := Value.str (Str.ofString "__dict__") 327, val := Value.ref 104 }, { hash := PyData.keyHash P (Str.ofString "__weakref__"), key := Value.str (Str.ofString "__weakref__") 329, val := Value.ref 105 }, { hash := PyData.keyHash P (Str.ofString "__doc__"), key := Value.str (Str.ofString "__doc__") 330, val := Value.none }] 4 }
noncomputable def v2o103 (P : Params) : Obj := { cls := Value.type "type", data := Data.cls { name := Str.ofString "Pattern", bases := [Value.type "object"], mro := [Value.ref 103, Value.type "object"], ns := 102, qualname := Str.ofString "Pattern" }, slots := #[none, none, some (Value.str (Str.ofString "Pattern") 304), some (Value.str (Str.ofString "Pattern") 312), some (Value.builtin "object.__new__"), some (Value.bool true)] }
noncomputable def v2o104 (P : Params) : Obj := { cls := Value.type "getset_descriptor", data := Data.fields #[Value.str (Str.ofString "__dict__") 326, Value.ref 103, Value.builtin "function.__dict__", Value.builtin "function.__dict__#set"] }
noncomputable def v2o105 (P : Params) : Obj := { cls := Value.type "getset_descriptor", data := Data.fields #[Value.str (Str.ofString "__weakref__") 328, Value.ref 103, Value.builtin "ExceptionGroup.__weakref__", Value.none] }
noncomputable def v2o106 (P : Params) : Obj := { cls := Value.type "super", data := Data.fields #[Value.ref 103, Value.ref 103, Value.ref 103] }
noncomputable def v2o107 (P : Params) : Obj := { cls := Value.type "builtin_function_or_method", data := Data.fields #[Value.builtin "object.__init_subclass__", Value.ref 103] }
noncomputable def v2o108 (P : Params) : Obj := { cls := Value.type "tuple", data := Data.seq #[] }
noncomputable def v2o109 (P : Params) : Obj := { cls := Value.type "builtin_function_or_method", data := Data.fields #[Value.builtin "type.__prepare__", Value.type "type"] }
noncomputable def v2o110 (P : Params) : Obj := { cls := Value.type "dict", data := Data.dict #[{ hash := PyData.keyHash P (Str.ofString "__module__"), key := Value.str (Str.ofString "__module__") 340, val := Value.str (Str.ofString "snobol.values") 248 }, { hash := PyData.keyHash P (Str.ofString "__qualname__"), key := Value.str (Str.ofString "__qualname__") 342, val := Value.str (Str.ofString "Delayed") 341 }, { hash := PyData.keyHash P (Str.ofString "__firstlineno__"), key := Value.str (Str.ofString "__firstlineno__") 344, val := Value.int 38 343 }, { hash := PyData.keyHash P (Str.ofString "__init__"), key := Value.str (Str.ofString "__init__") 352, val := Value.ref 121 }, { hash := PyData.keyHash P (Str.ofString "__static_attributes__"), key := Value.str (Str.ofString "__static_attributes__") 354, val := Value.ref 122 }] 5 }
noncomputable def v2o111 (P : Params) : Obj := { cls := Value.type "tuple", data := Data.seq #[] }
noncomputable def v2o112 (P : Params) : Obj := { cls := Value.none, data := Data.fields #[Value.int 40 0, Value.int 4 0, Value.ref 120] }
noncomputable def v2o113 (P : Params) : Obj := { cls := Value.type "code", data := Data.fields #[Value.str (Str.ofString "Delayed") 335, Value.str (Str.ofString "Delayed") 336, Value.str (Str.ofString "/claim/cut.py") 337, Value.int 38 0, Value.int 0 0, Value.int 0 0, Value.int 0 0, Value.int 0 0, Value.ref 111, Value.bool false, Value.int 181 0, Value.ref 112, Value.none, Value.none, Value.none, Value.none, Value.int 338 0, Value.int 38 0, Value.str (Str.ofString "/claim/cut.py") 339] }
noncomputable def v2o114 (P : Params) : Obj := { cls := Value.type "frame", slots := #[some (Value.ref 113), some (Value.ref 3), some (Value.ref 110), none, some (Value.str (Str.ofString "snobol.values") 248), none, some (Value.ref 0)] }
noncomputable def v2o115 (P : Params) : Obj := { cls := Value.type "tuple", data := Data.seq #[] }
noncomputable def v2o116 (P : Params) : Obj := { cls := Value.none, data := Data.fields #[] }
noncomputable def v2o117 (P : Params) : Obj := { cls := Value.type "tuple", data := Data.seq #[Value.str (Str.ofString "self") 348, Value.str (Str.ofString "tree") 349] }
noncomputable def v2o118 (P : Params) : Obj := { cls := Value.type "tuple", data := Data.seq #[] }
noncomputable def v2o119 (P : Params) : Obj := { cls := Value.none, data := Data.func { name := Str.ofString "__init__", qualname := Str.ofString "Delayed.__init__", params := F119a, body := FuncBody.stmts F119b, scope := F119s, globals := 0, closure := [], defaults := Value.none, kwdefaults := Value.none } }
noncomputable def v2o120 (P : Params) : Obj := { cls := Value.type "code", data := Data.fields #[Value.str (Str.ofString "__init__") 345, Value.str (Str.ofString "Delayed.__init__") 346, Value.str (Str.ofString "/claim/cut.py") 347, Value.int 40 0, Value.int 2 0, Value.int 0 0, Value.int 0 0, Value.int 3 0, Value.ref 115, Value.bool true, Value.int 181 0, Value.ref 116, Value.none, Value.ref 117, Value.ref 118, Value.ref 119, Value.int 350 0, Value.int 40 0, Value.str (Str.ofString "/claim/cut.py") 351] }
noncomputable def v2o121 (P : Params) : Obj := { cls := Value.type "function", data := Data.func { name := Str.ofString "__init__", qualname := Str.ofString "Delayed.__init__", params := F121a, body := FuncBody.stmts F121b, scope := F121s, globals := 3, closure := [], defaults := Value.none, kwdefaults := Value.none, pyModule := Value.str (Str.ofString "snobol.values") 248, code := Value.ref 120 } }
noncomputable def v2o122 (P : Params) : Obj := { cls := Value.type "tuple", data := Data.seq #[Value.str (Str.ofString "tree") 353] }
noncomputable def v2o123 (P : Params) : Obj := { cls := Value.type "dict", data := Data.dict #[{ hash := PyData.keyHash P (Str.ofString "__module__"), key := Value.str (Str.ofString "__module__") 340, val := Value.str (Str.ofString "snobol.values") 248 }, { hash := PyData.keyHash P (Str.ofString "__firstlineno__"), key := Value.str (Str.ofString "__firstlineno__") 344, val := Value.int 38 343 }, { hash := PyData.keyHash P (Str.ofString "__init__"), key := Value.str (Str.ofString "__init__") 352, val := Value.ref 121 }, { hash := PyData.keyHash P (Str.ofString "__static_attributes__"), key := Value.str (Str.ofString "__static_attributes__") 354, val := Value.ref 122 }, { hash := PyData.keyHash P (Str.ofString "__dict__"), key := Value.str (Str.ofString "__dict__") 356, val := Value.ref 125 }, { hash := PyData.keyHash P (Str.ofString "__weakref__"), key := Value.str (Str.ofString "__weakref__") 358, val := Value.ref 126 }, { hash := PyData.keyHash P (Str.ofString "__doc__"), key := Value.str (Str.ofString "__doc__") 359, val := Value.none }] 4 }
noncomputable def v2o124 (P : Params) : Obj := { cls := Value.type "type", data := Data.cls { name := Str.ofString "Delayed", bases := [Value.type "object"], mro := [Value.ref 124, Value.type "object"], ns := 123, qualname := Str.ofString "Delayed" }, slots := #[none, none, some (Value.str (Str.ofString "Delayed") 333), some (Value.str (Str.ofString "Delayed") 341), some (Value.builtin "object.__new__"), some (Value.bool true)] }
noncomputable def v2o125 (P : Params) : Obj := { cls := Value.type "getset_descriptor", data := Data.fields #[Value.str (Str.ofString "__dict__") 355, Value.ref 124, Value.builtin "function.__dict__", Value.builtin "function.__dict__#set"] }
noncomputable def v2o126 (P : Params) : Obj := { cls := Value.type "getset_descriptor", data := Data.fields #[Value.str (Str.ofString "__weakref__") 357, Value.ref 124, Value.builtin "ExceptionGroup.__weakref__", Value.none] }
noncomputable def v2o127 (P : Params) : Obj := { cls := Value.type "super", data := Data.fields #[Value.ref 124, Value.ref 124, Value.ref 124] }
noncomputable def v2o128 (P : Params) : Obj := { cls := Value.type "builtin_function_or_method", data := Data.fields #[Value.builtin "object.__init_subclass__", Value.ref 124] }
noncomputable def v2o129 (P : Params) : Obj := { cls := Value.type "tuple", data := Data.seq #[] }
noncomputable def v2o130 (P : Params) : Obj := { cls := Value.none, data := Data.fields #[] }
noncomputable def v2o131 (P : Params) : Obj := { cls := Value.type "tuple", data := Data.seq #[Value.str (Str.ofString "value") 365] }
noncomputable def v2o132 (P : Params) : Obj := { cls := Value.type "tuple", data := Data.seq #[] }
noncomputable def v2o133 (P : Params) : Obj := { cls := Value.none, data := Data.func { name := Str.ofString "is_fail", qualname := Str.ofString "is_fail", params := F133a, body := FuncBody.stmts F133b, scope := F133s, globals := 0, closure := [], defaults := Value.none, kwdefaults := Value.none } }
noncomputable def v2o134 (P : Params) : Obj := { cls := Value.type "code", data := Data.fields #[Value.str (Str.ofString "is_fail") 362, Value.str (Str.ofString "is_fail") 363, Value.str (Str.ofString "/claim/cut.py") 364, Value.int 42 0, Value.int 1 0, Value.int 0 0, Value.int 0 0, Value.int 3 0, Value.ref 129, Value.bool true, Value.int 181 0, Value.ref 130, Value.none, Value.ref 131, Value.ref 132, Value.ref 133, Value.int 366 0, Value.int 42 0, Value.str (Str.ofString "/claim/cut.py") 367] }
noncomputable def v2o135 (P : Params) : Obj := { cls := Value.type "function", data := Data.func { name := Str.ofString "is_fail", qualname := Str.ofString "is_fail", params := F135a, body := FuncBody.stmts F135b, scope := F135s, globals := 3, closure := [], defaults := Value.none, kwdefaults := Value.none, pyModule := Value.str (Str.ofString "snobol.values") 248, code := Value.ref 134 } }
noncomputable def v2o136 (P : Params) : Obj := { cls := Value.type "tuple", data := Data.seq #[] }
noncomputable def v2o137 (P : Params) : Obj := { cls := Value.none, data := Data.fields #[] }
noncomputable def v2o138 (P : Params) : Obj := { cls := Value.type "tuple", data := Data.seq #[Value.str (Str.ofString "number") 372, Value.str (Str.ofString "width") 373] }
noncomputable def v2o139 (P : Params) : Obj := { cls := Value.type "tuple", data := Data.seq #[] }
noncomputable def v2o140 (P : Params) : Obj := { cls := Value.none, data := Data.func { name := Str.ofString "fits", qualname := Str.ofString "fits", params := F140a, body := FuncBody.stmts F140b, scope := F140s, globals := 0, closure := [], defaults := Value.none, kwdefaults := Value.none } }
noncomputable def v2o141 (P : Params) : Obj := { cls := Value.type "code", data := Data.fields #[Value.str (Str.ofString "fits") 369, Value.str (Str.ofString "fits") 370, Value.str (Str.ofString "/claim/cut.py") 371, Value.int 44 0, Value.int 2 0, Value.int 0 0, Value.int 0 0, Value.int 3 0, Value.ref 136, Value.bool true, Value.int 181 0, Value.ref 137, Value.none, Value.ref 138, Value.ref 139, Value.ref 140, Value.int 374 0, Value.int 44 0, Value.str (Str.ofString "/claim/cut.py") 375] }
noncomputable def v2o142 (P : Params) : Obj := { cls := Value.type "function", data := Data.func { name := Str.ofString "fits", qualname := Str.ofString "fits", params := F142a, body := FuncBody.stmts F142b, scope := F142s, globals := 3, closure := [], defaults := Value.none, kwdefaults := Value.none, pyModule := Value.str (Str.ofString "snobol.values") 248, code := Value.ref 141 } }
noncomputable def v2o143 (P : Params) : Obj := { cls := Value.type "tuple", data := Data.seq #[] }
noncomputable def v2o144 (P : Params) : Obj := { cls := Value.none, data := Data.fields #[] }
noncomputable def v2o145 (P : Params) : Obj := { cls := Value.type "tuple", data := Data.seq #[Value.str (Str.ofString "text") 380, Value.str (Str.ofString "width") 381, Value.str (Str.ofString "digits") 382, Value.str (Str.ofString "number") 383, Value.str (Str.ofString "sign") 384] }
noncomputable def v2o146 (P : Params) : Obj := { cls := Value.type "tuple", data := Data.seq #[] }
noncomputable def v2o147 (P : Params) : Obj := { cls := Value.none, data := Data.func { name := Str.ofString "whole_of_text", qualname := Str.ofString "whole_of_text", params := F147a, body := FuncBody.stmts F147b, scope := F147s, globals := 0, closure := [], defaults := Value.none, kwdefaults := Value.none } }
noncomputable def v2o148 (P : Params) : Obj := { cls := Value.type "code", data := Data.fields #[Value.str (Str.ofString "whole_of_text") 377, Value.str (Str.ofString "whole_of_text") 378, Value.str (Str.ofString "/claim/cut.py") 379, Value.int 46 0, Value.int 2 0, Value.int 0 0, Value.int 0 0, Value.int 3 0, Value.ref 143, Value.bool true, Value.int 181 0, Value.ref 144, Value.none, Value.ref 145, Value.ref 146, Value.ref 147, Value.int 385 0, Value.int 46 0, Value.str (Str.ofString "/claim/cut.py") 386] }
noncomputable def v2o149 (P : Params) : Obj := { cls := Value.type "function", data := Data.func { name := Str.ofString "whole_of_text", qualname := Str.ofString "whole_of_text", params := F149a, body := FuncBody.stmts F149b, scope := F149s, globals := 3, closure := [], defaults := Value.none, kwdefaults := Value.none, pyModule := Value.str (Str.ofString "snobol.values") 248, code := Value.ref 148 } }
noncomputable def v2o150 (P : Params) : Obj := { cls := Value.type "tuple", data := Data.seq #[] }
noncomputable def v2o151 (P : Params) : Obj := { cls := Value.none, data := Data.fields #[] }
noncomputable def v2o152 (P : Params) : Obj := { cls := Value.type "tuple", data := Data.seq #[Value.str (Str.ofString "number") 391, Value.str (Str.ofString "left") 392, Value.str (Str.ofString "found") 393] }
noncomputable def v2o153 (P : Params) : Obj := { cls := Value.type "tuple", data := Data.seq #[] }
noncomputable def v2o154 (P : Params) : Obj := { cls := Value.none, data := Data.func { name := Str.ofString "text_of_whole", qualname := Str.ofString "text_of_whole", params := F154a, body := FuncBody.stmts F154b, scope := F154s, globals := 0, closure := [], defaults := Value.none, kwdefaults := Value.none } }
noncomputable def v2o155 (P : Params) : Obj := { cls := Value.type "code", data := Data.fields #[Value.str (Str.ofString "text_of_whole") 388, Value.str (Str.ofString "text_of_whole") 389, Value.str (Str.ofString "/claim/cut.py") 390, Value.int 59 0, Value.int 1 0, Value.int 0 0, Value.int 0 0, Value.int 3 0, Value.ref 150, Value.bool true, Value.int 181 0, Value.ref 151, Value.none, Value.ref 152, Value.ref 153, Value.ref 154, Value.int 394 0, Value.int 59 0, Value.str (Str.ofString "/claim/cut.py") 395] }
noncomputable def v2o156 (P : Params) : Obj := { cls := Value.type "function", data := Data.func { name := Str.ofString "text_of_whole", qualname := Str.ofString "text_of_whole", params := F156a, body := FuncBody.stmts F156b, scope := F156s, globals := 3, closure := [], defaults := Value.none, kwdefaults := Value.none, pyModule := Value.str (Str.ofString "snobol.values") 248, code := Value.ref 155 } }
noncomputable def v2o157 (P : Params) : Obj := { cls := Value.type "tuple", data := Data.seq #[] }
noncomputable def v2o158 (P : Params) : Obj := { cls := Value.none, data := Data.fields #[] }
noncomputable def v2o159 (P : Params) : Obj := { cls := Value.type "tuple", data := Data.seq #[Value.str (Str.ofString "value") 400, Value.str (Str.ofString "width") 401] }
noncomputable def v2o160 (P : Params) : Obj := { cls := Value.type "tuple", data := Data.seq #[] }
noncomputable def v2o161 (P : Params) : Obj := { cls := Value.none, data := Data.func { name := Str.ofString "to_whole", qualname := Str.ofString "to_whole", params := F161a, body := FuncBody.stmts F161b, scope := F161s, globals := 0, closure := [], defaults := Value.none, kwdefaults := Value.none } }
noncomputable def v2o162 (P : Params) : Obj := { cls := Value.type "code", data := Data.fields #[Value.str (Str.ofString "to_whole") 397, Value.str (Str.ofString "to_whole") 398, Value.str (Str.ofString "/claim/cut.py") 399, Value.int 65 0, Value.int 2 0, Value.int 0 0, Value.int 0 0, Value.int 3 0, Value.ref 157, Value.bool true, Value.int 181 0, Value.ref 158, Value.none, Value.ref 159, Value.ref 160, Value.ref 161, Value.int 402 0, Value.int 65 0, Value.str (Str.ofString "/claim/cut.py") 403] }
noncomputable def v2o163 (P : Params) : Obj := { cls := Value.type "function", data := Data.func { name := Str.ofString "to_whole", qualname := Str.ofString "to_whole", params := F163a, body := FuncBody.stmts F163b, scope := F163s, globals := 3, closure := [], defaults := Value.none, kwdefaults := Value.none, pyModule := Value.str (Str.ofString "snobol.values") 248, code := Value.ref 162 } }
noncomputable def v2o164 (P : Params) : Obj := { cls := Value.type "tuple", data := Data.seq #[] }
noncomputable def v2o165 (P : Params) : Obj := { cls := Value.none, data := Data.fields #[] }
noncomputable def v2o166 (P : Params) : Obj := { cls := Value.type "tuple", data := Data.seq #[Value.str (Str.ofString "value") 408] }
noncomputable def v2o167 (P : Params) : Obj := { cls := Value.type "tuple", data := Data.seq #[] }
noncomputable def v2o168 (P : Params) : Obj := { cls := Value.none, data := Data.func { name := Str.ofString "to_text", qualname := Str.ofString "to_text", params := F168a, body := FuncBody.stmts F168b, scope := F168s, globals := 0, closure := [], defaults := Value.none, kwdefaults := Value.none } }
noncomputable def v2o169 (P : Params) : Obj := { cls := Value.type "code", data := Data.fields #[Value.str (Str.ofString "to_text") 405, Value.str (Str.ofString "to_text") 406, Value.str (Str.ofString "/claim/cut.py") 407, Value.int 69 0, Value.int 1 0, Value.int 0 0, Value.int 0 0, Value.int 3 0, Value.ref 164, Value.bool true, Value.int 181 0, Value.ref 165, Value.none, Value.ref 166, Value.ref 167, Value.ref 168, Value.int 409 0, Value.int 69 0, Value.str (Str.ofString "/claim/cut.py") 410] }
noncomputable def v2o170 (P : Params) : Obj := { cls := Value.type "function", data := Data.func { name := Str.ofString "to_text", qualname := Str.ofString "to_text", params := F170a, body := FuncBody.stmts F170b, scope := F170s, globals := 3, closure := [], defaults := Value.none, kwdefaults := Value.none, pyModule := Value.str (Str.ofString "snobol.values") 248, code := Value.ref 169 } }
noncomputable def v2o171 (P : Params) : Obj := { cls := Value.type "tuple", data := Data.seq #[] }
noncomputable def v2o172 (P : Params) : Obj := { cls := Value.none, data := Data.fields #[] }
noncomputable def v2o173 (P : Params) : Obj := { cls := Value.type "tuple", data := Data.seq #[Value.str (Str.ofString "value") 415, Value.str (Str.ofString "text") 416] }
noncomputable def v2o174 (P : Params) : Obj := { cls := Value.type "tuple", data := Data.seq #[] }
noncomputable def v2o175 (P : Params) : Obj := { cls := Value.none, data := Data.func { name := Str.ofString "need_text", qualname := Str.ofString "need_text", params := F175a, body := FuncBody.stmts F175b, scope := F175s, globals := 0, closure := [], defaults := Value.none, kwdefaults := Value.none } }
noncomputable def v2o176 (P : Params) : Obj := { cls := Value.type "code", data := Data.fields #[Value.str (Str.ofString "need_text") 412, Value.str (Str.ofString "need_text") 413, Value.str (Str.ofString "/claim/cut.py") 414, Value.int 73 0, Value.int 1 0, Value.int 0 0, Value.int 0 0, Value.int 3 0, Value.ref 171, Value.bool true, Value.int 181 0, Value.ref 172, Value.none, Value.ref 173, Value.ref 174, Value.ref 175, Value.int 417 0, Value.int 73 0, Value.str (Str.ofString "/claim/cut.py") 418] }
noncomputable def v2o177 (P : Params) : Obj := { cls := Value.type "function", data := Data.func { name := Str.ofString "need_text", qualname := Str.ofString "need_text", params := F177a, body := FuncBody.stmts F177b, scope := F177s, globals := 3, closure := [], defaults := Value.none, kwdefaults := Value.none, pyModule := Value.str (Str.ofString "snobol.values") 248, code := Value.ref 176 } }
set_option maxRecDepth 100000 in
noncomputable def tree2 (P : Params) : BT := (.node (boot_o_0 P) (.node (boot_o_1 P) (.node (v2o3 P) (.node (boot_o_7 P) (.node (v1o15 P) (.node (v1o31 P) (.node (v1o63 P) (.node (v2o127 P) .nil .nil) .nil) (.node (v2o95 P) (.node (v2o159 P) .nil .nil) .nil)) (.node (v1o47 P) (.node (v1o79 P) (.node (v2o143 P) .nil .nil) .nil) (.node (v2o111 P) (.node (v2o175 P) .nil .nil) .nil))) (.node (v1o23 P) (.node (v1o39 P) (.node (v1o71 P) (.node (v2o135 P) .nil .nil) .nil) (.node (v2o103 P) (.node (v2o167 P) .nil .nil) .nil)) (.node (v1o55 P) (.node (v2o87 P) (.node (v2o151 P) .nil .nil) .nil) (.node (v2o119 P) .nil .nil)))) (.node (o11) (.node (v1o19 P) (.node (v1o35 P) (.node (v1o67 P) (.node (v2o131 P) .nil .nil) .nil) (.node (v2o99 P) (.node (v2o163 P) .nil .nil) .nil)) (.node (v1o51 P) (.node (v1o83 P) (.node (v2o147 P) .nil .nil) .nil) (.node (v2o115 P) .nil .nil))) (.node (v1o27 P) (.node (v1o43 P) (.node (v1o75 P) (.node (v2o139 P) .nil .nil) .nil) (.node (v2o107 P) (.node (v2o171 P) .nil .nil) .nil)) (.node (v1o59 P) (.node (v2o91 P) (.node (v2o155 P) .nil .nil) .nil) (.node (v2o123 P) .nil .nil))))) (.node (boot_o_5 P) (.node (boot_o_9 P) (.node (v1o17 P) (.node (v1o33 P) (.node (v1o65 P) (.node (v2o129 P) .nil .nil) .nil) (.node (v2o97 P) (.node (v2o161 P) .nil .nil) .nil)) (.node (v1o49 P) (.node (v1o81 P) (.node (v2o145 P) .nil .nil) .nil) (.node (v2o113 P) (.node (v2o177 P) .nil .nil) .nil))) (.node (v1o25 P) (.node (v1o41 P) (.node (v1o73 P) (.node (v2o137 P) .nil .nil) .nil) (.node (v2o105 P) (.node (v2o169 P) .nil .nil) .nil)) (.node (v1o57 P) (.node (v2o89 P) (.node (v2o153 P) .nil .nil) .nil) (.node (v2o121 P) .nil .nil)))) (.node (o13) (.node (v1o21 P) (.node (v1o37 P) (.node (v1o69 P) (.node (v2o133 P) .nil .nil) .nil) (.node (v2o101 P) (.node (v2o165 P) .nil .nil) .nil)) (.node (v1o53 P) (.node (v1o85 P) (.node (v2o149 P) .nil .nil) .nil) (.node (v2o117 P) .nil .nil))) (.node (v1o29 P) (.node (v1o45 P) (.node (v1o77 P) (.node (v2o141 P) .nil .nil) .nil) (.node (v2o109 P) (.node (v2o173 P) .nil .nil) .nil)) (.node (v1o61 P) (.node (v2o93 P) (.node (v2o157 P) .nil .nil) .nil) (.node (v2o125 P) .nil .nil)))))) (.node (v1o2 P) (.node (boot_o_4 P) (.node (boot_o_8 P) (.node (v1o16 P) (.node (v1o32 P) (.node (v1o64 P) (.node (v2o128 P) .nil .nil) .nil) (.node (v2o96 P) (.node (v2o160 P) .nil .nil) .nil)) (.node (v1o48 P) (.node (v1o80 P) (.node (v2o144 P) .nil .nil) .nil) (.node (v2o112 P) (.node (v2o176 P) .nil .nil) .nil))) (.node (v1o24 P) (.node (v1o40 P) (.node (v1o72 P) (.node (v2o136 P) .nil .nil) .nil) (.node (v2o104 P) (.node (v2o168 P) .nil .nil) .nil)) (.node (v1o56 P) (.node (v2o88 P) (.node (v2o152 P) .nil .nil) .nil) (.node (v2o120 P) .nil .nil)))) (.node (v2o12 P) (.node (v1o20 P) (.node (v1o36 P) (.node (v1o68 P) (.node (v2o132 P) .nil .nil) .nil) (.node (v2o100 P) (.node (v2o164 P) .nil .nil) .nil)) (.node (v1o52 P) (.node (v1o84 P) (.node (v2o148 P) .nil .nil) .nil) (.node (v2o116 P) .nil .nil))) (.node (v1o28 P) (.node (v1o44 P) (.node (v1o76 P) (.node (v2o140 P) .nil .nil) .nil) (.node (v2o108 P) (.node (v2o172 P) .nil .nil) .nil)) (.node (v1o60 P) (.node (v2o92 P) (.node (v2o156 P) .nil .nil) .nil) (.node (v2o124 P) .nil .nil))))) (.node (boot_o_6 P) (.node (boot_o_10 P) (.node (v1o18 P) (.node (v1o34 P) (.node (v1o66 P) (.node (v2o130 P) .nil .nil) .nil) (.node (v2o98 P) (.node (v2o162 P) .nil .nil) .nil)) (.node (v1o50 P) (.node (v1o82 P) (.node (v2o146 P) .nil .nil) .nil) (.node (v2o114 P) .nil .nil))) (.node (v1o26 P) (.node (v1o42 P) (.node (v1o74 P) (.node (v2o138 P) .nil .nil) .nil) (.node (v2o106 P) (.node (v2o170 P) .nil .nil) .nil)) (.node (v1o58 P) (.node (v2o90 P) (.node (v2o154 P) .nil .nil) .nil) (.node (v2o122 P) .nil .nil)))) (.node (o14) (.node (v1o22 P) (.node (v1o38 P) (.node (v1o70 P) (.node (v2o134 P) .nil .nil) .nil) (.node (v2o102 P) (.node (v2o166 P) .nil .nil) .nil)) (.node (v1o54 P) (.node (v1o86 P) (.node (v2o150 P) .nil .nil) .nil) (.node (v2o118 P) .nil .nil))) (.node (v1o30 P) (.node (v1o46 P) (.node (v1o78 P) (.node (v2o142 P) .nil .nil) .nil) (.node (v2o110 P) (.node (v2o174 P) .nil .nil) .nil)) (.node (v1o62 P) (.node (v2o94 P) (.node (v2o158 P) .nil .nil) .nil) (.node (v2o126 P) .nil .nil)))))))
noncomputable def v3o3 (P : Params) : Obj := { cls := Value.type "dict", data := Data.dict #[{ hash := PyData.keyHash P (Str.ofString "__name__"), key := Value.str (Str.ofString "__name__") 165, val := Value.str (Str.ofString "snobol.primitives") 565 }, { hash := PyData.keyHash P (Str.ofString "__doc__"), key := Value.str (Str.ofString "__doc__") 166, val := Value.none }, { hash := PyData.keyHash P (Str.ofString "__package__"), key := Value.str (Str.ofString "__package__") 167, val := Value.none }, { hash := PyData.keyHash P (Str.ofString "__loader__"), key := Value.str (Str.ofString "__loader__") 168, val := Value.builtin "__main__.__loader__#opaque" }, { hash := PyData.keyHash P (Str.ofString "__spec__"), key := Value.str (Str.ofString "__spec__") 169, val := Value.none }, { hash := PyData.keyHash P (Str.ofString "__annotations__"), key := Value.str (Str.ofString "__annotations__") 170, val := Value.ref 6 }, { hash := PyData.keyHash P (Str.ofString "__builtins__"), key := Value.str (Str.ofString "__builtins__") 171, val := Value.ref 4 }, { hash := PyData.keyHash P (Str.ofString "__file__"), key := Value.str (Str.ofString "__file__") 173, val := Value.str (Str.ofString "/claim/cut.py") 172 }, { hash := PyData.keyHash P (Str.ofString "__cached__"), key := Value.str (Str.ofString "__cached__") 174, val := Value.none }, { hash := PyData.keyHash P (Str.ofString "give_names"), key := Value.str (Str.ofString "give_names") 198, val := Value.ref 21 }, { hash := PyData.keyHash P (Str.ofString "three_pieces"), key := Value.str (Str.ofString "three_pieces") 206, val := Value.ref 28 }, { hash := PyData.keyHash P (Str.ofString "spliced"), key := Value.str (Str.ofString "spliced") 218, val := Value.ref 35 }, { hash := PyData.keyHash P (Str.ofString "replace_once"), key := Value.str (Str.ofString "replace_once") 232, val := Value.ref 42 }, { hash := PyData.keyHash P (Str.ofString "replace_often"), key := Value.str (Str.ofString "replace_often") 247, val := Value.ref 49 }, { hash := PyData.keyHash P (Str.ofString "SnobolError"), key := Value.str (Str.ofString "SnobolError") 283, val := Value.ref 69 }, { hash := PyData.keyHash P (Str.ofString "Failure"), key := Value.str (Str.ofString "Failure") 303, val := Value.ref 82 }, { hash := PyData.keyHash P (Str.ofString "Pattern"), key := Value.str (Str.ofString "Pattern") 332, val := Value.ref 103 }, { hash := PyData.keyHash P (Str.ofString "Delayed"), key := Value.str (Str.ofString "Delayed") 361, val := Value.ref 124 }, { hash := PyData.keyHash P (Str.ofString "is_fail"), key := Value.str (Str.ofString "is_fail") 368, val := Value.ref 135 }, { hash := PyData.keyHash P (Str.ofString "fits"), key := Value.str (Str.ofString "fits") 376, val := Value.ref 142 }, { hash := PyData.keyHash P (Str.ofString "whole_of_text"), key := Value.str (Str.ofString "whole_of_text") 387, val := Value.ref 149 }, { hash := PyData.keyHash P (Str.ofString "text_of_whole"), key := Value.str (Str.ofString "text_of_whole") 396, val := Value.ref 156 }, { hash := PyData.keyHash P (Str.ofString "to_whole"), key := Value.str (Str.ofString "to_whole") 404, val := Value.ref 163 }, { hash := PyData.keyHash P (Str.ofString "to_text"), key := Value.str (Str.ofString "to_text") 411, val := Value.ref 170 }, { hash := PyData.keyHash P (Str.ofString "need_text"), key := Value.str (Str.ofString "need_text") 419, val := Value.ref 177 }, { hash := PyData.keyHash P (Str.ofString "PlainHost"), key := Value.str (Str.ofString "PlainHost") 481, val := Value.ref 215 }, { hash := PyData.keyHash P (Str.ofString "replaced_signs"), key := Value.str (Str.ofString "replaced_signs") 489, val := Value.ref 224 }, { hash := PyData.keyHash P (Str.ofString "told_or_fail"), key := Value.str (Str.ofString "told_or_fail") 496, val := Value.ref 231 }, { hash := PyData.keyHash P (Str.ofString "text_replace"), key := Value.str (Str.ofString "text_replace") 506, val := Value.ref 238 }, { hash := PyData.keyHash P (Str.ofString "COUNTED"), key := Value.str (Str.ofString "COUNTED") 514, val := Value.ref 239 }, { hash := PyData.keyHash P (Str.ofString "SIGNED"), key := Value.str (Str.ofString "SIGNED") 519, val := Value.ref 240 }, { hash := PyData.keyHash P (Str.ofString "WIDTH_OF_COUNT"), key := Value.str (Str.ofString "WIDTH_OF_COUNT") 521, val := Value.int 64 520 }, { hash := PyData.keyHash P (Str.ofString "plain_count"), key := Value.str (Str.ofString "plain_count") 531, val := Value.ref 248 }, { hash := PyData.keyHash P (Str.ofString "plain_signs"), key := Value.str (Str.ofString "plain_signs") 540, val := Value.ref 255 }, { hash := PyData.keyHash P (Str.ofString "pattern_of"), key := Value.str (Str.ofString "pattern_of") 548, val := Value.ref 262 }, { hash := PyData.keyHash P (Str.ofString "is_delayed"), key := Value.str (Str.ofString "is_delayed") 555, val := Value.ref 269 }, { hash := PyData.keyHash P (Str.ofString "settled"), key := Value.str (Str.ofString "settled") 564, val := Value.ref 276 }, { hash := PyData.keyHash P (Str.ofString "OPENING"), key := Value.str (Str.ofString "OPENING") 568, val := Value.str (Str.ofString "(") 567 }, { hash := PyData.keyHash P (Str.ofString "CLOSING"), key := Value.str (Str.ofString "CLOSING") 570, val := Value.str (Str.ofString ")") 569 }, { hash := PyData.keyHash P (Str.ofString "chars_end"), key := Value.str (Str.ofString "chars_end") 580, val := Value.ref 283 }, { hash := PyData.keyHash P (Str.ofString "len_end"), key := Value.str (Str.ofString "len_end") 589, val := Value.ref 290 }, { hash := PyData.keyHash P (Str.ofString "pos_end"), key := Value.str (Str.ofString "pos_end") 597, val := Value.ref 297 }, { hash := PyData.keyHash P (Str.ofString "rpos_end"), key := Value.str (Str.ofString "rpos_end") 606, val := Value.ref 304 }] 43 }
noncomputable def v3o12 (P : Params) : Obj := { cls := Value.none, data := Data.fields #[Value.int 2 0, Value.int 0 0, Value.ref 20, Value.int 5 0, Value.int 0 0, Value.ref 27, Value.int 7 0, Value.int 0 0, Value.ref 34, Value.int 10 0, Value.int 0 0, Value.ref 41, Value.int 17 0, Value.int 0 0, Value.ref 48, Value.int 26 0, Value.int 0 0, Value.ref 56, Value.int 32 0, Value.int 0 0, Value.ref 78, Value.int 34 0, Value.int 0 0, Value.ref 92, Value.int 38 0, Value.int 0 0, Value.ref 113, Value.int 42 0, Value.int 0 0, Value.ref 134, Value.int 44 0, Value.int 0 0, Value.ref 141, Value.int 46 0, Value.int 0 0, Value.ref 148, Value.int 59 0, Value.int 0 0, Value.ref 155, Value.int 65 0, Value.int 0 0, Value.ref 162, Value.int 69 0, Value.int 0 0, Value.ref 169, Value.int 73 0, Value.int 0 0, Value.ref 176, Value.int 79 0, Value.int 0 0, Value.ref 183, Value.int 106 0, Value.int 0 0, Value.ref 223, Value.int 113 0, Value.int 0 0, Value.ref 230, Value.int 115 0, Value.int 0 0, Value.ref 237, Value.int 122 0, Value.int 0 0, Value.ref 247, Value.int 129 0, Value.int 0 0, Value.ref 254, Value.int 134 0, Value.int 0 0, Value.ref 261, Value.int 143 0, Value.int 0 0, Value.ref 268, Value.int 145 0, Value.int 0 0, Value.ref 275, Value.int 157 0, Value.int 0 0, Value.ref 282, Value.int 160 0, Value.int 0 0, Value.ref 289, Value.int 162 0, Value.int 0 0, Value.ref 296, Value.int 164 0, Value.int 0 0, Value.ref 303] }
noncomputable def v3o178 (P : Params) : Obj := { cls := Value.type "tuple", data := Data.seq #[] }
noncomputable def v3o179 (P : Params) : Obj := { cls := Value.type "builtin_function_or_method", data := Data.fields #[Value.builtin "type.__prepare__", Value.type "type"] }
noncomputable def v3o180 (P : Params) : Obj := { cls := Value.type "dict", data := Data.dict #[{ hash := PyData.keyHash P (Str.ofString "__module__"), key := Value.str (Str.ofString "__module__") 429, val := Value.str (Str.ofString "snobol.hosts") 420 }, { hash := PyData.keyHash P (Str.ofString "__qualname__"), key := Value.str (Str.ofString "__qualname__") 431, val := Value.str (Str.ofString "PlainHost") 430 }, { hash := PyData.keyHash P (Str.ofString "__firstlineno__"), key := Value.str (Str.ofString "__firstlineno__") 433, val := Value.int 79 432 }, { hash := PyData.keyHash P (Str.ofString "__init__"), key := Value.str (Str.ofString "__init__") 443, val := Value.ref 191 }, { hash := PyData.keyHash P (Str.ofString "value_of"), key := Value.str (Str.ofString "value_of") 451, val := Value.ref 198 }, { hash := PyData.keyHash P (Str.ofString "assign"), key := Value.str (Str.ofString "assign") 460, val := Value.ref 205 }, { hash := PyData.keyHash P (Str.ofString "step"), key := Value.str (Str.ofString "step") 467, val := Value.ref 212 }, { hash := PyData.keyHash P (Str.ofString "__static_attributes__"), key := Value.str (Str.ofString "__static_attributes__") 474, val := Value.ref 213 }] 8 }
noncomputable def v3o181 (P : Params) : Obj := { cls := Value.type "tuple", data := Data.seq #[] }
noncomputable def v3o182 (P : Params) : Obj := { cls := Value.none, data := Data.fields #[Value.int 81 0, Value.int 4 0, Value.ref 190, Value.int 89 0, Value.int 4 0, Value.ref 197, Value.int 94 0, Value.int 4 0, Value.ref 204, Value.int 101 0, Value.int 4 0, Value.ref 211] }
noncomputable def v3o183 (P : Params) : Obj := { cls := Value.type "code", data := Data.fields #[Value.str (Str.ofString "PlainHost") 424, Value.str (Str.ofString "PlainHost") 425, Value.str (Str.ofString "/claim/cut.py") 426, Value.int 79 0, Value.int 0 0, Value.int 0 0, Value.int 0 0, Value.int 0 0, Value.ref 181, Value.bool false, Value.int 181 0, Value.ref 182, Value.none, Value.none, Value.none, Value.none, Value.int 427 0, Value.int 79 0, Value.str (Str.ofString "/claim/cut.py") 428] }
noncomputable def v3o184 (P : Params) : Obj := { cls := Value.type "frame", slots := #[some (Value.ref 183), some (Value.ref 3), some (Value.ref 180), none, some (Value.str (Str.ofString "snobol.hosts") 420), none, some (Value.ref 0)] }
noncomputable def v3o185 (P : Params) : Obj := { cls := Value.type "tuple", data := Data.seq #[] }
noncomputable def v3o186 (P : Params) : Obj := { cls := Value.none, data := Data.fields #[] }
noncomputable def v3o187 (P : Params) : Obj := { cls := Value.type "tuple", data := Data.seq #[Value.str (Str.ofString "self") 437, Value.str (Str.ofString "values") 438, Value.str (Str.ofString "limit") 439, Value.str (Str.ofString "refused") 440] }
noncomputable def v3o188 (P : Params) : Obj := { cls := Value.type "tuple", data := Data.seq #[] }
noncomputable def v3o189 (P : Params) : Obj := { cls := Value.none, data := Data.func { name := Str.ofString "__init__", qualname := Str.ofString "PlainHost.__init__", params := F189a, body := FuncBody.stmts F189b, scope := F189s, globals := 0, closure := [], defaults := Value.none, kwdefaults := Value.none } }
noncomputable def v3o190 (P : Params) : Obj := { cls := Value.type "code", data := Data.fields #[Value.str (Str.ofString "__init__") 434, Value.str (Str.ofString "PlainHost.__init__") 435, Value.str (Str.ofString "/claim/cut.py") 436, Value.int 81 0, Value.int 4 0, Value.int 0 0, Value.int 0 0, Value.int 3 0, Value.ref 185, Value.bool true, Value.int 181 0, Value.ref 186, Value.none, Value.ref 187, Value.ref 188, Value.ref 189, Value.int 441 0, Value.int 81 0, Value.str (Str.ofString "/claim/cut.py") 442] }
noncomputable def v3o191 (P : Params) : Obj := { cls := Value.type "function", data := Data.func { name := Str.ofString "__init__", qualname := Str.ofString "PlainHost.__init__", params := F191a, body := FuncBody.stmts F191b, scope := F191s, globals := 3, closure := [], defaults := Value.none, kwdefaults := Value.none, pyModule := Value.str (Str.ofString "snobol.hosts") 420, code := Value.ref 190 } }
noncomputable def v3o192 (P : Params) : Obj := { cls := Value.type "tuple", data := Data.seq #[] }
noncomputable def v3o193 (P : Params) : Obj := { cls := Value.none, data := Data.fields #[] }
noncomputable def v3o194 (P : Params) : Obj := { cls := Value.type "tuple", data := Data.seq #[Value.str (Str.ofString "self") 447, Value.str (Str.ofString "tree") 448] }
noncomputable def v3o195 (P : Params) : Obj := { cls := Value.type "tuple", data := Data.seq #[] }
noncomputable def v3o196 (P : Params) : Obj := { cls := Value.none, data := Data.func { name := Str.ofString "value_of", qualname := Str.ofString "PlainHost.value_of", params := F196a, body := FuncBody.stmts F196b, scope := F196s, globals := 0, closure := [], defaults := Value.none, kwdefaults := Value.none } }
noncomputable def v3o197 (P : Params) : Obj := { cls := Value.type "code", data := Data.fields #[Value.str (Str.ofString "value_of") 444, Value.str (Str.ofString "PlainHost.value_of") 445, Value.str (Str.ofString "/claim/cut.py") 446, Value.int 89 0, Value.int 2 0, Value.int 0 0, Value.int 0 0, Value.int 3 0, Value.ref 192, Value.bool true, Value.int 181 0, Value.ref 193, Value.none, Value.ref 194, Value.ref 195, Value.ref 196, Value.int 449 0, Value.int 89 0, Value.str (Str.ofString "/claim/cut.py") 450] }
noncomputable def v3o198 (P : Params) : Obj := { cls := Value.type "function", data := Data.func { name := Str.ofString "value_of", qualname := Str.ofString "PlainHost.value_of", params := F198a, body := FuncBody.stmts F198b, scope := F198s, globals := 3, closure := [], defaults := Value.none, kwdefaults := Value.none, pyModule := Value.str (Str.ofString "snobol.hosts") 420, code := Value.ref 197 } }
noncomputable def v3o199 (P : Params) : Obj := { cls := Value.type "tuple", data := Data.seq #[] }
noncomputable def v3o200 (P : Params) : Obj := { cls := Value.none, data := Data.fields #[] }
noncomputable def v3o201 (P : Params) : Obj := { cls := Value.type "tuple", data := Data.seq #[Value.str (Str.ofString "self") 455, Value.str (Str.ofString "ref") 456, Value.str (Str.ofString "value") 457] }
noncomputable def v3o202 (P : Params) : Obj := { cls := Value.type "tuple", data := Data.seq #[] }
noncomputable def v3o203 (P : Params) : Obj := { cls := Value.none, data := Data.func { name := Str.ofString "assign", qualname := Str.ofString "PlainHost.assign", params := F203a, body := FuncBody.stmts F203b, scope := F203s, globals := 0, closure := [], defaults := Value.none, kwdefaults := Value.none } }
noncomputable def v3o204 (P : Params) : Obj := { cls := Value.type "code", data := Data.fields #[Value.str (Str.ofString "assign") 452, Value.str (Str.ofString "PlainHost.assign") 453, Value.str (Str.ofString "/claim/cut.py") 454, Value.int 94 0, Value.int 3 0, Value.int 0 0, Value.int 0 0, Value.int 3 0, Value.ref 199, Value.bool true, Value.int 181 0, Value.ref 200, Value.none, Value.ref 201, Value.ref 202, Value.ref 203, Value.int 458 0, Value.int 94 0, Value.str (Str.ofString "/claim/cut.py") 459] }
noncomputable def v3o205 (P : Params) : Obj := { cls := Value.type "function", data := Data.func { name := Str.ofString "assign", qualname := Str.ofString "PlainHost.assign", params := F205a, body := FuncBody.stmts F205b, scope := F205s, globals := 3, closure := [], defaults := Value.none, kwdefaults := Value.none, pyModule := Value.str (Str.ofString "snobol.hosts") 420, code := Value.ref 204 } }
noncomputable def v3o206 (P : Params) : Obj := { cls := Value.type "tuple", data := Data.seq #[] }
noncomputable def v3o207 (P : Params) : Obj := { cls := Value.none, data := Data.fields #[] }
noncomputable def v3o208 (P : Params) : Obj := { cls := Value.type "tuple", data := Data.seq #[Value.str (Str.ofString "self") 464] }
noncomputable def v3o209 (P : Params) : Obj := { cls := Value.type "tuple", data := Data.seq #[] }
noncomputable def v3o210 (P : Params) : Obj := { cls := Value.none, data := Data.func { name := Str.ofString "step", qualname := Str.ofString "PlainHost.step", params := F210a, body := FuncBody.stmts F210b, scope := F210s, globals := 0, closure := [], defaults := Value.none, kwdefaults := Value.none } }
noncomputable def v3o211 (P : Params) : Obj := { cls := Value.type "code", data := Data.fields #[Value.str (Str.ofString "step") 461, Value.str (Str.ofString "PlainHost.step") 462, Value.str (Str.ofString "/claim/cut.py") 463, Value.int 101 0, Value.int 1 0, Value.int 0 0, Value.int 0 0, Value.int 3 0, Value.ref 206, Value.bool true, Value.int 181 0, Value.ref 207, Value.none, Value.ref 208, Value.ref 209, Value.ref 210, Value.int 465 0, Value.int 101 0, Value.str (Str.ofString "/claim/cut.py") 466] }
noncomputable def v3o212 (P : Params) : Obj := { cls := Value.type "function", data := Data.func { name := Str.ofString "step", qualname := Str.ofString "PlainHost.step", params := F212a, body := FuncBody.stmts F212b, scope := F212s, globals := 3, closure := [], defaults := Value.none, kwdefaults := Value.none, pyModule := Value.str (Str.ofString "snobol.hosts") 420, code := Value.ref 211 } }
noncomputable def v3o213 (P : Params) : Obj := { cls := Value.type "tuple", data := Data.seq #[Value.str (Str.ofString "limit") 468, Value.str (Str.ofString "log") 469, Value.str (Str.ofString "refused") 470, Value.str (Str.ofString "steps") 471, Value.str (Str.ofString "values") 472, Value.str (Str.ofString "width") 473] }
noncomputable def v3o214 (P : Params) : Obj := { cls := Value.type "dict", data := Data.dict #[{ hash := PyData.keyHash P (Str.ofString "__module__"), key := Value.str (Str.ofString "__module__") 429, val := Value.str (Str.ofString "snobol.hosts") 420 }, { hash := PyData.keyHash P (Str.ofString "__firstlineno__"), key := Value.str (Str.ofString "__firstlineno__") 433, val := Value.int 79 432 }, { hash := PyData.keyHash P (Str.ofString "__init__"), key := Value.str (Str.ofString "__init__") 443, val := Value.ref 191 }, { hash := PyData.keyHash P (Str.ofString "value_of"), key := Value.str (Str.ofString "value_of") 451, val := Value.ref 198 }, { hash := PyData.keyHash P (Str.ofString "assign"), key := Value.str (Str.ofString "assign") 460, val := Value.ref 205 }, { hash := PyData.keyHash P (Str.ofString "step"), key := Value.str (Str.ofString "step") 467, val := Value.ref 212 }, { hash := PyData.keyHash P (Str.ofString "__static_attributes__"), key := Value.str (Str.ofString "__static_attributes__") 474, val := Value.ref 213 }, { hash := PyData.keyHash P (Str.ofString "__dict__"), key := Value.str (Str.ofString "__dict__") 476, val := Value.ref 216 }, { hash := PyData.keyHash P (Str.ofString "__weakref__"), key := Value.str (Str.ofString "__weakref__") 478, val := Value.ref 217 }, { hash := PyData.keyHash P (Str.ofString "__doc__"), key := Value.str (Str.ofString "__doc__") 479, val := Value.none }] 4 }
noncomputable def v3o215 (P : Params) : Obj := { cls := Value.type "type", data := Data.cls { name := Str.ofString "PlainHost", bases := [Value.type "object"], mro := [Value.ref 215, Value.type "object"], ns := 214, qualname := Str.ofString "PlainHost" }, slots := #[none, none, some (Value.str (Str.ofString "PlainHost") 422), some (Value.str (Str.ofString "PlainHost") 430), some (Value.builtin "object.__new__"), some (Value.bool true)] }
noncomputable def v3o216 (P : Params) : Obj := { cls := Value.type "getset_descriptor", data := Data.fields #[Value.str (Str.ofString "__dict__") 475, Value.ref 215, Value.builtin "function.__dict__", Value.builtin "function.__dict__#set"] }
noncomputable def v3o217 (P : Params) : Obj := { cls := Value.type "getset_descriptor", data := Data.fields #[Value.str (Str.ofString "__weakref__") 477, Value.ref 215, Value.builtin "ExceptionGroup.__weakref__", Value.none] }
noncomputable def v3o218 (P : Params) : Obj := { cls := Value.type "super", data := Data.fields #[Value.ref 215, Value.ref 215, Value.ref 215] }
noncomputable def v3o219 (P : Params) : Obj := { cls := Value.type "builtin_function_or_method", data := Data.fields #[Value.builtin "object.__init_subclass__", Value.ref 215] }
noncomputable def v3o220 (P : Params) : Obj := { cls := Value.type "tuple", data := Data.seq #[] }
noncomputable def v3o221 (P : Params) : Obj := { cls := Value.none, data := Data.fields #[] }
noncomputable def v3o222 (P : Params) : Obj := { cls := Value.none, data := Data.func { name := Str.ofString "replaced_signs", qualname := Str.ofString "replaced_signs", params := F222a, body := FuncBody.stmts F222b, scope := F222s, globals := 0, closure := [], defaults := Value.none, kwdefaults := Value.none } }
noncomputable def v3o223 (P : Params) : Obj := { cls := Value.type "code", data := Data.fields #[Value.str (Str.ofString "replaced_signs") 484, Value.str (Str.ofString "replaced_signs") 485, Value.str (Str.ofString "/claim/cut.py") 486, Value.int 106 0, Value.int 3 0, Value.int 0 0, Value.int 0 0, Value.int 3 0, Value.ref 220, Value.bool true, Value.int 181 0, Value.ref 221, Value.none, Value.none, Value.none, Value.ref 222, Value.int 487 0, Value.int 106 0, Value.str (Str.ofString "/claim/cut.py") 488] }
noncomputable def v3o224 (P : Params) : Obj := { cls := Value.type "function", data := Data.func { name := Str.ofString "replaced_signs", qualname := Str.ofString "replaced_signs", params := F224a, body := FuncBody.stmts F224b, scope := F224s, globals := 3, closure := [], defaults := Value.none, kwdefaults := Value.none, pyModule := Value.str (Str.ofString "snobol.strings") 482, code := Value.ref 223 } }
noncomputable def v3o225 (P : Params) : Obj := { cls := Value.type "tuple", data := Data.seq #[] }
noncomputable def v3o226 (P : Params) : Obj := { cls := Value.none, data := Data.fields #[] }
noncomputable def v3o227 (P : Params) : Obj := { cls := Value.type "tuple", data := Data.seq #[Value.str (Str.ofString "value") 493] }
noncomputable def v3o228 (P : Params) : Obj := { cls := Value.type "tuple", data := Data.seq #[] }
noncomputable def v3o229 (P : Params) : Obj := { cls := Value.none, data := Data.func { name := Str.ofString "told_or_fail", qualname := Str.ofString "told_or_fail", params := F229a, body := FuncBody.stmts F229b, scope := F229s, globals := 0, closure := [], defaults := Value.none, kwdefaults := Value.none } }
noncomputable def v3o230 (P : Params) : Obj := { cls := Value.type "code", data := Data.fields #[Value.str (Str.ofString "told_or_fail") 490, Value.str (Str.ofString "told_or_fail") 491, Value.str (Str.ofString "/claim/cut.py") 492, Value.int 113 0, Value.int 1 0, Value.int 0 0, Value.int 0 0, Value.int 3 0, Value.ref 225, Value.bool true, Value.int 181 0, Value.ref 226, Value.none, Value.ref 227, Value.ref 228, Value.ref 229, Value.int 494 0, Value.int 113 0, Value.str (Str.ofString "/claim/cut.py") 495] }
noncomputable def v3o231 (P : Params) : Obj := { cls := Value.type "function", data := Data.func { name := Str.ofString "told_or_fail", qualname := Str.ofString "told_or_fail", params := F231a, body := FuncBody.stmts F231b, scope := F231s, globals := 3, closure := [], defaults := Value.none, kwdefaults := Value.none, pyModule := Value.str (Str.ofString "snobol.strings") 482, code := Value.ref 230 } }
noncomputable def v3o232 (P : Params) : Obj := { cls := Value.type "tuple", data := Data.seq #[] }
noncomputable def v3o233 (P : Params) : Obj := { cls := Value.none, data := Data.fields #[] }
noncomputable def v3o234 (P : Params) : Obj := { cls := Value.type "tuple", data := Data.seq #[Value.str (Str.ofString "world") 500, Value.str (Str.ofString "args") 501, Value.str (Str.ofString "text") 502, Value.str (Str.ofString "olds") 503] }
noncomputable def v3o235 (P : Params) : Obj := { cls := Value.type "tuple", data := Data.seq #[] }
noncomputable def v3o236 (P : Params) : Obj := { cls := Value.none, data := Data.func { name := Str.ofString "text_replace", qualname := Str.ofString "text_replace", params := F236a, body := FuncBody.stmts F236b, scope := F236s, globals := 0, closure := [], defaults := Value.none, kwdefaults := Value.none } }
noncomputable def v3o237 (P : Params) : Obj := { cls := Value.type "code", data := Data.fields #[Value.str (Str.ofString "text_replace") 497, Value.str (Str.ofString "text_replace") 498, Value.str (Str.ofString "/claim/cut.py") 499, Value.int 115 0, Value.int 2 0, Value.int 0 0, Value.int 0 0, Value.int 3 0, Value.ref 232, Value.bool true, Value.int 181 0, Value.ref 233, Value.none, Value.ref 234, Value.ref 235, Value.ref 236, Value.int 504 0, Value.int 115 0, Value.str (Str.ofString "/claim/cut.py") 505] }
noncomputable def v3o238 (P : Params) : Obj := { cls := Value.type "function", data := Data.func { name := Str.ofString "text_replace", qualname := Str.ofString "text_replace", params := F238a, body := FuncBody.stmts F238b, scope := F238s, globals := 3, closure := [], defaults := Value.none, kwdefaults := Value.none, pyModule := Value.str (Str.ofString "snobol.strings") 482, code := Value.ref 237 } }
noncomputable def v3o239 (P : Params) : Obj := { cls := Value.type "tuple", data := Data.seq #[Value.str (Str.ofString "len") 509, Value.str (Str.ofString "pos") 510, Value.str (Str.ofString "rpos") 511, Value.str (Str.ofString "tab") 512, Value.str (Str.ofString "rtab") 513] }
noncomputable def v3o240 (P : Params) : Obj := { cls := Value.type "tuple", data := Data.seq #[Value.str (Str.ofString "any") 515, Value.str (Str.ofString "notany") 516, Value.str (Str.ofString "span") 517, Value.str (Str.ofString "break") 518] }
noncomputable def v3o241 (P : Params) : Obj := { cls := Value.type "tuple", data := Data.seq #[Value.int 64 520] }
noncomputable def v3o242 (P : Params) : Obj := { cls := Value.type "tuple", data := Data.seq #[] }
noncomputable def v3o243 (P : Params) : Obj := { cls := Value.none, data := Data.fields #[] }
noncomputable def v3o244 (P : Params) : Obj := { cls := Value.type "tuple", data := Data.seq #[Value.str (Str.ofString "value") 525, Value.str (Str.ofString "kind") 526, Value.str (Str.ofString "width") 527, Value.str (Str.ofString "count") 528] }
noncomputable def v3o245 (P : Params) : Obj := { cls := Value.type "tuple", data := Data.seq #[] }
noncomputable def v3o246 (P : Params) : Obj := { cls := Value.none, data := Data.func { name := Str.ofString "plain_count", qualname := Str.ofString "plain_count", params := F246a, body := FuncBody.stmts F246b, scope := F246s, globals := 0, closure := [], defaults := Value.none, kwdefaults := Value.none } }
noncomputable def v3o247 (P : Params) : Obj := { cls := Value.type "code", data := Data.fields #[Value.str (Str.ofString "plain_count") 522, Value.str (Str.ofString "plain_count") 523, Value.str (Str.ofString "/claim/cut.py") 524, Value.int 122 0, Value.int 3 0, Value.int 0 0, Value.int 0 0, Value.int 3 0, Value.ref 242, Value.bool true, Value.int 181 0, Value.ref 243, Value.none, Value.ref 244, Value.ref 245, Value.ref 246, Value.int 529 0, Value.int 122 0, Value.str (Str.ofString "/claim/cut.py") 530] }
noncomputable def v3o248 (P : Params) : Obj := { cls := Value.type "function", data := Data.func { name := Str.ofString "plain_count", qualname := Str.ofString "plain_count", params := F248a, body := FuncBody.stmts F248b, scope := F248s, globals := 3, closure := [], defaults := Value.ref 241, kwdefaults := Value.none, pyModule := Value.str (Str.ofString "snobol.nodes") 507, code := Value.ref 247 } }
noncomputable def v3o249 (P : Params) : Obj := { cls := Value.type "tuple", data := Data.seq #[] }
noncomputable def v3o250 (P : Params) : Obj := { cls := Value.none, data := Data.fields #[] }
noncomputable def v3o251 (P : Params) : Obj := { cls := Value.type "tuple", data := Data.seq #[Value.str (Str.ofString "value") 535, Value.str (Str.ofString "kind") 536, Value.str (Str.ofString "text") 537] }
noncomputable def v3o252 (P : Params) : Obj := { cls := Value.type "tuple", data := Data.seq #[] }
noncomputable def v3o253 (P : Params) : Obj := { cls := Value.none, data := Data.func { name := Str.ofString "plain_signs", qualname := Str.ofString "plain_signs", params := F253a, body := FuncBody.stmts F253b, scope := F253s, globals := 0, closure := [], defaults := Value.none, kwdefaults := Value.none } }
noncomputable def v3o254 (P : Params) : Obj := { cls := Value.type "code", data := Data.fields #[Value.str (Str.ofString "plain_signs") 532, Value.str (Str.ofString "plain_signs") 533, Value.str (Str.ofString "/claim/cut.py") 534, Value.int 129 0, Value.int 2 0, Value.int 0 0, Value.int 0 0, Value.int 3 0, Value.ref 249, Value.bool true, Value.int 181 0, Value.ref 250, Value.none, Value.ref 251, Value.ref 252, Value.ref 253, Value.int 538 0, Value.int 129 0, Value.str (Str.ofString "/claim/cut.py") 539] }
noncomputable def v3o255 (P : Params) : Obj := { cls := Value.type "function", data := Data.func { name := Str.ofString "plain_signs", qualname := Str.ofString "plain_signs", params := F255a, body := FuncBody.stmts F255b, scope := F255s, globals := 3, closure := [], defaults := Value.none, kwdefaults := Value.none, pyModule := Value.str (Str.ofString "snobol.nodes") 507, code := Value.ref 254 } }
noncomputable def v3o256 (P : Params) : Obj := { cls := Value.type "tuple", data := Data.seq #[] }
noncomputable def v3o257 (P : Params) : Obj := { cls := Value.none, data := Data.fields #[] }
noncomputable def v3o258 (P : Params) : Obj := { cls := Value.type "tuple", data := Data.seq #[Value.str (Str.ofString "value") 544, Value.str (Str.ofString "text") 545] }
noncomputable def v3o259 (P : Params) : Obj := { cls := Value.type "tuple", data := Data.seq #[] }
noncomputable def v3o260 (P : Params) : Obj := { cls := Value.none, data := Data.func { name := Str.ofString "pattern_of", qualname := Str.ofString "pattern_of", params := F260a, body := FuncBody.stmts F260b, scope := F260s, globals := 0, closure := [], defaults := Value.none, kwdefaults := Value.none } }
noncomputable def v3o261 (P : Params) : Obj := { cls := Value.type "code", data := Data.fields #[Value.str (Str.ofString "pattern_of") 541, Value.str (Str.ofString "pattern_of") 542, Value.str (Str.ofString "/claim/cut.py") 543, Value.int 134 0, Value.int 1 0, Value.int 0 0, Value.int 0 0, Value.int 3 0, Value.ref 256, Value.bool true, Value.int 181 0, Value.ref 257, Value.none, Value.ref 258, Value.ref 259, Value.ref 260, Value.int 546 0, Value.int 134 0, Value.str (Str.ofString "/claim/cut.py") 547] }
noncomputable def v3o262 (P : Params) : Obj := { cls := Value.type "function", data := Data.func { name := Str.ofString "pattern_of", qualname := Str.ofString "pattern_of", params := F262a, body := FuncBody.stmts F262b, scope := F262s, globals := 3, closure := [], defaults := Value.none, kwdefaults := Value.none, pyModule := Value.str (Str.ofString "snobol.nodes") 507, code := Value.ref 261 } }
noncomputable def v3o263 (P : Params) : Obj := { cls := Value.type "tuple", data := Data.seq #[] }
noncomputable def v3o264 (P : Params) : Obj := { cls := Value.none, data := Data.fields #[] }
noncomputable def v3o265 (P : Params) : Obj := { cls := Value.type "tuple", data := Data.seq #[Value.str (Str.ofString "told") 552] }
noncomputable def v3o266 (P : Params) : Obj := { cls := Value.type "tuple", data := Data.seq #[] }
noncomputable def v3o267 (P : Params) : Obj := { cls := Value.none, data := Data.func { name := Str.ofString "is_delayed", qualname := Str.ofString "is_delayed", params := F267a, body := FuncBody.stmts F267b, scope := F267s, globals := 0, closure := [], defaults := Value.none, kwdefaults := Value.none } }
noncomputable def v3o268 (P : Params) : Obj := { cls := Value.type "code", data := Data.fields #[Value.str (Str.ofString "is_delayed") 549, Value.str (Str.ofString "is_delayed") 550, Value.str (Str.ofString "/claim/cut.py") 551, Value.int 143 0, Value.int 1 0, Value.int 0 0, Value.int 0 0, Value.int 3 0, Value.ref 263, Value.bool true, Value.int 181 0, Value.ref 264, Value.none, Value.ref 265, Value.ref 266, Value.ref 267, Value.int 553 0, Value.int 143 0, Value.str (Str.ofString "/claim/cut.py") 554] }
noncomputable def v3o269 (P : Params) : Obj := { cls := Value.type "function", data := Data.func { name := Str.ofString "is_delayed", qualname := Str.ofString "is_delayed", params := F269a, body := FuncBody.stmts F269b, scope := F269s, globals := 3, closure := [], defaults := Value.none, kwdefaults := Value.none, pyModule := Value.str (Str.ofString "snobol.nodes") 507, code := Value.ref 268 } }
noncomputable def v3o270 (P : Params) : Obj := { cls := Value.type "tuple", data := Data.seq #[] }
noncomputable def v3o271 (P : Params) : Obj := { cls := Value.none, data := Data.fields #[] }
noncomputable def v3o272 (P : Params) : Obj := { cls := Value.type "tuple", data := Data.seq #[Value.str (Str.ofString "node") 559, Value.str (Str.ofString "host") 560, Value.str (Str.ofString "value") 561] }
noncomputable def v3o273 (P : Params) : Obj := { cls := Value.type "tuple", data := Data.seq #[] }
noncomputable def v3o274 (P : Params) : Obj := { cls := Value.none, data := Data.func { name := Str.ofString "settled", qualname := Str.ofString "settled", params := F274a, body := FuncBody.stmts F274b, scope := F274s, globals := 0, closure := [], defaults := Value.none, kwdefaults := Value.none } }
noncomputable def v3o275 (P : Params) : Obj := { cls := Value.type "code", data := Data.fields #[Value.str (Str.ofString "settled") 556, Value.str (Str.ofString "settled") 557, Value.str (Str.ofString "/claim/cut.py") 558, Value.int 145 0, Value.int 2 0, Value.int 0 0, Value.int 0 0, Value.int 3 0, Value.ref 270, Value.bool true, Value.int 181 0, Value.ref 271, Value.none, Value.ref 272, Value.ref 273, Value.ref 274, Value.int 562 0, Value.int 145 0, Value.str (Str.ofString "/claim/cut.py") 563] }
noncomputable def v3o276 (P : Params) : Obj := { cls := Value.type "function", data := Data.func { name := Str.ofString "settled", qualname := Str.ofString "settled", params := F276a, body := FuncBody.stmts F276b, scope := F276s, globals := 3, closure := [], defaults := Value.none, kwdefaults := Value.none, pyModule := Value.str (Str.ofString "snobol.nodes") 507, code := Value.ref 275 } }
noncomputable def v3o277 (P : Params) : Obj := { cls := Value.type "tuple", data := Data.seq #[] }
noncomputable def v3o278 (P : Params) : Obj := { cls := Value.none, data := Data.fields #[] }
noncomputable def v3o279 (P : Params) : Obj := { cls := Value.type "tuple", data := Data.seq #[Value.str (Str.ofString "subject") 574, Value.str (Str.ofString "at") 575, Value.str (Str.ofString "text") 576, Value.str (Str.ofString "end") 577] }
noncomputable def v3o280 (P : Params) : Obj := { cls := Value.type "tuple", data := Data.seq #[] }
noncomputable def v3o281 (P : Params) : Obj := { cls := Value.none, data := Data.func { name := Str.ofString "chars_end", qualname := Str.ofString "chars_end", params := F281a, body := FuncBody.stmts F281b, scope := F281s, globals := 0, closure := [], defaults := Value.none, kwdefaults := Value.none } }
noncomputable def v3o282 (P : Params) : Obj := { cls := Value.type "code", data := Data.fields #[Value.str (Str.ofString "chars_end") 571, Value.str (Str.ofString "chars_end") 572, Value.str (Str.ofString "/claim/cut.py") 573, Value.int 157 0, Value.int 3 0, Value.int 0 0, Value.int 0 0, Value.int 3 0, Value.ref 277, Value.bool true, Value.int 181 0, Value.ref 278, Value.none, Value.ref 279, Value.ref 280, Value.ref 281, Value.int 578 0, Value.int 157 0, Value.str (Str.ofString "/claim/cut.py") 579] }
noncomputable def v3o283 (P : Params) : Obj := { cls := Value.type "function", data := Data.func { name := Str.ofString "chars_end", qualname := Str.ofString "chars_end", params := F283a, body := FuncBody.stmts F283b, scope := F283s, globals := 3, closure := [], defaults := Value.none, kwdefaults := Value.none, pyModule := Value.str (Str.ofString "snobol.primitives") 565, code := Value.ref 282 } }
noncomputable def v3o284 (P : Params) : Obj := { cls := Value.type "tuple", data := Data.seq #[] }
noncomputable def v3o285 (P : Params) : Obj := { cls := Value.none, data := Data.fields #[] }
noncomputable def v3o286 (P : Params) : Obj := { cls := Value.type "tuple", data := Data.seq #[Value.str (Str.ofString "subject") 584, Value.str (Str.ofString "at") 585, Value.str (Str.ofString "many") 586] }
noncomputable def v3o287 (P : Params) : Obj := { cls := Value.type "tuple", data := Data.seq #[] }
noncomputable def v3o288 (P : Params) : Obj := { cls := Value.none, data := Data.func { name := Str.ofString "len_end", qualname := Str.ofString "len_end", params := F288a, body := FuncBody.stmts F288b, scope := F288s, globals := 0, closure := [], defaults := Value.none, kwdefaults := Value.none } }
noncomputable def v3o289 (P : Params) : Obj := { cls := Value.type "code", data := Data.fields #[Value.str (Str.ofString "len_end") 581, Value.str (Str.ofString "len_end") 582, Value.str (Str.ofString "/claim/cut.py") 583, Value.int 160 0, Value.int 3 0, Value.int 0 0, Value.int 0 0, Value.int 3 0, Value.ref 284, Value.bool true, Value.int 181 0, Value.ref 285, Value.none, Value.ref 286, Value.ref 287, Value.ref 288, Value.int 587 0, Value.int 160 0, Value.str (Str.ofString "/claim/cut.py") 588] }
noncomputable def v3o290 (P : Params) : Obj := { cls := Value.type "function", data := Data.func { name := Str.ofString "len_end", qualname := Str.ofString "len_end", params := F290a, body := FuncBody.stmts F290b, scope := F290s, globals := 3, closure := [], defaults := Value.none, kwdefaults := Value.none, pyModule := Value.str (Str.ofString "snobol.primitives") 565, code := Value.ref 289 } }
noncomputable def v3o291 (P : Params) : Obj := { cls := Value.type "tuple", data := Data.seq #[] }
noncomputable def v3o292 (P : Params) : Obj := { cls := Value.none, data := Data.fields #[] }
noncomputable def v3o293 (P : Params) : Obj := { cls := Value.type "tuple", data := Data.seq #[Value.str (Str.ofString "at") 593, Value.str (Str.ofString "place") 594] }
noncomputable def v3o294 (P : Params) : Obj := { cls := Value.type "tuple", data := Data.seq #[] }
noncomputable def v3o295 (P : Params) : Obj := { cls := Value.none, data := Data.func { name := Str.ofString "pos_end", qualname := Str.ofString "pos_end", params := F295a, body := FuncBody.stmts F295b, scope := F295s, globals := 0, closure := [], defaults := Value.none, kwdefaults := Value.none } }
noncomputable def v3o296 (P : Params) : Obj := { cls := Value.type "code", data := Data.fields #[Value.str (Str.ofString "pos_end") 590, Value.str (Str.ofString "pos_end") 591, Value.str (Str.ofString "/claim/cut.py") 592, Value.int 162 0, Value.int 2 0, Value.int 0 0, Value.int 0 0, Value.int 3 0, Value.ref 291, Value.bool true, Value.int 181 0, Value.ref 292, Value.none, Value.ref 293, Value.ref 294, Value.ref 295, Value.int 595 0, Value.int 162 0, Value.str (Str.ofString "/claim/cut.py") 596] }
noncomputable def v3o297 (P : Params) : Obj := { cls := Value.type "function", data := Data.func { name := Str.ofString "pos_end", qualname := Str.ofString "pos_end", params := F297a, body := FuncBody.stmts F297b, scope := F297s, globals := 3, closure := [], defaults := Value.none, kwdefaults := Value.none, pyModule := Value.str (Str.ofString "snobol.primitives") 565, code := Value.ref 296 } }
noncomputable def v3o298 (P : Params) : Obj := { cls := Value.type "tuple", data := Data.seq #[] }
noncomputable def v3o299 (P : Params) : Obj := { cls := Value.none, data := Data.fields #[] }
noncomputable def v3o300 (P : Params) : Obj := { cls := Value.type "tuple", data := Data.seq #[Value.str (Str.ofString "subject") 601, Value.str (Str.ofString "at") 602, Value.str (Str.ofString "place") 603] }
noncomputable def v3o301 (P : Params) : Obj := { cls := Value.type "tuple", data := Data.seq #[] }
noncomputable def v3o302 (P : Params) : Obj := { cls := Value.none, data := Data.func { name := Str.ofString "rpos_end", qualname := Str.ofString "rpos_end", params := F302a, body := FuncBody.stmts F302b, scope := F302s, globals := 0, closure := [], defaults := Value.none, kwdefaults := Value.none } }
noncomputable def v3o303 (P : Params) : Obj := { cls := Value.type "code", data := Data.fields #[Value.str (Str.ofString "rpos_end") 598, Value.str (Str.ofString "rpos_end") 599, Value.str (Str.ofString "/claim/cut.py") 600, Value.int 164 0, Value.int 3 0, Value.int 0 0, Value.int 0 0, Value.int 3 0, Value.ref 298, Value.bool true, Value.int 181 0, Value.ref 299, Value.none, Value.ref 300, Value.ref 301, Value.ref 302, Value.int 604 0, Value.int 164 0, Value.str (Str.ofString "/claim/cut.py") 605] }
noncomputable def v3o304 (P : Params) : Obj := { cls := Value.type "function", data := Data.func { name := Str.ofString "rpos_end", qualname := Str.ofString "rpos_end", params := F304a, body := FuncBody.stmts F304b, scope := F304s, globals := 3, closure := [], defaults := Value.none, kwdefaults := Value.none, pyModule := Value.str (Str.ofString "snobol.primitives") 565, code := Value.ref 303 } }
set_option maxRecDepth 100000 in
noncomputable def tree3 (P : Params) : BT := (.node (boot_o_0 P) (.node (boot_o_1 P) (.node (v3o3 P) (.node (boot_o_7 P) (.node (v1o15 P) (.node (v1o31 P) (.node (v1o63 P) (.node (v2o127 P) (.node (v3o255 P) .nil .nil) .nil) (.node (v3o191 P) .nil .nil)) (.node (v2o95 P) (.node (v2o159 P) (.node (v3o287 P) .nil .nil) .nil) (.node (v3o223 P) .nil .nil))) (.node (v1o47 P) (.node (v1o79 P) (.node (v2o143 P) (.node (v3o271 P) .nil .nil) .nil) (.node (v3o207 P) .nil .nil)) (.node (v2o111 P) (.node (v2o175 P) (.node (v3o303 P) .nil .nil) .nil) (.node (v3o239 P) .nil .nil)))) (.node (v1o23 P) (.node (v1o39 P) (.node (v1o71 P) (.node (v2o135 P) (.node (v3o263 P) .nil .nil) .nil) (.node (v3o199 P) .nil .nil)) (.node (v2o103 P) (.node (v2o167 P) (.node (v3o295 P) .nil .nil) .nil) (.node (v3o231 P) .nil .nil))) (.node (v1o55 P) (.node (v2o87 P) (.node (v2o151 P) (.node (v3o279 P) .nil .nil) .nil) (.node (v3o215 P) .nil .nil)) (.node (v2o119 P) (.node (v3o183 P) .nil .nil) (.node (v3o247 P) .nil .nil))))) (.node (o11) (.node (v1o19 P) (.node (v1o35 P) (.node (v1o67 P) (.node (v2o131 P) (.node (v3o259 P) .nil .nil) .nil) (.node (v3o195 P) .nil .nil)) (.node (v2o99 P) (.node (v2o163 P) (.node (v3o291 P) .nil .nil) .nil) (.node (v3o227 P) .nil .nil))) (.node (v1o51 P) (.node (v1o83 P) (.node (v2o147 P) (.node (v3o275 P) .nil .nil) .nil) (.node (v3o211 P) .nil .nil)) (.node (v2o115 P) (.node (v3o179 P) .nil .nil) (.node (v3o243 P) .nil .nil)))) (.node (v1o27 P) (.node (v1o43 P) (.node (v1o75 P) (.node (v2o139 P) (.node (v3o267 P) .nil .nil) .nil) (.node (v3o203 P) .nil .nil)) (.node (v2o107 P) (.node (v2o171 P) (.node (v3o299 P) .nil .nil) .nil) (.node (v3o235 P) .nil .nil))) (.node (v1o59 P) (.node (v2o91 P) (.node (v2o155 P) (.node (v3o283 P) .nil .nil) .nil) (.node (v3o219 P) .nil .nil)) (.node (v2o123 P) (.node (v3o187 P) .nil .nil) (.node (v3o251 P) .nil .nil)))))) (.node (boot_o_5 P) (.node (boot_o_9 P) (.node (v1o17 P) (.node (v1o33 P) (.node (v1o65 P) (.node (v2o129 P) (.node (v3o257 P) .nil .nil) .nil) (.node (v3o193 P) .nil .nil)) (.node (v2o97 P) (.node (v2o161 P) (.node (v3o289 P) .nil .nil) .nil) (.node (v3o225 P) .nil .nil))) (.node (v1o49 P) (.node (v1o81 P) (.node (v2o145 P) (.node (v3o273 P) .nil .nil) .nil) (.node (v3o209 P) .nil .nil)) (.node (v2o113 P) (.node (v2o177 P) .nil .nil) (.node (v3o241 P) .nil .nil)))) (.node (v1o25 P) (.node (v1o41 P) (.node (v1o73 P) (.node (v2o137 P) (.node (v3o265 P) .nil .nil) .nil) (.node (v3o201 P) .nil .nil)) (.node (v2o105 P) (.node (v2o169 P) (.node (v3o297 P) .nil .nil) .nil) (.node (v3o233 P) .nil .nil))) (.node (v1o57 P) (.node (v2o89 P) (.node (v2o153 P) (.node (v3o281 P) .nil .nil) .nil) (.node (v3o217 P) .nil .nil)) (.node (v2o121 P) (.node (v3o185 P) .nil .nil) (.node (v3o249 P) .nil .nil))))) (.node (o13) (.node (v1o21 P) (.node (v1o37 P) (.node (v1o69 P) (.node (v2o133 P) (.node (v3o261 P) .nil .nil) .nil) (.node (v3o197 P) .nil .nil)) (.node (v2o101 P) (.node (v2o165 P) (.node (v3o293 P) .nil .nil) .nil) (.node (v3o229 P) .nil .nil))) (.node (v1o53 P) (.node (v1o85 P) (.node (v2o149 P) (.node (v3o277 P) .nil .nil) .nil) (.node (v3o213 P) .nil .nil)) (.node (v2o117 P) (.node (v3o181 P) .nil .nil) (.node (v3o245 P) .nil .nil)))) (.node (v1o29 P) (.node (v1o45 P) (.node (v1o77 P) (.node (v2o141 P) (.node (v3o269 P) .nil .nil) .nil) (.node (v3o205 P) .nil .nil)) (.node (v2o109 P) (.node (v2o173 P) (.node (v3o301 P) .nil .nil) .nil) (.node (v3o237 P) .nil .nil))) (.node (v1o61 P) (.node (v2o93 P) (.node (v2o157 P) (.node (v3o285 P) .nil .nil) .nil) (.node (v3o221 P) .nil .nil)) (.node (v2o125 P) (.node (v3o189 P) .nil .nil) (.node (v3o253 P) .nil .nil))))))) (.node (v1o2 P) (.node (boot_o_4 P) (.node (boot_o_8 P) (.node (v1o16 P) (.node (v1o32 P) (.node (v1o64 P) (.node (v2o128 P) (.node (v3o256 P) .nil .nil) .nil) (.node (v3o192 P) .nil .nil)) (.node (v2o96 P) (.node (v2o160 P) (.node (v3o288 P) .nil .nil) .nil) (.node (v3o224 P) .nil .nil))) (.node (v1o48 P) (.node (v1o80 P) (.node (v2o144 P) (.node (v3o272 P) .nil .nil) .nil) (.node (v3o208 P) .nil .nil)) (.node (v2o112 P) (.node (v2o176 P) (.node (v3o304 P) .nil .nil) .nil) (.node (v3o240 P) .nil .nil)))) (.node (v1o24 P) (.node (v1o40 P) (.node (v1o72 P) (.node (v2o136 P) (.node (v3o264 P) .nil .nil) .nil) (.node (v3o200 P) .nil .nil)) (.node (v2o104 P) (.node (v2o168 P) (.node (v3o296 P) .nil .nil) .nil) (.node (v3o232 P) .nil .nil))) (.node (v1o56 P) (.node (v2o88 P) (.node (v2o152 P) (.node (v3o280 P) .nil .nil) .nil) (.node (v3o216 P) .nil .nil)) (.node (v2o120 P) (.node (v3o184 P) .nil .nil) (.node (v3o248 P) .nil .nil))))) (.node (v3o12 P) (.node (v1o20 P) (.node (v1o36 P) (.node (v1o68 P) (.node (v2o132 P) (.node (v3o260 P) .nil .nil) .nil) (.node (v3o196 P) .nil .nil)) (.node (v2o100 P) (.node (v2o164 P) (.node (v3o292 P) .nil .nil) .nil) (.node (v3o228 P) .nil .nil))) (.node (v1o52 P) (.node (v1o84 P) (.node (v2o148 P) (.node (v3o276 P) .nil .nil) .nil) (.node (v3o212 P) .nil .nil)) (.node (v2o116 P) (.node (v3o180 P) .nil .nil) (.node (v3o244 P) .nil .nil)))) (.node (v1o28 P) (.node (v1o44 P) (.node (v1o76 P) (.node (v2o140 P) (.node (v3o268 P) .nil .nil) .nil) (.node (v3o204 P) .nil .nil)) (.node (v2o108 P) (.node (v2o172 P) (.node (v3o300 P) .nil .nil) .nil) (.node (v3o236 P) .nil .nil))) (.node (v1o60 P) (.node (v2o92 P) (.node (v2o156 P) (.node (v3o284 P) .nil .nil) .nil) (.node (v3o220 P) .nil .nil)) (.node (v2o124 P) (.node (v3o188 P) .nil .nil) (.node (v3o252 P) .nil .nil)))))) (.node (boot_o_6 P) (.node (boot_o_10 P) (.node (v1o18 P) (.node (v1o34 P) (.node (v1o66 P) (.node (v2o130 P) (.node (v3o258 P) .nil .nil) .nil) (.node (v3o194 P) .nil .nil)) (.node (v2o98 P) (.node (v2o162 P) (.node (v3o290 P) .nil .nil) .nil) (.node (v3o226 P) .nil .nil))) (.node (v1o50 P) (.node (v1o82 P) (.node (v2o146 P) (.node (v3o274 P) .nil .nil) .nil) (.node (v3o210 P) .nil .nil)) (.node (v2o114 P) (.node (v3o178 P) .nil .nil) (.node (v3o242 P) .nil .nil)))) (.node (v1o26 P) (.node (v1o42 P) (.node (v1o74 P) (.node (v2o138 P) (.node (v3o266 P) .nil .nil) .nil) (.node (v3o202 P) .nil .nil)) (.node (v2o106 P) (.node (v2o170 P) (.node (v3o298 P) .nil .nil) .nil) (.node (v3o234 P) .nil .nil))) (.node (v1o58 P) (.node (v2o90 P) (.node (v2o154 P) (.node (v3o282 P) .nil .nil) .nil) (.node (v3o218 P) .nil .nil)) (.node (v2o122 P) (.node (v3o186 P) .nil .nil) (.node (v3o250 P) .nil .nil))))) (.node (o14) (.node (v1o22 P) (.node (v1o38 P) (.node (v1o70 P) (.node (v2o134 P) (.node (v3o262 P) .nil .nil) .nil) (.node (v3o198 P) .nil .nil)) (.node (v2o102 P) (.node (v2o166 P) (.node (v3o294 P) .nil .nil) .nil) (.node (v3o230 P) .nil .nil))) (.node (v1o54 P) (.node (v1o86 P) (.node (v2o150 P) (.node (v3o278 P) .nil .nil) .nil) (.node (v3o214 P) .nil .nil)) (.node (v2o118 P) (.node (v3o182 P) .nil .nil) (.node (v3o246 P) .nil .nil)))) (.node (v1o30 P) (.node (v1o46 P) (.node (v1o78 P) (.node (v2o142 P) (.node (v3o270 P) .nil .nil) .nil) (.node (v3o206 P) .nil .nil)) (.node (v2o110 P) (.node (v2o174 P) (.node (v3o302 P) .nil .nil) .nil) (.node (v3o238 P) .nil .nil))) (.node (v1o62 P) (.node (v2o94 P) (.node (v2o158 P) (.node (v3o286 P) .nil .nil) .nil) (.node (v3o222 P) .nil .nil)) (.node (v2o126 P) (.node (v3o190 P) .nil .nil) (.node (v3o254 P) .nil .nil))))))))
noncomputable def v4o3 (P : Params) : Obj := { cls := Value.type "dict", data := Data.dict #[{ hash := PyData.keyHash P (Str.ofString "__name__"), key := Value.str (Str.ofString "__name__") 165, val := Value.str (Str.ofString "snobol.world") 834 }, { hash := PyData.keyHash P (Str.ofString "__doc__"), key := Value.str (Str.ofString "__doc__") 166, val := Value.none }, { hash := PyData.keyHash P (Str.ofString "__package__"), key := Value.str (Str.ofString "__package__") 167, val := Value.none }, { hash := PyData.keyHash P (Str.ofString "__loader__"), key := Value.str (Str.ofString "__loader__") 168, val := Value.builtin "__main__.__loader__#opaque" }, { hash := PyData.keyHash P (Str.ofString "__spec__"), key := Value.str (Str.ofString "__spec__") 169, val := Value.none }, { hash := PyData.keyHash P (Str.ofString "__annotations__"), key := Value.str (Str.ofString "__annotations__") 170, val := Value.ref 6 }, { hash := PyData.keyHash P (Str.ofString "__builtins__"), key := Value.str (Str.ofString "__builtins__") 171, val := Value.ref 4 }, { hash := PyData.keyHash P (Str.ofString "__file__"), key := Value.str (Str.ofString "__file__") 173, val := Value.str (Str.ofString "/claim/cut.py") 172 }, { hash := PyData.keyHash P (Str.ofString "__cached__"), key := Value.str (Str.ofString "__cached__") 174, val := Value.none }, { hash := PyData.keyHash P (Str.ofString "give_names"), key := Value.str (Str.ofString "give_names") 198, val := Value.ref 21 }, { hash := PyData.keyHash P (Str.ofString "three_pieces"), key := Value.str (Str.ofString "three_pieces") 206, val := Value.ref 28 }, { hash := PyData.keyHash P (Str.ofString "spliced"), key := Value.str (Str.ofString "spliced") 218, val := Value.ref 35 }, { hash := PyData.keyHash P (Str.ofString "replace_once"), key := Value.str (Str.ofString "replace_once") 232, val := Value.ref 42 }, { hash := PyData.keyHash P (Str.ofString "replace_often"), key := Value.str (Str.ofString "replace_often") 247, val := Value.ref 49 }, { hash := PyData.keyHash P (Str.ofString "SnobolError"), key := Value.str (Str.ofString "SnobolError") 283, val := Value.ref 69 }, { hash := PyData.keyHash P (Str.ofString "Failure"), key := Value.str (Str.ofString "Failure") 303, val := Value.ref 82 }, { hash := PyData.keyHash P (Str.ofString "Pattern"), key := Value.str (Str.ofString "Pattern") 332, val := Value.ref 103 }, { hash := PyData.keyHash P (Str.ofString "Delayed"), key := Value.str (Str.ofString "Delayed") 361, val := Value.ref 124 }, { hash := PyData.keyHash P (Str.ofString "is_fail"), key := Value.str (Str.ofString "is_fail") 368, val := Value.ref 135 }, { hash := PyData.keyHash P (Str.ofString "fits"), key := Value.str (Str.ofString "fits") 376, val := Value.ref 142 }, { hash := PyData.keyHash P (Str.ofString "whole_of_text"), key := Value.str (Str.ofString "whole_of_text") 387, val := Value.ref 149 }, { hash := PyData.keyHash P (Str.ofString "text_of_whole"), key := Value.str (Str.ofString "text_of_whole") 396, val := Value.ref 156 }, { hash := PyData.keyHash P (Str.ofString "to_whole"), key := Value.str (Str.ofString "to_whole") 404, val := Value.ref 163 }, { hash := PyData.keyHash P (Str.ofString "to_text"), key := Value.str (Str.ofString "to_text") 411, val := Value.ref 170 }, { hash := PyData.keyHash P (Str.ofString "need_text"), key := Value.str (Str.ofString "need_text") 419, val := Value.ref 177 }, { hash := PyData.keyHash P (Str.ofString "PlainHost"), key := Value.str (Str.ofString "PlainHost") 481, val := Value.ref 215 }, { hash := PyData.keyHash P (Str.ofString "replaced_signs"), key := Value.str (Str.ofString "replaced_signs") 489, val := Value.ref 224 }, { hash := PyData.keyHash P (Str.ofString "told_or_fail"), key := Value.str (Str.ofString "told_or_fail") 496, val := Value.ref 231 }, { hash := PyData.keyHash P (Str.ofString "text_replace"), key := Value.str (Str.ofString "text_replace") 506, val := Value.ref 238 }, { hash := PyData.keyHash P (Str.ofString "COUNTED"), key := Value.str (Str.ofString "COUNTED") 514, val := Value.ref 239 }, { hash := PyData.keyHash P (Str.ofString "SIGNED"), key := Value.str (Str.ofString "SIGNED") 519, val := Value.ref 240 }, { hash := PyData.keyHash P (Str.ofString "WIDTH_OF_COUNT"), key := Value.str (Str.ofString "WIDTH_OF_COUNT") 521, val := Value.int 64 520 }, { hash := PyData.keyHash P (Str.ofString "plain_count"), key := Value.str (Str.ofString "plain_count") 531, val := Value.ref 248 }, { hash := PyData.keyHash P (Str.ofString "plain_signs"), key := Value.str (Str.ofString "plain_signs") 540, val := Value.ref 255 }, { hash := PyData.keyHash P (Str.ofString "pattern_of"), key := Value.str (Str.ofString "pattern_of") 548, val := Value.ref 262 }, { hash := PyData.keyHash P (Str.ofString "is_delayed"), key := Value.str (Str.ofString "is_delayed") 555, val := Value.ref 269 }, { hash := PyData.keyHash P (Str.ofString "settled"), key := Value.str (Str.ofString "settled") 564, val := Value.ref 276 }, { hash := PyData.keyHash P (Str.ofString "OPENING"), key := Value.str (Str.ofString "OPENING") 568, val := Value.str (Str.ofString "(") 567 }, { hash := PyData.keyHash P (Str.ofString "CLOSING"), key := Value.str (Str.ofString "CLOSING") 570, val := Value.str (Str.ofString ")") 569 }, { hash := PyData.keyHash P (Str.ofString "chars_end"), key := Value.str (Str.ofString "chars_end") 580, val := Value.ref 283 }, { hash := PyData.keyHash P (Str.ofString "len_end"), key := Value.str (Str.ofString "len_end") 589, val := Value.ref 290 }, { hash := PyData.keyHash P (Str.ofString "pos_end"), key := Value.str (Str.ofString "pos_end") 597, val := Value.ref 297 }, { hash := PyData.keyHash P (Str.ofString "rpos_end"), key := Value.str (Str.ofString "rpos_end") 606, val := Value.ref 304 }, { hash := PyData.keyHash P (Str.ofString "tab_end"), key := Value.str (Str.ofString "tab_end") 615, val := Value.ref 311 }, { hash := PyData.keyHash P (Str.ofString "rtab_end"), key := Value.str (Str.ofString "rtab_end") 625, val := Value.ref 318 }, { hash := PyData.keyHash P (Str.ofString "rem_end"), key := Value.str (Str.ofString "rem_end") 632, val := Value.ref 325 }, { hash := PyData.keyHash P (Str.ofString "any_at"), key := Value.str (Str.ofString "any_at") 641, val := Value.ref 332 }, { hash := PyData.keyHash P (Str.ofString "notany_at"), key := Value.str (Str.ofString "notany_at") 650, val := Value.ref 339 }, { hash := PyData.keyHash P (Str.ofString "run_end"), key := Value.str (Str.ofString "run_end") 660, val := Value.ref 346 }, { hash := PyData.keyHash P (Str.ofString "span_end"), key := Value.str (Str.ofString "span_end") 670, val := Value.ref 353 }, { hash := PyData.keyHash P (Str.ofString "break_end"), key := Value.str (Str.ofString "break_end") 680, val := Value.ref 360 }, { hash := PyData.keyHash P (Str.ofString "bal_end"), key := Value.str (Str.ofString "bal_end") 689, val := Value.ref 367 }, { hash := PyData.keyHash P (Str.ofString "bal_ends"), key := Value.str (Str.ofString "bal_ends") 699, val := Value.ref 374 }, { hash := PyData.keyHash P (Str.ofString "one_end"), key := Value.str (Str.ofString "one_end") 709, val := Value.ref 381 }, { hash := PyData.keyHash P (Str.ofString "plain_end"), key := Value.str (Str.ofString "plain_end") 718, val := Value.ref 388 }, { hash := PyData.keyHash P (Str.ofString "LOST"), key := Value.str (Str.ofString "LOST") 722, val := Value.str (Str.ofString "lost") 721 }, { hash := PyData.keyHash P (Str.ofString "match_plain"), key := Value.str (Str.ofString "match_plain") 734, val := Value.ref 395 }, { hash := PyData.keyHash P (Str.ofString "match_at"), key := Value.str (Str.ofString "match_at") 745, val := Value.ref 402 }, { hash := PyData.keyHash P (Str.ofString "tried"), key := Value.str (Str.ofString "tried") 760, val := Value.ref 409 }, { hash := PyData.keyHash P (Str.ofString "advanced"), key := Value.str (Str.ofString "advanced") 776, val := Value.ref 416 }, { hash := PyData.keyHash P (Str.ofString "led_in"), key := Value.str (Str.ofString "led_in") 788, val := Value.ref 423 }, { hash := PyData.keyHash P (Str.ofString "led_out"), key := Value.str (Str.ofString "led_out") 804, val := Value.ref 430 }, { hash := PyData.keyHash P (Str.ofString "steered"), key := Value.str (Str.ofString "steered") 816, val := Value.ref 437 }, { hash := PyData.keyHash P (Str.ofString "taken"), key := Value.str (Str.ofString "taken") 833, val := Value.ref 444 }] 64 }
noncomputable def v4o12 (P : Params) : Obj := { cls := Value.none, data := Data.fields #[Value.int 2 0, Value.int 0 0, Value.ref 20, Value.int 5 0, Value.int 0 0, Value.ref 27, Value.int 7 0, Value.int 0 0, Value.ref 34, Value.int 10 0, Value.int 0 0, Value.ref 41, Value.int 17 0, Value.int 0 0, Value.ref 48, Value.int 26 0, Value.int 0 0, Value.ref 56, Value.int 32 0, Value.int 0 0, Value.ref 78, Value.int 34 0, Value.int 0 0, Value.ref 92, Value.int 38 0, Value.int 0 0, Value.ref 113, Value.int 42 0, Value.int 0 0, Value.ref 134, Value.int 44 0, Value.int 0 0, Value.ref 141, Value.int 46 0, Value.int 0 0, Value.ref 148, Value.int 59 0, Value.int 0 0, Value.ref 155, Value.int 65 0, Value.int 0 0, Value.ref 162, Value.int 69 0, Value.int 0 0, Value.ref 169, Value.int 73 0, Value.int 0 0, Value.ref 176, Value.int 79 0, Value.int 0 0, Value.ref 183, Value.int 106 0, Value.int 0 0, Value.ref 223, Value.int 113 0, Value.int 0 0, Value.ref 230, Value.int 115 0, Value.int 0 0, Value.ref 237, Value.int 122 0, Value.int 0 0, Value.ref 247, Value.int 129 0, Value.int 0 0, Value.ref 254, Value.int 134 0, Value.int 0 0, Value.ref 261, Value.int 143 0, Value.int 0 0, Value.ref 268, Value.int 145 0, Value.int 0 0, Value.ref 275, Value.int 157 0, Value.int 0 0, Value.ref 282, Value.int 160 0, Value.int 0 0, Value.ref 289, Value.int 162 0, Value.int 0 0, Value.ref 296, Value.int 164 0, Value.int 0 0, Value.ref 303, Value.int 166 0, Value.int 0 0, Value.ref 310, Value.int 168 0, Value.int 0 0, Value.ref 317, Value.int 171 0, Value.int 0 0, Value.ref 324, Value.int 173 0, Value.int 0 0, Value.ref 331, Value.int 175 0, Value.int 0 0, Value.ref 338, Value.int 177 0, Value.int 0 0, Value.ref 345, Value.int 181 0, Value.int 0 0, Value.ref 352, Value.int 184 0, Value.int 0 0, Value.ref 359, Value.int 187 0, Value.int 0 0, Value.ref 366, Value.int 200 0, Value.int 0 0, Value.ref 373, Value.int 206 0, Value.int 0 0, Value.ref 380, Value.int 226 0, Value.int 0 0, Value.ref 387, Value.int 230 0, Value.int 0 0, Value.ref 394, Value.int 236 0, Value.int 0 0, Value.ref 401, Value.int 239 0, Value.int 0 0, Value.ref 408, Value.int 257 0, Value.int 0 0, Value.ref 415, Value.int 272 0, Value.int 0 0, Value.ref 422, Value.int 283 0, Value.int 0 0, Value.ref 429, Value.int 290 0, Value.int 0 0, Value.ref 436, Value.int 298 0, Value.int 0 0, Value.ref 443] }
noncomputable def v4o305 (P : Params) : Obj := { cls := Value.type "tuple", data := Data.seq #[] }
noncomputable def v4o306 (P : Params) : Obj := { cls := Value.none, data := Data.fields #[] }
noncomputable def v4o307 (P : Params) : Obj := { cls := Value.type "tuple", data := Data.seq #[Value.str (Str.ofString "subject") 610, Value.str (Str.ofString "at") 611, Value.str (Str.ofString "place") 612] }
noncomputable def v4o308 (P : Params) : Obj := { cls := Value.type "tuple", data := Data.seq #[] }
noncomputable def v4o309 (P : Params) : Obj := { cls := Value.none, data := Data.func { name := Str.ofString "tab_end", qualname := Str.ofString "tab_end", params := F309a, body := FuncBody.stmts F309b, scope := F309s, globals := 0, closure := [], defaults := Value.none, kwdefaults := Value.none } }
noncomputable def v4o310 (P : Params) : Obj := { cls := Value.type "code", data := Data.fields #[Value.str (Str.ofString "tab_end") 607, Value.str (Str.ofString "tab_end") 608, Value.str (Str.ofString "/claim/cut.py") 609, Value.int 166 0, Value.int 3 0, Value.int 0 0, Value.int 0 0, Value.int 3 0, Value.ref 305, Value.bool true, Value.int 181 0, Value.ref 306, Value.none, Value.ref 307, Value.ref 308, Value.ref 309, Value.int 613 0, Value.int 166 0, Value.str (Str.ofString "/claim/cut.py") 614] }
noncomputable def v4o311 (P : Params) : Obj := { cls := Value.type "function", data := Data.func { name := Str.ofString "tab_end", qualname := Str.ofString "tab_end", params := F311a, body := FuncBody.stmts F311b, scope := F311s, globals := 3, closure := [], defaults := Value.none, kwdefaults := Value.none, pyModule := Value.str (Str.ofString "snobol.primitives") 565, code := Value.ref 310 } }
noncomputable def v4o312 (P : Params) : Obj := { cls := Value.type "tuple", data := Data.seq #[] }
noncomputable def v4o313 (P : Params) : Obj := { cls := Value.none, data := Data.fields #[] }
noncomputable def v4o314 (P : Params) : Obj := { cls := Value.type "tuple", data := Data.seq #[Value.str (Str.ofString "subject") 619, Value.str (Str.ofString "at") 620, Value.str (Str.ofString "place") 621, Value.str (Str.ofString "goal") 622] }
noncomputable def v4o315 (P : Params) : Obj := { cls := Value.type "tuple", data := Data.seq #[] }
noncomputable def v4o316 (P : Params) : Obj := { cls := Value.none, data := Data.func { name := Str.ofString "rtab_end", qualname := Str.ofString "rtab_end", params := F316a, body := FuncBody.stmts F316b, scope := F316s, globals := 0, closure := [], defaults := Value.none, kwdefaults := Value.none } }
noncomputable def v4o317 (P : Params) : Obj := { cls := Value.type "code", data := Data.fields #[Value.str (Str.ofString "rtab_end") 616, Value.str (Str.ofString "rtab_end") 617, Value.str (Str.ofString "/claim/cut.py") 618, Value.int 168 0, Value.int 3 0, Value.int 0 0, Value.int 0 0, Value.int 3 0, Value.ref 312, Value.bool true, Value.int 181 0, Value.ref 313, Value.none, Value.ref 314, Value.ref 315, Value.ref 316, Value.int 623 0, Value.int 168 0, Value.str (Str.ofString "/claim/cut.py") 624] }
noncomputable def v4o318 (P : Params) : Obj := { cls := Value.type "function", data := Data.func { name := Str.ofString "rtab_end", qualname := Str.ofString "rtab_end", params := F318a, body := FuncBody.stmts F318b, scope := F318s, globals := 3, closure := [], defaults := Value.none, kwdefaults := Value.none, pyModule := Value.str (Str.ofString "snobol.primitives") 565, code := Value.ref 317 } }
noncomputable def v4o319 (P : Params) : Obj := { cls := Value.type "tuple", data := Data.seq #[] }
noncomputable def v4o320 (P : Params) : Obj := { cls := Value.none, data := Data.fields #[] }
noncomputable def v4o321 (P : Params) : Obj := { cls := Value.type "tuple", data := Data.seq #[Value.str (Str.ofString "subject") 629] }
noncomputable def v4o322 (P : Params) : Obj := { cls := Value.type "tuple", data := Data.seq #[] }
noncomputable def v4o323 (P : Params) : Obj := { cls := Value.none, data := Data.func { name := Str.ofString "rem_end", qualname := Str.ofString "rem_end", params := F323a, body := FuncBody.stmts F323b, scope := F323s, globals := 0, closure := [], defaults := Value.none, kwdefaults := Value.none } }
noncomputable def v4o324 (P : Params) : Obj := { cls := Value.type "code", data := Data.fields #[Value.str (Str.ofString "rem_end") 626, Value.str (Str.ofString "rem_end") 627, Value.str (Str.ofString "/claim/cut.py") 628, Value.int 171 0, Value.int 1 0, Value.int 0 0, Value.int 0 0, Value.int 3 0, Value.ref 319, Value.bool true, Value.int 181 0, Value.ref 320, Value.none, Value.ref 321, Value.ref 322, Value.ref 323, Value.int 630 0, Value.int 171 0, Value.str (Str.ofString "/claim/cut.py") 631] }
noncomputable def v4o325 (P : Params) : Obj := { cls := Value.type "function", data := Data.func { name := Str.ofString "rem_end", qualname := Str.ofString "rem_end", params := F325a, body := FuncBody.stmts F325b, scope := F325s, globals := 3, closure := [], defaults := Value.none, kwdefaults := Value.none, pyModule := Value.str (Str.ofString "snobol.primitives") 565, code := Value.ref 324 } }
noncomputable def v4o326 (P : Params) : Obj := { cls := Value.type "tuple", data := Data.seq #[] }
noncomputable def v4o327 (P : Params) : Obj := { cls := Value.none, data := Data.fields #[] }
noncomputable def v4o328 (P : Params) : Obj := { cls := Value.type "tuple", data := Data.seq #[Value.str (Str.ofString "subject") 636, Value.str (Str.ofString "at") 637, Value.str (Str.ofString "signs") 638] }
noncomputable def v4o329 (P : Params) : Obj := { cls := Value.type "tuple", data := Data.seq #[] }
noncomputable def v4o330 (P : Params) : Obj := { cls := Value.none, data := Data.func { name := Str.ofString "any_at", qualname := Str.ofString "any_at", params := F330a, body := FuncBody.stmts F330b, scope := F330s, globals := 0, closure := [], defaults := Value.none, kwdefaults := Value.none } }
noncomputable def v4o331 (P : Params) : Obj := { cls := Value.type "code", data := Data.fields #[Value.str (Str.ofString "any_at") 633, Value.str (Str.ofString "any_at") 634, Value.str (Str.ofString "/claim/cut.py") 635, Value.int 173 0, Value.int 3 0, Value.int 0 0, Value.int 0 0, Value.int 3 0, Value.ref 326, Value.bool true, Value.int 181 0, Value.ref 327, Value.none, Value.ref 328, Value.ref 329, Value.ref 330, Value.int 639 0, Value.int 173 0, Value.str (Str.ofString "/claim/cut.py") 640] }
noncomputable def v4o332 (P : Params) : Obj := { cls := Value.type "function", data := Data.func { name := Str.ofString "any_at", qualname := Str.ofString "any_at", params := F332a, body := FuncBody.stmts F332b, scope := F332s, globals := 3, closure := [], defaults := Value.none, kwdefaults := Value.none, pyModule := Value.str (Str.ofString "snobol.primitives") 565, code := Value.ref 331 } }
noncomputable def v4o333 (P : Params) : Obj := { cls := Value.type "tuple", data := Data.seq #[] }
noncomputable def v4o334 (P : Params) : Obj := { cls := Value.none, data := Data.fields #[] }
noncomputable def v4o335 (P : Params) : Obj := { cls := Value.type "tuple", data := Data.seq #[Value.str (Str.ofString "subject") 645, Value.str (Str.ofString "at") 646, Value.str (Str.ofString "signs") 647] }
noncomputable def v4o336 (P : Params) : Obj := { cls := Value.type "tuple", data := Data.seq #[] }
noncomputable def v4o337 (P : Params) : Obj := { cls := Value.none, data := Data.func { name := Str.ofString "notany_at", qualname := Str.ofString "notany_at", params := F337a, body := FuncBody.stmts F337b, scope := F337s, globals := 0, closure := [], defaults := Value.none, kwdefaults := Value.none } }
noncomputable def v4o338 (P : Params) : Obj := { cls := Value.type "code", data := Data.fields #[Value.str (Str.ofString "notany_at") 642, Value.str (Str.ofString "notany_at") 643, Value.str (Str.ofString "/claim/cut.py") 644, Value.int 175 0, Value.int 3 0, Value.int 0 0, Value.int 0 0, Value.int 3 0, Value.ref 333, Value.bool true, Value.int 181 0, Value.ref 334, Value.none, Value.ref 335, Value.ref 336, Value.ref 337, Value.int 648 0, Value.int 175 0, Value.str (Str.ofString "/claim/cut.py") 649] }
noncomputable def v4o339 (P : Params) : Obj := { cls := Value.type "function", data := Data.func { name := Str.ofString "notany_at", qualname := Str.ofString "notany_at", params := F339a, body := FuncBody.stmts F339b, scope := F339s, globals := 3, closure := [], defaults := Value.none, kwdefaults := Value.none, pyModule := Value.str (Str.ofString "snobol.primitives") 565, code := Value.ref 338 } }
noncomputable def v4o340 (P : Params) : Obj := { cls := Value.type "tuple", data := Data.seq #[] }
noncomputable def v4o341 (P : Params) : Obj := { cls := Value.none, data := Data.fields #[] }
noncomputable def v4o342 (P : Params) : Obj := { cls := Value.type "tuple", data := Data.seq #[Value.str (Str.ofString "subject") 654, Value.str (Str.ofString "at") 655, Value.str (Str.ofString "signs") 656, Value.str (Str.ofString "is_in") 657] }
noncomputable def v4o343 (P : Params) : Obj := { cls := Value.type "tuple", data := Data.seq #[] }
noncomputable def v4o344 (P : Params) : Obj := { cls := Value.none, data := Data.func { name := Str.ofString "run_end", qualname := Str.ofString "run_end", params := F344a, body := FuncBody.stmts F344b, scope := F344s, globals := 0, closure := [], defaults := Value.none, kwdefaults := Value.none } }
noncomputable def v4o345 (P : Params) : Obj := { cls := Value.type "code", data := Data.fields #[Value.str (Str.ofString "run_end") 651, Value.str (Str.ofString "run_end") 652, Value.str (Str.ofString "/claim/cut.py") 653, Value.int 177 0, Value.int 4 0, Value.int 0 0, Value.int 0 0, Value.int 3 0, Value.ref 340, Value.bool true, Value.int 181 0, Value.ref 341, Value.none, Value.ref 342, Value.ref 343, Value.ref 344, Value.int 658 0, Value.int 177 0, Value.str (Str.ofString "/claim/cut.py") 659] }
noncomputable def v4o346 (P : Params) : Obj := { cls := Value.type "function", data := Data.func { name := Str.ofString "run_end", qualname := Str.ofString "run_end", params := F346a, body := FuncBody.stmts F346b, scope := F346s, globals := 3, closure := [], defaults := Value.none, kwdefaults := Value.none, pyModule := Value.str (Str.ofString "snobol.primitives") 565, code := Value.ref 345 } }
noncomputable def v4o347 (P : Params) : Obj := { cls := Value.type "tuple", data := Data.seq #[] }
noncomputable def v4o348 (P : Params) : Obj := { cls := Value.none, data := Data.fields #[] }
noncomputable def v4o349 (P : Params) : Obj := { cls := Value.type "tuple", data := Data.seq #[Value.str (Str.ofString "subject") 664, Value.str (Str.ofString "at") 665, Value.str (Str.ofString "signs") 666, Value.str (Str.ofString "end") 667] }
noncomputable def v4o350 (P : Params) : Obj := { cls := Value.type "tuple", data := Data.seq #[] }
noncomputable def v4o351 (P : Params) : Obj := { cls := Value.none, data := Data.func { name := Str.ofString "span_end", qualname := Str.ofString "span_end", params := F351a, body := FuncBody.stmts F351b, scope := F351s, globals := 0, closure := [], defaults := Value.none, kwdefaults := Value.none } }
noncomputable def v4o352 (P : Params) : Obj := { cls := Value.type "code", data := Data.fields #[Value.str (Str.ofString "span_end") 661, Value.str (Str.ofString "span_end") 662, Value.str (Str.ofString "/claim/cut.py") 663, Value.int 181 0, Value.int 3 0, Value.int 0 0, Value.int 0 0, Value.int 3 0, Value.ref 347, Value.bool true, Value.int 181 0, Value.ref 348, Value.none, Value.ref 349, Value.ref 350, Value.ref 351, Value.int 668 0, Value.int 181 0, Value.str (Str.ofString "/claim/cut.py") 669] }
noncomputable def v4o353 (P : Params) : Obj := { cls := Value.type "function", data := Data.func { name := Str.ofString "span_end", qualname := Str.ofString "span_end", params := F353a, body := FuncBody.stmts F353b, scope := F353s, globals := 3, closure := [], defaults := Value.none, kwdefaults := Value.none, pyModule := Value.str (Str.ofString "snobol.primitives") 565, code := Value.ref 352 } }
noncomputable def v4o354 (P : Params) : Obj := { cls := Value.type "tuple", data := Data.seq #[] }
noncomputable def v4o355 (P : Params) : Obj := { cls := Value.none, data := Data.fields #[] }
noncomputable def v4o356 (P : Params) : Obj := { cls := Value.type "tuple", data := Data.seq #[Value.str (Str.ofString "subject") 674, Value.str (Str.ofString "at") 675, Value.str (Str.ofString "signs") 676, Value.str (Str.ofString "end") 677] }
noncomputable def v4o357 (P : Params) : Obj := { cls := Value.type "tuple", data := Data.seq #[] }
noncomputable def v4o358 (P : Params) : Obj := { cls := Value.none, data := Data.func { name := Str.ofString "break_end", qualname := Str.ofString "break_end", params := F358a, body := FuncBody.stmts F358b, scope := F358s, globals := 0, closure := [], defaults := Value.none, kwdefaults := Value.none } }
noncomputable def v4o359 (P : Params) : Obj := { cls := Value.type "code", data := Data.fields #[Value.str (Str.ofString "break_end") 671, Value.str (Str.ofString "break_end") 672, Value.str (Str.ofString "/claim/cut.py") 673, Value.int 184 0, Value.int 3 0, Value.int 0 0, Value.int 0 0, Value.int 3 0, Value.ref 354, Value.bool true, Value.int 181 0, Value.ref 355, Value.none, Value.ref 356, Value.ref 357, Value.ref 358, Value.int 678 0, Value.int 184 0, Value.str (Str.ofString "/claim/cut.py") 679] }
noncomputable def v4o360 (P : Params) : Obj := { cls := Value.type "function", data := Data.func { name := Str.ofString "break_end", qualname := Str.ofString "break_end", params := F360a, body := FuncBody.stmts F360b, scope := F360s, globals := 3, closure := [], defaults := Value.none, kwdefaults := Value.none, pyModule := Value.str (Str.ofString "snobol.primitives") 565, code := Value.ref 359 } }
noncomputable def v4o361 (P : Params) : Obj := { cls := Value.type "tuple", data := Data.seq #[] }
noncomputable def v4o362 (P : Params) : Obj := { cls := Value.none, data := Data.fields #[] }
noncomputable def v4o363 (P : Params) : Obj := { cls := Value.type "tuple", data := Data.seq #[Value.str (Str.ofString "subject") 684, Value.str (Str.ofString "at") 685, Value.str (Str.ofString "level") 686] }
noncomputable def v4o364 (P : Params) : Obj := { cls := Value.type "tuple", data := Data.seq #[] }
noncomputable def v4o365 (P : Params) : Obj := { cls := Value.none, data := Data.func { name := Str.ofString "bal_end", qualname := Str.ofString "bal_end", params := F365a, body := FuncBody.stmts F365b, scope := F365s, globals := 0, closure := [], defaults := Value.none, kwdefaults := Value.none } }
noncomputable def v4o366 (P : Params) : Obj := { cls := Value.type "code", data := Data.fields #[Value.str (Str.ofString "bal_end") 681, Value.str (Str.ofString "bal_end") 682, Value.str (Str.ofString "/claim/cut.py") 683, Value.int 187 0, Value.int 2 0, Value.int 0 0, Value.int 0 0, Value.int 3 0, Value.ref 361, Value.bool true, Value.int 181 0, Value.ref 362, Value.none, Value.ref 363, Value.ref 364, Value.ref 365, Value.int 687 0, Value.int 187 0, Value.str (Str.ofString "/claim/cut.py") 688] }
noncomputable def v4o367 (P : Params) : Obj := { cls := Value.type "function", data := Data.func { name := Str.ofString "bal_end", qualname := Str.ofString "bal_end", params := F367a, body := FuncBody.stmts F367b, scope := F367s, globals := 3, closure := [], defaults := Value.none, kwdefaults := Value.none, pyModule := Value.str (Str.ofString "snobol.primitives") 565, code := Value.ref 366 } }
noncomputable def v4o368 (P : Params) : Obj := { cls := Value.type "tuple", data := Data.seq #[] }
noncomputable def v4o369 (P : Params) : Obj := { cls := Value.none, data := Data.fields #[] }
noncomputable def v4o370 (P : Params) : Obj := { cls := Value.type "tuple", data := Data.seq #[Value.str (Str.ofString "subject") 693, Value.str (Str.ofString "at") 694, Value.str (Str.ofString "found") 695, Value.str (Str.ofString "end") 696] }
noncomputable def v4o371 (P : Params) : Obj := { cls := Value.type "tuple", data := Data.seq #[] }
noncomputable def v4o372 (P : Params) : Obj := { cls := Value.none, data := Data.func { name := Str.ofString "bal_ends", qualname := Str.ofString "bal_ends", params := F372a, body := FuncBody.stmts F372b, scope := F372s, globals := 0, closure := [], defaults := Value.none, kwdefaults := Value.none } }
noncomputable def v4o373 (P : Params) : Obj := { cls := Value.type "code", data := Data.fields #[Value.str (Str.ofString "bal_ends") 690, Value.str (Str.ofString "bal_ends") 691, Value.str (Str.ofString "/claim/cut.py") 692, Value.int 200 0, Value.int 2 0, Value.int 0 0, Value.int 0 0, Value.int 3 0, Value.ref 368, Value.bool true, Value.int 181 0, Value.ref 369, Value.none, Value.ref 370, Value.ref 371, Value.ref 372, Value.int 697 0, Value.int 200 0, Value.str (Str.ofString "/claim/cut.py") 698] }
noncomputable def v4o374 (P : Params) : Obj := { cls := Value.type "function", data := Data.func { name := Str.ofString "bal_ends", qualname := Str.ofString "bal_ends", params := F374a, body := FuncBody.stmts F374b, scope := F374s, globals := 3, closure := [], defaults := Value.none, kwdefaults := Value.none, pyModule := Value.str (Str.ofString "snobol.primitives") 565, code := Value.ref 373 } }
noncomputable def v4o375 (P : Params) : Obj := { cls := Value.type "tuple", data := Data.seq #[] }
noncomputable def v4o376 (P : Params) : Obj := { cls := Value.none, data := Data.fields #[] }
noncomputable def v4o377 (P : Params) : Obj := { cls := Value.type "tuple", data := Data.seq #[Value.str (Str.ofString "kind") 703, Value.str (Str.ofString "subject") 704, Value.str (Str.ofString "at") 705, Value.str (Str.ofString "told") 706] }
noncomputable def v4o378 (P : Params) : Obj := { cls := Value.type "tuple", data := Data.seq #[] }
noncomputable def v4o379 (P : Params) : Obj := { cls := Value.none, data := Data.func { name := Str.ofString "one_end", qualname := Str.ofString "one_end", params := F379a, body := FuncBody.stmts F379b, scope := F379s, globals := 0, closure := [], defaults := Value.none, kwdefaults := Value.none } }
noncomputable def v4o380 (P : Params) : Obj := { cls := Value.type "code", data := Data.fields #[Value.str (Str.ofString "one_end") 700, Value.str (Str.ofString "one_end") 701, Value.str (Str.ofString "/claim/cut.py") 702, Value.int 206 0, Value.int 4 0, Value.int 0 0, Value.int 0 0, Value.int 3 0, Value.ref 375, Value.bool true, Value.int 181 0, Value.ref 376, Value.none, Value.ref 377, Value.ref 378, Value.ref 379, Value.int 707 0, Value.int 206 0, Value.str (Str.ofString "/claim/cut.py") 708] }
noncomputable def v4o381 (P : Params) : Obj := { cls := Value.type "function", data := Data.func { name := Str.ofString "one_end", qualname := Str.ofString "one_end", params := F381a, body := FuncBody.stmts F381b, scope := F381s, globals := 3, closure := [], defaults := Value.none, kwdefaults := Value.none, pyModule := Value.str (Str.ofString "snobol.primitives") 565, code := Value.ref 380 } }
noncomputable def v4o382 (P : Params) : Obj := { cls := Value.type "tuple", data := Data.seq #[] }
noncomputable def v4o383 (P : Params) : Obj := { cls := Value.none, data := Data.fields #[] }
noncomputable def v4o384 (P : Params) : Obj := { cls := Value.type "tuple", data := Data.seq #[Value.str (Str.ofString "node") 713, Value.str (Str.ofString "subject") 714, Value.str (Str.ofString "at") 715] }
noncomputable def v4o385 (P : Params) : Obj := { cls := Value.type "tuple", data := Data.seq #[] }
noncomputable def v4o386 (P : Params) : Obj := { cls := Value.none, data := Data.func { name := Str.ofString "plain_end", qualname := Str.ofString "plain_end", params := F386a, body := FuncBody.stmts F386b, scope := F386s, globals := 0, closure := [], defaults := Value.none, kwdefaults := Value.none } }
noncomputable def v4o387 (P : Params) : Obj := { cls := Value.type "code", data := Data.fields #[Value.str (Str.ofString "plain_end") 710, Value.str (Str.ofString "plain_end") 711, Value.str (Str.ofString "/claim/cut.py") 712, Value.int 226 0, Value.int 3 0, Value.int 0 0, Value.int 0 0, Value.int 3 0, Value.ref 382, Value.bool true, Value.int 181 0, Value.ref 383, Value.none, Value.ref 384, Value.ref 385, Value.ref 386, Value.int 716 0, Value.int 226 0, Value.str (Str.ofString "/claim/cut.py") 717] }
noncomputable def v4o388 (P : Params) : Obj := { cls := Value.type "function", data := Data.func { name := Str.ofString "plain_end", qualname := Str.ofString "plain_end", params := F388a, body := FuncBody.stmts F388b, scope := F388s, globals := 3, closure := [], defaults := Value.none, kwdefaults := Value.none, pyModule := Value.str (Str.ofString "snobol.primitives") 565, code := Value.ref 387 } }
noncomputable def v4o389 (P : Params) : Obj := { cls := Value.type "tuple", data := Data.seq #[] }
noncomputable def v4o390 (P : Params) : Obj := { cls := Value.none, data := Data.fields #[] }
noncomputable def v4o391 (P : Params) : Obj := { cls := Value.type "tuple", data := Data.seq #[Value.str (Str.ofString "node") 726, Value.str (Str.ofString "subject") 727, Value.str (Str.ofString "is_anchored") 728, Value.str (Str.ofString "host") 729, Value.str (Str.ofString "begin") 730, Value.str (Str.ofString "found") 731] }
noncomputable def v4o392 (P : Params) : Obj := { cls := Value.type "tuple", data := Data.seq #[] }
noncomputable def v4o393 (P : Params) : Obj := { cls := Value.none, data := Data.func { name := Str.ofString "match_plain", qualname := Str.ofString "match_plain", params := F393a, body := FuncBody.stmts F393b, scope := F393s, globals := 0, closure := [], defaults := Value.none, kwdefaults := Value.none } }
noncomputable def v4o394 (P : Params) : Obj := { cls := Value.type "code", data := Data.fields #[Value.str (Str.ofString "match_plain") 723, Value.str (Str.ofString "match_plain") 724, Value.str (Str.ofString "/claim/cut.py") 725, Value.int 230 0, Value.int 4 0, Value.int 0 0, Value.int 0 0, Value.int 3 0, Value.ref 389, Value.bool true, Value.int 181 0, Value.ref 390, Value.none, Value.ref 391, Value.ref 392, Value.ref 393, Value.int 732 0, Value.int 230 0, Value.str (Str.ofString "/claim/cut.py") 733] }
noncomputable def v4o395 (P : Params) : Obj := { cls := Value.type "function", data := Data.func { name := Str.ofString "match_plain", qualname := Str.ofString "match_plain", params := F395a, body := FuncBody.stmts F395b, scope := F395s, globals := 3, closure := [], defaults := Value.none, kwdefaults := Value.none, pyModule := Value.str (Str.ofString "snobol.trial") 719, code := Value.ref 394 } }
noncomputable def v4o396 (P : Params) : Obj := { cls := Value.type "tuple", data := Data.seq #[] }
noncomputable def v4o397 (P : Params) : Obj := { cls := Value.none, data := Data.fields #[] }
noncomputable def v4o398 (P : Params) : Obj := { cls := Value.type "tuple", data := Data.seq #[Value.str (Str.ofString "node") 738, Value.str (Str.ofString "subject") 739, Value.str (Str.ofString "begin") 740, Value.str (Str.ofString "host") 741, Value.str (Str.ofString "found") 742] }
noncomputable def v4o399 (P : Params) : Obj := { cls := Value.type "tuple", data := Data.seq #[] }
noncomputable def v4o400 (P : Params) : Obj := { cls := Value.none, data := Data.func { name := Str.ofString "match_at", qualname := Str.ofString "match_at", params := F400a, body := FuncBody.stmts F400b, scope := F400s, globals := 0, closure := [], defaults := Value.none, kwdefaults := Value.none } }
noncomputable def v4o401 (P : Params) : Obj := { cls := Value.type "code", data := Data.fields #[Value.str (Str.ofString "match_at") 735, Value.str (Str.ofString "match_at") 736, Value.str (Str.ofString "/claim/cut.py") 737, Value.int 236 0, Value.int 4 0, Value.int 0 0, Value.int 0 0, Value.int 3 0, Value.ref 396, Value.bool true, Value.int 181 0, Value.ref 397, Value.none, Value.ref 398, Value.ref 399, Value.ref 400, Value.int 743 0, Value.int 236 0, Value.str (Str.ofString "/claim/cut.py") 744] }
noncomputable def v4o402 (P : Params) : Obj := { cls := Value.type "function", data := Data.func { name := Str.ofString "match_at", qualname := Str.ofString "match_at", params := F402a, body := FuncBody.stmts F402b, scope := F402s, globals := 3, closure := [], defaults := Value.none, kwdefaults := Value.none, pyModule := Value.str (Str.ofString "snobol.trial") 719, code := Value.ref 401 } }
noncomputable def v4o403 (P : Params) : Obj := { cls := Value.type "tuple", data := Data.seq #[] }
noncomputable def v4o404 (P : Params) : Obj := { cls := Value.none, data := Data.fields #[] }
noncomputable def v4o405 (P : Params) : Obj := { cls := Value.type "tuple", data := Data.seq #[Value.str (Str.ofString "node") 749, Value.str (Str.ofString "subject") 750, Value.str (Str.ofString "begin") 751, Value.str (Str.ofString "host") 752, Value.str (Str.ofString "pile") 753, Value.str (Str.ofString "way") 754, Value.str (Str.ofString "chain") 755, Value.str (Str.ofString "at") 756, Value.str (Str.ofString "named") 757] }
noncomputable def v4o406 (P : Params) : Obj := { cls := Value.type "tuple", data := Data.seq #[] }
noncomputable def v4o407 (P : Params) : Obj := { cls := Value.none, data := Data.func { name := Str.ofString "tried", qualname := Str.ofString "tried", params := F407a, body := FuncBody.stmts F407b, scope := F407s, globals := 0, closure := [], defaults := Value.none, kwdefaults := Value.none } }
noncomputable def v4o408 (P : Params) : Obj := { cls := Value.type "code", data := Data.fields #[Value.str (Str.ofString "tried") 746, Value.str (Str.ofString "tried") 747, Value.str (Str.ofString "/claim/cut.py") 748, Value.int 239 0, Value.int 4 0, Value.int 0 0, Value.int 0 0, Value.int 3 0, Value.ref 403, Value.bool true, Value.int 181 0, Value.ref 404, Value.none, Value.ref 405, Value.ref 406, Value.ref 407, Value.int 758 0, Value.int 239 0, Value.str (Str.ofString "/claim/cut.py") 759] }
noncomputable def v4o409 (P : Params) : Obj := { cls := Value.type "function", data := Data.func { name := Str.ofString "tried", qualname := Str.ofString "tried", params := F409a, body := FuncBody.stmts F409b, scope := F409s, globals := 3, closure := [], defaults := Value.none, kwdefaults := Value.none, pyModule := Value.str (Str.ofString "snobol.trial") 719, code := Value.ref 408 } }
noncomputable def v4o410 (P : Params) : Obj := { cls := Value.type "tuple", data := Data.seq #[] }
noncomputable def v4o411 (P : Params) : Obj := { cls := Value.none, data := Data.fields #[] }
noncomputable def v4o412 (P : Params) : Obj := { cls := Value.type "tuple", data := Data.seq #[Value.str (Str.ofString "chain") 764, Value.str (Str.ofString "at") 765, Value.str (Str.ofString "named") 766, Value.str (Str.ofString "subject") 767, Value.str (Str.ofString "pile") 768, Value.str (Str.ofString "host") 769, Value.str (Str.ofString "here") 770, Value.str (Str.ofString "rest") 771, Value.str (Str.ofString "kind") 772, Value.str (Str.ofString "value") 773] }
noncomputable def v4o413 (P : Params) : Obj := { cls := Value.type "tuple", data := Data.seq #[] }
noncomputable def v4o414 (P : Params) : Obj := { cls := Value.none, data := Data.func { name := Str.ofString "advanced", qualname := Str.ofString "advanced", params := F414a, body := FuncBody.stmts F414b, scope := F414s, globals := 0, closure := [], defaults := Value.none, kwdefaults := Value.none } }
noncomputable def v4o415 (P : Params) : Obj := { cls := Value.type "code", data := Data.fields #[Value.str (Str.ofString "advanced") 761, Value.str (Str.ofString "advanced") 762, Value.str (Str.ofString "/claim/cut.py") 763, Value.int 257 0, Value.int 6 0, Value.int 0 0, Value.int 0 0, Value.int 3 0, Value.ref 410, Value.bool true, Value.int 181 0, Value.ref 411, Value.none, Value.ref 412, Value.ref 413, Value.ref 414, Value.int 774 0, Value.int 257 0, Value.str (Str.ofString "/claim/cut.py") 775] }
noncomputable def v4o416 (P : Params) : Obj := { cls := Value.type "function", data := Data.func { name := Str.ofString "advanced", qualname := Str.ofString "advanced", params := F416a, body := FuncBody.stmts F416b, scope := F416s, globals := 3, closure := [], defaults := Value.none, kwdefaults := Value.none, pyModule := Value.str (Str.ofString "snobol.trial") 719, code := Value.ref 415 } }
noncomputable def v4o417 (P : Params) : Obj := { cls := Value.type "tuple", data := Data.seq #[] }
noncomputable def v4o418 (P : Params) : Obj := { cls := Value.none, data := Data.fields #[] }
noncomputable def v4o419 (P : Params) : Obj := { cls := Value.type "tuple", data := Data.seq #[Value.str (Str.ofString "here") 780, Value.str (Str.ofString "rest") 781, Value.str (Str.ofString "at") 782, Value.str (Str.ofString "named") 783, Value.str (Str.ofString "pile") 784, Value.str (Str.ofString "kind") 785] }
noncomputable def v4o420 (P : Params) : Obj := { cls := Value.type "tuple", data := Data.seq #[] }
noncomputable def v4o421 (P : Params) : Obj := { cls := Value.none, data := Data.func { name := Str.ofString "led_in", qualname := Str.ofString "led_in", params := F421a, body := FuncBody.stmts F421b, scope := F421s, globals := 0, closure := [], defaults := Value.none, kwdefaults := Value.none } }
noncomputable def v4o422 (P : Params) : Obj := { cls := Value.type "code", data := Data.fields #[Value.str (Str.ofString "led_in") 777, Value.str (Str.ofString "led_in") 778, Value.str (Str.ofString "/claim/cut.py") 779, Value.int 272 0, Value.int 5 0, Value.int 0 0, Value.int 0 0, Value.int 3 0, Value.ref 417, Value.bool true, Value.int 181 0, Value.ref 418, Value.none, Value.ref 419, Value.ref 420, Value.ref 421, Value.int 786 0, Value.int 272 0, Value.str (Str.ofString "/claim/cut.py") 787] }
noncomputable def v4o423 (P : Params) : Obj := { cls := Value.type "function", data := Data.func { name := Str.ofString "led_in", qualname := Str.ofString "led_in", params := F423a, body := FuncBody.stmts F423b, scope := F423s, globals := 3, closure := [], defaults := Value.none, kwdefaults := Value.none, pyModule := Value.str (Str.ofString "snobol.trial") 719, code := Value.ref 422 } }
noncomputable def v4o424 (P : Params) : Obj := { cls := Value.type "tuple", data := Data.seq #[] }
noncomputable def v4o425 (P : Params) : Obj := { cls := Value.none, data := Data.fields #[] }
noncomputable def v4o426 (P : Params) : Obj := { cls := Value.type "tuple", data := Data.seq #[Value.str (Str.ofString "here") 792, Value.str (Str.ofString "rest") 793, Value.str (Str.ofString "at") 794, Value.str (Str.ofString "named") 795, Value.str (Str.ofString "subject") 796, Value.str (Str.ofString "pile") 797, Value.str (Str.ofString "host") 798, Value.str (Str.ofString "kind") 799, Value.str (Str.ofString "told") 800, Value.str (Str.ofString "begin") 801] }
noncomputable def v4o427 (P : Params) : Obj := { cls := Value.type "tuple", data := Data.seq #[] }
noncomputable def v4o428 (P : Params) : Obj := { cls := Value.none, data := Data.func { name := Str.ofString "led_out", qualname := Str.ofString "led_out", params := F428a, body := FuncBody.stmts F428b, scope := F428s, globals := 0, closure := [], defaults := Value.none, kwdefaults := Value.none } }
noncomputable def v4o429 (P : Params) : Obj := { cls := Value.type "code", data := Data.fields #[Value.str (Str.ofString "led_out") 789, Value.str (Str.ofString "led_out") 790, Value.str (Str.ofString "/claim/cut.py") 791, Value.int 283 0, Value.int 7 0, Value.int 0 0, Value.int 0 0, Value.int 3 0, Value.ref 424, Value.bool true, Value.int 181 0, Value.ref 425, Value.none, Value.ref 426, Value.ref 427, Value.ref 428, Value.int 802 0, Value.int 283 0, Value.str (Str.ofString "/claim/cut.py") 803] }
noncomputable def v4o430 (P : Params) : Obj := { cls := Value.type "function", data := Data.func { name := Str.ofString "led_out", qualname := Str.ofString "led_out", params := F430a, body := FuncBody.stmts F430b, scope := F430s, globals := 3, closure := [], defaults := Value.none, kwdefaults := Value.none, pyModule := Value.str (Str.ofString "snobol.trial") 719, code := Value.ref 429 } }
noncomputable def v4o431 (P : Params) : Obj := { cls := Value.type "tuple", data := Data.seq #[] }
noncomputable def v4o432 (P : Params) : Obj := { cls := Value.none, data := Data.fields #[] }
noncomputable def v4o433 (P : Params) : Obj := { cls := Value.type "tuple", data := Data.seq #[Value.str (Str.ofString "chain") 808, Value.str (Str.ofString "at") 809, Value.str (Str.ofString "named") 810, Value.str (Str.ofString "pile") 811, Value.str (Str.ofString "kind") 812, Value.str (Str.ofString "rest") 813] }
noncomputable def v4o434 (P : Params) : Obj := { cls := Value.type "tuple", data := Data.seq #[] }
noncomputable def v4o435 (P : Params) : Obj := { cls := Value.none, data := Data.func { name := Str.ofString "steered", qualname := Str.ofString "steered", params := F435a, body := FuncBody.stmts F435b, scope := F435s, globals := 0, closure := [], defaults := Value.none, kwdefaults := Value.none } }
noncomputable def v4o436 (P : Params) : Obj := { cls := Value.type "code", data := Data.fields #[Value.str (Str.ofString "steered") 805, Value.str (Str.ofString "steered") 806, Value.str (Str.ofString "/claim/cut.py") 807, Value.int 290 0, Value.int 4 0, Value.int 0 0, Value.int 0 0, Value.int 3 0, Value.ref 431, Value.bool true, Value.int 181 0, Value.ref 432, Value.none, Value.ref 433, Value.ref 434, Value.ref 435, Value.int 814 0, Value.int 290 0, Value.str (Str.ofString "/claim/cut.py") 815] }
noncomputable def v4o437 (P : Params) : Obj := { cls := Value.type "function", data := Data.func { name := Str.ofString "steered", qualname := Str.ofString "steered", params := F437a, body := FuncBody.stmts F437b, scope := F437s, globals := 3, closure := [], defaults := Value.none, kwdefaults := Value.none, pyModule := Value.str (Str.ofString "snobol.trial") 719, code := Value.ref 436 } }
noncomputable def v4o438 (P : Params) : Obj := { cls := Value.type "tuple", data := Data.seq #[] }
noncomputable def v4o439 (P : Params) : Obj := { cls := Value.none, data := Data.fields #[] }
noncomputable def v4o440 (P : Params) : Obj := { cls := Value.type "tuple", data := Data.seq #[Value.str (Str.ofString "here") 820, Value.str (Str.ofString "rest") 821, Value.str (Str.ofString "at") 822, Value.str (Str.ofString "named") 823, Value.str (Str.ofString "subject") 824, Value.str (Str.ofString "pile") 825, Value.str (Str.ofString "host") 826, Value.str (Str.ofString "kind") 827, Value.str (Str.ofString "ends") 828, Value.str (Str.ofString "end") 829, Value.str (Str.ofString "plain") 830] }
noncomputable def v4o441 (P : Params) : Obj := { cls := Value.type "tuple", data := Data.seq #[] }
noncomputable def v4o442 (P : Params) : Obj := { cls := Value.none, data := Data.func { name := Str.ofString "taken", qualname := Str.ofString "taken", params := F442a, body := FuncBody.stmts F442b, scope := F442s, globals := 0, closure := [], defaults := Value.none, kwdefaults := Value.none } }
noncomputable def v4o443 (P : Params) : Obj := { cls := Value.type "code", data := Data.fields #[Value.str (Str.ofString "taken") 817, Value.str (Str.ofString "taken") 818, Value.str (Str.ofString "/claim/cut.py") 819, Value.int 298 0, Value.int 7 0, Value.int 0 0, Value.int 0 0, Value.int 3 0, Value.ref 438, Value.bool true, Value.int 181 0, Value.ref 439, Value.none, Value.ref 440, Value.ref 441, Value.ref 442, Value.int 831 0, Value.int 298 0, Value.str (Str.ofString "/claim/cut.py") 832] }
noncomputable def v4o444 (P : Params) : Obj := { cls := Value.type "function", data := Data.func { name := Str.ofString "taken", qualname := Str.ofString "taken", params := F444a, body := FuncBody.stmts F444b, scope := F444s, globals := 3, closure := [], defaults := Value.none, kwdefaults := Value.none, pyModule := Value.str (Str.ofString "snobol.trial") 719, code := Value.ref 443 } }
set_option maxRecDepth 100000 in
noncomputable def tree4 (P : Params) : BT := (.node (boot_o_0 P) (.node (boot_o_1 P) (.node (v4o3 P) (.node (boot_o_7 P) (.node (v1o15 P) (.node (v1o31 P) (.node (v1o63 P) (.node (v2o127 P) (.node (v3o255 P) .nil .nil) (.node (v4o383 P) .nil .nil)) (.node (v3o191 P) (.node (v4o319 P) .nil .nil) .nil)) (.node (v2o95 P) (.node (v2o159 P) (.node (v3o287 P) .nil .nil) (.node (v4o415 P) .nil .nil)) (.node (v3o223 P) (.node (v4o351 P) .nil .nil) .nil))) (.node (v1o47 P) (.node (v1o79 P) (.node (v2o143 P) (.node (v3o271 P) .nil .nil) (.node (v4o399 P) .nil .nil)) (.node (v3o207 P) (.node (v4o335 P) .nil .nil) .nil)) (.node (v2o111 P) (.node (v2o175 P) (.node (v3o303 P) .nil .nil) (.node (v4o431 P) .nil .nil)) (.node (v3o239 P) (.node (v4o367 P) .nil .nil) .nil)))) (.node (v1o23 P) (.node (v1o39 P) (.node (v1o71 P) (.node (v2o135 P) (.node (v3o263 P) .nil .nil) (.node (v4o391 P) .nil .nil)) (.node (v3o199 P) (.node (v4o327 P) .nil .nil) .nil)) (.node (v2o103 P) (.node (v2o167 P) (.node (v3o295 P) .nil .nil) (.node (v4o423 P) .nil .nil)) (.node (v3o231 P) (.node (v4o359 P) .nil .nil) .nil))) (.node (v1o55 P) (.node (v2o87 P) (.node (v2o151 P) (.node (v3o279 P) .nil .nil) (.node (v4o407 P) .nil .nil)) (.node (v3o215 P) (.node (v4o343 P) .nil .nil) .nil)) (.node (v2o119 P) (.node (v3o183 P) (.node (v4o311 P) .nil .nil) (.node (v4o439 P) .nil .nil)) (.node (v3o247 P) (.node (v4o375 P) .nil .nil) .nil))))) (.node (o11) (.node (v1o19 P) (.node (v1o35 P) (.node (v1o67 P) (.node (v2o131 P) (.node (v3o259 P) .nil .nil) (.node (v4o387 P) .nil .nil)) (.node (v3o195 P) (.node (v4o323 P) .nil .nil) .nil)) (.node (v2o99 P) (.node (v2o163 P) (.node (v3o291 P) .nil .nil) (.node (v4o419 P) .nil .nil)) (.node (v3o227 P) (.node (v4o355 P) .nil .nil) .nil))) (.node (v1o51 P) (.node (v1o83 P) (.node (v2o147 P) (.node (v3o275 P) .nil .nil) (.node (v4o403 P) .nil .nil)) (.node (v3o211 P) (.node (v4o339 P) .nil .nil) .nil)) (.node (v2o115 P) (.node (v3o179 P) (.node (v4o307 P) .nil .nil) (.node (v4o435 P) .nil .nil)) (.node (v3o243 P) (.node (v4o371 P) .nil .nil) .nil)))) (.node (v1o27 P) (.node (v1o43 P) (.node (v1o75 P) (.node (v2o139 P) (.node (v3o267 P) .nil .nil) (.node (v4o395 P) .nil .nil)) (.node (v3o203 P) (.node (v4o331 P) .nil .nil) .nil)) (.node (v2o107 P) (.node (v2o171 P) (.node (v3o299 P) .nil .nil) (.node (v4o427 P) .nil .nil)) (.node (v3o235 P) (.node (v4o363 P) .nil .nil) .nil))) (.node (v1o59 P) (.node (v2o91 P) (.node (v2o155 P) (.node (v3o283 P) .nil .nil) (.node (v4o411 P) .nil .nil)) (.node (v3o219 P) (.node (v4o347 P) .nil .nil) .nil)) (.node (v2o123 P) (.node (v3o187 P) (.node (v4o315 P) .nil .nil) (.node (v4o443 P) .nil .nil)) (.node (v3o251 P) (.node (v4o379 P) .nil .nil) .nil)))))) (.node (boot_o_5 P) (.node (boot_o_9 P) (.node (v1o17 P) (.node (v1o33 P) (.node (v1o65 P) (.node (v2o129 P) (.node (v3o257 P) .nil .nil) (.node (v4o385 P) .nil .nil)) (.node (v3o193 P) (.node (v4o321 P) .nil .nil) .nil)) (.node (v2o97 P) (.node (v2o161 P) (.node (v3o289 P) .nil .nil) (.node (v4o417 P) .nil .nil)) (.node (v3o225 P) (.node (v4o353 P) .nil .nil) .nil))) (.node (v1o49 P) (.node (v1o81 P) (.node (v2o145 P) (.node (v3o273 P) .nil .nil) (.node (v4o401 P) .nil .nil)) (.node (v3o209 P) (.node (v4o337 P) .nil .nil) .nil)) (.node (v2o113 P) (.node (v2o177 P) (.node (v4o305 P) .nil .nil) (.node (v4o433 P) .nil .nil)) (.node (v3o241 P) (.node (v4o369 P) .nil .nil) .nil)))) (.node (v1o25 P) (.node (v1o41 P) (.node (v1o73 P) (.node (v2o137 P) (.node (v3o265 P) .nil .nil) (.node (v4o393 P) .nil .nil)) (.node (v3o201 P) (.node (v4o329 P) .nil .nil) .nil)) (.node (v2o105 P) (.node (v2o169 P) (.node (v3o297 P) .nil .nil) (.node (v4o425 P) .nil .nil)) (.node (v3o233 P) (.node (v4o361 P) .nil .nil) .nil))) (.node (v1o57 P) (.node (v2o89 P) (.node (v2o153 P) (.node (v3o281 P) .nil .nil) (.node (v4o409 P) .nil .nil)) (.node (v3o217 P) (.node (v4o345 P) .nil .nil) .nil)) (.node (v2o121 P) (.node (v3o185 P) (.node (v4o313 P) .nil .nil) (.node (v4o441 P) .nil .nil)) (.node (v3o249 P) (.node (v4o377 P) .nil .nil) .nil))))) (.node (o13) (.node (v1o21 P) (.node (v1o37 P) (.node (v1o69 P) (.node (v2o133 P) (.node (v3o261 P) .nil .nil) (.node (v4o389 P) .nil .nil)) (.node (v3o197 P) (.node (v4o325 P) .nil .nil) .nil)) (.node (v2o101 P) (.node (v2o165 P) (.node (v3o293 P) .nil .nil) (.node (v4o421 P) .nil .nil)) (.node (v3o229 P) (.node (v4o357 P) .nil .nil) .nil))) (.node (v1o53 P) (.node (v1o85 P) (.node (v2o149 P) (.node (v3o277 P) .nil .nil) (.node (v4o405 P) .nil .nil)) (.node (v3o213 P) (.node (v4o341 P) .nil .nil) .nil)) (.node (v2o117 P) (.node (v3o181 P) (.node (v4o309 P) .nil .nil) (.node (v4o437 P) .nil .nil)) (.node (v3o245 P) (.node (v4o373 P) .nil .nil) .nil)))) (.node (v1o29 P) (.node (v1o45 P) (.node (v1o77 P) (.node (v2o141 P) (.node (v3o269 P) .nil .nil) (.node (v4o397 P) .nil .nil)) (.node (v3o205 P) (.node (v4o333 P) .nil .nil) .nil)) (.node (v2o109 P) (.node (v2o173 P) (.node (v3o301 P) .nil .nil) (.node (v4o429 P) .nil .nil)) (.node (v3o237 P) (.node (v4o365 P) .nil .nil) .nil))) (.node (v1o61 P) (.node (v2o93 P) (.node (v2o157 P) (.node (v3o285 P) .nil .nil) (.node (v4o413 P) .nil .nil)) (.node (v3o221 P) (.node (v4o349 P) .nil .nil) .nil)) (.node (v2o125 P) (.node (v3o189 P) (.node (v4o317 P) .nil .nil) .nil) (.node (v3o253 P) (.node (v4o381 P) .nil .nil) .nil))))))) (.node (v1o2 P) (.node (boot_o_4 P) (.node (boot_o_8 P) (.node (v1o16 P) (.node (v1o32 P) (.node (v1o64 P) (.node (v2o128 P) (.node (v3o256 P) .nil .nil) (.node (v4o384 P) .nil .nil)) (.node (v3o192 P) (.node (v4o320 P) .nil .nil) .nil)) (.node (v2o96 P) (.node (v2o160 P) (.node (v3o288 P) .nil .nil) (.node (v4o416 P) .nil .nil)) (.node (v3o224 P) (.node (v4o352 P) .nil .nil) .nil))) (.node (v1o48 P) (.node (v1o80 P) (.node (v2o144 P) (.node (v3o272 P) .nil .nil) (.node (v4o400 P) .nil .nil)) (.node (v3o208 P) (.node (v4o336 P) .nil .nil) .nil)) (.node (v2o112 P) (.node (v2o176 P) (.node (v3o304 P) .nil .nil) (.node (v4o432 P) .nil .nil)) (.node (v3o240 P) (.node (v4o368 P) .nil .nil) .nil)))) (.node (v1o24 P) (.node (v1o40 P) (.node (v1o72 P) (.node (v2o136 P) (.node (v3o264 P) .nil .nil) (.node (v4o392 P) .nil .nil)) (.node (v3o200 P) (.node (v4o328 P) .nil .nil) .nil)) (.node (v2o104 P) (.node (v2o168 P) (.node (v3o296 P) .nil .nil) (.node (v4o424 P) .nil .nil)) (.node (v3o232 P) (.node (v4o360 P) .nil .nil) .nil))) (.node (v1o56 P) (.node (v2o88 P) (.node (v2o152 P) (.node (v3o280 P) .nil .nil) (.node (v4o408 P) .nil .nil)) (.node (v3o216 P) (.node (v4o344 P) .nil .nil) .nil)) (.node (v2o120 P) (.node (v3o184 P) (.node (v4o312 P) .nil .nil) (.node (v4o440 P) .nil .nil)) (.node (v3o248 P) (.node (v4o376 P) .nil .nil) .nil))))) (.node (v4o12 P) (.node (v1o20 P) (.node (v1o36 P) (.node (v1o68 P) (.node (v2o132 P) (.node (v3o260 P) .nil .nil) (.node (v4o388 P) .nil .nil)) (.node (v3o196 P) (.node (v4o324 P) .nil .nil) .nil)) (.node (v2o100 P) (.node (v2o164 P) (.node (v3o292 P) .nil .nil) (.node (v4o420 P) .nil .nil)) (.node (v3o228 P) (.node (v4o356 P) .nil .nil) .nil))) (.node (v1o52 P) (.node (v1o84 P) (.node (v2o148 P) (.node (v3o276 P) .nil .nil) (.node (v4o404 P) .nil .nil)) (.node (v3o212 P) (.node (v4o340 P) .nil .nil) .nil)) (.node (v2o116 P) (.node (v3o180 P) (.node (v4o308 P) .nil .nil) (.node (v4o436 P) .nil .nil)) (.node (v3o244 P) (.node (v4o372 P) .nil .nil) .nil)))) (.node (v1o28 P) (.node (v1o44 P) (.node (v1o76 P) (.node (v2o140 P) (.node (v3o268 P) .nil .nil) (.node (v4o396 P) .nil .nil)) (.node (v3o204 P) (.node (v4o332 P) .nil .nil) .nil)) (.node (v2o108 P) (.node (v2o172 P) (.node (v3o300 P) .nil .nil) (.node (v4o428 P) .nil .nil)) (.node (v3o236 P) (.node (v4o364 P) .nil .nil) .nil))) (.node (v1o60 P) (.node (v2o92 P) (.node (v2o156 P) (.node (v3o284 P) .nil .nil) (.node (v4o412 P) .nil .nil)) (.node (v3o220 P) (.node (v4o348 P) .nil .nil) .nil)) (.node (v2o124 P) (.node (v3o188 P) (.node (v4o316 P) .nil .nil) (.node (v4o444 P) .nil .nil)) (.node (v3o252 P) (.node (v4o380 P) .nil .nil) .nil)))))) (.node (boot_o_6 P) (.node (boot_o_10 P) (.node (v1o18 P) (.node (v1o34 P) (.node (v1o66 P) (.node (v2o130 P) (.node (v3o258 P) .nil .nil) (.node (v4o386 P) .nil .nil)) (.node (v3o194 P) (.node (v4o322 P) .nil .nil) .nil)) (.node (v2o98 P) (.node (v2o162 P) (.node (v3o290 P) .nil .nil) (.node (v4o418 P) .nil .nil)) (.node (v3o226 P) (.node (v4o354 P) .nil .nil) .nil))) (.node (v1o50 P) (.node (v1o82 P) (.node (v2o146 P) (.node (v3o274 P) .nil .nil) (.node (v4o402 P) .nil .nil)) (.node (v3o210 P) (.node (v4o338 P) .nil .nil) .nil)) (.node (v2o114 P) (.node (v3o178 P) (.node (v4o306 P) .nil .nil) (.node (v4o434 P) .nil .nil)) (.node (v3o242 P) (.node (v4o370 P) .nil .nil) .nil)))) (.node (v1o26 P) (.node (v1o42 P) (.node (v1o74 P) (.node (v2o138 P) (.node (v3o266 P) .nil .nil) (.node (v4o394 P) .nil .nil)) (.node (v3o202 P) (.node (v4o330 P) .nil .nil) .nil)) (.node (v2o106 P) (.node (v2o170 P) (.node (v3o298 P) .nil .nil) (.node (v4o426 P) .nil .nil)) (.node (v3o234 P) (.node (v4o362 P) .nil .nil) .nil))) (.node (v1o58 P) (.node (v2o90 P) (.node (v2o154 P) (.node (v3o282 P) .nil .nil) (.node (v4o410 P) .nil .nil)) (.node (v3o218 P) (.node (v4o346 P) .nil .nil) .nil)) (.node (v2o122 P) (.node (v3o186 P) (.node (v4o314 P) .nil .nil) (.node (v4o442 P) .nil .nil)) (.node (v3o250 P) (.node (v4o378 P) .nil .nil) .nil))))) (.node (o14) (.node (v1o22 P) (.node (v1o38 P) (.node (v1o70 P) (.node (v2o134 P) (.node (v3o262 P) .nil .nil) (.node (v4o390 P) .nil .nil)) (.node (v3o198 P) (.node (v4o326 P) .nil .nil) .nil)) (.node (v2o102 P) (.node (v2o166 P) (.node (v3o294 P) .nil .nil) (.node (v4o422 P) .nil .nil)) (.node (v3o230 P) (.node (v4o358 P) .nil .nil) .nil))) (.node (v1o54 P) (.node (v1o86 P) (.node (v2o150 P) (.node (v3o278 P) .nil .nil) (.node (v4o406 P) .nil .nil)) (.node (v3o214 P) (.node (v4o342 P) .nil .nil) .nil)) (.node (v2o118 P) (.node (v3o182 P) (.node (v4o310 P) .nil .nil) (.node (v4o438 P) .nil .nil)) (.node (v3o246 P) (.node (v4o374 P) .nil .nil) .nil)))) (.node (v1o30 P) (.node (v1o46 P) (.node (v1o78 P) (.node (v2o142 P) (.node (v3o270 P) .nil .nil) (.node (v4o398 P) .nil .nil)) (.node (v3o206 P) (.node (v4o334 P) .nil .nil) .nil)) (.node (v2o110 P) (.node (v2o174 P) (.node (v3o302 P) .nil .nil) (.node (v4o430 P) .nil .nil)) (.node (v3o238 P) (.node (v4o366 P) .nil .nil) .nil))) (.node (v1o62 P) (.node (v2o94 P) (.node (v2o158 P) (.node (v3o286 P) .nil .nil) (.node (v4o414 P) .nil .nil)) (.node (v3o222 P) (.node (v4o350 P) .nil .nil) .nil)) (.node (v2o126 P) (.node (v3o190 P) (.node (v4o318 P) .nil .nil) .nil) (.node (v3o254 P) (.node (v4o382 P) .nil .nil) .nil))))))))
noncomputable def v5o3 (P : Params) : Obj := { cls := Value.type "dict", data := Data.dict #[{ hash := PyData.keyHash P (Str.ofString "__name__"), key := Value.str (Str.ofString "__name__") 165, val := Value.str (Str.ofString "law_xw0308_02") 897 }, { hash := PyData.keyHash P (Str.ofString "__doc__"), key := Value.str (Str.ofString "__doc__") 166, val := Value.none }, { hash := PyData.keyHash P (Str.ofString "__package__"), key := Value.str (Str.ofString "__package__") 167, val := Value.none }, { hash := PyData.keyHash P (Str.ofString "__loader__"), key := Value.str (Str.ofString "__loader__") 168, val := Value.builtin "__main__.__loader__#opaque" }, { hash := PyData.keyHash P (Str.ofString "__spec__"), key := Value.str (Str.ofString "__spec__") 169, val := Value.none }, { hash := PyData.keyHash P (Str.ofString "__annotations__"), key := Value.str (Str.ofString "__annotations__") 170, val := Value.ref 6 }, { hash := PyData.keyHash P (Str.ofString "__builtins__"), key := Value.str (Str.ofString "__builtins__") 171, val := Value.ref 4 }, { hash := PyData.keyHash P (Str.ofString "__file__"), key := Value.str (Str.ofString "__file__") 173, val := Value.str (Str.ofString "/claim/cut.py") 172 }, { hash := PyData.keyHash P (Str.ofString "__cached__"), key := Value.str (Str.ofString "__cached__") 174, val := Value.none }, { hash := PyData.keyHash P (Str.ofString "give_names"), key := Value.str (Str.ofString "give_names") 198, val := Value.ref 21 }, { hash := PyData.keyHash P (Str.ofString "three_pieces"), key := Value.str (Str.ofString "three_pieces") 206, val := Value.ref 28 }, { hash := PyData.keyHash P (Str.ofString "spliced"), key := Value.str (Str.ofString "spliced") 218, val := Value.ref 35 }, { hash := PyData.keyHash P (Str.ofString "replace_once"), key := Value.str (Str.ofString "replace_once") 232, val := Value.ref 42 }, { hash := PyData.keyHash P (Str.ofString "replace_often"), key := Value.str (Str.ofString "replace_often") 247, val := Value.ref 49 }, { hash := PyData.keyHash P (Str.ofString "SnobolError"), key := Value.str (Str.ofString "SnobolError") 283, val := Value.ref 69 }, { hash := PyData.keyHash P (Str.ofString "Failure"), key := Value.str (Str.ofString "Failure") 303, val := Value.ref 82 }, { hash := PyData.keyHash P (Str.ofString "Pattern"), key := Value.str (Str.ofString "Pattern") 332, val := Value.ref 103 }, { hash := PyData.keyHash P (Str.ofString "Delayed"), key := Value.str (Str.ofString "Delayed") 361, val := Value.ref 124 }, { hash := PyData.keyHash P (Str.ofString "is_fail"), key := Value.str (Str.ofString "is_fail") 368, val := Value.ref 135 }, { hash := PyData.keyHash P (Str.ofString "fits"), key := Value.str (Str.ofString "fits") 376, val := Value.ref 142 }, { hash := PyData.keyHash P (Str.ofString "whole_of_text"), key := Value.str (Str.ofString "whole_of_text") 387, val := Value.ref 149 }, { hash := PyData.keyHash P (Str.ofString "text_of_whole"), key := Value.str (Str.ofString "text_of_whole") 396, val := Value.ref 156 }, { hash := PyData.keyHash P (Str.ofString "to_whole"), key := Value.str (Str.ofString "to_whole") 404, val := Value.ref 163 }, { hash := PyData.keyHash P (Str.ofString "to_text"), key := Value.str (Str.ofString "to_text") 411, val := Value.ref 170 }, { hash := PyData.keyHash P (Str.ofString "need_text"), key := Value.str (Str.ofString "need_text") 419, val := Value.ref 177 }, { hash := PyData.keyHash P (Str.ofString "PlainHost"), key := Value.str (Str.ofString "PlainHost") 481, val := Value.ref 215 }, { hash := PyData.keyHash P (Str.ofString "replaced_signs"), key := Value.str (Str.ofString "replaced_signs") 489, val := Value.ref 224 }, { hash := PyData.keyHash P (Str.ofString "told_or_fail"), key := Value.str (Str.ofString "told_or_fail") 496, val := Value.ref 231 }, { hash := PyData.keyHash P (Str.ofString "text_replace"), key := Value.str (Str.ofString "text_replace") 506, val := Value.ref 238 }, { hash := PyData.keyHash P (Str.ofString "COUNTED"), key := Value.str (Str.ofString "COUNTED") 514, val := Value.ref 239 }, { hash := PyData.keyHash P (Str.ofString "SIGNED"), key := Value.str (Str.ofString "SIGNED") 519, val := Value.ref 240 }, { hash := PyData.keyHash P (Str.ofString "WIDTH_OF_COUNT"), key := Value.str (Str.ofString "WIDTH_OF_COUNT") 521, val := Value.int 64 520 }, { hash := PyData.keyHash P (Str.ofString "plain_count"), key := Value.str (Str.ofString "plain_count") 531, val := Value.ref 248 }, { hash := PyData.keyHash P (Str.ofString "plain_signs"), key := Value.str (Str.ofString "plain_signs") 540, val := Value.ref 255 }, { hash := PyData.keyHash P (Str.ofString "pattern_of"), key := Value.str (Str.ofString "pattern_of") 548, val := Value.ref 262 }, { hash := PyData.keyHash P (Str.ofString "is_delayed"), key := Value.str (Str.ofString "is_delayed") 555, val := Value.ref 269 }, { hash := PyData.keyHash P (Str.ofString "settled"), key := Value.str (Str.ofString "settled") 564, val := Value.ref 276 }, { hash := PyData.keyHash P (Str.ofString "OPENING"), key := Value.str (Str.ofString "OPENING") 568, val := Value.str (Str.ofString "(") 567 }, { hash := PyData.keyHash P (Str.ofString "CLOSING"), key := Value.str (Str.ofString "CLOSING") 570, val := Value.str (Str.ofString ")") 569 }, { hash := PyData.keyHash P (Str.ofString "chars_end"), key := Value.str (Str.ofString "chars_end") 580, val := Value.ref 283 }, { hash := PyData.keyHash P (Str.ofString "len_end"), key := Value.str (Str.ofString "len_end") 589, val := Value.ref 290 }, { hash := PyData.keyHash P (Str.ofString "pos_end"), key := Value.str (Str.ofString "pos_end") 597, val := Value.ref 297 }, { hash := PyData.keyHash P (Str.ofString "rpos_end"), key := Value.str (Str.ofString "rpos_end") 606, val := Value.ref 304 }, { hash := PyData.keyHash P (Str.ofString "tab_end"), key := Value.str (Str.ofString "tab_end") 615, val := Value.ref 311 }, { hash := PyData.keyHash P (Str.ofString "rtab_end"), key := Value.str (Str.ofString "rtab_end") 625, val := Value.ref 318 }, { hash := PyData.keyHash P (Str.ofString "rem_end"), key := Value.str (Str.ofString "rem_end") 632, val := Value.ref 325 }, { hash := PyData.keyHash P (Str.ofString "any_at"), key := Value.str (Str.ofString "any_at") 641, val := Value.ref 332 }, { hash := PyData.keyHash P (Str.ofString "notany_at"), key := Value.str (Str.ofString "notany_at") 650, val := Value.ref 339 }, { hash := PyData.keyHash P (Str.ofString "run_end"), key := Value.str (Str.ofString "run_end") 660, val := Value.ref 346 }, { hash := PyData.keyHash P (Str.ofString "span_end"), key := Value.str (Str.ofString "span_end") 670, val := Value.ref 353 }, { hash := PyData.keyHash P (Str.ofString "break_end"), key := Value.str (Str.ofString "break_end") 680, val := Value.ref 360 }, { hash := PyData.keyHash P (Str.ofString "bal_end"), key := Value.str (Str.ofString "bal_end") 689, val := Value.ref 367 }, { hash := PyData.keyHash P (Str.ofString "bal_ends"), key := Value.str (Str.ofString "bal_ends") 699, val := Value.ref 374 }, { hash := PyData.keyHash P (Str.ofString "one_end"), key := Value.str (Str.ofString "one_end") 709, val := Value.ref 381 }, { hash := PyData.keyHash P (Str.ofString "plain_end"), key := Value.str (Str.ofString "plain_end") 718, val := Value.ref 388 }, { hash := PyData.keyHash P (Str.ofString "LOST"), key := Value.str (Str.ofString "LOST") 722, val := Value.str (Str.ofString "lost") 721 }, { hash := PyData.keyHash P (Str.ofString "match_plain"), key := Value.str (Str.ofString "match_plain") 734, val := Value.ref 395 }, { hash := PyData.keyHash P (Str.ofString "match_at"), key := Value.str (Str.ofString "match_at") 745, val := Value.ref 402 }, { hash := PyData.keyHash P (Str.ofString "tried"), key := Value.str (Str.ofString "tried") 760, val := Value.ref 409 }, { hash := PyData.keyHash P (Str.ofString "advanced"), key := Value.str (Str.ofString "advanced") 776, val := Value.ref 416 }, { hash := PyData.keyHash P (Str.ofString "led_in"), key := Value.str (Str.ofString "led_in") 788, val := Value.ref 423 }, { hash := PyData.keyHash P (Str.ofString "led_out"), key := Value.str (Str.ofString "led_out") 804, val := Value.ref 430 }, { hash := PyData.keyHash P (Str.ofString "steered"), key := Value.str (Str.ofString "steered") 816, val := Value.ref 437 }, { hash := PyData.keyHash P (Str.ofString "taken"), key := Value.str (Str.ofString "taken") 833, val := Value.ref 444 }, { hash := PyData.keyHash P (Str.ofString "World"), key := Value.str (Str.ofString "World") 896, val := Value.ref 462 }, { hash := PyData.keyHash P (Str.ofString "_law_sizes"), key := Value.str (Str.ofString "_law_sizes") 904, val := Value.ref 471 }, { hash := PyData.keyHash P (Str.ofString "_law_marked"), key := Value.str (Str.ofString "_law_marked") 916, val := Value.ref 478 }, { hash := PyData.keyHash P (Str.ofString "_law_done"), key := Value.str (Str.ofString "_law_done") 928, val := Value.ref 485 }, { hash := PyData.keyHash P (Str.ofString "law"), key := Value.str (Str.ofString "law") 934, val := Value.ref 490 }] 69 }
noncomputable def v5o12 (P : Params) : Obj := { cls := Value.none, data := Data.fields #[Value.int 2 0, Value.int 0 0, Value.ref 20, Value.int 5 0, Value.int 0 0, Value.ref 27, Value.int 7 0, Value.int 0 0, Value.ref 34, Value.int 10 0, Value.int 0 0, Value.ref 41, Value.int 17 0, Value.int 0 0, Value.ref 48, Value.int 26 0, Value.int 0 0, Value.ref 56, Value.int 32 0, Value.int 0 0, Value.ref 78, Value.int 34 0, Value.int 0 0, Value.ref 92, Value.int 38 0, Value.int 0 0, Value.ref 113, Value.int 42 0, Value.int 0 0, Value.ref 134, Value.int 44 0, Value.int 0 0, Value.ref 141, Value.int 46 0, Value.int 0 0, Value.ref 148, Value.int 59 0, Value.int 0 0, Value.ref 155, Value.int 65 0, Value.int 0 0, Value.ref 162, Value.int 69 0, Value.int 0 0, Value.ref 169, Value.int 73 0, Value.int 0 0, Value.ref 176, Value.int 79 0, Value.int 0 0, Value.ref 183, Value.int 106 0, Value.int 0 0, Value.ref 223, Value.int 113 0, Value.int 0 0, Value.ref 230, Value.int 115 0, Value.int 0 0, Value.ref 237, Value.int 122 0, Value.int 0 0, Value.ref 247, Value.int 129 0, Value.int 0 0, Value.ref 254, Value.int 134 0, Value.int 0 0, Value.ref 261, Value.int 143 0, Value.int 0 0, Value.ref 268, Value.int 145 0, Value.int 0 0, Value.ref 275, Value.int 157 0, Value.int 0 0, Value.ref 282, Value.int 160 0, Value.int 0 0, Value.ref 289, Value.int 162 0, Value.int 0 0, Value.ref 296, Value.int 164 0, Value.int 0 0, Value.ref 303, Value.int 166 0, Value.int 0 0, Value.ref 310, Value.int 168 0, Value.int 0 0, Value.ref 317, Value.int 171 0, Value.int 0 0, Value.ref 324, Value.int 173 0, Value.int 0 0, Value.ref 331, Value.int 175 0, Value.int 0 0, Value.ref 338, Value.int 177 0, Value.int 0 0, Value.ref 345, Value.int 181 0, Value.int 0 0, Value.ref 352, Value.int 184 0, Value.int 0 0, Value.ref 359, Value.int 187 0, Value.int 0 0, Value.ref 366, Value.int 200 0, Value.int 0 0, Value.ref 373, Value.int 206 0, Value.int 0 0, Value.ref 380, Value.int 226 0, Value.int 0 0, Value.ref 387, Value.int 230 0, Value.int 0 0, Value.ref 394, Value.int 236 0, Value.int 0 0, Value.ref 401, Value.int 239 0, Value.int 0 0, Value.ref 408, Value.int 257 0, Value.int 0 0, Value.ref 415, Value.int 272 0, Value.int 0 0, Value.ref 422, Value.int 283 0, Value.int 0 0, Value.ref 429, Value.int 290 0, Value.int 0 0, Value.ref 436, Value.int 298 0, Value.int 0 0, Value.ref 443, Value.int 315 0, Value.int 0 0, Value.ref 450, Value.int 345 0, Value.int 0 0, Value.ref 470, Value.int 347 0, Value.int 0 0, Value.ref 477, Value.int 350 0, Value.int 0 0, Value.ref 484, Value.int 361 0, Value.int 0 0, Value.ref 489] }
noncomputable def v5o445 (P : Params) : Obj := { cls := Value.type "tuple", data := Data.seq #[] }
noncomputable def v5o446 (P : Params) : Obj := { cls := Value.type "builtin_function_or_method", data := Data.fields #[Value.builtin "type.__prepare__", Value.type "type"] }
noncomputable def v5o447 (P : Params) : Obj := { cls := Value.type "dict", data := Data.dict #[{ hash := PyData.keyHash P (Str.ofString "__module__"), key := Value.str (Str.ofString "__module__") 843, val := Value.str (Str.ofString "snobol.world") 834 }, { hash := PyData.keyHash P (Str.ofString "__qualname__"), key := Value.str (Str.ofString "__qualname__") 845, val := Value.str (Str.ofString "World") 844 }, { hash := PyData.keyHash P (Str.ofString "__firstlineno__"), key := Value.str (Str.ofString "__firstlineno__") 847, val := Value.int 315 846 }, { hash := PyData.keyHash P (Str.ofString "__init__"), key := Value.str (Str.ofString "__init__") 862, val := Value.ref 459 }, { hash := PyData.keyHash P (Str.ofString "__static_attributes__"), key := Value.str (Str.ofString "__static_attributes__") 889, val := Value.ref 460 }] 5 }
noncomputable def v5o448 (P : Params) : Obj := { cls := Value.type "tuple", data := Data.seq #[] }
noncomputable def v5o449 (P : Params) : Obj := { cls := Value.none, data := Data.fields #[Value.int 317 0, Value.int 4 0, Value.ref 458] }
noncomputable def v5o450 (P : Params) : Obj := { cls := Value.type "code", data := Data.fields #[Value.str (Str.ofString "World") 838, Value.str (Str.ofString "World") 839, Value.str (Str.ofString "/claim/cut.py") 840, Value.int 315 0, Value.int 0 0, Value.int 0 0, Value.int 0 0, Value.int 0 0, Value.ref 448, Value.bool false, Value.int 181 0, Value.ref 449, Value.none, Value.none, Value.none, Value.none, Value.int 841 0, Value.int 315 0, Value.str (Str.ofString "/claim/cut.py") 842] }
noncomputable def v5o451 (P : Params) : Obj := { cls := Value.type "frame", slots := #[some (Value.ref 450), some (Value.ref 3), some (Value.ref 447), none, some (Value.str (Str.ofString "snobol.world") 834), none, some (Value.ref 0)] }
noncomputable def v5o452 (P : Params) : Obj := { cls := Value.type "tuple", data := Data.seq #[Value.int 32 848, Value.int 5000 849, Value.int 30 850, Value.int 5000 851] }
noncomputable def v5o453 (P : Params) : Obj := { cls := Value.type "tuple", data := Data.seq #[] }
noncomputable def v5o454 (P : Params) : Obj := { cls := Value.none, data := Data.fields #[] }
noncomputable def v5o455 (P : Params) : Obj := { cls := Value.type "tuple", data := Data.seq #[Value.str (Str.ofString "self") 855, Value.str (Str.ofString "width") 856, Value.str (Str.ofString "most_steps") 857, Value.str (Str.ofString "most_depth") 858, Value.str (Str.ofString "most_length") 859] }
noncomputable def v5o456 (P : Params) : Obj := { cls := Value.type "tuple", data := Data.seq #[] }
noncomputable def v5o457 (P : Params) : Obj := { cls := Value.none, data := Data.func { name := Str.ofString "__init__", qualname := Str.ofString "World.__init__", params := F457a, body := FuncBody.stmts F457b, scope := F457s, globals := 0, closure := [], defaults := Value.none, kwdefaults := Value.none } }
noncomputable def v5o458 (P : Params) : Obj := { cls := Value.type "code", data := Data.fields #[Value.str (Str.ofString "__init__") 852, Value.str (Str.ofString "World.__init__") 853, Value.str (Str.ofString "/claim/cut.py") 854, Value.int 317 0, Value.int 5 0, Value.int 0 0, Value.int 0 0, Value.int 3 0, Value.ref 453, Value.bool true, Value.int 181 0, Value.ref 454, Value.none, Value.ref 455, Value.ref 456, Value.ref 457, Value.int 860 0, Value.int 317 0, Value.str (Str.ofString "/claim/cut.py") 861] }
noncomputable def v5o459 (P : Params) : Obj := { cls := Value.type "function", data := Data.func { name := Str.ofString "__init__", qualname := Str.ofString "World.__init__", params := F459a, body := FuncBody.stmts F459b, scope := F459s, globals := 3, closure := [], defaults := Value.ref 452, kwdefaults := Value.none, pyModule := Value.str (Str.ofString "snobol.world") 834, code := Value.ref 458 } }
noncomputable def v5o460 (P : Params) : Obj := { cls := Value.type "tuple", data := Data.seq #[Value.str (Str.ofString "aside") 863, Value.str (Str.ofString "depth") 864, Value.str (Str.ofString "evaluate") 865, Value.str (Str.ofString "functions") 866, Value.str (Str.ofString "holders") 867, Value.str (Str.ofString "inputs") 868, Value.str (Str.ofString "kept_names") 869, Value.str (Str.ofString "keywords") 870, Value.str (Str.ofString "labels") 871, Value.str (Str.ofString "made") 872, Value.str (Str.ofString "make_code") 873, Value.str (Str.ofString "matcher") 874, Value.str (Str.ofString "most_depth") 875, Value.str (Str.ofString "most_items") 876, Value.str (Str.ofString "most_length") 877, Value.str (Str.ofString "most_steps") 878, Value.str (Str.ofString "nested") 879, Value.str (Str.ofString "opsyns") 880, Value.str (Str.ofString "outputs") 881, Value.str (Str.ofString "read_names") 882, Value.str (Str.ofString "steps") 883, Value.str (Str.ofString "store") 884, Value.str (Str.ofString "traced") 885, Value.str (Str.ofString "traces") 886, Value.str (Str.ofString "width") 887, Value.str (Str.ofString "write_names") 888] }
noncomputable def v5o461 (P : Params) : Obj := { cls := Value.type "dict", data := Data.dict #[{ hash := PyData.keyHash P (Str.ofString "__module__"), key := Value.str (Str.ofString "__module__") 843, val := Value.str (Str.ofString "snobol.world") 834 }, { hash := PyData.keyHash P (Str.ofString "__firstlineno__"), key := Value.str (Str.ofString "__firstlineno__") 847, val := Value.int 315 846 }, { hash := PyData.keyHash P (Str.ofString "__init__"), key := Value.str (Str.ofString "__init__") 862, val := Value.ref 459 }, { hash := PyData.keyHash P (Str.ofString "__static_attributes__"), key := Value.str (Str.ofString "__static_attributes__") 889, val := Value.ref 460 }, { hash := PyData.keyHash P (Str.ofString "__dict__"), key := Value.str (Str.ofString "__dict__") 891, val := Value.ref 463 }, { hash := PyData.keyHash P (Str.ofString "__weakref__"), key := Value.str (Str.ofString "__weakref__") 893, val := Value.ref 464 }, { hash := PyData.keyHash P (Str.ofString "__doc__"), key := Value.str (Str.ofString "__doc__") 894, val := Value.none }] 4 }
noncomputable def v5o462 (P : Params) : Obj := { cls := Value.type "type", data := Data.cls { name := Str.ofString "World", bases := [Value.type "object"], mro := [Value.ref 462, Value.type "object"], ns := 461, qualname := Str.ofString "World" }, slots := #[none, none, some (Value.str (Str.ofString "World") 836), some (Value.str (Str.ofString "World") 844), some (Value.builtin "object.__new__"), some (Value.bool true)] }
noncomputable def v5o463 (P : Params) : Obj := { cls := Value.type "getset_descriptor", data := Data.fields #[Value.str (Str.ofString "__dict__") 890, Value.ref 462, Value.builtin "function.__dict__", Value.builtin "function.__dict__#set"] }
noncomputable def v5o464 (P : Params) : Obj := { cls := Value.type "getset_descriptor", data := Data.fields #[Value.str (Str.ofString "__weakref__") 892, Value.ref 462, Value.builtin "ExceptionGroup.__weakref__", Value.none] }
noncomputable def v5o465 (P : Params) : Obj := { cls := Value.type "super", data := Data.fields #[Value.ref 462, Value.ref 462, Value.ref 462] }
noncomputable def v5o466 (P : Params) : Obj := { cls := Value.type "builtin_function_or_method", data := Data.fields #[Value.builtin "object.__init_subclass__", Value.ref 462] }
noncomputable def v5o467 (P : Params) : Obj := { cls := Value.type "tuple", data := Data.seq #[] }
noncomputable def v5o468 (P : Params) : Obj := { cls := Value.none, data := Data.fields #[] }
noncomputable def v5o469 (P : Params) : Obj := { cls := Value.none, data := Data.func { name := Str.ofString "_law_sizes", qualname := Str.ofString "_law_sizes", params := F469a, body := FuncBody.stmts F469b, scope := F469s, globals := 0, closure := [], defaults := Value.none, kwdefaults := Value.none } }
noncomputable def v5o470 (P : Params) : Obj := { cls := Value.type "code", data := Data.fields #[Value.str (Str.ofString "_law_sizes") 899, Value.str (Str.ofString "_law_sizes") 900, Value.str (Str.ofString "/claim/cut.py") 901, Value.int 345 0, Value.int 1 0, Value.int 0 0, Value.int 0 0, Value.int 3 0, Value.ref 467, Value.bool true, Value.int 181 0, Value.ref 468, Value.none, Value.none, Value.none, Value.ref 469, Value.int 902 0, Value.int 345 0, Value.str (Str.ofString "/claim/cut.py") 903] }
noncomputable def v5o471 (P : Params) : Obj := { cls := Value.type "function", data := Data.func { name := Str.ofString "_law_sizes", qualname := Str.ofString "_law_sizes", params := F471a, body := FuncBody.stmts F471b, scope := F471s, globals := 3, closure := [], defaults := Value.none, kwdefaults := Value.none, pyModule := Value.str (Str.ofString "law_xw0308_02") 897, code := Value.ref 470 } }
noncomputable def v5o472 (P : Params) : Obj := { cls := Value.type "tuple", data := Data.seq #[] }
noncomputable def v5o473 (P : Params) : Obj := { cls := Value.none, data := Data.fields #[] }
noncomputable def v5o474 (P : Params) : Obj := { cls := Value.type "tuple", data := Data.seq #[Value.str (Str.ofString "heaps") 908, Value.str (Str.ofString "old") 909, Value.str (Str.ofString "new") 910, Value.str (Str.ofString "many") 911, Value.str (Str.ofString "found") 912] }
noncomputable def v5o475 (P : Params) : Obj := { cls := Value.type "tuple", data := Data.seq #[Value.str (Str.ofString "new") 913] }
noncomputable def v5o476 (P : Params) : Obj := { cls := Value.none, data := Data.func { name := Str.ofString "_law_marked", qualname := Str.ofString "_law_marked", params := F476a, body := FuncBody.stmts F476b, scope := F476s, globals := 0, closure := [], defaults := Value.none, kwdefaults := Value.none } }
noncomputable def v5o477 (P : Params) : Obj := { cls := Value.type "code", data := Data.fields #[Value.str (Str.ofString "_law_marked") 905, Value.str (Str.ofString "_law_marked") 906, Value.str (Str.ofString "/claim/cut.py") 907, Value.int 347 0, Value.int 4 0, Value.int 0 0, Value.int 0 0, Value.int 3 0, Value.ref 472, Value.bool true, Value.int 181 0, Value.ref 473, Value.none, Value.ref 474, Value.ref 475, Value.ref 476, Value.int 914 0, Value.int 347 0, Value.str (Str.ofString "/claim/cut.py") 915] }
noncomputable def v5o478 (P : Params) : Obj := { cls := Value.type "function", data := Data.func { name := Str.ofString "_law_marked", qualname := Str.ofString "_law_marked", params := F478a, body := FuncBody.stmts F478b, scope := F478s, globals := 3, closure := [], defaults := Value.none, kwdefaults := Value.none, pyModule := Value.str (Str.ofString "law_xw0308_02") 897, code := Value.ref 477 } }
noncomputable def v5o479 (P : Params) : Obj := { cls := Value.type "tuple", data := Data.seq #[] }
noncomputable def v5o480 (P : Params) : Obj := { cls := Value.none, data := Data.fields #[] }
noncomputable def v5o481 (P : Params) : Obj := { cls := Value.type "tuple", data := Data.seq #[Value.str (Str.ofString "heaps") 920, Value.str (Str.ofString "sizes") 921, Value.str (Str.ofString "slope") 922, Value.str (Str.ofString "least") 923, Value.str (Str.ofString "whole") 924, Value.str (Str.ofString "marked") 925] }
noncomputable def v5o482 (P : Params) : Obj := { cls := Value.type "tuple", data := Data.seq #[] }
noncomputable def v5o483 (P : Params) : Obj := { cls := Value.none, data := Data.func { name := Str.ofString "_law_done", qualname := Str.ofString "_law_done", params := F483a, body := FuncBody.stmts F483b, scope := F483s, globals := 0, closure := [], defaults := Value.none, kwdefaults := Value.none } }
noncomputable def v5o484 (P : Params) : Obj := { cls := Value.type "code", data := Data.fields #[Value.str (Str.ofString "_law_done") 917, Value.str (Str.ofString "_law_done") 918, Value.str (Str.ofString "/claim/cut.py") 919, Value.int 350 0, Value.int 1 0, Value.int 0 0, Value.int 0 0, Value.int 3 0, Value.ref 479, Value.bool true, Value.int 181 0, Value.ref 480, Value.none, Value.ref 481, Value.ref 482, Value.ref 483, Value.int 926 0, Value.int 350 0, Value.str (Str.ofString "/claim/cut.py") 927] }
noncomputable def v5o485 (P : Params) : Obj := { cls := Value.type "function", data := Data.func { name := Str.ofString "_law_done", qualname := Str.ofString "_law_done", params := F485a, body := FuncBody.stmts F485b, scope := F485s, globals := 3, closure := [], defaults := Value.none, kwdefaults := Value.none, pyModule := Value.str (Str.ofString "law_xw0308_02") 897, code := Value.ref 484 } }
noncomputable def v5o486 (P : Params) : Obj := { cls := Value.type "tuple", data := Data.seq #[] }
noncomputable def v5o487 (P : Params) : Obj := { cls := Value.none, data := Data.fields #[] }
noncomputable def v5o488 (P : Params) : Obj := { cls := Value.none, data := Data.func { name := Str.ofString "law", qualname := Str.ofString "law", params := F488a, body := FuncBody.stmts F488b, scope := F488s, globals := 0, closure := [], defaults := Value.none, kwdefaults := Value.none } }
noncomputable def v5o489 (P : Params) : Obj := { cls := Value.type "code", data := Data.fields #[Value.str (Str.ofString "law") 929, Value.str (Str.ofString "law") 930, Value.str (Str.ofString "/claim/cut.py") 931, Value.int 361 0, Value.int 1 0, Value.int 0 0, Value.int 0 0, Value.int 3 0, Value.ref 486, Value.bool true, Value.int 181 0, Value.ref 487, Value.none, Value.none, Value.none, Value.ref 488, Value.int 932 0, Value.int 361 0, Value.str (Str.ofString "/claim/cut.py") 933] }
noncomputable def v5o490 (P : Params) : Obj := { cls := Value.type "function", data := Data.func { name := Str.ofString "law", qualname := Str.ofString "law", params := F490a, body := FuncBody.stmts F490b, scope := F490s, globals := 3, closure := [], defaults := Value.none, kwdefaults := Value.none, pyModule := Value.str (Str.ofString "law_xw0308_02") 897, code := Value.ref 489 } }
set_option maxRecDepth 100000 in
noncomputable def tree5 (P : Params) : BT := (.node (boot_o_0 P) (.node (boot_o_1 P) (.node (v5o3 P) (.node (boot_o_7 P) (.node (v1o15 P) (.node (v1o31 P) (.node (v1o63 P) (.node (v2o127 P) (.node (v3o255 P) .nil .nil) (.node (v4o383 P) .nil .nil)) (.node (v3o191 P) (.node (v4o319 P) .nil .nil) (.node (v5o447 P) .nil .nil))) (.node (v2o95 P) (.node (v2o159 P) (.node (v3o287 P) .nil .nil) (.node (v4o415 P) .nil .nil)) (.node (v3o223 P) (.node (v4o351 P) .nil .nil) (.node (v5o479 P) .nil .nil)))) (.node (v1o47 P) (.node (v1o79 P) (.node (v2o143 P) (.node (v3o271 P) .nil .nil) (.node (v4o399 P) .nil .nil)) (.node (v3o207 P) (.node (v4o335 P) .nil .nil) (.node (v5o463 P) .nil .nil))) (.node (v2o111 P) (.node (v2o175 P) (.node (v3o303 P) .nil .nil) (.node (v4o431 P) .nil .nil)) (.node (v3o239 P) (.node (v4o367 P) .nil .nil) .nil)))) (.node (v1o23 P) (.node (v1o39 P) (.node (v1o71 P) (.node (v2o135 P) (.node (v3o263 P) .nil .nil) (.node (v4o391 P) .nil .nil)) (.node (v3o199 P) (.node (v4o327 P) .nil .nil) (.node (v5o455 P) .nil .nil))) (.node (v2o103 P) (.node (v2o167 P) (.node (v3o295 P) .nil .nil) (.node (v4o423 P) .nil .nil)) (.node (v3o231 P) (.node (v4o359 P) .nil .nil) (.node (v5o487 P) .nil .nil)))) (.node (v1o55 P) (.node (v2o87 P) (.node (v2o151 P) (.node (v3o279 P) .nil .nil) (.node (v4o407 P) .nil .nil)) (.node (v3o215 P) (.node (v4o343 P) .nil .nil) (.node (v5o471 P) .nil .nil))) (.node (v2o119 P) (.node (v3o183 P) (.node (v4o311 P) .nil .nil) (.node (v4o439 P) .nil .nil)) (.node (v3o247 P) (.node (v4o375 P) .nil .nil) .nil))))) (.node (o11) (.node (v1o19 P) (.node (v1o35 P) (.node (v1o67 P) (.node (v2o131 P) (.node (v3o259 P) .nil .nil) (.node (v4o387 P) .nil .nil)) (.node (v3o195 P) (.node (v4o323 P) .nil .nil) (.node (v5o451 P) .nil .nil))) (.node (v2o99 P) (.node (v2o163 P) (.node (v3o291 P) .nil .nil) (.node (v4o419 P) .nil .nil)) (.node (v3o227 P) (.node (v4o355 P) .nil .nil) (.node (v5o483 P) .nil .nil)))) (.node (v1o51 P) (.node (v1o83 P) (.node (v2o147 P) (.node (v3o275 P) .nil .nil) (.node (v4o403 P) .nil .nil)) (.node (v3o211 P) (.node (v4o339 P) .nil .nil) (.node (v5o467 P) .nil .nil))) (.node (v2o115 P) (.node (v3o179 P) (.node (v4o307 P) .nil .nil) (.node (v4o435 P) .nil .nil)) (.node (v3o243 P) (.node (v4o371 P) .nil .nil) .nil)))) (.node (v1o27 P) (.node (v1o43 P) (.node (v1o75 P) (.node (v2o139 P) (.node (v3o267 P) .nil .nil) (.node (v4o395 P) .nil .nil)) (.node (v3o203 P) (.node (v4o331 P) .nil .nil) (.node (v5o459 P) .nil .nil))) (.node (v2o107 P) (.node (v2o171 P) (.node (v3o299 P) .nil .nil) (.node (v4o427 P) .nil .nil)) (.node (v3o235 P) (.node (v4o363 P) .nil .nil) .nil))) (.node (v1o59 P) (.node (v2o91 P) (.node (v2o155 P) (.node (v3o283 P) .nil .nil) (.node (v4o411 P) .nil .nil)) (.node (v3o219 P) (.node (v4o347 P) .nil .nil) (.node (v5o475 P) .nil .nil))) (.node (v2o123 P) (.node (v3o187 P) (.node (v4o315 P) .nil .nil) (.node (v4o443 P) .nil .nil)) (.node (v3o251 P) (.node (v4o379 P) .nil .nil) .nil)))))) (.node (boot_o_5 P) (.node (boot_o_9 P) (.node (v1o17 P) (.node (v1o33 P) (.node (v1o65 P) (.node (v2o129 P) (.node (v3o257 P) .nil .nil) (.node (v4o385 P) .nil .nil)) (.node (v3o193 P) (.node (v4o321 P) .nil .nil) (.node (v5o449 P) .nil .nil))) (.node (v2o97 P) (.node (v2o161 P) (.node (v3o289 P) .nil .nil) (.node (v4o417 P) .nil .nil)) (.node (v3o225 P) (.node (v4o353 P) .nil .nil) (.node (v5o481 P) .nil .nil)))) (.node (v1o49 P) (.node (v1o81 P) (.node (v2o145 P) (.node (v3o273 P) .nil .nil) (.node (v4o401 P) .nil .nil)) (.node (v3o209 P) (.node (v4o337 P) .nil .nil) (.node (v5o465 P) .nil .nil))) (.node (v2o113 P) (.node (v2o177 P) (.node (v4o305 P) .nil .nil) (.node (v4o433 P) .nil .nil)) (.node (v3o241 P) (.node (v4o369 P) .nil .nil) .nil)))) (.node (v1o25 P) (.node (v1o41 P) (.node (v1o73 P) (.node (v2o137 P) (.node (v3o265 P) .nil .nil) (.node (v4o393 P) .nil .nil)) (.node (v3o201 P) (.node (v4o329 P) .nil .nil) (.node (v5o457 P) .nil .nil))) (.node (v2o105 P) (.node (v2o169 P) (.node (v3o297 P) .nil .nil) (.node (v4o425 P) .nil .nil)) (.node (v3o233 P) (.node (v4o361 P) .nil .nil) (.node (v5o489 P) .nil .nil)))) (.node (v1o57 P) (.node (v2o89 P) (.node (v2o153 P) (.node (v3o281 P) .nil .nil) (.node (v4o409 P) .nil .nil)) (.node (v3o217 P) (.node (v4o345 P) .nil .nil) (.node (v5o473 P) .nil .nil))) (.node (v2o121 P) (.node (v3o185 P) (.node (v4o313 P) .nil .nil) (.node (v4o441 P) .nil .nil)) (.node (v3o249 P) (.node (v4o377 P) .nil .nil) .nil))))) (.node (o13) (.node (v1o21 P) (.node (v1o37 P) (.node (v1o69 P) (.node (v2o133 P) (.node (v3o261 P) .nil .nil) (.node (v4o389 P) .nil .nil)) (.node (v3o197 P) (.node (v4o325 P) .nil .nil) (.node (v5o453 P) .nil .nil))) (.node (v2o101 P) (.node (v2o165 P) (.node (v3o293 P) .nil .nil) (.node (v4o421 P) .nil .nil)) (.node (v3o229 P) (.node (v4o357 P) .nil .nil) (.node (v5o485 P) .nil .nil)))) (.node (v1o53 P) (.node (v1o85 P) (.node (v2o149 P) (.node (v3o277 P) .nil .nil) (.node (v4o405 P) .nil .nil)) (.node (v3o213 P) (.node (v4o341 P) .nil .nil) (.node (v5o469 P) .nil .nil))) (.node (v2o117 P) (.node (v3o181 P) (.node (v4o309 P) .nil .nil) (.node (v4o437 P) .nil .nil)) (.node (v3o245 P) (.node (v4o373 P) .nil .nil) .nil)))) (.node (v1o29 P) (.node (v1o45 P) (.node (v1o77 P) (.node (v2o141 P) (.node (v3o269 P) .nil .nil) (.node (v4o397 P) .nil .nil)) (.node (v3o205 P) (.node (v4o333 P) .nil .nil) (.node (v5o461 P) .nil .nil))) (.node (v2o109 P) (.node (v2o173 P) (.node (v3o301 P) .nil .nil) (.node (v4o429 P) .nil .nil)) (.node (v3o237 P) (.node (v4o365 P) .nil .nil) .nil))) (.node (v1o61 P) (.node (v2o93 P) (.node (v2o157 P) (.node (v3o285 P) .nil .nil) (.node (v4o413 P) .nil .nil)) (.node (v3o221 P) (.node (v4o349 P) .nil .nil) (.node (v5o477 P) .nil .nil))) (.node (v2o125 P) (.node (v3o189 P) (.node (v4o317 P) .nil .nil) (.node (v5o445 P) .nil .nil)) (.node (v3o253 P) (.node (v4o381 P) .nil .nil) .nil))))))) (.node (v1o2 P) (.node (boot_o_4 P) (.node (boot_o_8 P) (.node (v1o16 P) (.node (v1o32 P) (.node (v1o64 P) (.node (v2o128 P) (.node (v3o256 P) .nil .nil) (.node (v4o384 P) .nil .nil)) (.node (v3o192 P) (.node (v4o320 P) .nil .nil) (.node (v5o448 P) .nil .nil))) (.node (v2o96 P) (.node (v2o160 P) (.node (v3o288 P) .nil .nil) (.node (v4o416 P) .nil .nil)) (.node (v3o224 P) (.node (v4o352 P) .nil .nil) (.node (v5o480 P) .nil .nil)))) (.node (v1o48 P) (.node (v1o80 P) (.node (v2o144 P) (.node (v3o272 P) .nil .nil) (.node (v4o400 P) .nil .nil)) (.node (v3o208 P) (.node (v4o336 P) .nil .nil) (.node (v5o464 P) .nil .nil))) (.node (v2o112 P) (.node (v2o176 P) (.node (v3o304 P) .nil .nil) (.node (v4o432 P) .nil .nil)) (.node (v3o240 P) (.node (v4o368 P) .nil .nil) .nil)))) (.node (v1o24 P) (.node (v1o40 P) (.node (v1o72 P) (.node (v2o136 P) (.node (v3o264 P) .nil .nil) (.node (v4o392 P) .nil .nil)) (.node (v3o200 P) (.node (v4o328 P) .nil .nil) (.node (v5o456 P) .nil .nil))) (.node (v2o104 P) (.node (v2o168 P) (.node (v3o296 P) .nil .nil) (.node (v4o424 P) .nil .nil)) (.node (v3o232 P) (.node (v4o360 P) .nil .nil) (.node (v5o488 P) .nil .nil)))) (.node (v1o56 P) (.node (v2o88 P) (.node (v2o152 P) (.node (v3o280 P) .nil .nil) (.node (v4o408 P) .nil .nil)) (.node (v3o216 P) (.node (v4o344 P) .nil .nil) (.node (v5o472 P) .nil .nil))) (.node (v2o120 P) (.node (v3o184 P) (.node (v4o312 P) .nil .nil) (.node (v4o440 P) .nil .nil)) (.node (v3o248 P) (.node (v4o376 P) .nil .nil) .nil))))) (.node (v5o12 P) (.node (v1o20 P) (.node (v1o36 P) (.node (v1o68 P) (.node (v2o132 P) (.node (v3o260 P) .nil .nil) (.node (v4o388 P) .nil .nil)) (.node (v3o196 P) (.node (v4o324 P) .nil .nil) (.node (v5o452 P) .nil .nil))) (.node (v2o100 P) (.node (v2o164 P) (.node (v3o292 P) .nil .nil) (.node (v4o420 P) .nil .nil)) (.node (v3o228 P) (.node (v4o356 P) .nil .nil) (.node (v5o484 P) .nil .nil)))) (.node (v1o52 P) (.node (v1o84 P) (.node (v2o148 P) (.node (v3o276 P) .nil .nil) (.node (v4o404 P) .nil .nil)) (.node (v3o212 P) (.node (v4o340 P) .nil .nil) (.node (v5o468 P) .nil .nil))) (.node (v2o116 P) (.node (v3o180 P) (.node (v4o308 P) .nil .nil) (.node (v4o436 P) .nil .nil)) (.node (v3o244 P) (.node (v4o372 P) .nil .nil) .nil)))) (.node (v1o28 P) (.node (v1o44 P) (.node (v1o76 P) (.node (v2o140 P) (.node (v3o268 P) .nil .nil) (.node (v4o396 P) .nil .nil)) (.node (v3o204 P) (.node (v4o332 P) .nil .nil) (.node (v5o460 P) .nil .nil))) (.node (v2o108 P) (.node (v2o172 P) (.node (v3o300 P) .nil .nil) (.node (v4o428 P) .nil .nil)) (.node (v3o236 P) (.node (v4o364 P) .nil .nil) .nil))) (.node (v1o60 P) (.node (v2o92 P) (.node (v2o156 P) (.node (v3o284 P) .nil .nil) (.node (v4o412 P) .nil .nil)) (.node (v3o220 P) (.node (v4o348 P) .nil .nil) (.node (v5o476 P) .nil .nil))) (.node (v2o124 P) (.node (v3o188 P) (.node (v4o316 P) .nil .nil) (.node (v4o444 P) .nil .nil)) (.node (v3o252 P) (.node (v4o380 P) .nil .nil) .nil)))))) (.node (boot_o_6 P) (.node (boot_o_10 P) (.node (v1o18 P) (.node (v1o34 P) (.node (v1o66 P) (.node (v2o130 P) (.node (v3o258 P) .nil .nil) (.node (v4o386 P) .nil .nil)) (.node (v3o194 P) (.node (v4o322 P) .nil .nil) (.node (v5o450 P) .nil .nil))) (.node (v2o98 P) (.node (v2o162 P) (.node (v3o290 P) .nil .nil) (.node (v4o418 P) .nil .nil)) (.node (v3o226 P) (.node (v4o354 P) .nil .nil) (.node (v5o482 P) .nil .nil)))) (.node (v1o50 P) (.node (v1o82 P) (.node (v2o146 P) (.node (v3o274 P) .nil .nil) (.node (v4o402 P) .nil .nil)) (.node (v3o210 P) (.node (v4o338 P) .nil .nil) (.node (v5o466 P) .nil .nil))) (.node (v2o114 P) (.node (v3o178 P) (.node (v4o306 P) .nil .nil) (.node (v4o434 P) .nil .nil)) (.node (v3o242 P) (.node (v4o370 P) .nil .nil) .nil)))) (.node (v1o26 P) (.node (v1o42 P) (.node (v1o74 P) (.node (v2o138 P) (.node (v3o266 P) .nil .nil) (.node (v4o394 P) .nil .nil)) (.node (v3o202 P) (.node (v4o330 P) .nil .nil) (.node (v5o458 P) .nil .nil))) (.node (v2o106 P) (.node (v2o170 P) (.node (v3o298 P) .nil .nil) (.node (v4o426 P) .nil .nil)) (.node (v3o234 P) (.node (v4o362 P) .nil .nil) (.node (v5o490 P) .nil .nil)))) (.node (v1o58 P) (.node (v2o90 P) (.node (v2o154 P) (.node (v3o282 P) .nil .nil) (.node (v4o410 P) .nil .nil)) (.node (v3o218 P) (.node (v4o346 P) .nil .nil) (.node (v5o474 P) .nil .nil))) (.node (v2o122 P) (.node (v3o186 P) (.node (v4o314 P) .nil .nil) (.node (v4o442 P) .nil .nil)) (.node (v3o250 P) (.node (v4o378 P) .nil .nil) .nil))))) (.node (o14) (.node (v1o22 P) (.node (v1o38 P) (.node (v1o70 P) (.node (v2o134 P) (.node (v3o262 P) .nil .nil) (.node (v4o390 P) .nil .nil)) (.node (v3o198 P) (.node (v4o326 P) .nil .nil) (.node (v5o454 P) .nil .nil))) (.node (v2o102 P) (.node (v2o166 P) (.node (v3o294 P) .nil .nil) (.node (v4o422 P) .nil .nil)) (.node (v3o230 P) (.node (v4o358 P) .nil .nil) (.node (v5o486 P) .nil .nil)))) (.node (v1o54 P) (.node (v1o86 P) (.node (v2o150 P) (.node (v3o278 P) .nil .nil) (.node (v4o406 P) .nil .nil)) (.node (v3o214 P) (.node (v4o342 P) .nil .nil) (.node (v5o470 P) .nil .nil))) (.node (v2o118 P) (.node (v3o182 P) (.node (v4o310 P) .nil .nil) (.node (v4o438 P) .nil .nil)) (.node (v3o246 P) (.node (v4o374 P) .nil .nil) .nil)))) (.node (v1o30 P) (.node (v1o46 P) (.node (v1o78 P) (.node (v2o142 P) (.node (v3o270 P) .nil .nil) (.node (v4o398 P) .nil .nil)) (.node (v3o206 P) (.node (v4o334 P) .nil .nil) (.node (v5o462 P) .nil .nil))) (.node (v2o110 P) (.node (v2o174 P) (.node (v3o302 P) .nil .nil) (.node (v4o430 P) .nil .nil)) (.node (v3o238 P) (.node (v4o366 P) .nil .nil) .nil))) (.node (v1o62 P) (.node (v2o94 P) (.node (v2o158 P) (.node (v3o286 P) .nil .nil) (.node (v4o414 P) .nil .nil)) (.node (v3o222 P) (.node (v4o350 P) .nil .nil) (.node (v5o478 P) .nil .nil))) (.node (v2o126 P) (.node (v3o190 P) (.node (v4o318 P) .nil .nil) (.node (v5o446 P) .nil .nil)) (.node (v3o254 P) (.node (v4o382 P) .nil .nil) .nil))))))))
noncomputable def heap0 (P : Params) : Heap := ⟨((boot_heap P).objs.push o11 |>.push o12 |>.push o13 |>.push o14), (boot_heap P).life⟩
abbrev env0 : Env := { scope := pw.main.scope, locals := mainNs, globals := mainNs, cells := [], code := .ref 13, frame := some 14 }
def zp : Pos := ⟨0, 0, 0, 0⟩
abbrev cd0 : Code := .body (behindTheImports pw) env0
noncomputable abbrev S0 (w : World) (os : OsState) : SharedT := ⟨tree0 w.params, 15, {}, #[], {}, 187, os⟩
noncomputable abbrev S1 (w : World) (os : OsState) : SharedT := ⟨tree1 w.params, 87, {}, #[], {}, 304, os⟩
noncomputable abbrev S2 (w : World) (os : OsState) : SharedT := ⟨tree2 w.params, 178, {}, #[], {}, 422, os⟩
noncomputable abbrev S3 (w : World) (os : OsState) : SharedT := ⟨tree3 w.params, 305, {}, #[], {}, 607, os⟩
noncomputable abbrev S4 (w : World) (os : OsState) : SharedT := ⟨tree4 w.params, 445, {}, #[], {}, 836, os⟩
noncomputable abbrev S5 (w : World) (os : OsState) : SharedT := ⟨tree5 w.params, 491, {}, #[], {}, 935, os⟩
theorem pre_eq (w : World) (os : OsState) : topGo treeTable pw w 11 (some (.ref 6)) 12 ⟨boot_heap w.params, #[], boot_drawn, boot_toks, os⟩ (topStub pw) =
   some (⟨heap0 w.params, #[], {}, 187, os⟩, ⟨denote treeTable cd0, cd0, zp, [topFrame zp]⟩) := by kernel_rfl
theorem block_eq (w : World) (os : OsState) : segRun treeTable pw w 11 (some (.ref 6)) 1 1 ⟨heap0 w.params, #[], {}, 187, os⟩ (blockOf (behindTheImports pw) env0 cd0 zp [topFrame zp]) =
   some (.next, (S0 w os).abs, cd0, zp) := by kernel_rfl
theorem fin_eq (w : World) (s : Shared) (pos : Pos) : topRun treeTable pw w 11 (some (.ref 6)) 2 s ⟨doneF .next, cd0, pos, [topFrame zp]⟩ = some s := by
  obtain ⟨h, g, d, t, os⟩ := s
  kernel_rfl
theorem size_eq (w : World) : ((boot_heap w.params).isNs mainGlobals && (#[] : Array GenState).size == 0, (boot_heap w.params).objs.size, (boot_heap w.params).nsMap mainGlobals "__annotations__") = (true, 11, some (.ref 6)) := by kernel_rfl
theorem open_eq : ∀ w : World, (fencedOpening treeTable pw w N).map (fun s => (s.heap, s.gens, s.drawn, s.toks)) = some (boot_heap w.params, Array.mk [], boot_drawn, boot_toks) := boot_open (p := pw) (N := N) (by kernel_rfl) (by decide) (fun s => by kernel_rfl)
def sts1 : List Stmt := (pw.main.body.drop 0).take 9
set_option maxRecDepth 100000 in
theorem seg_tw1 (w : World) (os : OsState) : PySem.W.Fast.tw10110043849684766642 PySem.W.Fast.tw14364793385576792824 pw w 11 (some (.ref 6)) 1 626 (S0 w os) (piecesOf sts1 env0 cd0 ⟨0, 0, 0, 0⟩ [topFrame zp]) =
    some (.next, S1 w os, cd0, ⟨32, 0, 33, 8⟩) := by kernel_rfl
theorem seg_eq1 (w : World) (os : OsState) : segRunT treeTable pw w 11 (some (.ref 6)) 1 626 (S0 w os) (piecesOf sts1 env0 cd0 ⟨0, 0, 0, 0⟩ [topFrame zp]) =
    some (.next, S1 w os, cd0, ⟨32, 0, 33, 8⟩) := by
  rw [PySem.W.Fast.te10110043849684766642, PySem.W.Fast.te14364793385576792824]
  exact seg_tw1 w os
def sts2 : List Stmt := (pw.main.body.drop 9).take 10
set_option maxRecDepth 100000 in
theorem seg_tw2 (w : World) (os : OsState) : PySem.W.Fast.tw10110043849684766642 PySem.W.Fast.tw14364793385576792824 pw w 11 (some (.ref 6)) 1 666 (S1 w os) (piecesOf sts2 env0 cd0 ⟨32, 0, 33, 8⟩ [topFrame zp]) =
    some (.next, S2 w os, cd0, ⟨78, 0, 78, 8⟩) := by kernel_rfl
theorem seg_eq2 (w : World) (os : OsState) : segRunT treeTable pw w 11 (some (.ref 6)) 1 666 (S1 w os) (piecesOf sts2 env0 cd0 ⟨32, 0, 33, 8⟩ [topFrame zp]) =
    some (.next, S2 w os, cd0, ⟨78, 0, 78, 8⟩) := by
  rw [PySem.W.Fast.te10110043849684766642, PySem.W.Fast.te14364793385576792824]
  exact seg_tw2 w os
def sts3 : List Stmt := (pw.main.body.drop 19).take 21
set_option maxRecDepth 100000 in
theorem seg_tw3 (w : World) (os : OsState) : PySem.W.Fast.tw10110043849684766642 PySem.W.Fast.tw14364793385576792824 pw w 11 (some (.ref 6)) 1 776 (S2 w os) (piecesOf sts3 env0 cd0 ⟨78, 0, 78, 8⟩ [topFrame zp]) =
    some (.next, S3 w os, cd0, ⟨164, 0, 165, 53⟩) := by kernel_rfl
theorem seg_eq3 (w : World) (os : OsState) : segRunT treeTable pw w 11 (some (.ref 6)) 1 776 (S2 w os) (piecesOf sts3 env0 cd0 ⟨78, 0, 78, 8⟩ [topFrame zp]) =
    some (.next, S3 w os, cd0, ⟨164, 0, 165, 53⟩) := by
  rw [PySem.W.Fast.te10110043849684766642, PySem.W.Fast.te14364793385576792824]
  exact seg_tw3 w os
def sts4 : List Stmt := (pw.main.body.drop 40).take 23
set_option maxRecDepth 100000 in
theorem seg_tw4 (w : World) (os : OsState) : PySem.W.Fast.tw10110043849684766642 PySem.W.Fast.tw14364793385576792824 pw w 11 (some (.ref 6)) 1 691 (S3 w os) (piecesOf sts4 env0 cd0 ⟨164, 0, 165, 53⟩ [topFrame zp]) =
    some (.next, S4 w os, cd0, ⟨314, 0, 314, 8⟩) := by kernel_rfl
theorem seg_eq4 (w : World) (os : OsState) : segRunT treeTable pw w 11 (some (.ref 6)) 1 691 (S3 w os) (piecesOf sts4 env0 cd0 ⟨164, 0, 165, 53⟩ [topFrame zp]) =
    some (.next, S4 w os, cd0, ⟨314, 0, 314, 8⟩) := by
  rw [PySem.W.Fast.te10110043849684766642, PySem.W.Fast.te14364793385576792824]
  exact seg_tw4 w os
def sts5 : List Stmt := (pw.main.body.drop 63).take 6
set_option maxRecDepth 100000 in
theorem seg_tw5 (w : World) (os : OsState) : PySem.W.Fast.tw10110043849684766642 PySem.W.Fast.tw14364793385576792824 pw w 11 (some (.ref 6)) 1 385 (S4 w os) (piecesOf sts5 env0 cd0 ⟨314, 0, 314, 8⟩ [topFrame zp]) =
    some (.next, S5 w os, cd0, ⟨361, 0, 378, 15⟩) := by kernel_rfl
theorem seg_eq5 (w : World) (os : OsState) : segRunT treeTable pw w 11 (some (.ref 6)) 1 385 (S4 w os) (piecesOf sts5 env0 cd0 ⟨314, 0, 314, 8⟩ [topFrame zp]) =
    some (.next, S5 w os, cd0, ⟨361, 0, 378, 15⟩) := by
  rw [PySem.W.Fast.te10110043849684766642, PySem.W.Fast.te14364793385576792824]
  exact seg_tw5 w os
theorem sts_all : behindTheImports pw = sts1 ++ (sts2 ++ (sts3 ++ (sts4 ++ (sts5 ++ [])))) := by kernel_rfl
theorem run_eq (w : World) (os : OsState) : topRun treeTable pw w 11 (some (.ref 6)) (12 + (1 + (626 + (666 + (776 + (691 + (385 + 2))))))) ⟨boot_heap w.params, #[], boot_drawn, boot_toks, os⟩ (topStub pw) = some (S5 w os).abs := by
  refine go_top (pre_eq w os) (piece_block (block_eq w os) ?_)
  have k := piece_app (q := zp) (segRun_of (seg_eq1 w os)) (piece_app (q := zp) (segRun_of (seg_eq2 w os)) (piece_app (q := zp) (segRun_of (seg_eq3 w os)) (piece_app (q := zp) (segRun_of (seg_eq4 w os)) (piece_app (q := zp) (segRun_of (seg_eq5 w os)) (piece_nil (env := env0) (q := zp) (fin_eq w (S5 w os).abs _))))))
  have e : restOf (sts1 ++ (sts2 ++ (sts3 ++ (sts4 ++ (sts5 ++ []))))) env0 cd0 zp [topFrame zp] = restOf (behindTheImports pw) env0 cd0 zp [topFrame zp] := by rw [← sts_all]
  rw [← e]
  exact k
abbrev Xt0 (s : Shared) : Bool := xlAt vw [] s && recOk (RowW.records (PySem.Challenge.rw_xw0308_02.row.toRowW)) s
set_option maxRecDepth 100000 in
theorem look1 (w : World) (os : OsState) : (staticsOk (importedModules pw.main.body) (boot_heap w.params) (S5 w os).abs.heap && namesBound pw (S5 w os).abs.heap && gensDone (S5 w os).abs && laidKept (boot_heap w.params) (S5 w os).abs.heap) = true := by kernel_rfl
set_option maxRecDepth 100000 in
theorem l2a (w : World) (os : OsState) : seen ((recsOf vw).map (·.name)) (ownsOf vw) [] { (S5 w os).abs with gens := #[] } = expectedOf vw := by kernel_rfl
set_option maxRecDepth 100000 in
theorem l2b (w : World) (os : OsState) : (S5 w os).abs.heap.bltView = bltViewBooted := by kernel_rfl
set_option maxRecDepth 100000 in
theorem l2c1 (w : World) (os : OsState) : (S5 w os).abs.heap.keysOk (looseW vw loose) ((recsOf vw).map (·.name)) ((litsOf vw).map (·.1)) ((clssOf vw (looseW vw loose)).map (·.name)) = true := by kernel_rfl
set_option maxRecDepth 100000 in
theorem l2c2 (w : World) (os : OsState) : (S5 w os).abs.heap.accountedOkI (importedModules pw.main.body) = true := by kernel_rfl
set_option maxRecDepth 100000 in
theorem l2c3 (w : World) (os : OsState) : ((S5 w os).abs.heap.isNs mainGlobals && (S5 w os).abs.heap.isNs builtinsNs && tablesOk vw (S5 w os).abs.heap) = true := by kernel_rfl
set_option maxRecDepth 100000 in
theorem l2c4 (w : World) (os : OsState) : Xt0 (S5 w os).abs = true := by kernel_rfl
set_option maxRecDepth 100000 in
theorem l2d (w : World) (os : OsState) : tabsOk vw (S5 w os).abs = true := by kernel_rfl
set_option maxRecDepth 100000 in
theorem l2e (w : World) (os : OsState) : pinSeenD vw (drecsOf vw) (S5 w os).abs = pinGoodD (drecsOf vw) := by kernel_rfl
set_option maxRecDepth 100000 in
theorem l2f (w : World) (os : OsState) : plainSeenE vw (looseW vw loose) (S5 w os).abs = plainGoodE vw (looseW vw loose) := by kernel_rfl
set_option maxRecDepth 100000 in
theorem l2g (w : World) (os : OsState) : plainSeenD vw loose (S5 w os).abs = plainGoodD vw loose := by kernel_rfl
set_option maxRecDepth 100000 in
theorem l2h (w : World) (os : OsState) : wideSeen vw (S5 w os).abs = wideGood vw := by kernel_rfl
set_option maxRecDepth 100000 in
theorem l2i (w : World) (os : OsState) : clsSeenW vw loose (S5 w os).abs = clsGoodW vw loose := by kernel_rfl
set_option maxRecDepth 100000 in
theorem look2 (w : World) (os : OsState) : openSeen vw loose (importedModules pw.main.body) Xt0 true (S5 w os).abs = openGood vw loose := by
  have c1 := l2c1 w os
  have c2 := l2c2 w os
  have c3 := l2c3 w os
  have c4 := l2c4 w os
  have c5 : ((S5 w os).abs.gens.size == 0) = true := rfl
  have a := l2a w os; have b := l2b w os; have d := l2d w os; have e := l2e w os; have f := l2f w os; have g := l2g w os; have h := l2h w os; have i := l2i w os
  generalize (S5 w os).abs = s at *
  have c : (s.heap.keysOk (looseW vw loose) ((recsOf vw).map (·.name)) ((litsOf vw).map (·.1)) ((clssOf vw (looseW vw loose)).map (·.name)) && s.heap.accountedOkI (importedModules pw.main.body) && s.heap.isNs mainGlobals && s.heap.isNs builtinsNs && tablesOk vw s.heap && Xt0 s && (if true then s.gens.size == 0 else !leftWithCleanup s.gens)) = true := by
    simp only [Bool.and_eq_true] at c3 ⊢
    exact ⟨⟨⟨⟨⟨⟨c1, c2⟩, c3.1.1⟩, c3.1.2⟩, c3.2⟩, Bool.and_eq_true_iff.mp c4⟩, c5⟩
  unfold openSeen openGood
  exact looks_pair a (looks_pair b (looks_pair c (looks_pair d (looks_pair e (looks_pair f (looks_pair g (looks_pair h i)))))))
set_option maxRecDepth 100000 in
theorem look3 (w : World) (os : OsState) : Hook.obs H (S5 w os).abs = Hook.val H w := by kernel_rfl
theorem left : LeftO pw vw loose (fun s => xlAt vw [] s && recOk (RowW.records (PySem.Challenge.rw_xw0308_02.row.toRowW)) s) (Hook.obs H) (Hook.val H) N := fun w => by
  obtain ⟨⟨h, gs, d, k, os⟩, e, e'⟩ := Option.map_eq_some_iff.mp (open_eq w)
  obtain ⟨rfl, rfl, rfl, rfl⟩ : h = boot_heap w.params ∧ gs = #[] ∧ d = boot_drawn ∧ k = boot_toks := by simpa using e'
  obtain ⟨z1, z2, z3⟩ : _ ∧ _ ∧ _ := by simpa only [Prod.mk.injEq] using size_eq w
  have r := run_eq w os
  have l1 := look1 w os
  have l2 : (openSeen vw loose (importedModules pw.main.body) Xt0 true (S5 w os).abs, Hook.obs H (S5 w os).abs) = (openGood vw loose, Hook.val H w) := Prod.ext (look2 w os) (look3 w os)
  generalize (S5 w os).abs = s₁ at r l1 l2
  have r := topRun_mono (N - (12 + (1 + (626 + (666 + (776 + (691 + (385 + 2)))))))) _ _ _ _ r
  rw [show (12 + (1 + (626 + (666 + (776 + (691 + (385 + 2))))))) + (N - (12 + (1 + (626 + (666 + (776 + (691 + (385 + 2)))))))) = N by unfold N; omega] at r
  have t : topFrom treeTable pw w N ⟨boot_heap w.params, #[], boot_drawn, boot_toks, os⟩ = some s₁ := by
    unfold topFrom
    dsimp only
    rw [z1, z2, z3, r]
    show (match staticsOk (importedModules pw.main.body) (boot_heap w.params) s₁.heap && namesBound pw s₁.heap && gensDone s₁ && laidKept (boot_heap w.params) s₁.heap with | true => _ | false => _) = _
    rw [l1]
  have ends : openEnds treeTable pw w N = some s₁ := Option.bind_eq_some_iff.mpr ⟨_, e, t⟩
  rw [ends]
  exact congrArg some l2
theorem said : PySem.Challenge.rw_xw0308_02.wellSaid = true := by
  rw [PySem.W.Fast.te9446332074065402090]
  exact (by kernel_rfl)
end Mine

namespace Mine
abbrev hostEs (hv hl hr hw hs hg : Int) (kv kl kr kw ks kg : Tok) (vA rA gA : Addr) (tl tw ts : Tok) (k : Int) : List DictEntry :=
  [⟨hv, .str (Str.ofString "values") kv, .ref vA⟩, ⟨hl, .str (Str.ofString "limit") kl, .int 9999 tl⟩, ⟨hr, .str (Str.ofString "refused") kr, .ref rA⟩,
   ⟨hw, .str (Str.ofString "width") kw, .int 64 tw⟩, ⟨hs, .str (Str.ofString "steps") ks, .int k ts⟩, ⟨hg, .str (Str.ofString "log") kg, .ref gA⟩]
theorem my_notin {prog : Program} {w : World} {A : Around} {E : Value → Shared → Prop} {s : Shared} {K : Frag} {h₀ : Heap} {L a : Addr} {m : Str → Option Value} {l : List Value} {n : Nat} {dd : Option Addr} {sl : Array (Option Value)} {ys : List Str} {x : Str} {u : Tok} {Q : Value → Shared → Prop}
    (F : Fr h₀ L s.heap m) (X₀ : K.In h₀) (hl : K.lookup a = some ⟨.type "tuple", dd, .seq l.toArray n, sl⟩) (hi : StrsAre l ys)
    (h : Q (.bool (!(ys.any (· == x)))) s) : wpAny (model prog w) A (compareOp .NotIn (.str x u) (.ref a)) Q E s :=
  notin_tuple_strs (tupK (X₀.keeps F.keep) hl) (by simpa using hi) h
theorem my_eq_tup_str {prog : Program} {w : World} {A : Around} {E : Value → Shared → Prop} {s : Shared} {a : Addr} {ds : List PyData} {as : List Addr} {x : Str} {u : Tok} {Q : Value → Shared → Prop}
    (ra : Reads s.heap (.ref a) (.tuple ds) as) (ha : SeqAt.shaped (.tuple ds) = true) (hb : SeqAt.shaped (.str x) = true) (hu : A.units + 64 < cLine) (h : Q (.bool false) s) : wpAny (model prog w) A (compareOp .Eq (.ref a) (.str x u)) Q E s :=
  eq_dataH ra (Reads.str _ _) ha hb hu h
inductive Pick (d : Addr) (o : Obj) : List (Addr × Obj) → List (Addr × Obj) → Prop
  | head {r} : Pick d o ((d, o) :: r) r
  | tail {p r r'} : Pick d o r r' → Pick d o (p :: r) (p :: r')
theorem Pick.mem {d : Addr} {o : Obj} {l r : List (Addr × Obj)} (P : Pick d o l r) : ∀ p ∈ (d, o) :: r, p ∈ l := by
  induction P with
  | head => exact fun _ h => h
  | tail _ ih =>
    intro p hp
    rcases List.mem_cons.mp hp with rfl | hp
    · exact .tail _ (ih _ (.head _))
    · rcases List.mem_cons.mp hp with rfl | hp
      · exact .head _
      · exact .tail _ (ih _ (.tail _ hp))
theorem pick3 {h₀ h : Heap} {L d1 d2 d3 : Addr} {o1 o2 o3 : Obj} {l l1 l2 l3 : List (Addr × Obj)} (N : News h₀ L h l) (P2 : Pick d2 o2 l l1) (P1 : Pick d1 o1 l1 l2) (P3 : Pick d3 o3 l2 l3) :
    News h₀ L h ((d1, o1) :: (d2, o2) :: (d3, o3) :: l3) := by
  intro p hp
  apply N
  rcases List.mem_cons.mp hp with rfl | hp
  · exact P2.mem _ (.tail _ (P1.mem _ (.head _)))
  · rcases List.mem_cons.mp hp with rfl | hp
    · exact P2.mem _ (.head _)
    · rcases List.mem_cons.mp hp with rfl | hp
      · exact P2.mem _ (.tail _ (P1.mem _ (.tail _ (P3.mem _ (.head _)))))
      · exact P2.mem _ (.tail _ (P1.mem _ (.tail _ (P3.mem _ (.tail _ hp)))))
theorem pick4 {h₀ h : Heap} {L d1 d2 d3 d4 : Addr} {o1 o2 o3 o4 : Obj} {l l1 l2 l3 l4 : List (Addr × Obj)} (N : News h₀ L h l) (P2 : Pick d2 o2 l l1) (P1 : Pick d1 o1 l1 l2) (P3 : Pick d3 o3 l2 l3) (P4 : Pick d4 o4 l3 l4) :
    News h₀ L h ((d1, o1) :: (d2, o2) :: (d3, o3) :: (d4, o4) :: l4) := by
  have N3 := pick3 N P2 P1 P3
  intro p hp
  apply N3
  rcases List.mem_cons.mp hp with rfl | hp
  · exact .head _
  · rcases List.mem_cons.mp hp with rfl | hp
    · exact .tail _ (.head _)
    · rcases List.mem_cons.mp hp with rfl | hp
      · exact .tail _ (.tail _ (.head _))
      · exact .tail _ (.tail _ (.tail _ (P4.mem _ hp)))
theorem mem_grow {ls r r' : List (Addr × Obj)} {a q : Addr × Obj} (hq : q ∈ ls) (hls : ∀ p ∈ ls, p ∈ a :: r) (hr : ∀ p ∈ r, p ∈ r') : q ∈ a :: r' := by
  rcases List.mem_cons.mp (hls q hq) with rfl | h
  · exact .head _
  · exact .tail _ (hr q h)
theorem allLt_app {d : Addr} {l r : List (Addr × Obj)} (h : AllLt d (l ++ r)) : AllLt d l := by
  induction l with
  | nil => trivial
  | cons q t ih => exact ⟨h.1, ih h.2⟩
theorem mem_app_left {p : Addr × Obj} {l r : List (Addr × Obj)} (h : p ∈ l) : List.Mem p (l ++ r) := List.mem_append_left r h
theorem allLt_rest {d : Addr} {l : List (Addr × Obj)} (h : AllLt d l) : ∀ p ∈ l, p.1 < d := by
  induction l with
  | nil => exact fun _ h => nomatch h
  | cons q r ih =>
    intro p hp
    rcases List.mem_cons.mp hp with rfl | hp
    · exact h.1
    · exact ih h.2 p hp
theorem sub_tail {ls led : List (Addr × Obj)} {a : Addr × Obj} (h : ∀ p ∈ ls, p ∈ led) : ∀ p ∈ ls, p ∈ a :: led := fun p hp => .tail _ (h p hp)
def LamOK (prog : Program) (w : World) (K : Frag) (p : Program) (loose : List Str) (mean : ExcName → Option Value) (mg mb : Str → Option Value) (lm : Addr) (ls : List (Addr × Obj)) (R : Str) : Prop :=
  ∀ (dp un : Nat) (gd : Option (List Code)) (cn : Str) (cs : Scope) (a : Addr) (ccd : Value) (cl : List (Str × Addr)) (outer : List Env) (A₀ : Around) (base h₀ : Heap) (L : Addr) (m : Str → Option Value) (rest : List (Addr × Obj)) (s : Shared) (Q E : Value → Shared → Prop) (v : Value),
    Below A₀ base outer h₀ → Fr h₀ L s.heap m → K.In h₀ → News h₀ L s.heap (ls ++ rest) → Top p loose mean mg mb h₀ → cs.kind = .function → dp + 5 < recursionLimit → un + 100 < cLine →
    (∀ t h' tk', Fr h₀ L h' m → News h₀ L h' (ls ++ rest) → Q (.str R t) { s with heap := h', toks := tk' }) →
    wpAny (model prog w) (ktrTop dp un gd cn cs L a ccd cl outer) (call (.ref lm) [v]) Q E s
theorem lam_use {prog : Program} {w : World} {K : Frag} {p : Program} {loose : List Str} {mean : ExcName → Option Value} {mg mb : Str → Option Value} {lm : Addr} {ls : List (Addr × Obj)} {R : Str}
    {dp un : Nat} {gd : Option (List Code)} {cn : Str} {cs : Scope} {a : Addr} {ccd : Value} {cl : List (Str × Addr)} {outer : List Env} {A₀ : Around} {base h₀ : Heap} {L : Addr} {m : Str → Option Value} {led : List (Addr × Obj)} {s : Shared} {Q E : Value → Shared → Prop} {v : Value}
    (hL : LamOK prog w K p loose mean mg mb lm ls R) (B : Below A₀ base outer h₀) (F : Fr h₀ L s.heap m) (X : K.In h₀) (N : News h₀ L s.heap led) (hs : ∀ p ∈ ls, p ∈ led) (T : Top p loose mean mg mb h₀) (hk : cs.kind = .function) (hd : dp + 5 < recursionLimit) (hu : un + 100 < cLine)
    (ret : ∀ t h' tk', Fr h₀ L h' m → News h₀ L h' led → Q (.str R t) { s with heap := h', toks := tk' }) :
    wpAny (model prog w) (ktrTop dp un gd cn cs L a ccd cl outer) (call (.ref lm) [v]) Q E s := by
  refine hL _ _ _ _ _ _ _ _ _ _ _ _ _ _ led _ _ _ _ B F X (fun q hq => ?_) T hk hd hu fun t h' tk' F' N' => ret t h' tk' F' fun q hq => N' q (List.mem_append_right _ hq)
  rcases List.mem_append.mp hq with h | h
  · exact N q (hs q h)
  · exact N q h
theorem my_iter_nil {prog : Program} {w : World} {A : Around} {E : Value → Shared → Prop} {s : Shared} {env : Env} {h₀ : Heap} {target : Expr} {body : List Stmt} {Q : Flow → Shared → Prop} {ax : Addr} {n : Nat} {m₀ : Str → Option Value} {news : List (Addr × Obj)}
    (hh : A.handled = none) (F : Fr h₀ env.locals s.heap m₀) (N : News h₀ env.locals s.heap news) (hm : (ax, W.listOf #[] n) ∈ news)
    (h : ∀ h' tk, Fr h₀ env.locals h' m₀ → News h₀ env.locals h' news → Q .next { s with heap := h', toks := tk }) :
    wpAny (model prog w) A (pyIter (.ref ax)) (fun it s₂ => TurnsAt prog w A h₀ env target body Q E it s₂) E s :=
  iter_listTurns (vs := []) hh F N hm rfl rfl fun _ _ => h
def onceAt (S T R : Str) (i : Nat) : Str := Txt.slice S none (some (i : Int)) ++ R ++ Txt.slice S (some ((i : Int) + (T.length : Int))) none
def hit (S T : Str) (i : Nat) : Bool := Txt.slice S (some (i : Int)) (some ((i : Int) + (T.length : Int))) == T
theorem hit_of {S T : Str} {kN : Int} {i : Nat} {b : Bool} (e : kN = 0 + (i : Int)) (hc : (Txt.slice S (some kN) (some (kN + (T.length : Int))) == T) = b) : hit S T i = b := by
  have e' : kN = (i : Int) := by omega
  subst e'; exact hc
theorem plain_state {S T : Str} {k n kN : Int} {pre : List Int} (h1 : n = k + (pre.length : Int)) (h2 : ∀ i : Nat, i < pre.length → hit S T i = false) (e : kN = 0 + (pre.length : Int))
    (hc : (Txt.slice S (some kN) (some (kN + (T.length : Int))) == T) = false) : n + 1 = k + ((pre ++ [kN]).length : Int) ∧ ∀ i : Nat, i < (pre ++ [kN]).length → hit S T i = false := by
  refine ⟨by rw [List.length_append]; simp; omega, fun i hi => ?_⟩
  rw [List.length_append] at hi
  simp at hi
  by_cases q : i < pre.length
  · exact h2 i q
  · have : i = pre.length := by omega
    subst this
    exact hit_of e hc
def firstHit (S T : Str) : Option Nat := (List.range (S.length + 1)).find? (hit S T)
def step1 (T R S : Str) : Option Str := (firstHit S T).map (onceAt S T R)
def steps (T R : Str) : Nat → Str → Option Str
  | 0, S => some S
  | n + 1, S => (step1 T R S).bind (steps T R n)
def often (T R : Str) : Nat → Str → Str × Nat
  | 0, S => (S, 0)
  | n + 1, S => match step1 T R S with
    | none => (S, 0)
    | some S1 => ((often T R n S1).1, (often T R n S1).2 + 1)
theorem firstHit_none {S T : Str} (h : ∀ i : Nat, i ≤ S.length → hit S T i = false) : firstHit S T = none := by
  unfold firstHit
  rw [List.find?_eq_none]
  intro i hi
  rw [h i (by have := List.mem_range.mp hi; omega)]
  simp
theorem firstHit_some {S T : Str} {i : Nat} (hi : i ≤ S.length) (h : hit S T i = true) (hp : ∀ j : Nat, j < i → hit S T j = false) : firstHit S T = some i := by
  unfold firstHit
  rw [List.find?_range_eq_some]
  exact ⟨h, List.mem_range.mpr (by omega), fun j hj => by rw [hp j hj]; rfl⟩
theorem steps_snoc {T R : Str} : ∀ (n : Nat) (S : Str), steps T R (n + 1) S = (steps T R n S).bind (step1 T R)
  | 0, S => by simp [steps]
  | n + 1, S => by
    rw [steps]
    cases h : step1 T R S with
    | none => simp [steps, h]
    | some S1 => simp only [Option.bind_some]; rw [steps_snoc n S1]; simp [steps, h]
theorem often_of {T R : Str} : ∀ (c n : Nat) (S S' : Str), steps T R c S = some S' → (c = n ∨ (c ≤ n ∧ step1 T R S' = none)) → often T R n S = (S', c)
  | 0, n, S, S', h, q => by
    simp only [steps, Option.some.injEq] at h
    subst h
    rcases q with rfl | ⟨_, q⟩
    · rfl
    · cases n with
      | zero => rfl
      | succ n => simp [often, q]
  | c + 1, n, S, S', h, q => by
    rw [steps] at h
    cases hs : step1 T R S with
    | none => rw [hs] at h; simp at h
    | some S1 =>
      rw [hs, Option.bind_some] at h
      cases n with
      | zero => rcases q with q | ⟨q, _⟩ <;> omega
      | succ n =>
        have := often_of c n S1 S' h (by rcases q with q | ⟨q, r⟩; exact .inl (by omega); exact .inr ⟨by omega, r⟩)
        simp [often, hs, this]
theorem length_slice_ns (S : Str) (i : Nat) : (Txt.slice S none (some (i : Int))).length ≤ i := by
  have h := fact_slice_ns S (i : Int)
  by_cases q : i ≤ S.length
  · have := h.1 (by omega) (by omega); omega
  · have := h.2 (by omega); omega
theorem length_slice_sn (S : Str) (i : Nat) : (Txt.slice S (some (i : Int)) none).length ≤ S.length - i := by
  have h := fact_slice_sn S (i : Int)
  by_cases q : i ≤ S.length
  · have := h.1 (by omega) (by omega); omega
  · have := h.2 (by omega); omega
theorem length_onceAt {S T R : Str} {i : Nat} (hi : i ≤ S.length) : (onceAt S T R i).length ≤ S.length + R.length := by
  have h1 := length_slice_ns S i
  have h2 := length_slice_sn S (i + T.length)
  unfold onceAt
  rw [show ((i : Int) + (T.length : Int)) = ((i + T.length : Nat) : Int) by omega]
  simp only [Str.length_append]
  omega
def OInv (T R S : Str) (most k : Int) (S1 : Str) (j n : Int) : Prop :=
  0 ≤ j ∧ j ≤ most ∧ steps T R j.toNat S = some S1 ∧ (S1.length : Int) ≤ S.length + 2 * j ∧ k ≤ n ∧ n ≤ k + 100 * j
theorem OInv.start {T R S : Str} {most k : Int} (h : 0 ≤ most) : OInv T R S most k S 0 k := ⟨by omega, h, rfl, by omega, by omega, by omega⟩
theorem OInv.next {T R S S1 : Str} {most k j n n' : Int} {i : Nat} (I : OInv T R S most k S1 j n) (hR : R.length ≤ 2) (hS : (S.length : Int) + 2 * most ≤ 99) (hj : j < most) (hi : i ≤ S1.length) (h : hit S1 T i = true) (hp : ∀ j : Nat, j < i → hit S1 T j = false)
    (hn : n ≤ n') (hn' : n' ≤ n + S1.length + 1) : OInv T R S most k (onceAt S1 T R i) (j + 1) n' := by
  obtain ⟨a, b, c, d, e, f⟩ := I
  refine ⟨by omega, by omega, ?_, ?_, by omega, by omega⟩
  · rw [show (j + 1).toNat = j.toNat + 1 by omega, steps_snoc, c, Option.bind_some, step1, firstHit_some hi h hp]; rfl
  · have := length_onceAt (S := S1) (T := T) (R := R) (i := i) hi
    omega
theorem OInv.stop {T R S S1 : Str} {most k j n : Int} (I : OInv T R S most k S1 j n) (h : ∀ i : Nat, i ≤ S1.length → hit S1 T i = false) : often T R most.toNat S = (S1, j.toNat) := by
  obtain ⟨a, b, c, d, e, f⟩ := I
  exact often_of _ _ _ _ c (.inr ⟨by omega, by rw [step1, firstHit_none h]; rfl⟩)
theorem OInv.full {T R S S1 : Str} {most k j n : Int} (I : OInv T R S most k S1 j n) (h : ¬ j < most) : often T R most.toNat S = (S1, j.toNat) := by
  obtain ⟨a, b, c, d, e, f⟩ := I
  exact often_of _ _ _ _ c (.inl (by omega))
theorem OInv.bounds {T R S S1 : Str} {most k j n : Int} (I : OInv T R S most k S1 j n) (hS : (S.length : Int) + 2 * most ≤ 99) : 0 ≤ j ∧ j ≤ most ∧ S1.length ≤ 99 ∧ k ≤ n ∧ n ≤ k + 100 * j := by
  obtain ⟨a, b, c, d, e, f⟩ := I
  exact ⟨a, b, by omega, e, f⟩
end Mine

namespace Mine
def PPost (h₀ : Heap) (L : Addr) (own news₁ : List (Addr × Obj)) (Rst : (Str → Option Value) → List (Addr × Obj) → Prop) (s₁ : Shared) (Q : Flow → Shared → Prop) (f : Flow) (s₂ : Shared) : Prop :=
  match f with
  | .ret v => Q (.ret v) s₂
  | .brk => Q .next s₂
  | _ => ∃ h' tk m' news', s₂ = { s₁ with heap := h', toks := tk } ∧ Fr h₀ L h' m' ∧ News h₀ L h' (news' ++ own) ∧ news'.map (·.1) = news₁.map (·.1) ∧ Rst m' news'
def PRest (prog : Program) (w : World) (A : Around) (E : Value → Shared → Prop) (h₀ : Heap) (env : Env) (xi xc : Str) (body : List Stmt) (Q : Flow → Shared → Prop) (s : Shared) : List Str → Nat → (Str → Option Value) → List (Addr × Obj) → Prop
  | [], _ => fun m₁ news₁ => ∀ h' tk, Fr h₀ env.locals h' m₁ → News h₀ env.locals h' news₁ → Q .next { s with heap := h', toks := tk }
  | a :: r, i => fun m₁ news₁ => ∀ t u h tk own, OwnOff own (news₁.map (·.1)) → Fr h₀ env.locals h (fun y => if y = xc then some (.str a u) else if y = xi then some (.int i t) else m₁ y) → News h₀ env.locals h (news₁ ++ own) →
      wpAny (model prog w) A (execs body env) (PPost h₀ env.locals own news₁ (PRest prog w A E h₀ env xi xc body Q s r (i + 1)) { s with heap := h, toks := tk } Q) E { s with heap := h, toks := tk }
theorem news_swap {h₀ h : Heap} {L : Addr} {a b : List (Addr × Obj)} (N : News h₀ L h (a ++ b)) : News h₀ L h (b ++ a) := fun p hp => N p (by
  rcases List.mem_append.mp hp with h | h
  · exact List.mem_append_right _ h
  · exact List.mem_append_left _ h)
theorem my_pair {prog : Program} {w : World} {A : Around} {E : Value → Shared → Prop} {s : Shared} {env : Env} {h₀ : Heap} {m : Str → Option Value} {news : List (Addr × Obj)} {as : List Str} {xv : Value} {xi xc : Str} {body : List Stmt} {Q : Flow → Shared → Prop}
    (S : PairSrcL prog w A E h₀ env.locals ItemKind.str as xv s m news) (h : PRest prog w A E h₀ env xi xc body Q s as 0 m news) :
    wpAny (model prog w) A (pyIter xv) (fun it s₂ => PairAt3 prog w A h₀ env xi xc body Q E it s₂) E s := by
  refine S env rfl xi xc body Q (fun i m₁ news₁ => news₁.map (·.1) = news.map (·.1) ∧ PRest prog w A E h₀ env xi xc body Q s (as.drop i) i m₁ news₁) ⟨rfl, h⟩ ?_ ?_
  · rintro i a t v m₁ news₁ _ own ⟨h, tk, rfl⟩ hget hK ⟨_, hJ⟩ ha hoff F₁ N₁
    obtain ⟨u, rfl⟩ := ItemKind.str_is hK
    have hd : as.drop i = a :: as.drop (i + 1) := by
      obtain ⟨hlt, e⟩ := List.getElem?_eq_some_iff.mp hget
      rw [← e, ← List.drop_eq_getElem_cons hlt]
    rw [hd] at hJ
    have off : OwnOff own (news₁.map (·.1)) := by
      intro p hp b hb
      rw [ha] at hb
      obtain ⟨q, hq, rfl⟩ := List.mem_map.mp hb
      exact hoff p hp q hq
    refine wpAny_mono (hJ t u h tk own off F₁ (news_swap N₁)) (fun f s₂ hp => ?_) fun _ _ e => e
    cases f with
    | ret v => exact hp
    | brk => exact hp
    | next =>
      obtain ⟨h', tk', m', news', rfl, F', N', ha', r⟩ := hp
      exact ⟨rfl, h', tk', m', news', rfl, F', news_swap N', ha', ha'.trans ha, r⟩
    | cont =>
      obtain ⟨h', tk', m', news', rfl, F', N', ha', r⟩ := hp
      exact ⟨rfl, h', tk', m', news', rfl, F', news_swap N', ha', ha'.trans ha, r⟩
  · rintro h' tk m' news' F' N' _ ⟨_, r⟩
    rw [List.drop_length] at r
    exact r h' tk F' N'
theorem my_pair2 {prog : Program} {w : World} {A : Around} {E : Value → Shared → Prop} {s : Shared} {env : Env} {h₀ : Heap} {m : Str → Option Value} {news : List (Addr × Obj)} {as : List Str} {a0 : Str} {r : List Str} {xv : Value} {xi xc : Str} {body : List Stmt} {Q : Flow → Shared → Prop}
    (S : PairSrcL prog w A E h₀ env.locals ItemKind.str as xv s m news) (hs : as = a0 :: r)
    (h : ∀ t u h tk own, OwnOff own (news.map (·.1)) → Fr h₀ env.locals h (fun y => if y = xc then some (.str a0 u) else if y = xi then some (.int 0 t) else m y) → News h₀ env.locals h (news ++ own) → KstMark →
      wpAny (model prog w) A (execs body env) (PPost h₀ env.locals own news (PRest prog w A E h₀ env xi xc body Q s r 1) { s with heap := h, toks := tk } Q) E { s with heap := h, toks := tk }) :
    wpAny (model prog w) A (pyIter xv) (fun it s₂ => PairAt3 prog w A h₀ env xi xc body Q E it s₂) E s := my_pair S (by rw [hs]; exact fun t u h' tk own a b c => h t u h' tk own a b c kstMark)
inductive Keep (own : List (Addr × Obj)) : List (Addr × Obj) → List (Addr × Obj) → List (Addr × Obj) → Prop
  | base {r} : Keep own (r ++ own) r r
  | keep {a o o' l n n'} : Keep own l n n' → Keep own ((a, o') :: l) ((a, o) :: n) ((a, o') :: n')
  | drop {p l n n'} : Keep own l n n' → Keep own (p :: l) n n'
theorem Keep.mem {own l n n' : List (Addr × Obj)} (K : Keep own l n n') : (∀ p ∈ n' ++ own, p ∈ l) ∧ n'.map (·.1) = n.map (·.1) := by
  induction K with
  | base => exact ⟨fun _ h => h, rfl⟩
  | keep _ ih =>
    refine ⟨fun p hp => ?_, by rw [List.map_cons, List.map_cons, ih.2]⟩
    rw [List.cons_append] at hp
    rcases List.mem_cons.mp hp with rfl | hp
    · exact .head _
    · exact .tail _ (ih.1 p hp)
  | drop _ ih => exact ⟨fun p hp => .tail _ (ih.1 p hp), ih.2⟩
theorem my_pnext {h₀ : Heap} {L : Addr} {own news₁ : List (Addr × Obj)} {Rst : (Str → Option Value) → List (Addr × Obj) → Prop} {s₁ : Shared} {Q : Flow → Shared → Prop} {h' : Heap} {tk : Nat} {m' : Str → Option Value} {news' led : List (Addr × Obj)}
    (F : Fr h₀ L h' m') (N : News h₀ L h' led) (K : Keep own led news₁ news') (r : Rst m' news') : PPost h₀ L own news₁ Rst s₁ Q .next { s₁ with heap := h', toks := tk } :=
  ⟨h', tk, m', news', rfl, F, fun p hp => N p (K.mem.1 p hp), K.mem.2, r⟩
theorem my_prest1 {prog : Program} {w : World} {A : Around} {E : Value → Shared → Prop} {s : Shared} {env : Env} {h₀ : Heap} {m : Str → Option Value} {news : List (Addr × Obj)} {a1 : Str} {r : List Str} {xi xc : Str} {body : List Stmt} {Q : Flow → Shared → Prop}
    (h : ∀ t u h tk own, OwnOff own (news.map (·.1)) → Fr h₀ env.locals h (fun y => if y = xc then some (.str a1 u) else if y = xi then some (.int 1 t) else m y) → News h₀ env.locals h (news ++ own) → KstMark →
      wpAny (model prog w) A (execs body env) (PPost h₀ env.locals own news (PRest prog w A E h₀ env xi xc body Q s r 2) { s with heap := h, toks := tk } Q) E { s with heap := h, toks := tk }) :
    PRest prog w A E h₀ env xi xc body Q s (a1 :: r) 1 m news := fun t u h' tk own a b c => h t u h' tk own a b c kstMark
theorem my_prest0 {prog : Program} {w : World} {A : Around} {E : Value → Shared → Prop} {s : Shared} {env : Env} {h₀ : Heap} {m : Str → Option Value} {news : List (Addr × Obj)} {xi xc : Str} {body : List Stmt} {Q : Flow → Shared → Prop} {i : Nat}
    (h : ∀ h' tk, Fr h₀ env.locals h' m → News h₀ env.locals h' news → Q .next { s with heap := h', toks := tk }) :
    PRest prog w A E h₀ env xi xc body Q s [] i m news := h
end Mine

namespace Mine
def swapSign (a c b d x : Str) : Str := if x = a then c else if x = b then d else x
section
variable {prog : Program} {w : World} {A : Around} {E : Value → Shared → Prop} {s : Shared} {h₀ : Heap} {L : Addr} {m : Str → Option Value} {env : Env}
/-- a comprehension over a text: what its turns owe -/
def CSrc (prog : Program) (w : World) (A : Around) (h₀ : Heap) (L : Addr) (m : Str → Option Value) (env : Env) (elt : Expr) (x : Str) (scope : Scope) (cl : List (Str × Addr)) (Q : Value → Shared → Prop) (xv : Value) (s₁ : Shared) : Prop :=
  ∃ S t news, xv = .str S t ∧ A.handled = none ∧ Fr h₀ L s₁.heap m ∧ News h₀ L s₁.heap news ∧ S.length ≤ sizeLine ∧
    ∀ g : Heap, LCg.CompRest prog w A h₀ L m env elt x scope cl { s₁ with heap := g } (fun _ => True) (SignAt S) (LCg.FinE h₀ L m { s₁ with heap := g } Q) S.cps.size 0 [] news
theorem strIter_at {h h' : Heap} {I : Addr} {n : String} {x : Str} {t : Tok} {i : Nat} {o : Obj} (st : h.IsStrIter I n x t i) (e : h.get? I = some o) (e' : h'.get? I = some o) : h'.IsStrIter I n x t i := by
  obtain ⟨o', q, r⟩ := st
  rw [e] at q
  cases q
  exact ⟨o, e', r⟩
theorem comp_str {elt iter : Expr} {x : Str} {px : Pos} {scope : Scope} {cl : List (Str × Addr)} {pos : Pos} {Q : Value → Shared → Prop} (_F₀ : Fr h₀ L s.heap m)
    (hclos : closureFor scope env = pure cl) (hcell : ∀ y ∈ scope.names, y.2 ≠ .cell) (hkind : scope.kind = .function)
    (hnames : ∀ y ∈ scope.names, y.2 = .local → scope.names.lookup y.1 = some .local) (hx : scope.names.lookup x = some .local)
    (h : wpAny (model prog w) A (eval iter env) (CSrc prog w A h₀ L m env elt x scope cl Q) E s)
    (hs : ∀ x, foldedSetIterable iter env x = pure x := by intro _; rfl) :
    wpAny (model prog w) A (eval (.ListComp elt [⟨.Name x px, iter, [], 0⟩] scope pos) env) Q E s := by
  rw [eval_ListComp]
  refine wpAny_comprehension_free (use := none) rfl hs hclos hkind hnames (wpAny_mono h (fun xv s₁ h₁ => ?_) fun _ _ e => e)
  obtain ⟨S, t, news, rfl, hh, F, N, hsz, R⟩ := h₁
  have key : ∀ (P : Value → Shared → Prop), (∀ (o : Obj) (St : Nat → Heap → Prop), Walks prog w A s₁.heap.objs.size [s₁.heap.objs.size] [s₁.heap.objs.size] S.cps.size (SignAt S) St → St 0 (s₁.heap.push o) →
      (∀ i h, St i h → ∃ o, h.get? s₁.heap.objs.size = some o) → (∀ i h h' o, St i h → h.get? s₁.heap.objs.size = some o → h'.get? s₁.heap.objs.size = some o → St i h') → P (.ref s₁.heap.objs.size) { s₁ with heap := s₁.heap.push o }) →
      wpAny (model prog w) A (pyIter (.str S t)) P E s₁ := by
    intro P hP
    cases ha : S.cps.all (· < 128)
    · exact wpAny_pyIter_wide ha (hP _ _ (Walks.strWide hh _ S t) ⟨_, Heap.get?_push_size _ rfl, rfl, rfl⟩ (fun i h st => let ⟨o, e, _⟩ := st; ⟨o, e⟩) fun i h h' o st e e' => strIter_at st e e')
    · exact wpAny_pyIter_ascii ha (hP _ _ (Walks.strAscii hh _ S t) ⟨_, Heap.get?_push_size _ rfl, rfl, rfl⟩ (fun i h st => let ⟨o, e, _⟩ := st; ⟨o, e⟩) fun i h h' o st e e' => strIter_at st e e')
  refine key _ fun o St W hst hIo hSt => ?_
  have up : ∀ b o', s₁.heap.get? b = some o' → (s₁.heap.push o).get? b = some o' := fun b o' e => Heap.get?_push_of_some _ e
  refine LCg.block_U W hsz hIo (fun i h h' o nw st e e' _ _ _ => hSt i h h' o st e e') hcell hkind hx hst (fun b hb => ?_) (F.keeps up) (N.grown up) (Nat.ne_of_lt F.ns.lt) (next_is_new F) (fun p hp => Nat.ne_of_lt (Heap.lt_size (N p hp).1)) trivial (R _) ?_
  · rw [List.mem_singleton.mp hb]
    show s₁.heap.objs.size < (s₁.heap.push _).objs.size
    rw [Heap.size_push]; exact Nat.lt_succ_self _
  · intro D C h tk m' ys news' F' N' o1 hn hC₀ hD₀ hCL hDL hCD offC fin
    refine ⟨m', hn, fun h'' hs'' => fin D h'' tk (F'.change hs'' hCL hC₀) (fun p hp => ?_) o1⟩
    refine ⟨hs''.extBut _ _ ?_ (N' p hp).1, (N' p hp).2⟩
    rcases List.mem_cons.mp hp with rfl | hp
    · exact Ne.symm hCD
    · exact offC p hp
/-- the turns of a text: each gives one text by a function of its sign -/
theorem csrc_map {elt : Expr} {x : Str} {scope : Scope} {cl : List (Str × Addr)} {Q : Value → Shared → Prop} {S : Str} {t : Tok} {news : List (Addr × Obj)} {s₁ : Shared} (g : Str → Str)
    (hh : A.handled = none) (F : Fr h₀ L s₁.heap m) (N : News h₀ L s₁.heap news) (hsz : S.length ≤ sizeLine)
    (turn : ∀ (c : Nat) u I oI C oC D m₂ ys h tk (E' : Value → Shared → Prop), c ∈ S.cps.toList → LCg.NsObj oC m₂ → m₂ x = some (.str ⟨#[c]⟩ u) → Fr h₀ L h m → News h₀ L h ((I, oI) :: (C, oC) :: (D, LCg.lst ys) :: news) → LCg.Off3 I C D news → ((@Ne Nat I C) ∧ (@Ne Nat I D) ∧ (@Ne Nat C D)) →
      wpAny (model prog w) A (eval elt (compEnvC scope cl C env)) (LCg.CompEnd h₀ L m { s₁ with heap := h, toks := tk } I oI C oC D (LCg.lst ys) (fun _ => True) (fun y news' => news' = news ∧ ∃ t', y = .str (g ⟨#[c]⟩) t')) E' { s₁ with heap := h, toks := tk })
    (fin : ∀ ys D h tk, StrsAre ys ((signs S).map g) → Fr h₀ L h m → News h₀ L h ((D, LCg.lst ys) :: news) → LCg.Off1 D news → Q (.ref D) { s₁ with heap := h, toks := tk }) :
    CSrc prog w A h₀ L m env elt x scope cl Q (.str S t) s₁ := by
  refine ⟨S, t, news, rfl, hh, F, N, hsz, fun g0 => ?_⟩
  have key : ∀ (j i : Nat) (ys : List Value), i + j = S.cps.size → StrsAre ys (((signs S).take i).map g) → LCg.CompRest prog w A h₀ L m env elt x scope cl { s₁ with heap := g0 } (fun _ => True) (SignAt S) (LCg.FinE h₀ L m { s₁ with heap := g0 } Q) j i ys news := by
    intro j
    induction j with
    | zero =>
      intro i ys hi hy
      have e : i = (signs S).length := by rw [signs_length]; show i = S.cps.size; omega
      rw [e, List.take_length] at hy
      exact LCg.CompRest.zero fun D h tk F' N' o1 => fin ys D h tk hy F' N' o1
    | succ j ih =>
      intro i ys hi hy
      refine LCg.CompRest.succ ?_
      intro v I oI C oC D m₂ h tk E' hv hC hx F N off ne
      obtain ⟨c, u, hc, rfl⟩ := hv
      have hcm : c ∈ S.cps.toList := by
        rw [← Array.getElem?_toList] at hc
        exact List.mem_of_getElem? hc
      refine wpAny_mono (turn c u I oI C oC D m₂ ys h tk E' hcm hC hx F N off ne) (fun y s₂ hq => ?_) fun _ _ e => e
      obtain ⟨h', tk', nw, e, F', N', off', hS, hn, t', rfl⟩ := hq
      subst hn
      refine ⟨h', tk', nw, e, F', N', off', hS, ih (i + 1) _ (by omega) ?_⟩
      have hg : (signs S)[i]? = some ⟨#[c]⟩ := signs_get hc
      rw [List.take_add_one, hg]
      simpa using kct_snoc hy
  exact key _ 0 [] (by omega) (by simp only [List.take_zero, List.map_nil]; exact .nil)
end
theorem same_str_dec (a b : Str) : PySem.Spec.same (.str a) (.str b) = decide (a = b) := by
  by_cases h : a = b
  · subst h; simp [PySem.Spec.same]
  · simp [PySem.Spec.same, h]
theorem flat_str {v : Value} {x : Str} (h : PyProof.V.Flat v (.str x)) : ∃ t, v = .str x t := by
  have r := h {}
  cases r
  exact ⟨_, rfl⟩
theorem repl_val {a b x y c : Str} {v : Value} (hab : a ≠ b)
    (h : PyProof.V.Flat v ((PySem.Spec.lookup (.str c) (PyProof.V.putD (.str b) (.str y) (PyProof.V.putD (.str a) (.str x) []))).getD (.str c))) : ∃ t, v = .str (swapSign a x b y c) t := by
  apply flat_str
  have e : PyProof.V.putD (.str b) (.str y) (PyProof.V.putD (.str a) (.str x) []) = [(.str a, .str x), (.str b, .str y)] := by
    simp [PyProof.V.putD, same_str_dec, hab]
  rw [e] at h
  simp only [PySem.Spec.lookup, same_str_dec] at h
  unfold swapSign
  by_cases h1 : c = a
  · subst h1; simpa using h
  · by_cases h2 : c = b
    · subst h2; simpa [h1, hab, Ne.symm h1] using h
    · simpa [h1, h2, Ne.symm h1, Ne.symm h2] using h
theorem repl_val' {a b x y x' y' c : Str} {v : Value} (hab : a ≠ b) (hx : x' = x) (hy : y' = y)
    (h : PyProof.V.Flat v ((PySem.Spec.lookup (.str c) (PyProof.V.putD (.str b) (.str y') (PyProof.V.putD (.str a) (.str x') []))).getD (.str c))) : ∃ t, v = .str (swapSign a x b y c) t := by
  subst hx; subst hy; exact repl_val hab h
theorem repl_val1 {a x x' c : Str} {v : Value} (hx : x' = x)
    (h : PyProof.V.Flat v ((PySem.Spec.lookup (.str c) (PyProof.V.putD (.str a) (.str x') [])).getD (.str c))) : ∃ t, v = .str (swapSign a x a x c) t := by
  subst hx
  apply flat_str
  have e : PyProof.V.putD (.str a) (.str x') [] = [(.str a, .str x')] := by simp [PyProof.V.putD]
  rw [e] at h
  simp only [PySem.Spec.lookup, same_str_dec] at h
  unfold swapSign
  by_cases h1 : c = a
  · subst h1; simpa using h
  · simpa [h1, Ne.symm h1] using h
theorem swap_len {a x b y : Str} {n : Nat} (hx : x.length = 1) (hy : y.length = 1) : (swapSign a x b y ⟨#[n]⟩).length = 1 := by
  unfold swapSign
  split
  · exact hx
  · split
    · exact hy
    · rfl
def replStr (a x b y M : Str) : Str := Txt.join (Str.ofString "") ((signs M).map (swapSign a x b y))
theorem my_join {prog : Program} {w : World} {A : Around} {E : Value → Shared → Prop} {s : Shared} {t : Tok} {Q : Value → Shared → Prop} {h₀ : Heap} {L D : Addr} {ys : List Value} {led : List (Addr × Obj)} {a x b y M : Str}
    (N : News h₀ L s.heap led) (hm : (D, LCg.lst ys) ∈ led) (hi : StrsAre ys ((signs M).map (swapSign a x b y))) (hx : x.length = 1) (hy : y.length = 1) (hM : M.length ≤ 1000)
    (h : ∀ t' k, Q (.str (replStr a x b y M) t') { s with toks := k }) : wpAny (model prog w) A (call (.builtin "str.join") [.str (Str.ofString "") t, .ref D]) Q E s := by
  have hl : s.heap.IsList D ys.toArray := ⟨_, (N _ hm).1, rfl, _, rfl⟩
  have e1 : (((signs M).map (swapSign a x b y)).map (·.length)).sum = M.length := by
    rw [List.map_map, ← signs_length]
    have : ∀ l : List Nat, ((l.map fun n => (⟨#[n]⟩ : Str)).map ((·.length) ∘ swapSign a x b y)).sum = (l.map fun n => (⟨#[n]⟩ : Str)).length := by
      intro l
      induction l with
      | nil => rfl
      | cons n r ih =>
        simp only [List.map_cons, List.sum_cons, List.length_cons, Function.comp_apply, swap_len hx hy, List.length_map] at ih ⊢
        omega
    exact this _
  refine join_listW hl (by simpa using hi) (by decide +kernel) ?_ h
  rw [e1, List.length_map, signs_length]
  omega
end Mine

namespace Mine
abbrev tk (S : Str) : List Nat := S.cps.toList
abbrev mk (l : List Nat) : Str := ⟨l.toArray⟩
theorem mk_tk (S : Str) : mk (tk S) = S := rfl
theorem tk_mk (l : List Nat) : tk (mk l) = l := rfl
theorem len_tk (S : Str) : (tk S).length = S.length := Array.length_toList
theorem slice_nat {x : Str} {l u : Option Int} {a b : Nat} (e : Builtin.Str.strSliceIndices l u 1 x.length = sliceRange a b 1) (hb : b ≤ x.length) : Txt.slice x l u = mk (((tk x).drop a).take (b - a)) := by
  unfold Txt.slice
  rw [e, sliceRange_one]
  split
  · rename_i h
    simp only [Bool.and_eq_true, beq_iff_eq, List.length_map, List.length_range] at h
    by_cases h0 : x.length = 0
    · have h1 : (tk x).length = 0 := by rw [len_tk, h0]
      have h2 : tk x = [] := List.length_eq_zero_iff.mp h1
      rw [h2, List.drop_nil, List.take_nil, ← mk_tk x, h2]
    · have ha : a = 0 := by omega
      have hb' : b = (tk x).length := by rw [len_tk]; omega
      rw [ha, hb', List.drop_zero, Nat.sub_zero, List.take_length, mk_tk]
  · rw [pick_run]
theorem slice_ns (x : Str) (i : Nat) : Txt.slice x none (some (i : Int)) = mk ((tk x).take i) := by
  rw [slice_nat (a := 0) (b := min i x.length) (by
    unfold Builtin.Str.strSliceIndices
    simp only [show (1 : Int) > 0 by decide, if_true, if_neg (show ¬ ((i : Int) < 0) by omega)]
    congr 1
    omega) (by omega), List.drop_zero, Nat.sub_zero, ← len_tk]
  have e : (tk x).take (min i (tk x).length) = (tk x).take i := by
    by_cases h : i ≤ (tk x).length
    · rw [Nat.min_eq_left h]
    · rw [Nat.min_eq_right (by omega), List.take_length, List.take_of_length_le (by omega)]
  rw [e]
theorem slice_sn (x : Str) (i : Nat) : Txt.slice x (some (i : Int)) none = mk ((tk x).drop i) := by
  rw [slice_nat (a := min i x.length) (b := x.length) (by
    unfold Builtin.Str.strSliceIndices
    simp only [show (1 : Int) > 0 by decide, if_true, if_neg (show ¬ ((i : Int) < 0) by omega)]
    congr 1
    omega) (by omega), ← len_tk]
  have e : ((tk x).drop (min i (tk x).length)).take ((tk x).length - min i (tk x).length) = (tk x).drop i := by
    by_cases h : i ≤ (tk x).length
    · rw [Nat.min_eq_left h, List.take_of_length_le (by rw [List.length_drop]; omega)]
    · rw [Nat.min_eq_right (by omega), List.drop_length, List.take_nil, List.drop_of_length_le (by omega)]
  rw [e]
theorem slice_ss (x : Str) (i k : Nat) : Txt.slice x (some (i : Int)) (some ((i : Int) + (k : Int))) = mk (((tk x).drop i).take k) := by
  rw [slice_nat (a := min i x.length) (b := min (i + k) x.length) (by
    unfold Builtin.Str.strSliceIndices
    simp only [show (1 : Int) > 0 by decide, if_true, if_neg (show ¬ ((i : Int) < 0) by omega), if_neg (show ¬ ((i : Int) + (k : Int) < 0) by omega)]
    congr 1 <;> omega) (by omega), ← len_tk]
  have e : ((tk x).drop (min i (tk x).length)).take (min (i + k) (tk x).length - min i (tk x).length) = ((tk x).drop i).take k := by
    by_cases h : i ≤ (tk x).length
    · rw [Nat.min_eq_left h]
      by_cases h2 : i + k ≤ (tk x).length
      · rw [Nat.min_eq_left h2, Nat.add_sub_cancel_left]
      · rw [Nat.min_eq_right (show (tk x).length ≤ i + k by omega), List.take_of_length_le (by rw [List.length_drop]; omega), List.take_of_length_le (by rw [List.length_drop]; omega)]
    · rw [Nat.min_eq_right (show (tk x).length ≤ i by omega), List.drop_length, List.take_nil, List.drop_of_length_le (by omega), List.take_nil]
  rw [e]
theorem slice_butlast (x : Str) (h : 1 ≤ x.length) : Txt.slice x none (some (-1)) = mk ((tk x).take (x.length - 1)) := by
  rw [slice_nat (a := 0) (b := x.length - 1) (by
    unfold Builtin.Str.strSliceIndices
    simp only [show (1 : Int) > 0 by decide, if_true, if_pos (show (-1 : Int) < 0 by decide)]
    congr 1
    omega) (by omega), List.drop_zero, Nat.sub_zero]
theorem item_nat (l : List Nat) (i : Nat) (h : i < l.length) : Txt.item (mk l) (i : Int) = mk [l.getD i 0] := by
  unfold Txt.item Txt.charAt seqIndex?
  have hl : (mk l).length = l.length := rfl
  simp only [hl, if_neg (show ¬ ((i : Int) < 0) by omega)]
  have h1 : (decide (0 ≤ (i : Int)) && decide ((i : Int) < (l.length : Int))) = true := by simp; omega
  rw [if_pos h1]
  simp [List.getD_eq_getElem?_getD]
theorem item_last (l : List Nat) (h : 1 ≤ l.length) : Txt.item (mk l) (-1) = mk [l.getD (l.length - 1) 0] := by
  unfold Txt.item Txt.charAt seqIndex?
  have hl : (mk l).length = l.length := rfl
  simp only [hl, if_pos (show (-1 : Int) < 0 by decide)]
  have h1 : (decide (0 ≤ -1 + (l.length : Int)) && decide (-1 + (l.length : Int) < (l.length : Int))) = true := by simp; omega
  rw [if_pos h1]
  have h2 : (-1 + (l.length : Int)).toNat = l.length - 1 := by omega
  simp [List.getD_eq_getElem?_getD, h2]
theorem mk_inj {l r : List Nat} : mk l = mk r ↔ l = r := ⟨fun h => congrArg tk h, fun h => congrArg mk h⟩
theorem mk1_beq (u v : Nat) : (mk [u] == mk [v]) = (u == v) := by
  rw [Bool.eq_iff_iff, beq_iff_eq, beq_iff_eq, mk_inj]
  simp
theorem app_mk (a b : List Nat) : mk a ++ mk b = mk (a ++ b) := by
  apply Str.ext'
  simp [Str.cps_append]
theorem hit_list (S T : Str) (i : Nat) : hit S T i = (((tk S).drop i).take (tk T).length == tk T) := by
  unfold hit
  rw [slice_ss, len_tk, Bool.eq_iff_iff, beq_iff_eq, beq_iff_eq]
  constructor
  · intro h; exact congrArg tk h
  · intro h; rw [h]
def stepL (t r : List Nat) : List Nat → Option (List Nat)
  | [] => if t = [] then some r else none
  | x :: xs => if ((x :: xs).take t.length == t) = true then some (r ++ (x :: xs).drop t.length) else (stepL t r xs).map (x :: ·)
theorem stepL_find (t r : List Nat) : ∀ l : List Nat, ((List.range (l.length + 1)).find? fun i => (l.drop i).take t.length == t).map (fun i => l.take i ++ r ++ l.drop (i + t.length)) = stepL t r l
  | [] => by
    by_cases h : t = []
    · subst h; simp [stepL]
    · have h' : ([] == t) = false := by cases t with | nil => exact absurd rfl h | cons _ _ => rfl
      simp [stepL, h, h']
  | x :: xs => by
    rw [List.range_succ_eq_map, List.find?_cons]
    by_cases h : ((x :: xs).take t.length == t) = true
    · rw [stepL, if_pos h]
      simp only [List.drop_zero, h, Option.map_some, List.take_zero, List.nil_append, Nat.zero_add]
    · rw [stepL, if_neg h, ← stepL_find t r xs]
      simp only [List.drop_zero, h, List.find?_map, Option.map_map]
      congr 1
      funext i
      simp [Function.comp, Nat.succ_eq_add_one, show i + 1 + t.length = (i + t.length) + 1 by omega]
theorem step1_list (T R S : Str) : step1 T R S = (stepL (tk T) (tk R) (tk S)).map mk := by
  unfold step1 firstHit
  rw [← stepL_find, Option.map_map, len_tk]
  have e : hit S T = fun i => ((tk S).drop i).take (tk T).length == tk T := funext fun i => hit_list S T i
  rw [e]
  congr 1
  funext i
  show onceAt S T R i = mk _
  unfold onceAt
  rw [show ((i : Int) + (T.length : Int)) = ((i + T.length : Nat) : Int) by omega, slice_ns, slice_sn, ← len_tk T]
  apply Str.ext'
  simp [Str.cps_append]
def oftenL (t r : List Nat) : Nat → List Nat → List Nat × Nat
  | 0, l => (l, 0)
  | n + 1, l => match stepL t r l with
    | none => (l, 0)
    | some l1 => ((oftenL t r n l1).1, (oftenL t r n l1).2 + 1)
theorem often_list (T R : Str) : ∀ (n : Nat) (S : Str), often T R n S = (mk (oftenL (tk T) (tk R) n (tk S)).1, (oftenL (tk T) (tk R) n (tk S)).2)
  | 0, S => rfl
  | n + 1, S => by
    rw [often, oftenL, step1_list]
    cases h : stepL (tk T) (tk R) (tk S) with
    | none => rfl
    | some l1 =>
      simp only [Option.map_some]
      rw [often_list T R n (mk l1), tk_mk]
theorem swap_list (a x b y n : Nat) : swapSign (mk [a]) (mk [x]) (mk [b]) (mk [y]) ⟨#[n]⟩ = mk [if n = a then x else if n = b then y else n] := by
  have key : ∀ u v : Nat, ((⟨#[u]⟩ : Str) = mk [v]) ↔ u = v := by
    intro u v
    constructor
    · intro h
      have := congrArg tk h
      simpa [tk] using this
    · rintro rfl; rfl
  unfold swapSign
  by_cases h1 : n = a
  · rw [if_pos ((key _ _).mpr h1), if_pos h1]
  · rw [if_neg (fun q => h1 ((key _ _).mp q)), if_neg h1]
    by_cases h2 : n = b
    · rw [if_pos ((key _ _).mpr h2), if_pos h2]
    · rw [if_neg (fun q => h2 ((key _ _).mp q)), if_neg h2]
theorem join_map {α : Type} {g : α → Str} {f : α → List Nat} (hg : ∀ a, g a = mk (f a)) : ∀ l : List α, Txt.join (Str.ofString "") (l.map g) = mk (l.flatMap f) := by
  have e0 : Str.ofString "" = (⟨#[]⟩ : Str) := by decide +kernel
  have j : ∀ l : List Str, Txt.join (Str.ofString "") l = Str.join ⟨#[]⟩ l := fun l => by rw [e0]; exact StrLaws.glued_eq_join _ _
  intro l
  rw [j]
  induction l with
  | nil => rfl
  | cons a r ih =>
    rw [List.map_cons, join_nil_cons, ih, hg, List.flatMap_cons]
    apply Str.ext'
    simp [Str.cps_append]
theorem repl_list (a x b y : Nat) (M : Str) : replStr (mk [a]) (mk [x]) (mk [b]) (mk [y]) M = mk ((tk M).map fun n => if n = a then x else if n = b then y else n) := by
  unfold replStr
  have e : (signs M).map (swapSign (mk [a]) (mk [x]) (mk [b]) (mk [y])) = (tk M).map fun n => mk [if n = a then x else if n = b then y else n] := by
    show ((tk M).map fun n => (⟨#[n]⟩ : Str)).map _ = _
    rw [List.map_map]
    apply List.map_congr_left
    intro n _
    exact swap_list a x b y n
  rw [e, join_map (f := fun n => [if n = a then x else if n = b then y else n]) (fun _ => rfl)]
  congr 1
  have : ∀ (f : Nat → Nat) (l : List Nat), l.flatMap (fun n => [f n]) = l.map f := by
    intro f l
    induction l with
    | nil => rfl
    | cons z r ih => rw [List.flatMap_cons, ih, List.map_cons]; rfl
  rw [this]
end Mine

namespace Mine
/-- the table of a def's codes: nothing made yet, or the one code that stands in the ledger -/
def TabOK (pos : Pos) (qual : Str) (I P : Addr) (ps : Array Value) (tl : List (Addr × Obj)) : Prop :=
  ps = #[] ∨ ∃ c' oc vs t, ps = #[rawInt pos.line, rawInt pos.col, .ref c'] ∧ (c', oc) ∈ tl ∧ oc.data = .fields vs ∧ vs[1]? = some (.str qual t) ∧ c' ≠ I ∧ c' ≠ P
theorem TabOK.mono {pos : Pos} {qual : Str} {I P : Addr} {ps : Array Value} {tl tl' : List (Addr × Obj)} (h : TabOK pos qual I P ps tl) (hs : ∀ p ∈ tl, p ∈ tl') : TabOK pos qual I P ps tl' := by
  rcases h with h | ⟨c', oc, vs, t, a, b, c⟩
  · exact .inl h
  · exact .inr ⟨c', oc, vs, t, a, hs _ b, c⟩
theorem pick1 {h₀ h : Heap} {L d : Addr} {o : Obj} {l l1 : List (Addr × Obj)} (N : News h₀ L h l) (P : Pick d o l l1) : News h₀ L h ((d, o) :: l1) := fun p hp => N p (P.mem p hp)
theorem my_lam {M : Model} {A : Around} {E : Value → Shared → Prop} {s : Shared} {h₀ : Heap} {L a c P : Addr} {m mg mb : Str → Option Value} {cn : Str} {cs : Scope} {ccd : Value} {cl : List (Str × Addr)} {led news' tl : List (Addr × Obj)}
    {p : Program} {loose : List Str} {mean : ExcName → Option Value} {name qual : Str} {params : Arguments} {body : Expr} {scope : Scope} {ps : Array Value} {pos : Pos} {firstLine : Nat} {clos : List (Str × Addr)} {I d : Addr} {Q : Value → Shared → Prop}
    (F : Fr h₀ L s.heap m) (N : News h₀ L s.heap led) (hpick : Pick P (tabObj ps) led news') (T : Top p loose mean mg mb h₀) (C : CodeHd h₀ c P) (hcd : ccd = .ref c)
    (hne : ∀ q ∈ news', q.1 ≠ P) (hT : TabOK pos qual I P ps tl) (htl : ∀ p ∈ tl, p ∈ news') (hI : ∃ o, (I, o) ∈ tl) {od : Obj} {news2 : List (Addr × Obj)} (hd : Pick d od news' news2) (hdt : ∀ p ∈ tl, p.1 ≠ d)
    (hcl : closureFor scope (envX cn cs L a ccd cl) = pure clos)
    (h : ∀ f c' oc vs t ctv h' tk, Fr h₀ L h' m →
      News h₀ L h' ((f, kla_obj name qual params body scope clos ((mg "__name__").getD .none) c' ctv) :: (c', oc) :: (P, tabObj #[rawInt pos.line, rawInt pos.col, .ref c']) :: news') →
      oc.data = .fields vs → vs[1]? = some (.str qual t) → c' ≠ d → c' ≠ I → c' ≠ P → (∀ q ∈ news', q.1 < f) → c' < f → P < f → Q (.ref f) { s with heap := h', toks := tk }) :
    wpAny M A (makeFunction name qual params (.expr body) scope (envX cn cs L a ccd cl) [] [] [] pos firstLine) Q E s := by
  have N1 : News h₀ L s.heap ((P, tabObj ps) :: news') := fun q hq => N q (hpick.mem q hq)
  rcases hT with rfl | ⟨c', oc, vs, t, rfl, hc, h1, h2, h3, h4⟩
  · refine kla_nest F N1 T C hcd (UpdF.head hne) True.intro rfl hcl fun f c' oc vs t ctv h' tk F' N' d1 d2 l1 l2 => ?_
    obtain ⟨oI, hI⟩ := hI
    have q1 : I < c' := l1 _ (List.Mem.tail _ (htl _ hI))
    have q2 : d < c' := l1 _ (List.Mem.tail _ (hd.mem _ (List.Mem.head _)))
    have q3 : P < c' := l1 _ (List.Mem.head _)
    refine h f c' oc vs t ctv h' tk F' N' d1 d2 (Nat.ne_of_gt q2) (Nat.ne_of_gt q1) (Nat.ne_of_gt q3) (fun q hq => Nat.lt_trans (l1 q (List.Mem.tail _ hq)) l2) l2 (Nat.lt_trans q3 l2)
  · refine kla_hit F N1 T C hcd (List.Mem.head _) (by simp [TriplesOk, rawInt]) (by show (if ((pos.line : Int) == (pos.line : Int) && (pos.col : Int) == (pos.col : Int)) = true then _ else _) = _; rw [if_pos (by simp)]) hcl fun f ctv h' tk F' N' l1 => ?_
    refine h f c' oc vs t ctv h' tk F' (fun q hq => ?_) h1 h2 (hdt _ hc) h3 h4 (fun q hq => l1 q (List.Mem.tail _ hq)) (l1 (c', oc) (List.Mem.tail _ (htl _ hc))) (l1 _ (List.Mem.head _))
    rcases List.mem_cons.mp hq with rfl | hq
    · exact N' _ (List.Mem.head _)
    · rcases List.mem_cons.mp hq with rfl | hq
      · exact N' _ (List.Mem.tail _ (List.Mem.tail _ (htl _ hc)))
      · rcases List.mem_cons.mp hq with rfl | hq
        · exact N' _ (List.Mem.tail _ (List.Mem.head _))
        · exact N' _ (List.Mem.tail _ (List.Mem.tail _ hq))
theorem tl_ne {pos : Pos} {qual : Str} {I P : Addr} {ps : Array Value} {tl rest : List (Addr × Obj)} {d : Addr} (_hT : TabOK pos qual I P ps tl) (h : ∀ p ∈ rest, p.1 < d) (hs : ∀ p ∈ tl, p ∈ rest) : ∀ p ∈ tl, p.1 ≠ d :=
  fun p hp => Nat.ne_of_lt (h p (hs p hp))
end Mine

namespace Mine
set_option pp.deepTerms false
set_option pp.deepTerms.threshold 4
set_option pp.maxSteps 3000
set_option maxRecDepth 100000 in
set_option maxHeartbeats 8000000 in
theorem lam_const {prog : Program} {w : World} {K : Frag} {p : Program} {loose : List Str} {mean : ExcName → Option Value} {mg mb : Str → Option Value} {f c' : Addr} {oc : Obj} {vs : Array Value} {t : Tok} {ctv pm : Value} {name qual x : Str} {params : Arguments} {scope : Scope} {R : Str} {k : Nat} {pos : Pos}
    (hoc : oc.data = .fields vs) (hvs : vs[1]? = some (.str qual t))
    (hbind : ∀ v, bindArgs (kla_fn name qual params (.Constant (.str R) k pos) scope [] pm (.ref c') ctv) ⟨[v], []⟩ = pure [(x, v)])
    (hx : scope.names.lookup x = some .local) (hco : scope.isCoroutine = false) (hgen : scope.isGenerator = false) (hkk : scope.kind = .function) (hcell : ∀ y ∈ scope.names, y.2 ≠ .cell) :
    LamOK prog w K p loose mean mg mb f [(f, kla_obj name qual params (.Constant (.str R) k pos) scope [] pm c' ctv), (c', oc)] R := by
  intro dp un gd cn cs a ccd cl outer A₀ base h₀ L m rest s Q E v B F X N T hk hd hu ret
  refine wpAny_call ?_
  refine kla_code B F X N T rfl rfl hk (List.mem_append_left _ (List.Mem.head _)) (codeRec_news N (List.mem_append_left _ (List.Mem.tail _ (List.Mem.head _))) hoc hvs) ?_ (hbind v) (fun y hy => by rw [List.mem_singleton.mp hy]; exact hx) (fun g L' h1 FG F' N' B' X' T' => ?_) hco hgen hkk hcell
  · show dp < recursionLimit
    omega
  (try dsimp only)
  (try k_fold)
  k_steps
  · exact ret _ _ _ (by with_reducible assumption) (by with_reducible assumption)
end Mine

theorem Mine.filled : PySem.Challenge.rw_xw0308_02 = PySem.Challenge.rw_xw0308_02 ∧ Mine.K = Mine.K := by
  k_fill
  exact ⟨rfl, rfl⟩
local macro_rules | `(tactic| k_all) => `(tactic| first | assumption | exact fun p9 h9 => Nat.ne_of_lt (Nat.lt_succ_of_lt (kst_ltOf (by simp only [*]) p9 h9)) | exact fun p9 h9 => Nat.ne_of_lt (kst_ltOf (by simp only [*]) p9 h9))
local macro_rules | `(tactic| k_room) => `(tactic| ((simp only [depth_under_make, depth_under_kw, depth_in1, depth_deeper]); (try dsimp only [ktrTop]); omega))
local macro_rules | `(tactic| k_units) => `(tactic| ((have hcL9 := cLine_is); (simp only [units_in1, units_deeper, Around.mark_units]); (try dsimp only [ktrTop]); omega))
local macro_rules | `(tactic| ke_room) => `(tactic| ((have hcL9 := cLine_is); (simp only [units_in1, units_deeper, Around.mark_units]); (try dsimp only [ktrTop]); omega))
local macro_rules | `(tactic| ktr_rel) => `(tactic| first
  | exact fun _ h => h
  | (refine' List.forall_mem_cons.mpr ⟨?a, ?b⟩; (case a => k_mem); (case b => ktr_rel))
  | (intro p hp; repeat (first | exact hp | exact Mine.mem_app_left hp | refine List.Mem.tail _ ?_)))
local macro_rules | `(tactic| tb_start) => `(tactic| first | exact Mine.Pick.head | (apply Mine.Pick.tail; tb_start))

theorem Mine.rows_30 : True := by
  k_with "compareOp NotIn str ref" => (k_here; (with_reducible show wpAny _ _ (compareOp CmpOp.NotIn (Value.str _ _) (Value.ref _)) _ _ _); k_dflt (refine' Mine.my_notin (by (k_asm)) (by (k_asm)) (by (k_is)) (by (kde_strs)) ?_; k_whole))
  k_with "compareOp Eq ref str" => (k_here; (with_reducible show wpAny _ _ (compareOp CmpOp.Eq (Value.ref _) (Value.str _ _)) _ _ _); k_dflt (refine Mine.my_eq_tup_str (by ke_read) (by ke_shaped) (by ke_shaped) (by ke_room) ?_))
  exact True.intro

namespace Mine
section
variable {prog : Program} {w : World} {p : Program} {loose : List Str} {mean : ExcName → Option Value} {mg mb : Str → Option Value}
    {dp un : Nat} {gd : Option (List Code)} {cn : Str} {cs : Scope} {a : Addr} {ccd : Value} {cl : List (Str × Addr)} {outer : List Env} {A₀ : Around} {base h₀ : Heap} {L : Addr} {m : Str → Option Value} {s : Shared} {Q E : Value → Shared → Prop}
    {S T : Str} {at_ : Int} {tS tA t1 t2 : Tok} {c : Nat}
    {hv hl hr hw hs hg : Int} {kv kl kr kw ks kg : Tok} {vA rA gA : Addr} {tl tw ts : Tok} {k : Int} {dx x nd : Addr} {rest : List (Addr × Obj)}
abbrev nodeObj (T : Str) (t1 t2 : Tok) (c : Nat) : Obj := { cls := .type "tuple", data := .seq #[.str (Str.ofString "chars") t1, .str T t2] c }
set_option maxRecDepth 100000 in
set_option maxHeartbeats 8000000 in
theorem c_match_at
    (B : Below A₀ base outer h₀) (F : Fr h₀ L s.heap m) (X : (Mine.K w.params).In h₀)
    (N : News h₀ L s.heap ((dx, dictOf (hostEs hv hl hr hw hs hg kv kl kr kw ks kg vA rA gA tl tw ts k) 6) :: (x, instObj 215 dx) :: (nd, nodeObj T t1 t2 c) :: rest))
    (hx : x ≠ dx) (hnd : nd ≠ dx) (hrest : ∀ p ∈ rest, p.1 ≠ dx)
    (TT : Top p loose mean mg mb h₀) (hk : cs.kind = .function)
    (hd : dp + 10 < recursionLimit) (hu : un + 200 < cLine) (hS : S.length ≤ 100) (hT : T.length ≤ 100) (_h0 : 0 ≤ at_) (_h1 : at_ ≤ 100) (hk0 : 0 ≤ k) (hk1 : k < 9000)
    (ret0 : (Txt.slice S (some at_) (some (at_ + (T.length : Int))) == T) = false → ∀ ts' h' tk', Fr h₀ L h' m →
      News h₀ L h' ((dx, dictOf (hostEs hv hl hr hw hs hg kv kl kr kw ks kg vA rA gA tl tw ts' (k + 1)) 6) :: (x, instObj 215 dx) :: (nd, nodeObj T t1 t2 c) :: rest) →
      Q .none { s with heap := h', toks := tk' })
    (ret1 : (Txt.slice S (some at_) (some (at_ + (T.length : Int))) == T) = true → ∀ D l u1 u2 c1 c2 ts' h' tk', Fr h₀ L h' m →
      News h₀ L h' ((D, ({ cls := .type "tuple", data := .seq #[.int at_ u1, .int (at_ + (T.length : Int)) u2, .ref l] c1 } : Obj)) :: (l, W.listOf #[] c2) ::
        (dx, dictOf (hostEs hv hl hr hw hs hg kv kl kr kw ks kg vA rA gA tl tw ts' (k + 1)) 6) :: (x, instObj 215 dx) :: (nd, nodeObj T t1 t2 c) :: rest) →
      @LT.lt Nat _ l D → @LT.lt Nat _ dx l → @LT.lt Nat _ x l → @LT.lt Nat _ nd l → AllLt l rest →
      Q (.ref D) { s with heap := h', toks := tk' }) :
    wpAny (model prog w) (ktrTop dp un gd cn cs L a ccd cl outer) (call (.ref 402) [.ref nd, .str S tS, .int at_ tA, .ref x]) Q E s := by
  refine wpAny_call ?_
  k_dflt ktr_enter
  k_steps
  · refine' ret1 (by with_reducible assumption) _ _ _ _ _ _ _ _ _ ?F ?N ?a ?b ?c ?d ?e
    case F => with_reducible assumption
    case N => refine' cb_drop ?h ?i; (case h => with_reducible assumption); (case i => ktr_rel)
    case a => omega
    case b => omega
    case c => omega
    case d => omega
    case e => simp only [*]
  · refine' ret0 (by with_reducible assumption) _ _ _ ?F ?N
    case F => with_reducible assumption
    case N => refine' cb_drop ?h ?i; (case h => with_reducible assumption); (case i => ktr_rel)
end
end Mine


theorem Mine.rows_50_plain : True := by
  k_with "call ref" => (k_here; (with_reducible show wpAny _ _ (call (Value.ref 402) _) _ _ _); k_dflt (refine' Mine.c_match_at (by (k_asm)) (by (k_asm)) (by (k_asm)) (Mine.pick3 (by (k_asm)) (by (tb_start)) (by (tb_start)) (by (tb_start))) (by (k_ne)) (by (k_ne)) (by (k_all)) (by (k_asm)) (by (first | exact rfl | assumption)) (by (k_room)) (by (ke_room)) (by (omega)) (by (omega)) (by (omega)) (by (omega)) (by (omega)) (by (omega)) (fun hc' ts' h' tk' F' N' => ?_) (fun hc' D' l' u1' u2' c1' c2' ts' h' tk' F' N' l1 l2 l3 l4 l5 => ?_); all_goals ((try dsimp only); (try k_fold))))
  exact True.intro

namespace Mine
section
variable {prog : Program} {w : World} {p : Program} {loose : List Str} {mean : ExcName → Option Value} {mg mb : Str → Option Value}
    {dp un : Nat} {gd : Option (List Code)} {cn : Str} {cs : Scope} {a : Addr} {ccd : Value} {cl : List (Str × Addr)} {outer : List Env} {A₀ : Around} {base h₀ : Heap} {L : Addr} {m : Str → Option Value} {s : Shared} {Q E : Value → Shared → Prop}
    {S T : Str} {tS t1 t2 : Tok} {c : Nat}
    {hv hl hr hw hs hg : Int} {kv kl kr kw ks kg : Tok} {vA rA gA : Addr} {tl tw ts : Tok} {k : Int} {dx x nd : Addr} {rest : List (Addr × Obj)}
set_option pp.deepTerms false
set_option pp.deepTerms.threshold 4
set_option pp.maxSteps 3000
set_option maxRecDepth 100000 in
set_option maxHeartbeats 8000000 in
theorem c_match_plain
    (B : Below A₀ base outer h₀) (F : Fr h₀ L s.heap m) (X : (Mine.K w.params).In h₀)
    (N : News h₀ L s.heap ((dx, dictOf (hostEs hv hl hr hw hs hg kv kl kr kw ks kg vA rA gA tl tw ts k) 6) :: (x, instObj 215 dx) :: (nd, nodeObj T t1 t2 c) :: rest))
    (hx : x ≠ dx) (hnd : nd ≠ dx) (hrest : ∀ p ∈ rest, p.1 ≠ dx)
    (TT : Top p loose mean mg mb h₀) (hk : cs.kind = .function)
    (hd : dp + 20 < recursionLimit) (hu : un + 300 < cLine) (hS : S.length ≤ 99) (hT : T.length ≤ 100) (hk0 : 0 ≤ k) (hk1 : k < 8000)
    (ret0 : (∀ i : Nat, i ≤ S.length → hit S T i = false) → ∀ k' ts' h' tk', k ≤ k' → k' ≤ k + S.length + 1 → Fr h₀ L h' m →
      News h₀ L h' ((dx, dictOf (hostEs hv hl hr hw hs hg kv kl kr kw ks kg vA rA gA tl tw ts' k') 6) :: (x, instObj 215 dx) :: (nd, nodeObj T t1 t2 c) :: rest) →
      Q .none { s with heap := h', toks := tk' })
    (ret1 : ∀ i : Nat, i ≤ S.length → hit S T i = true → (∀ j : Nat, j < i → hit S T j = false) → ∀ D l u1 u2 c1 c2 k' ts' h' tk', k ≤ k' → k' ≤ k + S.length + 1 → Fr h₀ L h' m →
      News h₀ L h' ((D, ({ cls := .type "tuple", data := .seq #[.int i u1, .int (i + (T.length : Int)) u2, .ref l] c1 } : Obj)) :: (l, W.listOf #[] c2) ::
        (dx, dictOf (hostEs hv hl hr hw hs hg kv kl kr kw ks kg vA rA gA tl tw ts' k') 6) :: (x, instObj 215 dx) :: (nd, nodeObj T t1 t2 c) :: rest) →
      @LT.lt Nat _ l D → @LT.lt Nat _ dx l → @LT.lt Nat _ x l → @LT.lt Nat _ nd l → AllLt l rest →
      Q (.ref D) { s with heap := h', toks := tk' }) :
    wpAny (model prog w) (ktrTop dp un gd cn cs L a ccd cl outer) (call (.ref 395) [.ref nd, .str S tS, .bool false, .ref x]) Q E s := by
  k_with "pyIter ref" => k_state (fun pre n => n = k + pre.length ∧ ∀ i : Nat, i < pre.length → hit S T i = false) "host.steps"
  k_with "state" => exact Mine.plain_state (by assumption) (by assumption) (by assumption) (by assumption)
  refine wpAny_call ?_
  k_dflt ktr_enter
  k_steps
  · obtain rfl : kN = (kPre.length : Int) := by omega
    refine' ret1 _ ?zi (hit_of (by with_reducible assumption) (by with_reducible assumption)) (by assumption) _ _ _ _ _ _ _ _ _ _ ?zp ?zq ?zF ?zN ?za ?zb ?zc ?zd ?ze
    case zF => with_reducible assumption
    case zN => refine' cb_drop ?zh ?zs; (case zh => with_reducible assumption); (case zs => ktr_rel)
    case zi => omega
    case zp => omega
    case zq => omega
    case za => assumption
    case zb => assumption
    case zc => assumption
    case zd => assumption
    case ze => exact allLt_app (by assumption)
  · simp only [rangeKs_length] at *
    refine' ret0 ?zi _ _ _ _ ?zp ?zq ?zF ?zN
    case zF => with_reducible assumption
    case zN => refine' cb_drop ?zh ?zs; (case zh => with_reducible assumption); (case zs => ktr_rel)
    case zi => intro i hi; apply (by assumption : ∀ i : Nat, i < _ → hit S T i = false); omega
    case zp => omega
    case zq => omega
end
end Mine

local macro_rules | `(tactic| walk_at "pyIter ref") => `(tactic| (k_here; (with_reducible show wpAny _ _ (pyIter (Value.ref _)) (fun it s₂ => TurnsAt _ _ _ _ _ _ _ _ _ it s₂) _ _); k_dflt (refine' Mine.my_iter_nil ?hh ?F ?N ?hm (fun h' tk' F' N' => ?_); (case hh => exact rfl); (case F => k_asm); (case N => k_asm); (case hm => k_mem); all_goals ((try dsimp only); (try k_fold)))))

theorem Mine.rows_60_once : True := by
  k_with "call ref" => (k_here; (with_reducible show wpAny _ _ (call (Value.ref 395) _) _ _ _); k_dflt (refine' Mine.c_match_plain (by (k_asm)) (by (k_asm)) (by (k_asm)) (Mine.pick3 (by (k_asm)) (by (tb_start)) (by (tb_start)) (by (tb_start))) (by (k_ne)) (by (k_ne)) (by (k_all)) (by (k_asm)) (by (first | exact rfl | assumption)) (by (k_room)) (by (ke_room)) (by (omega)) (by (omega)) (by (omega)) (by (omega)) (fun hz' k' ts' h' tk' kl1' kl2' F' N' => ?_) (fun i' hi' hh' hz' D' l' u1' u2' c1' c2' k' ts' h' tk' kl1' kl2' F' N' l1 l2 l3 l4 l5 => ?_); all_goals ((try dsimp only); (try k_fold))))
  k_with "callWith ref" => (k_here; k_dflt (refine' callWith_F (by (exact FnAt.of (by k_asm) (by k_mem))) ?_; k_whole))
  k_with "call ref" => (k_here; ((rename Mine.LamOK _ _ _ _ _ _ _ _ _ _ _ => hLam9); k_dflt (refine' Mine.lam_use hLam9 (by (k_asm)) (by (k_asm)) (by (k_asm)) (by (k_asm)) (by ((repeat (first | with_reducible assumption | refine Mine.sub_tail ?_)))) (by (k_asm)) (by (first | exact rfl | assumption)) (by (k_room)) (by (ke_room)) (fun t' h' tk' F' N' => ?_); all_goals ((try dsimp only); (try k_fold)))))
  k_with "exec For Tuple Subscript cons nil" => (k_here; (rename Fr _ _ _ _ => lF'); (with_unfolding_all refine' For_turns lF' ?_; k_whole))
  exact True.intro

namespace Mine
section
variable {prog : Program} {w : World} {p : Program} {loose : List Str} {mean : ExcName → Option Value} {mg mb : Str → Option Value}
    {dp un : Nat} {gd : Option (List Code)} {cn : Str} {cs : Scope} {a : Addr} {ccd : Value} {cl : List (Str × Addr)} {outer : List Env} {A₀ : Around} {base h₀ : Heap} {L : Addr} {m : Str → Option Value} {s : Shared} {Q E : Value → Shared → Prop}
    {S T R : Str} {tS t1 t2 : Tok} {c : Nat}
    {hv hl hr hw hs hg : Int} {kv kl kr kw ks kg : Tok} {vA rA gA : Addr} {tl tw ts : Tok} {k : Int} {dx x nd lm : Addr} {rest ls : List (Addr × Obj)} {oc : Value} {od : Option Addr} {fd : FuncData} {sl : Array (Option Value)}
set_option pp.deepTerms false
set_option pp.deepTerms.threshold 4
set_option pp.maxSteps 3000
set_option maxRecDepth 100000 in
set_option maxHeartbeats 8000000 in
theorem c_once
    (B : Below A₀ base outer h₀) (F : Fr h₀ L s.heap m) (X : (Mine.K w.params).In h₀)
    (N : News h₀ L s.heap ((dx, dictOf (hostEs hv hl hr hw hs hg kv kl kr kw ks kg vA rA gA tl tw ts k) 6) :: (x, instObj 215 dx) :: (nd, nodeObj T t1 t2 c) :: (lm, (⟨oc, od, .func fd, sl⟩ : Obj)) :: rest))
    (hx : x ≠ dx) (hnd : nd ≠ dx) (hlm : lm ≠ dx) (hrest : ∀ p ∈ rest, p.1 ≠ dx)
    (hL : LamOK prog w (Mine.K w.params) p loose mean mg mb lm ls R) (hls : ∀ p ∈ ls, p ∈ (lm, (⟨oc, od, .func fd, sl⟩ : Obj)) :: rest)
    (TT : Top p loose mean mg mb h₀) (hk : cs.kind = .function)
    (hd : dp + 30 < recursionLimit) (hu : un + 400 < cLine) (hS : S.length ≤ 99) (hT : T.length ≤ 100) (hR : R.length ≤ 100) (hk0 : 0 ≤ k) (hk1 : k < 8000)
    (ret0 : (∀ i : Nat, i ≤ S.length → hit S T i = false) → ∀ k' ts' h' tk', k ≤ k' → k' ≤ k + S.length + 1 → Fr h₀ L h' m →
      News h₀ L h' ((dx, dictOf (hostEs hv hl hr hw hs hg kv kl kr kw ks kg vA rA gA tl tw ts' k') 6) :: (x, instObj 215 dx) :: (nd, nodeObj T t1 t2 c) :: (lm, (⟨oc, od, .func fd, sl⟩ : Obj)) :: rest) →
      Q .none { s with heap := h', toks := tk' })
    (ret1 : ∀ i : Nat, i ≤ S.length → hit S T i = true → (∀ j : Nat, j < i → hit S T j = false) → ∀ u k' ts' h' tk', k ≤ k' → k' ≤ k + S.length + 1 → Fr h₀ L h' m →
      News h₀ L h' ((dx, dictOf (hostEs hv hl hr hw hs hg kv kl kr kw ks kg vA rA gA tl tw ts' k') 6) :: (x, instObj 215 dx) :: (nd, nodeObj T t1 t2 c) :: (lm, (⟨oc, od, .func fd, sl⟩ : Obj)) :: rest) →
      Q (.str (onceAt S T R i) u) { s with heap := h', toks := tk' }) :
    wpAny (model prog w) (ktrTop dp un gd cn cs L a ccd cl outer) (call (.ref 42) [.ref 395, .ref nd, .str S tS, .bool false, .ref x, .ref lm]) Q E s := by
  refine wpAny_call ?_
  k_dflt ktr_enter
  k_steps
  · refine' ret0 (by with_reducible assumption) _ _ _ _ (by with_reducible assumption) (by with_reducible assumption) ?zF ?zN
    case zF => with_reducible assumption
    case zN => refine' cb_drop ?zh ?zs; (case zh => with_reducible assumption); (case zs => ktr_rel)
  · refine' ret1 _ ?zi (by with_reducible assumption) (by with_reducible assumption) _ _ _ _ _ (by with_reducible assumption) (by with_reducible assumption) ?zF ?zN
    case zF => with_reducible assumption
    case zN => refine' cb_drop ?zh ?zs; (case zh => with_reducible assumption); (case zs => ktr_rel)
    case zi => with_reducible assumption
end
end Mine

local macro_rules | `(tactic| tb_rel) => `(tactic| (refine Mine.mem_grow (by assumption) (by with_reducible assumption) ?_; intro p9 hp9; repeat (first | exact hp9 | exact Mine.mem_app_left hp9 | refine List.Mem.tail _ ?_)))

theorem Mine.rows_70_often : True := by
  k_with "call ref" => (k_here; (with_reducible show wpAny _ _ (call (Value.ref 42) _) _ _ _); (rename Mine.OInv _ _ _ _ _ _ _ _ => hI9); (have hB9 := Mine.OInv.bounds hI9 (by assumption)); k_dflt (refine' Mine.c_once (by (k_asm)) (by (k_asm)) (by (k_asm)) (Mine.pick4 (by (k_asm)) (by (tb_start)) (by (tb_start)) (by (tb_start)) (by (tb_start))) (by (k_ne)) (by (k_ne)) (by (k_ne)) (by (k_all)) (by (with_reducible assumption)) (by ((intro q9 hq9; tb_rel))) (by (k_asm)) (by (first | exact rfl | assumption)) (by (k_room)) (by (ke_room)) (by (omega)) (by (omega)) (by (omega)) (by (omega)) (by (omega)) (fun hz' k' ts' h' tk' kl1' kl2' F' N' => ?_) (fun i' hi' hh' hz' u' k' ts' h' tk' kl1' kl2' F' N' => ?_); all_goals ((try dsimp only); (try k_fold))))
  exact True.intro

namespace Mine
section
variable {prog : Program} {w : World} {p : Program} {loose : List Str} {mean : ExcName → Option Value} {mg mb : Str → Option Value}
    {dp un : Nat} {gd : Option (List Code)} {cn : Str} {cs : Scope} {a : Addr} {ccd : Value} {cl : List (Str × Addr)} {outer : List Env} {A₀ : Around} {base h₀ : Heap} {L : Addr} {m : Str → Option Value} {s : Shared} {Q E : Value → Shared → Prop}
    {S T R : Str} {most : Int} {tS tm t1 t2 : Tok} {c : Nat}
    {hv hl hr hw hs hg : Int} {kv kl kr kw ks kg : Tok} {vA rA gA : Addr} {tl tw ts : Tok} {k : Int} {dx x nd lm : Addr} {rest ls : List (Addr × Obj)} {oc : Value} {od : Option Addr} {fd : FuncData} {sl : Array (Option Value)}
set_option pp.deepTerms false
set_option pp.deepTerms.threshold 4
set_option pp.maxSteps 3000
set_option maxRecDepth 100000 in
set_option maxHeartbeats 8000000 in
theorem c_often
    (B : Below A₀ base outer h₀) (F : Fr h₀ L s.heap m) (X : (Mine.K w.params).In h₀)
    (N : News h₀ L s.heap ((dx, dictOf (hostEs hv hl hr hw hs hg kv kl kr kw ks kg vA rA gA tl tw ts k) 6) :: (x, instObj 215 dx) :: (nd, nodeObj T t1 t2 c) :: (lm, (⟨oc, od, .func fd, sl⟩ : Obj)) :: rest))
    (hx : x ≠ dx) (hnd : nd ≠ dx) (hlm : lm ≠ dx) (hrest : ∀ p ∈ rest, p.1 ≠ dx)
    (hL : LamOK prog w (Mine.K w.params) p loose mean mg mb lm ls R) (hls : ∀ p ∈ ls, p ∈ (lm, (⟨oc, od, .func fd, sl⟩ : Obj)) :: rest)
    (TT : Top p loose mean mg mb h₀) (hk : cs.kind = .function)
    (hd : dp + 40 < recursionLimit) (hu : un + 500 < cLine) (hS : (S.length : Int) + 2 * most ≤ 99) (hT : T.length ≤ 100) (hR : R.length ≤ 2) (hm0 : 0 ≤ most) (hk0 : 0 ≤ k) (hk1 : k < 100)
    (ret : ∀ S' (j : Int), often T R most.toNat S = (S', j.toNat) → 0 ≤ j → j ≤ most → S'.length ≤ 99 → ∀ D u1 u2 c1 k' ts' h' tk', Fr h₀ L h' m →
      News h₀ L h' ((D, ({ cls := .type "tuple", data := .seq #[.str S' u1, .int j u2] c1 } : Obj)) :: (dx, dictOf (hostEs hv hl hr hw hs hg kv kl kr kw ks kg vA rA gA tl tw ts' k') 6) :: (x, instObj 215 dx) :: (nd, nodeObj T t1 t2 c) :: (lm, (⟨oc, od, .func fd, sl⟩ : Obj)) :: rest) →
      @LT.lt Nat _ dx D → @LT.lt Nat _ x D → @LT.lt Nat _ nd D → @LT.lt Nat _ lm D → AllLt D rest →
      Q (.ref D) { s with heap := h', toks := tk' }) :
    wpAny (model prog w) (ktrTop dp un gd cn cs L a ccd cl outer) (call (.ref 49) [.ref 395, .ref nd, .str S tS, .bool false, .ref x, .ref lm, .int most tm]) Q E s := by
  k_with "exec While Compare cons nil" => k_while_given [] (fun _ S1 j n => OInv T R S most k S1 j n) (fun _ S1 j n => (most - j).toNat) "subject" "many" "host.steps"
  k_with "state" => first | exact Mine.OInv.start (by assumption) | exact Mine.OInv.next (by with_reducible assumption) (by with_reducible assumption) (by with_reducible assumption) (by omega) (by with_reducible assumption) (by with_reducible assumption) (by with_reducible assumption) (by with_reducible assumption) (by with_reducible assumption)
  refine wpAny_call ?_
  k_dflt ktr_enter
  k_steps
  · rename OInv _ _ _ _ _ _ _ _ => hI
    have hB := hI.bounds hS
    refine' ret _ _ (hI.stop (by with_reducible assumption)) hB.1 hB.2.1 hB.2.2.1 _ _ _ _ _ _ _ _ ?zF ?zN ?za ?zb ?zc ?zd ?ze
    case zF => with_reducible assumption
    case zN => refine' cb_drop ?zh ?zs; (case zh => with_reducible assumption); (case zs => ktr_rel)
    case za => omega
    case zb => omega
    case zc => omega
    case zd => omega
    case ze => simp only [*]
  · rename OInv _ _ _ _ _ _ _ _ => hI
    have hB := hI.bounds hS
    refine' ret _ _ (hI.full (by omega)) hB.1 hB.2.1 hB.2.2.1 _ _ _ _ _ _ _ _ ?zF ?zN ?za ?zb ?zc ?zd ?ze
    case zF => with_reducible assumption
    case zN => refine' cb_drop ?zh ?zs; (case zh => with_reducible assumption); (case zs => ktr_rel)
    case za => omega
    case zb => omega
    case zc => omega
    case zd => omega
    case ze => simp only [*]
end
end Mine

local macro_rules | `(tactic| walk_at "pyIter ref") => `(tactic| (k_here; (with_reducible show wpAny _ _ _ (fun it s₂ => PairAt3 _ _ _ _ _ _ _ _ _ _ it s₂) _ _); (rename PairSrcL _ _ _ _ _ _ _ _ _ _ _ _ => hS9); k_dflt (refine' Mine.my_pair2 hS9 (a0 := Str.ofString "[") (r := ([] : List Str)) ?hs (fun t' u' h' tk' own' off' F' N' mk' => ?_); (case hs => exact rfl)); (try simp only [List.cons_append] at N'); (try dsimp only); (try k_fold)))
local macro_rules | `(tactic| tb_rel) => `(tactic| first | exact Mine.Keep.base | (apply Mine.Keep.keep; tb_rel) | (apply Mine.Keep.drop; tb_rel))

theorem Mine.rows_79_repl : True := by
  k_with "PPost" => (k_dflt (refine' Mine.my_pnext (by (k_asm)) (by (k_asm)) (by (tb_rel)) ?_); first | (refine' Mine.my_prest1 (fun t' u' h' tk' own' off' F' N' mk' => ?_); (try simp only [List.cons_append] at N'); (try dsimp only); (try k_fold)) | (refine' Mine.my_prest0 (fun h' tk' F' N' => ?_); (try dsimp only); (try k_fold)))
  k_with "eval ListComp" => (k_here; (with_reducible show wpAny _ _ (eval (Expr.ListComp (Expr.Call (Expr.Attribute (Expr.Name _ _) _ _) _ _ _) _ _ _) _) _ _ _); k_dflt (refine Mine.comp_str (_F₀ := by k_asm) (by with_unfolding_all rfl) (by decide) (by rfl) (by decide) (by rfl) ?_))
  k_with "CSrc" => (k_here; k_dflt (refine' Mine.csrc_map (Mine.swapSign (Str.ofString "[") (Str.ofString "(") (Str.ofString "[") (Str.ofString "(")) (by (exact rfl)) (by (k_asm)) (by (k_asm)) (by (size_fits)) (fun c' u' I' oI' C' oC' D' m' ys' h' tk' E' hcm' hC' hx' F' N' off' ne' => ?_) (fun ys' D' h' tk' hys' F' N' o1' => ?_)); all_goals ((try dsimp only); (try k_fold)))
  k_with "call builtin:str.join" => (k_here; k_dflt (refine' Mine.my_join (by (k_asm)) (by (k_mem)) (by (with_reducible assumption)) (by (decide +kernel)) (by (decide +kernel)) (by (omega)) (fun t' k' => ?_)); (try dsimp only))
  k_with "CompEnd" => (k_dflt (refine' LCg.CompEnd.intro (by (k_asm)) (by (k_asm)) _ (by (ktr_rel)) (by (with_reducible assumption)) trivial ⟨rfl, Mine.repl_val1 ?xe ?v⟩; (case v => with_reducible assumption); (case xe => decide +kernel)))
  k_with "leaving" => (exfalso; (have hl9 : (Str.ofString "(").length = 1 := by decide +kernel); omega)
  exact True.intro

namespace Mine
section
variable {prog : Program} {w : World} {p : Program} {loose : List Str} {mean : ExcName → Option Value} {mg mb : Str → Option Value}
    {dp un : Nat} {gd : Option (List Code)} {cn : Str} {cs : Scope} {a : Addr} {ccd : Value} {cl : List (Str × Addr)} {outer : List Env} {A₀ : Around} {base h₀ : Heap} {L : Addr} {m : Str → Option Value} {s : Shared} {Q E : Value → Shared → Prop}
    {M : Str} {wd : Value} {tS t1 t2 : Tok} {c : Nat} {al : Addr} {rest : List (Addr × Obj)}
set_option pp.deepTerms false
set_option pp.deepTerms.threshold 4
set_option pp.maxSteps 3000
set_option maxRecDepth 100000 in
set_option maxHeartbeats 8000000 in
theorem c_repl
    (B : Below A₀ base outer h₀) (F : Fr h₀ L s.heap m) (X : (Mine.K w.params).In h₀)
    (N : News h₀ L s.heap ((al, W.listOf #[.str M tS, .str (Str.ofString "[") t1, .str (Str.ofString "(") t2] c) :: rest))
    (TT : Top p loose mean mg mb h₀) (hk : cs.kind = .function)
    (hd : dp + 40 < recursionLimit) (hu : un + 500 < cLine) (hM : M.length ≤ 99)
    (ret : ∀ u h' tk', Fr h₀ L h' m → News h₀ L h' ((al, W.listOf #[.str M tS, .str (Str.ofString "[") t1, .str (Str.ofString "(") t2] c) :: rest) → Q (.str (replStr (Str.ofString "[") (Str.ofString "(") (Str.ofString "[") (Str.ofString "(") M) u) { s with heap := h', toks := tk' }) :
    wpAny (model prog w) (ktrTop dp un gd cn cs L a ccd cl outer) (call (.ref 238) [wd, .ref al]) Q E s := by
  refine wpAny_call ?_
  k_dflt ktr_enter
  k_steps
  · refine' ret _ _ _ ?zF ?zN
    case zF => with_reducible assumption
    case zN => refine' cb_drop ?zh ?zs; (case zh => with_reducible assumption); (case zs => ktr_rel)
end
end Mine

namespace Mine
section
variable {prog : Program} {w : World} {A : Around} {E : Value → Shared → Prop} {s : Shared} {h₀ : Heap} {L : Addr} {m : Str → Option Value} {env : Env}
theorem strs_at {vs : List Value} {xs : List Str} (hi : StrsAre vs xs) : ∀ (i : Nat) (v : Value), vs[i]? = some v → ∃ y u, xs[i]? = some y ∧ v = .str y u := by
  induction hi with
  | nil => intro i v h; simp at h
  | cons x t hr ih =>
    intro i v h
    cases i with
    | zero => simp at h; exact ⟨_, _, rfl, h.symm⟩
    | succ i => exact ih i v (by simpa using h)
theorem strs_len {vs : List Value} {xs : List Str} (hi : StrsAre vs xs) : vs.length = xs.length := by
  induction hi with
  | nil => rfl
  | cons x t hr ih => simp [ih]
theorem ints_snoc {ys : List Value} {ns : List Int} (h : IntsAre ys ns) (n : Int) (t : Tok) : IntsAre (ys ++ [.int n t]) (ns ++ [n]) := by
  induction h with
  | nil => exact IntsAre.cons _ _ IntsAre.nil
  | cons x u hr ih => exact IntsAre.cons _ _ ih
theorem lens_src {elt : Expr} {x : Str} {scope : Scope} {cl : List (Str × Addr)} {Q : Value → Shared → Prop} {ax : Addr} {vs : List Value} {xs : List Str} {k : Nat} {news : List (Addr × Obj)} {s₁ : Shared} (g : Str → Int)
    (hh : A.handled = none) (F : Fr h₀ L s₁.heap m) (N : News h₀ L s₁.heap news) (hm : (ax, W.listOf vs.toArray k) ∈ news) (hi : StrsAre vs xs) (hsz : xs.length ≤ sizeLine)
    (turn : ∀ (y : Str) u I oI C oC D m₂ ys h tk (E' : Value → Shared → Prop), y ∈ xs → LCg.NsObj oC m₂ → m₂ x = some (.str y u) → Fr h₀ L h m → News h₀ L h ((I, oI) :: (C, oC) :: (D, LCg.lst ys) :: news) → LCg.Off3 I C D news → ((@Ne Nat I C) ∧ (@Ne Nat I D) ∧ (@Ne Nat C D)) →
      wpAny (model prog w) A (eval elt (compEnvC scope cl C env)) (LCg.CompEnd h₀ L m { s₁ with heap := h, toks := tk } I oI C oC D (LCg.lst ys) (fun _ => True) (fun z news' => news' = news ∧ ∃ t', z = .int (g y) t')) E' { s₁ with heap := h, toks := tk })
    (fin : ∀ ys D h tk, IntsAre ys (xs.map g) → Fr h₀ L h m → News h₀ L h ((D, LCg.lst ys) :: news) → LCg.Off1 D news → Q (.ref D) { s₁ with heap := h, toks := tk }) :
    LCg.CompSrc prog w A h₀ L m env elt x scope cl (fun s₂ => LCg.FinE h₀ L m s₂ Q) (.ref ax) s₁ := by
  refine LCg.CompSrc.ledger hh F N hm (by rw [List.size_toArray, strs_len hi]; exact hsz) fun g0 => ?_
  have key : ∀ (j i : Nat) (ys : List Value), i + j = xs.length → IntsAre ys ((xs.take i).map g) → LCg.CompRest prog w A h₀ L m env elt x scope cl { s₁ with heap := g0 } (LCg.SrcAt h₀ ax vs.toArray) (fun i v => vs.toArray[i]? = some v) (LCg.FinE h₀ L m { s₁ with heap := g0 } Q) j i ys news := by
    intro j
    induction j with
    | zero =>
      intro i ys hi' hy
      rw [show i = xs.length by omega, List.take_length] at hy
      exact LCg.CompRest.zero fun D h tk F' N' o1 => fin ys D h tk hy F' N' o1
    | succ j ih =>
      intro i ys hi' hy
      refine LCg.CompRest.succ ?_
      intro v I oI C oC D m₂ h tk E' hv hC hx F N off ne
      obtain ⟨y, u, hy1, rfl⟩ := strs_at hi i v (by simpa using hv)
      have hmem : y ∈ xs := List.mem_of_getElem? hy1
      refine wpAny_mono (turn y u I oI C oC D m₂ ys h tk E' hmem hC hx F N off ne) (fun z s₂ hq => ?_) fun _ _ e => e
      obtain ⟨h', tk', nw, e, F', N', off', hS, hn, t', rfl⟩ := hq
      subst hn
      refine ⟨h', tk', nw, e, F', N', off', .inr ⟨_, hm, rfl, _, rfl⟩, ih (i + 1) _ (by omega) ?_⟩
      rw [List.take_add_one, hy1]
      simpa using ints_snoc hy (g y) t'
  have e : vs.toArray.size = xs.length := by rw [List.size_toArray, strs_len hi]
  rw [e]
  exact key _ 0 [] (by omega) (by simp only [List.take_zero, List.map_nil]; exact .nil)
end
def parts (H : Str) : List Str := Txt.split (Txt.slice H (some 1) (some (-1))) (Str.ofString ")(")
def sizesOf (H : Str) : List Int := (parts H).map fun x => (x.length : Int)
theorem slice_mid (x : Str) : Txt.slice x (some 1) (some (-1)) = mk (((tk x).drop 1).take (x.length - 2)) := by
  by_cases h : x.length = 0
  · rw [slice_nat (a := 0) (b := 0) (by
      unfold Builtin.Str.strSliceIndices
      simp only [h, show (1 : Int) > 0 by decide, if_true, if_pos (show (-1 : Int) < 0 by decide), if_neg (show ¬ ((1 : Int) < 0) by decide)]
      rfl) (by omega), h]
    simp
  · rw [slice_nat (a := 1) (b := x.length - 1) (by
      unfold Builtin.Str.strSliceIndices
      simp only [show (1 : Int) > 0 by decide, if_true, if_pos (show (-1 : Int) < 0 by decide), if_neg (show ¬ ((1 : Int) < 0) by decide)]
      congr 1 <;> omega) (by omega), show x.length - 1 - 1 = x.length - 2 by omega]
theorem mid_len (x : Str) : (Txt.slice x (some 1) (some (-1))).length ≤ x.length := by
  rw [slice_mid]
  show (((tk x).drop 1).take (x.length - 2)).length ≤ x.length
  rw [List.length_take]
  omega
theorem parts_short {H y : Str} (hH : H.length ≤ 99) (h : y ∈ parts H) : y.length ≤ 99 := by
  have h1 := part_short h
  have h2 := mid_len H
  omega
theorem parts_len {H : Str} (hH : H.length ≤ 99) : (parts H).length ≤ 101 := by
  have h1 := (fact_split (Txt.slice H (some 1) (some (-1))) (Str.ofString ")(")).2
  have h2 := mid_len H
  unfold parts
  omega
theorem parts_pos (H : Str) : 1 ≤ (parts H).length := (fact_split (Txt.slice H (some 1) (some (-1))) (Str.ofString ")(")).1
theorem off1_all {D : Addr} : ∀ {l : List (Addr × Obj)}, LCg.Off1 D l → ∀ p ∈ l, p.1 ≠ D
  | [], _, _, h => nomatch h
  | q :: r, o, p, h => by
    rcases List.mem_cons.mp h with rfl | h
    · exact o.1
    · exact off1_all o.2 p h
end Mine


theorem Mine.rows_82_sizes : True := by
  k_with "call builtin:str.split" => (k_here; (with_reducible show wpAny _ _ (call (Value.builtin "str.split") [Value.str _ _, Value.str _ _]) _ _ _); (refine KSpl.split1 (by k_asm) (by k_asm) (by decide +kernel) ?_ (by rw [PySem.sizeLine_eq]; omega)); intro D' l' h' k' e' a' F' N' l1; (try k_lt l1); (rw [e'] at a'); (clear e'))
  k_with "eval ListComp" => (k_here; (with_reducible show wpAny _ _ (eval (Expr.ListComp (Expr.Call (Expr.Name _ _) _ _ _) _ _ _) _) _ _ _); k_dflt (refine LCg.ListComp_U (F₀ := by k_asm) (by with_unfolding_all rfl) (by decide) (by rfl) (by decide) (by rfl) ?_))
  k_with "CompSrc" => (k_here; k_dflt (refine' Mine.lens_src (fun x => (x.length : Int)) (by (exact rfl)) (by (k_asm)) (by (k_asm)) (by (k_mem)) (by (with_reducible assumption)) (by ((rw [PySem.sizeLine_eq]; exact Nat.le_trans (Mine.parts_len (by with_reducible assumption)) (by decide)))) (fun y' u' I' oI' C' oC' D' m' ys' h' tk' E' hcm' hC' hx' F' N' off' ne' => ?_) (fun ys' D' h' tk' hys' F' N' o1' => ?_)); all_goals ((try dsimp only); (try k_fold)); (try (have hy9 := Mine.parts_short (by with_reducible assumption) hcm')))
  k_with "CompEnd" => (k_dflt (refine' LCg.CompEnd.intro (by (k_asm)) (by (k_asm)) _ (by (ktr_rel)) (by (with_reducible assumption)) trivial ⟨rfl, _, rfl⟩))
  exact True.intro

namespace Mine
section
variable {prog : Program} {w : World} {p : Program} {loose : List Str} {mean : ExcName → Option Value} {mg mb : Str → Option Value}
    {dp un : Nat} {gd : Option (List Code)} {cn : Str} {cs : Scope} {a : Addr} {ccd : Value} {cl : List (Str × Addr)} {outer : List Env} {A₀ : Around} {base h₀ : Heap} {L : Addr} {m : Str → Option Value} {s : Shared} {Q E : Value → Shared → Prop}
    {H : Str} {tS : Tok} {rest : List (Addr × Obj)}
set_option pp.deepTerms false
set_option pp.deepTerms.threshold 4
set_option pp.maxSteps 3000
set_option maxRecDepth 100000 in
set_option maxHeartbeats 8000000 in
theorem c_sizes
    (B : Below A₀ base outer h₀) (F : Fr h₀ L s.heap m) (X : (Mine.K w.params).In h₀)
    (N : News h₀ L s.heap rest)
    (TT : Top p loose mean mg mb h₀) (hk : cs.kind = .function)
    (hd : dp + 40 < recursionLimit) (hu : un + 500 < cLine) (hH : H.length ≤ 99)
    (ret : ∀ D ys c h' tk', IntsAre ys (sizesOf H) → Fr h₀ L h' m → News h₀ L h' ((D, W.listOf ys.toArray c) :: rest) → (∀ p ∈ rest, p.1 ≠ D) → Q (.ref D) { s with heap := h', toks := tk' }) :
    wpAny (model prog w) (ktrTop dp un gd cn cs L a ccd cl outer) (call (.ref 471) [.str H tS]) Q E s := by
  refine wpAny_call ?_
  k_dflt ktr_enter
  k_steps
  · refine' ret _ _ _ _ _ ?zI ?zF ?zN ?za
    case zI => rename IntsAre _ _ => hI; exact hI
    case zF => with_reducible assumption
    case zN => refine' cb_drop ?zh ?zs; (case zh => with_reducible assumption); (case zs => ktr_rel)
    case za => rename LCg.Off1 _ _ => hO; exact fun p hp => Mine.off1_all hO p (List.Mem.tail _ hp)
end
end Mine

namespace Mine
section
variable {prog : Program} {w : World} {p : Program} {loose : List Str} {mean : ExcName → Option Value} {mg mb : Str → Option Value}
    {dp un : Nat} {gd : Option (List Code)} {cn : Str} {cs : Scope} {a : Addr} {ccd : Value} {cl : List (Str × Addr)} {outer : List Env} {A₀ : Around} {base h₀ : Heap} {L : Addr} {m : Str → Option Value} {s : Shared} {Q E : Value → Shared → Prop}
    {rest : List (Addr × Obj)} {vA rA : Addr} {tl : Tok}
set_option pp.deepTerms false
set_option pp.deepTerms.threshold 4
set_option pp.maxSteps 3000
set_option maxRecDepth 100000 in
set_option maxHeartbeats 8000000 in
theorem c_host
    (B : Below A₀ base outer h₀) (F : Fr h₀ L s.heap m) (X : (Mine.K w.params).In h₀)
    (N : News h₀ L s.heap rest)
    (TT : Top p loose mean mg mb h₀) (hk : cs.kind = .function)
    (hd : dp + 40 < recursionLimit) (_hu : un + 500 < cLine)
    (ret : ∀ x dx gA hv hl hr hw hs hg kv kl kr kw ks kg tw ts h' tk', Fr h₀ L h' m → News h₀ L h' ((dx, dictOf (hostEs hv hl hr hw hs hg kv kl kr kw ks kg vA rA gA tl tw ts 0) 6) :: (x, instObj 215 dx) :: rest) →
      (∀ p ∈ rest, p.1 < dx) → @LT.lt Nat _ dx x → Q (.ref x) { s with heap := h', toks := tk' }) :
    wpAny (model prog w) (ktrTop dp un gd cn cs L a ccd cl outer) (call (.ref 215) [.ref vA, .int 9999 tl, .ref rA]) Q E s := by
  k_dflt (refine' call_cls ?k1 ?k2 ?k3 ?k4 ?k5 ?k6 ?_; (case k1 => k_asm); (case k2 => k_asm); (case k3 => k_asm); (case k4 => k_is); (case k5 => k_is); (case k6 => k_is); k_whole; intro x' d' h' F' N' l1 l2; (try k_lt l1); (try k_lt2 l2); (try k_sweep))
  k_dflt (refine' code_def ?k1 ?k2 ?k3 ?k4 ?k5 ?kA ?kF ?kK ?k6 ?k7 ?k8 ?k9 ?kB ?_ ?c2 ?c3 ?c4 ?c5; (case kA => exact rfl); (case kF => exact rfl); (case kK => assumption); (case k1 => k_asm); (case k2 => k_asm); (case k3 => k_asm); (case k4 => k_asm); (case k5 => k_asm); (case k6 => k_is); (case k7 => k_is); (case k8 => k_room); (case k9 => exact BindsTo.of_eq rfl); (case c5 => decide); (case kB => exact locs rfl); (case c2 => exact rfl); (case c3 => exact rfl); (case c4 => exact rfl); k_whole; intro g' L' h' FG' F' N' B' X' T'; (try dsimp only); (try k_fold))
  k_steps
  · refine' ret _ _ _ _ _ _ _ _ _ _ _ _ _ _ _ _ _ _ _ ?zF ?zN ?za ?zb
    case zF => with_reducible assumption
    case zN => refine' cb_drop ?zh ?zs; (case zh => with_reducible assumption); (case zs => ktr_rel)
    case za => assumption
    case zb => assumption
end
end Mine

namespace Mine
section
variable {prog : Program} {w : World} {p : Program} {loose : List Str} {mean : ExcName → Option Value} {mg mb : Str → Option Value}
    {dp un : Nat} {gd : Option (List Code)} {cn : Str} {cs : Scope} {a : Addr} {ccd : Value} {cl : List (Str × Addr)} {outer : List Env} {A₀ : Around} {base h₀ : Heap} {L : Addr} {m : Str → Option Value} {s : Shared} {Q E : Value → Shared → Prop}
    {rest : List (Addr × Obj)}
set_option pp.deepTerms false
set_option pp.deepTerms.threshold 4
set_option pp.maxSteps 3000
set_option maxRecDepth 100000 in
set_option maxHeartbeats 8000000 in
theorem c_world
    (B : Below A₀ base outer h₀) (F : Fr h₀ L s.heap m) (X : (Mine.K w.params).In h₀)
    (N : News h₀ L s.heap rest)
    (TT : Top p loose mean mg mb h₀) (hk : cs.kind = .function)
    (hd : dp + 40 < recursionLimit) (hu : un + 500 < cLine)
    (ret : ∀ x h' tk', Fr h₀ L h' m → News h₀ L h' rest → Q (.ref x) { s with heap := h', toks := tk' }) :
    wpAny (model prog w) (ktrTop dp un gd cn cs L a ccd cl outer) (call (.ref 462) []) Q E s := by
  k_dflt (refine' call_cls ?k1 ?k2 ?k3 ?k4 ?k5 ?k6 ?_; (case k1 => k_asm); (case k2 => k_asm); (case k3 => k_asm); (case k4 => k_is); (case k5 => k_is); (case k6 => k_is); k_whole; intro x' d' h' F' N' l1 l2; (try k_lt l1); (try k_lt2 l2); (try k_sweep))
  k_dflt (refine' code_def ?k1 ?k2 ?k3 ?k4 ?k5 ?kA ?kF ?kK ?k6 ?k7 ?k8 ?k9 ?kB ?_ ?c2 ?c3 ?c4 ?c5; (case kA => exact rfl); (case kF => exact rfl); (case kK => assumption); (case k1 => k_asm); (case k2 => k_asm); (case k3 => k_asm); (case k4 => k_asm); (case k5 => k_asm); (case k6 => k_is); (case k7 => k_is); (case k8 => k_room); (case k9 => exact binds_K (by k_in) rfl (by k_is) rfl rfl rfl); (case c5 => decide); (case kB => exact locs rfl); (case c2 => exact rfl); (case c3 => exact rfl); (case c4 => exact rfl); k_whole; intro g' L' h' FG' F' N' B' X' T'; (try dsimp only); (try k_fold))
  k_steps
  · refine' ret _ _ _ ?zF ?zN
    case zF => with_reducible assumption
    case zN => refine' cb_drop ?zh ?zs; (case zh => with_reducible assumption); (case zs => ktr_rel)
end
end Mine

namespace Mine
/-- the table of a def's codes: nothing made yet, or the one code object -/
def TabC (pos : Pos) (qual : Str) (P : Addr) (ps : Array Value) (cs : List (Addr × Obj)) : Prop :=
  (ps = #[] ∧ cs = []) ∨ ∃ c' oc vs t, ps = #[rawInt pos.line, rawInt pos.col, .ref c'] ∧ cs = [(c', oc)] ∧ oc.data = .fields vs ∧ vs[1]? = some (.str qual t) ∧ c' ≠ P
def SubL (a b : List (Addr × Obj)) : Prop := ∀ p ∈ a, p ∈ b
theorem mem_cell {co : Obj} {v : Option Value} {q : Addr} {l : List (Addr × Obj)} (_h : co.data = .cell v) (hm : List.Mem (q, co) l) : (q, co) ∈ l := hm
def AllNe (d : Nat) : List (Addr × Obj) → Prop
  | [] => True
  | p :: r => (@Ne Nat p.1 d) ∧ AllNe d r
theorem allNe_of {d : Addr} {l : List (Addr × Obj)} (h : ∀ p ∈ l, p.1 ≠ d) : AllNe d l := by
  induction l with
  | nil => exact True.intro
  | cons q r ih => exact ⟨h q (List.Mem.head _), ih fun p hp => h p (List.Mem.tail _ hp)⟩
theorem AllNe.all {d : Addr} {l : List (Addr × Obj)} (h : AllNe d l) : ∀ p ∈ l, p.1 ≠ d := by
  induction l with
  | nil => exact fun _ h => nomatch h
  | cons q r ih =>
    intro p hp
    rcases List.mem_cons.mp hp with rfl | hp
    · exact h.1
    · exact ih h.2 p hp
theorem tlC_ne {pos : Pos} {qual : Str} {P : Addr} {ps : Array Value} {tl led : List (Addr × Obj)} {d : Addr} (_hT : TabC pos qual P ps tl) (h : ∀ p ∈ led, p.1 < d) (hs : ∀ p ∈ tl, p ∈ led) : ∀ p ∈ tl, p.1 ≠ d :=
  fun p hp => Nat.ne_of_lt (h p (hs p hp))
theorem my_lamC {M : Model} {A : Around} {E : Value → Shared → Prop} {s : Shared} {h₀ : Heap} {L a c P : Addr} {m mg mb : Str → Option Value} {cn : Str} {cs : Scope} {ccd : Value} {cl : List (Str × Addr)} {led news' tl : List (Addr × Obj)}
    {p : Program} {loose : List Str} {mean : ExcName → Option Value} {name qual : Str} {params : Arguments} {body : Expr} {scope : Scope} {ps : Array Value} {pos : Pos} {firstLine : Nat} {clos : List (Str × Addr)} {d : Addr} {Q : Value → Shared → Prop}
    (F : Fr h₀ L s.heap m) (N : News h₀ L s.heap led) (hpick : Pick P (tabObj ps) led news') (T : Top p loose mean mg mb h₀) (C : CodeHd h₀ c P) (hcd : ccd = .ref c)
    (hne : ∀ q ∈ news', q.1 ≠ P) (hT : TabC pos qual P ps tl) (htl : ∀ p ∈ tl, p ∈ news') {od : Obj} {news2 : List (Addr × Obj)} (hd : Pick d od news' news2) (hdt : ∀ p ∈ tl, p.1 ≠ d)
    (hcl : closureFor scope (envX cn cs L a ccd cl) = pure clos)
    (h : ∀ f c' oc vs t ctv h' tk, Fr h₀ L h' m →
      News h₀ L h' ((f, kla_obj name qual params body scope clos ((mg "__name__").getD .none) c' ctv) :: (c', oc) :: (P, tabObj #[rawInt pos.line, rawInt pos.col, .ref c']) :: news') →
      oc.data = .fields vs → vs[1]? = some (.str qual t) → c' ≠ d → c' ≠ P → (∀ q ∈ news', q.1 < f) → c' < f → P < f → Q (.ref f) { s with heap := h', toks := tk }) :
    wpAny M A (makeFunction name qual params (.expr body) scope (envX cn cs L a ccd cl) [] [] [] pos firstLine) Q E s := by
  have N1 : News h₀ L s.heap ((P, tabObj ps) :: news') := fun q hq => N q (hpick.mem q hq)
  rcases hT with ⟨rfl, rfl⟩ | ⟨c', oc, vs, t, rfl, rfl, h1, h2, h4⟩
  · refine kla_nest F N1 T C hcd (UpdF.head hne) True.intro rfl hcl fun f c' oc vs t ctv h' tk F' N' d1 d2 l1 l2 => ?_
    have q2 : d < c' := l1 _ (List.Mem.tail _ (hd.mem _ (List.Mem.head _)))
    have q3 : P < c' := l1 _ (List.Mem.head _)
    refine h f c' oc vs t ctv h' tk F' N' d1 d2 (Nat.ne_of_gt q2) (Nat.ne_of_gt q3) (fun q hq => Nat.lt_trans (l1 q (List.Mem.tail _ hq)) l2) l2 (Nat.lt_trans q3 l2)
  · have hc := htl _ (List.Mem.head _)
    refine kla_hit F N1 T C hcd (List.Mem.head _) (by simp [TriplesOk, rawInt]) (by show (if ((pos.line : Int) == (pos.line : Int) && (pos.col : Int) == (pos.col : Int)) = true then _ else _) = _; rw [if_pos (by simp)]) hcl fun f ctv h' tk F' N' l1 => ?_
    refine h f c' oc vs t ctv h' tk F' (fun q hq => ?_) h1 h2 (hdt _ (List.Mem.head _)) h4 (fun q hq => l1 q (List.Mem.tail _ hq)) (l1 (c', oc) (List.Mem.tail _ hc)) (l1 _ (List.Mem.head _))
    rcases List.mem_cons.mp hq with rfl | hq
    · exact N' _ (List.Mem.head _)
    · rcases List.mem_cons.mp hq with rfl | hq
      · exact N' _ (List.Mem.tail _ (List.Mem.tail _ hc))
      · rcases List.mem_cons.mp hq with rfl | hq
        · exact N' _ (List.Mem.tail _ (List.Mem.head _))
        · exact N' _ (List.Mem.tail _ (List.Mem.tail _ hq))
set_option pp.deepTerms false
set_option pp.deepTerms.threshold 4
set_option pp.maxSteps 3000
set_option maxRecDepth 100000 in
set_option maxHeartbeats 8000000 in
theorem lam_cell {prog : Program} {w : World} {K : Frag} {p : Program} {loose : List Str} {mean : ExcName → Option Value} {mg mb : Str → Option Value} {f c' q : Addr} {oc co : Obj} {vs : Array Value} {t tR : Tok} {ctv pm : Value} {name qual x y : Str} {params : Arguments} {scope : Scope} {R : Str} {pos : Pos}
    (hoc : oc.data = .fields vs) (hvs : vs[1]? = some (.str qual t)) (hq : co.data = .cell (some (.str R tR)))
    (hbind : ∀ v, bindArgs (kla_fn name qual params (.Name y pos) scope [(y, q)] pm (.ref c') ctv) ⟨[v], []⟩ = pure [(x, v)])
    (hx : scope.names.lookup x = some .local) (hy : scope.names.lookup y = some .free) (hyb : (y == ("__debug__" : Str)) = false) (hyn : (y == ("__classdict__" : Str)) = false) (hco : scope.isCoroutine = false) (hgen : scope.isGenerator = false) (hkk : scope.kind = .function) (hcell : ∀ y ∈ scope.names, y.2 ≠ .cell) :
    LamOK prog w K p loose mean mg mb f [(f, kla_obj name qual params (.Name y pos) scope [(y, q)] pm c' ctv), (c', oc), (q, co)] R := by
  intro dp un gd cn cs a ccd cl outer A₀ base h₀ L m rest s Q E v B F X N T hk hd hu ret
  refine wpAny_call ?_
  refine kla_code B F X N T rfl rfl hk (List.mem_append_left _ (List.Mem.head _)) (codeRec_news N (List.mem_append_left _ (List.Mem.tail _ (List.Mem.head _))) hoc hvs) ?_ (hbind v) (fun y hy => by rw [List.mem_singleton.mp hy]; exact hx) (fun g L' h1 FG F' N' B' X' T' => ?_) hco hgen hkk hcell
  · show dp < recursionLimit
    omega
  (try dsimp only)
  (try k_fold)
  refine nameX_F (o := co) N' (c := q) ?_ ?_ hq ?_ hkk ?_ hyb hyn
  · show List.lookup y [(y, q)] = some q
    simp [List.lookup]
  · exact List.mem_append_left _ (List.Mem.tail _ (List.Mem.tail _ (List.Mem.head _)))
  · k_steps
    exact ret _ _ _ (by with_reducible assumption) (by with_reducible assumption)
  · exact hy
end Mine

local macro_rules | `(tactic| walk_at "call ref") => `(tactic| (k_here; (with_reducible show wpAny _ _ (call (Value.ref 49) _) _ _ _); (with_reducible rename Obj.data _ = Data.cell _ => hc9); k_dflt (refine' Mine.c_often ?B ?F ?X (Mine.pick4 ?N ?P1 ?P2 ?P3 ?P4) ?hx ?hnd ?hlm ?hrest ?hL ?hls ?TT ?hk ?hd ?hu ?hS ?hT ?hR ?hm0 ?hk0 ?hk1 (fun S' j' ho' hj0' hj1' hS' D' u1' u2' c1' k' ts' h' tk' F' N' l1 l2 l3 l4 l5 => ?_); (case B => k_asm); (case F => k_asm); (case X => k_asm); (case N => k_asm); (case P1 => tb_start); (case P2 => tb_start); (case P3 => tb_start); (case P4 => tb_start); (case TT => k_asm); (case hls => exact List.forall_mem_cons.mpr ⟨List.Mem.head _, List.forall_mem_cons.mpr ⟨List.Mem.tail _ (List.Mem.head _), List.forall_mem_cons.mpr ⟨Mine.mem_cell hc9 (List.Mem.tail _ (by k_mem)), List.forall_mem_nil _⟩⟩⟩); (case hL => exact Mine.lam_cell (by with_reducible assumption) (by with_reducible assumption) (by with_reducible assumption) (by intro _; rfl) (by rfl) (by rfl) (by decide) (by decide) (by rfl) (by rfl) (by rfl) (by decide)); (case hx => k_ne); (case hnd => k_ne); (case hlm => k_ne); (case hrest => ((repeat (refine List.forall_mem_cons.mpr ⟨by first | with_reducible assumption | k_ne, ?_⟩)); k_all)); (case hS => with_reducible assumption); (case hT => with_reducible assumption); (case hR => with_reducible assumption); (case hm0 => with_reducible assumption); (case hk0 => decide); (case hk1 => decide); (case hk => first | exact rfl | assumption); (case hd => k_room); (case hu => ke_room); all_goals ((try dsimp only); (try k_fold)))))

theorem Mine.rows_87_marked : True := by
  k_with "call ref" => (k_here; (with_reducible show wpAny _ _ (call (Value.ref 462) _) _ _ _); k_dflt (refine' Mine.c_world (by (k_asm)) (by (k_asm)) (by (k_asm)) (by (k_asm)) (by (k_asm)) (by (first | exact rfl | assumption)) (by (k_room)) (by (ke_room)) (fun x' h' tk' F' N' => ?_); all_goals ((try dsimp only); (try k_fold))))
  k_with "call ref" => (k_here; (with_reducible show wpAny _ _ (call (Value.ref 215) _) _ _ _); (with_reducible rename Mine.TabC _ _ _ _ _ => hT9); (with_reducible rename Mine.SubL _ _ => hs9); k_dflt (refine' Mine.c_host (by (k_asm)) (by (k_asm)) (by (k_asm)) (by (k_asm)) (by (k_asm)) (by (first | exact rfl | assumption)) (by (k_room)) (by (ke_room)) (fun x' d' g' hv' hl' hr' hw' hs' hg' kv' kl' kr' kw' ks' kg' tw' ts' h' tk' F' N' l1' l2' => ?_); all_goals ((try dsimp only); (try k_fold))); k_dflt (have ht9 := Mine.tlC_ne hT9 l1' (by intro p9 hp9; (repeat (first | with_reducible assumption | exact hs9 _ (by with_reducible assumption) | refine List.Mem.tail _ ?_)))); (try k_lt l1'))
  k_with "eval Lambda" => (k_here; k_dflt (refine' kla_eval (by (exact rfl)) ?_); (with_reducible rename Mine.TabC _ _ _ _ _ => hT9); (with_reducible rename Mine.SubL _ _ => hs9); k_dflt (refine' Mine.my_lamC (by (k_asm)) (by (k_asm)) (by (tb_start)) (by (k_asm)) (by (with_reducible assumption)) (by (exact rfl)) (by ((repeat (refine List.forall_mem_cons.mpr ⟨by k_ne, ?_⟩)); with_reducible assumption)) hT9 (by ((intro p9 hp9; (repeat (first | with_reducible assumption | exact hs9 _ (by with_reducible assumption) | refine List.Mem.tail _ ?_))))) (by ((repeat (first | (with_reducible exact (Mine.Pick.head : Mine.Pick _ (dictOf (Mine.hostEs _ _ _ _ _ _ _ _ _ _ _ _ _ _ _ _ _ _ _) 6) _ _)) | apply Mine.Pick.tail)))) (by (with_reducible assumption)) (by (exact rfl)) (fun f' c' oc' vs' t' ct' h' tk' F' N' d1' d2' n1' n3' l1' l2' l3' => ?_)); (try k_lt l1'))
  k_with "call ref" => (k_here; (with_reducible show wpAny _ _ (call (Value.ref 238) _) _ _ _); k_dflt (refine' Mine.c_repl (by (k_asm)) (by (k_asm)) (by (k_asm)) (Mine.pick1 (by (k_asm)) (by (tb_start))) (by (k_asm)) (by (first | exact rfl | assumption)) (by (k_room)) (by (ke_room)) (by (with_reducible assumption)) (fun u' h' tk' F' N' => ?_); all_goals ((try dsimp only); (try k_fold))))
  exact True.intro

namespace Mine
def Marked (T R : Str) (many : Int) (H : Str) (v : Value) : Prop :=
  ∃ (S' : Str) (j : Int), often T R many.toNat H = (S', j.toNat) ∧ 0 ≤ j ∧ j ≤ many ∧ S'.length ≤ 99 ∧ ((j = many ∧ ∃ u, v = .str (replStr (Str.ofString "[") (Str.ofString "(") (Str.ofString "[") (Str.ofString "(") S') u) ∨ (j ≠ many ∧ v = .none))
section
variable {prog : Program} {w : World} {p : Program} {loose : List Str} {mean : ExcName → Option Value} {mg mb : Str → Option Value}
    {dp un : Nat} {gd : Option (List Code)} {cn : Str} {cs : Scope} {a : Addr} {ccd : Value} {cl : List (Str × Addr)} {outer : List Env} {A₀ : Around} {base h₀ : Heap} {L : Addr} {m : Str → Option Value} {s : Shared} {Q E : Value → Shared → Prop}
    {H T R : Str} {tH tT tR tM : Tok} {many : Int} {ps : Array Value} {rest tl : List (Addr × Obj)}
set_option pp.deepTerms false
set_option pp.deepTerms.threshold 4
set_option pp.maxSteps 3000
set_option maxRecDepth 100000 in
set_option maxHeartbeats 8000000 in
theorem c_marked
    (B : Below A₀ base outer h₀) (F : Fr h₀ L s.heap m) (X : (Mine.K w.params).In h₀) (C : CodeHd h₀ 477 473)
    (N : News h₀ L s.heap ((473, tabObj ps) :: rest)) (hT9 : TabC ⟨348, 94, 348, 110⟩ (Str.ofString "_law_marked" ++ ".<locals>." ++ "<lambda>") 473 ps tl) (hcs : SubL tl rest) (hne : ∀ q ∈ rest, q.1 ≠ 473)
    (TT : Top p loose mean mg mb h₀) (hk : cs.kind = .function)
    (hd : dp + 80 < recursionLimit) (hu : un + 900 < cLine) (hH : (H.length : Int) + 2 * many ≤ 99) (hT : T.length ≤ 100) (hR : R.length ≤ 2) (hm : 0 ≤ many)
    (ret : ∀ v c' oc vs t h' tk', Marked T R many H v → oc.data = .fields vs → vs[1]? = some (.str (Str.ofString "_law_marked" ++ ".<locals>." ++ "<lambda>") t) → c' ≠ 473 → Fr h₀ L h' m →
      News h₀ L h' ((473, tabObj #[rawInt (348 : Nat), rawInt (94 : Nat), .ref c']) :: (c', oc) :: rest) → Q v { s with heap := h', toks := tk' }) :
    wpAny (model prog w) (ktrTop dp un gd cn cs L a ccd cl outer) (call (.ref 478) [.str H tH, .str T tT, .str R tR, .int many tM]) Q E s := by
  refine wpAny_call ?_
  k_dflt (refine' code_defC ?k1 ?k2 ?k3 ?k4 ?k5 ?kA ?kF ?kK ?k6 ?k7 ?k8 ?k9 ?kB ?kD ?_ ?c2 ?c3 ?c4; (case kA => exact rfl); (case kF => exact rfl); (case kK => assumption); (case k1 => k_asm); (case k2 => k_asm); (case k3 => k_asm); (case k4 => k_asm); (case k5 => k_asm); (case k6 => k_is); (case k7 => k_is); (case k8 => ktr_room); (case k9 => exact BindsTo.of_eq rfl); (case kB => exact rfl); (case kD => decide +kernel); (case c2 => exact rfl); (case c3 => exact rfl); (case c4 => exact rfl); k_whole; intro g' L' h' tk' cells' FG' F' N' Y' B' X' T' l1; (try k_lt l1); k_cells Y'; (try simp only [List.cons_append, List.nil_append] at N'); (try dsimp only); (try k_fold))
  have C' : CodeHd g' 477 473 := C.keeps FG'.keep
  rename _ = Data.cell _ => hc9
  have hc8 : _ = Data.cell (some (.str R tR)) := hc9
  clear hc9
  k_steps
  · refine' ret _ _ _ _ _ _ _ ⟨_, _, by with_reducible assumption, by with_reducible assumption, by with_reducible assumption, by with_reducible assumption, .inl ⟨?zj, _, rfl⟩⟩ ?zc ?zv ?zn ?zF ?zN
    case zj => omega
    case zF => with_reducible assumption
    case zN => refine' cb_drop ?zh ?zs; (case zh => with_reducible assumption); (case zs => ktr_rel)
    case zc => with_reducible assumption
    case zv => first | with_reducible assumption | assumption
    case zn => with_reducible assumption
  · refine' ret _ _ _ _ _ _ _ ⟨_, _, by with_reducible assumption, by with_reducible assumption, by with_reducible assumption, by with_reducible assumption, .inr ⟨?zj, rfl⟩⟩ ?zc ?zv ?zn ?zF ?zN
    case zj => omega
    case zF => with_reducible assumption
    case zN => refine' cb_drop ?zh ?zs; (case zh => with_reducible assumption); (case zs => ktr_rel)
    case zc => with_reducible assumption
    case zv => first | with_reducible assumption | assumption
    case zn => with_reducible assumption
end
end Mine

namespace Mine
theorem sizes_pos (H : Str) : 1 ≤ (sizesOf H).length := by unfold sizesOf; rw [List.length_map]; exact parts_pos H
theorem sizes_nat {H : Str} : ∀ k ∈ sizesOf H, 0 ≤ k := by
  intro k hk
  obtain ⟨y, _, rfl⟩ := List.mem_map.mp hk
  exact Int.natCast_nonneg _
def SInv (ks : List Int) (n : Int) : Prop := 1 ≤ n ∧ n ≤ ks.length ∧ ∀ j : Nat, 1 ≤ j → (j : Int) < n → ks.getD j 0 = ks.getD 0 0 - j
theorem SInv.start {ks : List Int} (h : 1 ≤ ks.length) : SInv ks 1 := ⟨by omega, by omega, fun j h1 h2 => by omega⟩
theorem SInv.next {ks : List Int} {n : Int} (h : SInv ks n) (h1 : n < ks.length) (he : ks.getD n.toNat 0 = ks.getD 0 0 - n) : SInv ks (n + 1) := by
  refine ⟨by have := h.1; omega, by omega, fun j h2 h3 => ?_⟩
  by_cases q : (j : Int) < n
  · exact h.2.2 j h2 q
  · have : (j : Int) = n := by omega
    subst this
    simpa using he
theorem SInv.bounds {ks : List Int} {n : Int} (h : SInv ks n) : 1 ≤ n ∧ n ≤ ks.length := ⟨h.1, h.2.1⟩
def lastI (ks : List Int) : Int := ks.getD (ks.length - 1) 0
theorem last_nat {H : Str} {i : Nat} : 0 ≤ (sizesOf H).getD i 0 := by
  rw [List.getD_eq_getElem?_getD]
  cases h : (sizesOf H)[i]? with
  | none => decide
  | some k => exact sizes_nat k (List.mem_of_getElem? h)
theorem slice_none_len (x : Str) (j : Int) : (Txt.slice x none (some j)).length ≤ x.length := by
  by_cases h : 0 ≤ j
  · obtain ⟨n, rfl⟩ := Int.eq_ofNat_of_zero_le h
    rw [slice_ns]
    show ((tk x).take n).length ≤ x.length
    rw [List.length_take, len_tk]; omega
  · rw [slice_nat (a := 0) (b := ((x.length : Int) + j).toNat) (by
      unfold Builtin.Str.strSliceIndices
      simp only [show (1 : Int) > 0 by decide, if_true, if_pos (show j < 0 by omega)]
      congr 1
      omega) (by omega)]
    show ((((tk x).drop 0)).take _).length ≤ x.length
    rw [List.length_take, List.drop_zero, len_tk]; omega
theorem room1 {x : Str} {j n : Int} (h : x.length ≤ 40) (h2 : n ≤ 12) : ((Txt.slice x none (some j)).length : Int) + 2 * n ≤ 99 := by
  have := slice_none_len x j
  omega
theorem repl_len (M : Str) : (replStr (Str.ofString "[") (Str.ofString "(") (Str.ofString "[") (Str.ofString "(") M).length = M.length := by
  have e1 : Str.ofString "[" = mk [91] := by decide +kernel
  have e2 : Str.ofString "(" = mk [40] := by decide +kernel
  rw [e1, e2, repl_list]
  show ((tk M).map _).length = M.length
  rw [List.length_map, len_tk]
theorem Marked.split {T R : Str} {many : Int} {H : Str} {v : Value} (h : Marked T R many H v) : v = .none ∨ ∃ S u, v = .str S u ∧ S.length ≤ 99 := by
  obtain ⟨S', j, _, _, _, h4, h | h⟩ := h
  · obtain ⟨_, u, rfl⟩ := h
    exact .inr ⟨_, _, rfl, by rw [repl_len]; exact h4⟩
  · exact .inl h.2
section
variable {prog : Program} {w : World} {A : Around} {E : Value → Shared → Prop} {s : Shared}
theorem item_sinv {value slice : PySem.Expr} {l : Addr} {vs : List Value} {ks : List Int} {k : Int} {u : Tok} {Q : Value → Shared → Prop} (hl : s.heap.IsList l vs.toArray) (hi : IntsAre vs ks)
    (hS : SInv ks k) (h1 : k < ks.length) (hn : ks.length ≤ 12) (h : ∀ t, Q (.int (ks.getD k.toNat 0) t) s)
    (hs : subscripted slice false (.ref l) (.int k u) = operate [.ref l, .int k u] (getItem (.ref l) (.int k u))) :
    wpAny (model prog w) A (subscriptTail value slice (.ref l) (.int k u)) Q E s := by
  have h0 := hS.1
  exact item_anyK hl hi (by omega) h1 (by omega) h hs
end
def DoneV (H : Str) (v : Value) : Prop := ∃ n : Int, SInv (sizesOf H) n ∧ (n < (sizesOf H).length → (sizesOf H).getD n.toNat 0 ≠ (sizesOf H).getD 0 0 - n) ∧
  ((lastI (sizesOf H) ≤ n ∧ n = (sizesOf H).length ∧ lastI (sizesOf H) = n ∧ v = .none) ∨
   (lastI (sizesOf H) ≤ n ∧ (n = (sizesOf H).length → lastI (sizesOf H) ≠ n) ∧ Marked (Str.ofString "(") (Str.ofString "[|") (lastI (sizesOf H)) (Txt.slice H none (some (-2 - lastI (sizesOf H)))) v) ∨
   (¬ lastI (sizesOf H) ≤ n ∧ n = (sizesOf H).length ∧ lastI (sizesOf H) = n + 1 ∧ v = .none) ∨
   (¬ lastI (sizesOf H) ≤ n ∧ (n = (sizesOf H).length → lastI (sizesOf H) ≠ n + 1) ∧ ∃ v1, Marked (Str.ofString "(|") (Str.ofString "[") n H v1 ∧
     ((v1 = .none ∧ v = .none) ∨ ∃ S u u', v1 = .str S u ∧ v = .str (S ++ Str.ofString "(" ++ Txt.mul (Str.ofString "|") n ++ Str.ofString ")") u')))
section
variable {H : Str} {n : Int} {i : Nat} {v : Value}
theorem DoneV.mk1 (hi : i = (sizesOf H).length - 1) (hS : SInv (sizesOf H) n) (hx : n < (sizesOf H).length → (sizesOf H).getD n.toNat 0 ≠ (sizesOf H).getD 0 0 - n)
    (h1 : (sizesOf H).getD i 0 ≤ n) (h2 : n = (sizesOf H).length) (h3 : (sizesOf H).getD i 0 = n) : DoneV H .none := by
  subst hi
  exact ⟨n, hS, hx, .inl ⟨h1, h2, h3, rfl⟩⟩
theorem DoneV.mk2 (hi : i = (sizesOf H).length - 1) (hS : SInv (sizesOf H) n) (hx : n < (sizesOf H).length → (sizesOf H).getD n.toNat 0 ≠ (sizesOf H).getD 0 0 - n)
    (h1 : (sizesOf H).getD i 0 ≤ n) (h2 : n = (sizesOf H).length → (sizesOf H).getD i 0 ≠ n) (hM : Marked (Str.ofString "(") (Str.ofString "[|") ((sizesOf H).getD i 0) (Txt.slice H none (some (-2 - (sizesOf H).getD i 0))) v) : DoneV H v := by
  subst hi
  exact ⟨n, hS, hx, .inr (.inl ⟨h1, h2, hM⟩)⟩
theorem DoneV.mk3 (hi : i = (sizesOf H).length - 1) (hS : SInv (sizesOf H) n) (hx : n < (sizesOf H).length → (sizesOf H).getD n.toNat 0 ≠ (sizesOf H).getD 0 0 - n)
    (h1 : ¬ (sizesOf H).getD i 0 ≤ n) (h2 : n = (sizesOf H).length) (h3 : (sizesOf H).getD i 0 = n + 1) : DoneV H .none := by
  subst hi
  exact ⟨n, hS, hx, .inr (.inr (.inl ⟨h1, h2, h3, rfl⟩))⟩
theorem DoneV.mk4 (hi : i = (sizesOf H).length - 1) (hS : SInv (sizesOf H) n) (hx : n < (sizesOf H).length → (sizesOf H).getD n.toNat 0 ≠ (sizesOf H).getD 0 0 - n)
    (h1 : ¬ (sizesOf H).getD i 0 ≤ n) (h2 : n = (sizesOf H).length → (sizesOf H).getD i 0 ≠ n + 1) (hM : Marked (Str.ofString "(|") (Str.ofString "[") n H .none) : DoneV H .none := by
  subst hi
  exact ⟨n, hS, hx, .inr (.inr (.inr ⟨h1, h2, _, hM, .inl ⟨rfl, rfl⟩⟩))⟩
theorem DoneV.mk5 {S : Str} {u u' : Tok} (hi : i = (sizesOf H).length - 1) (hS : SInv (sizesOf H) n) (hx : n < (sizesOf H).length → (sizesOf H).getD n.toNat 0 ≠ (sizesOf H).getD 0 0 - n)
    (h1 : ¬ (sizesOf H).getD i 0 ≤ n) (h2 : n = (sizesOf H).length → (sizesOf H).getD i 0 ≠ n + 1) (hM : Marked (Str.ofString "(|") (Str.ofString "[") n H (.str S u)) :
    DoneV H (.str (S ++ Str.ofString "(" ++ Txt.mul (Str.ofString "|") n ++ Str.ofString ")") u') := by
  subst hi
  exact ⟨n, hS, hx, .inr (.inr (.inr ⟨h1, h2, _, hM, .inr ⟨_, _, _, rfl, rfl⟩⟩))⟩
end
def OutC (h₀ : Heap) (L : Addr) (h : Heap) (rest : List (Addr × Obj)) : Prop :=
  ∃ ps cs, TabC ⟨348, 94, 348, 110⟩ (Str.ofString "_law_marked" ++ ".<locals>." ++ "<lambda>") 473 ps cs ∧ (∀ q ∈ cs, q.1 ≠ 473) ∧ News h₀ L h ((473, tabObj ps) :: (rest ++ cs))
theorem OutC.same {h₀ h : Heap} {L : Addr} {rest tl led : List (Addr × Obj)} {ps : Array Value} (hT : TabC ⟨348, 94, 348, 110⟩ (Str.ofString "_law_marked" ++ ".<locals>." ++ "<lambda>") 473 ps tl) (hs : SubL tl rest) (hne : ∀ q ∈ rest, q.1 ≠ 473)
    (N : News h₀ L h led) (hm : ∀ p ∈ (473, tabObj ps) :: rest, p ∈ led) : OutC h₀ L h rest := by
  refine ⟨ps, tl, hT, fun q hq => hne q (hs q hq), fun p hp => N p (hm p ?_)⟩
  rcases List.mem_cons.mp hp with rfl | hp
  · exact List.Mem.head _
  · rcases List.mem_append.mp hp with hp | hp
    · exact List.Mem.tail _ hp
    · exact List.Mem.tail _ (hs p hp)
theorem OutC.new {h₀ h : Heap} {L : Addr} {rest led : List (Addr × Obj)} {c' : Addr} {oc : Obj} {vs : Array Value} {t : Tok} (h1 : oc.data = .fields vs) (h2 : vs[1]? = some (.str (Str.ofString "_law_marked" ++ ".<locals>." ++ "<lambda>") t)) (h3 : c' ≠ 473)
    (N : News h₀ L h led) (hm : ∀ p ∈ (473, tabObj #[rawInt (348 : Nat), rawInt (94 : Nat), .ref c']) :: (c', oc) :: rest, p ∈ led) : OutC h₀ L h rest := by
  refine ⟨_, [(c', oc)], .inr ⟨c', oc, vs, t, rfl, rfl, h1, h2, h3⟩, fun q hq => by rw [List.mem_singleton.mp hq]; exact h3, fun p hp => N p (hm p ?_)⟩
  rcases List.mem_cons.mp hp with rfl | hp
  · exact List.Mem.head _
  · rcases List.mem_append.mp hp with hp | hp
    · exact List.Mem.tail _ (List.Mem.tail _ hp)
    · rw [List.mem_singleton.mp hp]; exact List.Mem.tail _ (List.Mem.head _)
end Mine


theorem Mine.rows_89_done : True := by
  k_with "call ref" => (k_here; (with_reducible show wpAny _ _ (call (Value.ref 471) _) _ _ _); k_dflt (refine' Mine.c_sizes (by (k_asm)) (by (k_asm)) (by (k_asm)) (by (k_asm)) (by (k_asm)) (by (first | exact rfl | assumption)) (by (k_room)) (by (ke_room)) (by (omega)) (fun D' ys' c' h' tk' hI' F' N' o1' => ?_); all_goals ((try dsimp only); (try k_fold))); (have q9 := Mine.allNe_of o1'); (try simp only [Mine.AllNe] at q9))
  k_with "subscriptTail" => (k_here; (with_reducible show wpAny _ _ (subscriptTail _ (PySem.Expr.Name _ _) (Value.ref _) (Value.int _ _)) _ _ _); (with_reducible rename Mine.SInv _ _ => hS9); k_dflt (refine' Mine.item_sinv (by (is_list)) (by (with_reducible assumption)) hS9 (by (with_reducible assumption)) (by (with_reducible assumption)) ?_ (by (with_unfolding_all rfl))); intro t9)
  k_with "call ref" => (k_here; (with_reducible show wpAny _ _ (call (Value.ref 478) _) _ _ _); (with_reducible rename Mine.TabC _ _ _ _ _ => hT9); (with_reducible rename Mine.SubL _ _ => hs9); (with_reducible rename Mine.SInv _ _ => hS9); (have hb9 := Mine.SInv.bounds hS9); k_dflt (refine' Mine.c_marked (by (k_asm)) (by (k_asm)) (by (k_asm)) (by (with_reducible assumption)) (Mine.pick1 (by (k_asm)) (by (tb_start))) hT9 (by ((intro p9 hp9; (repeat (first | with_reducible assumption | exact hs9 _ (by with_reducible assumption) | refine List.Mem.tail _ ?_))))) (by ((repeat (refine List.forall_mem_cons.mpr ⟨by k_ne, ?_⟩)); with_reducible assumption)) (by (k_asm)) (by (first | exact rfl | assumption)) (by (k_room)) (by (ke_room)) (by (first | omega | with_reducible exact Mine.room1 (by with_reducible assumption) (by omega))) (by (decide +kernel)) (by (decide +kernel)) (by (first | omega | with_reducible exact Mine.last_nat)) (fun v' c' oc' vs' t' h' tk' hM' d1' d2' n1' F' N' => ?_); all_goals ((try dsimp only); (try k_fold))); (rcases Mine.Marked.split hM' with hz9 | ⟨S9, u9, hz9, hl9⟩ <;> subst hz9))
  exact True.intro

namespace Mine
section
variable {prog : Program} {w : World} {p : Program} {loose : List Str} {mean : ExcName → Option Value} {mg mb : Str → Option Value}
    {dp un : Nat} {gd : Option (List Code)} {cn : Str} {cs : Scope} {a : Addr} {ccd : Value} {cl : List (Str × Addr)} {outer : List Env} {A₀ : Around} {base h₀ : Heap} {L : Addr} {m : Str → Option Value} {s : Shared} {Q E : Value → Shared → Prop}
    {H : Str} {tH : Tok} {ps : Array Value} {rest tl : List (Addr × Obj)}
set_option pp.deepTerms false
set_option pp.deepTerms.threshold 4
set_option pp.maxSteps 3000
set_option maxRecDepth 100000 in
set_option maxHeartbeats 8000000 in
theorem c_done
    (B : Below A₀ base outer h₀) (F : Fr h₀ L s.heap m) (X : (Mine.K w.params).In h₀) (C : CodeHd h₀ 477 473)
    (N : News h₀ L s.heap ((473, tabObj ps) :: rest)) (hT9 : TabC ⟨348, 94, 348, 110⟩ (Str.ofString "_law_marked" ++ ".<locals>." ++ "<lambda>") 473 ps tl) (hcs : SubL tl rest) (hne : ∀ q ∈ rest, q.1 ≠ 473)
    (TT : Top p loose mean mg mb h₀) (hk : cs.kind = .function)
    (hd : dp + 160 < recursionLimit) (hu : un + 1500 < cLine) (hH : H.length ≤ 40) (hn : (sizesOf H).length ≤ 12)
    (ret : ∀ v h' tk', DoneV H v → Fr h₀ L h' m → OutC h₀ L h' rest → Q v { s with heap := h', toks := tk' }) :
    wpAny (model prog w) (ktrTop dp un gd cn cs L a ccd cl outer) (call (.ref 485) [.str H tH]) Q E s := by
  k_with "exec While BoolOp" => k_while_given [] (fun _ n => SInv (sizesOf H) n) (fun _ n => (13 - n).toNat) "slope"
  k_with "exec While" => k_while_given [] (fun _ n => SInv (sizesOf H) n) (fun _ n => (13 - n).toNat) "slope"
  k_with "state" => first | exact Mine.SInv.start (by assumption) | exact Mine.SInv.next (by with_reducible assumption) (by with_reducible assumption) (by assumption)
  have hp := sizes_pos H
  refine wpAny_call ?_
  k_dflt ktr_enter
  rename Fr h₀ L _ m => FG'
  have C' := C.keeps FG'.keep
  k_steps
  all_goals (try (exfalso; omega))
  all_goals (
    refine' ret _ _ _ ?zD ?zF ?zO
    case zF => with_reducible assumption
    case zO =>
      rename News h₀ L _ _ => hN9
      first
        | (refine' Mine.OutC.new ?a ?b ?c hN9 ?e; (case e => ktr_rel); (case a => with_reducible assumption); (case b => assumption); (case c => with_reducible assumption))
        | (refine' Mine.OutC.same hT9 hcs hne hN9 ?e; (case e => ktr_rel))
    case zD =>
      first
        | (refine' DoneV.mk5 ?hi ?hS ?hx ?h1 ?h2 ?hM; (case h1 => with_reducible assumption); (case hM => with_reducible assumption); (case hi => omega); (case hS => with_reducible assumption); (case hx => intro h9; first | assumption | omega); (case h2 => intro h9; first | assumption | omega))
        | (refine' DoneV.mk2 ?hi ?hS ?hx ?h1 ?h2 ?hM; (case h1 => with_reducible assumption); (case hM => with_reducible assumption); (case hi => omega); (case hS => with_reducible assumption); (case hx => intro h9; first | assumption | omega); (case h2 => intro h9; first | assumption | omega))
        | (refine' DoneV.mk4 ?hi ?hS ?hx ?h1 ?h2 ?hM; (case h1 => with_reducible assumption); (case hM => with_reducible assumption); (case hi => omega); (case hS => with_reducible assumption); (case hx => intro h9; first | assumption | omega); (case h2 => intro h9; first | assumption | omega))
        | (refine' DoneV.mk1 ?hi ?hS ?hx ?h1 ?h2 ?h3; (case h1 => with_reducible assumption); (case h3 => with_reducible assumption); (case h2 => with_reducible assumption); (case hi => omega); (case hS => with_reducible assumption); (case hx => intro h9; first | assumption | omega))
        | (refine' DoneV.mk3 ?hi ?hS ?hx ?h1 ?h2 ?h3; (case h1 => with_reducible assumption); (case h3 => with_reducible assumption); (case h2 => with_reducible assumption); (case hi => omega); (case hS => with_reducible assumption); (case hx => intro h9; first | assumption | omega)))
end
end Mine

namespace Mine
def slopeF (ks : List Int) : Nat := ((List.range ks.length).find? fun i => decide (i + 1 = ks.length) || ks.getD (i + 1) 0 != ks.getD 0 0 - ((i + 1 : Nat) : Int)).getD 0 + 1
theorem slope_of {ks : List Int} {n : Int} (hS : SInv ks n) (hx : n < ks.length → ks.getD n.toNat 0 ≠ ks.getD 0 0 - n) : n = (slopeF ks : Int) := by
  obtain ⟨h1, h2, h3⟩ := hS
  obtain ⟨m, rfl⟩ : ∃ m : Nat, n = ((m + 1 : Nat) : Int) := ⟨(n - 1).toNat, by omega⟩
  have e : (List.range ks.length).find? (fun i => decide (i + 1 = ks.length) || ks.getD (i + 1) 0 != ks.getD 0 0 - ((i + 1 : Nat) : Int)) = some m := by
    rw [List.find?_range_eq_some]
    refine ⟨?_, List.mem_range.mpr (by omega), fun j hj => ?_⟩
    · by_cases q : m + 1 = ks.length
      · simp [q]
      · have := hx (by omega)
        simp only [Int.toNat_natCast] at this
        simp only [Bool.or_eq_true, bne_iff_ne, ne_eq]
        exact .inr this
    · have := h3 (j + 1) (by omega) (by omega)
      have q : ¬ (j + 1 = ks.length) := by omega
      simp only [q, decide_false, Bool.false_or, Bool.not_eq_true', bne_eq_false_iff_eq]
      exact this
  unfold slopeF
  rw [e]
  rfl
def markedF (T R : Str) (many : Nat) (H : Str) : Option Str :=
  if (often T R many H).2 = many then some (replStr (Str.ofString "[") (Str.ofString "(") (Str.ofString "[") (Str.ofString "(") (often T R many H).1) else none
def Is (o : Option Str) (v : Value) : Prop := match o with
  | none => v = .none
  | some S => ∃ u, v = .str S u
theorem marked_of {T R : Str} {many : Int} {H : Str} {v : Value} (h : Marked T R many H v) : Is (markedF T R many.toNat H) v := by
  obtain ⟨S', j, e, h0, h1, _, h | h⟩ := h
  · obtain ⟨rfl, u, rfl⟩ := h
    unfold markedF
    rw [e, if_pos rfl]
    exact ⟨u, rfl⟩
  · obtain ⟨h2, rfl⟩ := h
    unfold markedF
    rw [e, if_neg (by simp only; omega)]
    exact rfl
def doneF (H : Str) : Option Str :=
  if lastI (sizesOf H) ≤ (slopeF (sizesOf H) : Int) then
    (if (slopeF (sizesOf H) : Int) = (sizesOf H).length ∧ lastI (sizesOf H) = (slopeF (sizesOf H) : Int) then none else markedF (Str.ofString "(") (Str.ofString "[|") (lastI (sizesOf H)).toNat (Txt.slice H none (some (-2 - lastI (sizesOf H)))))
  else if (slopeF (sizesOf H) : Int) = (sizesOf H).length ∧ lastI (sizesOf H) = (slopeF (sizesOf H) : Int) + 1 then none
  else (markedF (Str.ofString "(|") (Str.ofString "[") (slopeF (sizesOf H)) H).map fun S => S ++ Str.ofString "(" ++ Txt.mul (Str.ofString "|") (slopeF (sizesOf H) : Int) ++ Str.ofString ")"
theorem done_of {H : Str} {v : Value} (h : DoneV H v) : Is (doneF H) v := by
  obtain ⟨n, hS, hx, h⟩ := h
  have e := slope_of hS hx
  subst e
  unfold doneF
  rcases h with ⟨h1, h2, h3, rfl⟩ | ⟨h1, h2, hM⟩ | ⟨h1, h2, h3, rfl⟩ | ⟨h1, h2, v1, hM, h⟩
  · rw [if_pos h1, if_pos ⟨h2, h3⟩]; exact rfl
  · rw [if_pos h1, if_neg (fun q => h2 q.1 q.2)]; exact marked_of hM
  · rw [if_neg h1, if_pos ⟨h2, h3⟩]; exact rfl
  · rw [if_neg h1, if_neg (fun q => h2 q.1 q.2)]
    have m := marked_of hM
    rw [Int.toNat_natCast] at m
    rcases h with ⟨rfl, rfl⟩ | ⟨S, u, u', rfl, rfl⟩
    · cases hm : markedF (Str.ofString "(|") (Str.ofString "[") (slopeF (sizesOf H)) H with
      | none => exact rfl
      | some S => rw [hm] at m; obtain ⟨_, e⟩ := m; cases e
    · cases hm : markedF (Str.ofString "(|") (Str.ofString "[") (slopeF (sizesOf H)) H with
      | none => rw [hm] at m; cases m
      | some S' =>
        rw [hm] at m
        obtain ⟨_, e⟩ := m
        cases e
        exact ⟨_, rfl⟩
end Mine

namespace Mine
def markedL (t r : List Nat) (many : Nat) (l : List Nat) : Option (List Nat) :=
  if (oftenL t r many l).2 = many then some ((oftenL t r many l).1.map fun n => if n = 91 then 40 else if n = 91 then 40 else n) else none
theorem marked_list (T R : Str) (many : Nat) (H : Str) : markedF T R many H = (markedL (tk T) (tk R) many (tk H)).map mk := by
  have e1 : Str.ofString "[" = mk [91] := by decide +kernel
  have e2 : Str.ofString "(" = mk [40] := by decide +kernel
  unfold markedF markedL
  rw [often_list, e1, e2]
  by_cases h : (oftenL (tk T) (tk R) many (tk H)).2 = many
  · rw [if_pos h, if_pos h, repl_list, tk_mk]; rfl
  · rw [if_neg h, if_neg h]; rfl
theorem mul_bars : ∀ n : Nat, n < 13 → 1 ≤ n → Txt.mul (Str.ofString "|") (n : Int) = mk (List.replicate n 124) := by decide +kernel
theorem slice_back (x : Str) (k : Nat) : Txt.slice x none (some (-2 - (k : Int))) = mk ((tk x).take (x.length - (2 + k))) := by
  rw [slice_nat (a := 0) (b := x.length - (2 + k)) (by
    unfold Builtin.Str.strSliceIndices
    simp only [show (1 : Int) > 0 by decide, if_true, if_pos (show (-2 - (k : Int)) < 0 by omega)]
    congr 1
    omega) (by omega), List.drop_zero, Nat.sub_zero]
def doneL (l : List Nat) : Option (List Nat) :=
  if lastI (sizesOf (mk l)) ≤ (slopeF (sizesOf (mk l)) : Int) then
    (if (slopeF (sizesOf (mk l)) : Int) = (sizesOf (mk l)).length ∧ lastI (sizesOf (mk l)) = (slopeF (sizesOf (mk l)) : Int) then none else markedL [40] [91, 124] (lastI (sizesOf (mk l))).toNat (l.take (l.length - (2 + (lastI (sizesOf (mk l))).toNat))))
  else if (slopeF (sizesOf (mk l)) : Int) = (sizesOf (mk l)).length ∧ lastI (sizesOf (mk l)) = (slopeF (sizesOf (mk l)) : Int) + 1 then none
  else (markedL [40, 124] [91] (slopeF (sizesOf (mk l))) l).map fun S => S ++ [40] ++ List.replicate (slopeF (sizesOf (mk l))) 124 ++ [41]
theorem slope_le (ks : List Int) (h : 1 ≤ ks.length) : 1 ≤ slopeF ks ∧ slopeF ks ≤ ks.length := by
  unfold slopeF
  cases e : (List.range ks.length).find? (fun i => decide (i + 1 = ks.length) || ks.getD (i + 1) 0 != ks.getD 0 0 - ((i + 1 : Nat) : Int)) with
  | none => simp; omega
  | some m =>
    have := List.mem_range.mp (List.mem_of_find?_eq_some e)
    simp only [Option.getD_some]
    omega
theorem done_list {H : Str} (hn : (sizesOf H).length ≤ 12) : doneF H = (doneL (tk H)).map mk := by
  have hp := sizes_pos H
  have hs := slope_le (sizesOf H) hp
  have e1 : Str.ofString "(" = mk [40] := by decide +kernel
  have e2 : Str.ofString "[|" = mk [91, 124] := by decide +kernel
  have e3 : Str.ofString "(|" = mk [40, 124] := by decide +kernel
  have e4 : Str.ofString "[" = mk [91] := by decide +kernel
  have e5 : Str.ofString ")" = mk [41] := by decide +kernel
  have hl : 0 ≤ lastI (sizesOf H) := last_nat
  unfold doneF doneL
  rw [mk_tk]
  generalize sizesOf H = ks at *
  by_cases h1 : lastI ks ≤ (slopeF ks : Int)
  · rw [if_pos h1, if_pos h1]
    by_cases h2 : (slopeF ks : Int) = ks.length ∧ lastI ks = (slopeF ks : Int)
    · rw [if_pos h2, if_pos h2]; rfl
    · rw [if_neg h2, if_neg h2, marked_list, e1, e2, tk_mk, tk_mk, len_tk]
      congr 2
      rw [show -2 - lastI ks = -2 - (((lastI ks).toNat : Nat) : Int) by omega, slice_back, tk_mk]
  · rw [if_neg h1, if_neg h1]
    by_cases h2 : (slopeF ks : Int) = ks.length ∧ lastI ks = (slopeF ks : Int) + 1
    · rw [if_pos h2, if_pos h2]; rfl
    · rw [if_neg h2, if_neg h2, marked_list, e3, e4, tk_mk, tk_mk, Option.map_map, Option.map_map]
      congr 1
      funext S
      show mk S ++ Str.ofString "(" ++ _ ++ _ = mk _
      rw [e1, e5, mul_bars _ (by omega) hs.1, app_mk, app_mk, app_mk]
end Mine

namespace Mine
def lotSizes (lot : Nat) : List Nat := [6, 5, 4, 3, 2, 1].filter fun s => lot / 2 ^ (s - 1) % 2 == 1
def heapsL (lot : Nat) : List Nat := (lotSizes lot).flatMap fun s => 40 :: (List.replicate s 124 ++ [41])
def downTo (a n : Nat) : List Int := (List.range n).map fun (i : Nat) => (a : Int) - (i : Int)
def stuckB (ks : List Int) : Bool := ks == downTo (2 * ks.length - 1) ks.length || ks == downTo (2 * ks.length) ks.length
def isDown : List Int → Bool
  | a :: b :: r => decide (b < a) && isDown (b :: r)
  | _ => true
def lotOk (lot : Nat) : Bool :=
  (heapsL lot).length ≤ 40 && sizesOf (mk (heapsL lot)) == (lotSizes lot).map (fun (n : Nat) => (n : Int)) && (lotSizes lot).length ≤ 12 &&
  match doneL (heapsL lot) with
  | none => stuckB (sizesOf (mk (heapsL lot)))
  | some S => !stuckB (sizesOf (mk (heapsL lot))) && S.length ≤ 40 && (sizesOf (mk S)).length ≤ 12 && decide ((sizesOf (mk S)).sum = (sizesOf (mk (heapsL lot))).sum) && isDown (sizesOf (mk S)) && decide (1 ≤ lastI (sizesOf (mk S))) &&
      ((sizesOf (mk S)).length == (lotSizes lot).length + 1 || (sizesOf (mk S)).length + 1 == (lotSizes lot).length) && doneL S == some (heapsL lot)
set_option maxRecDepth 100000 in
theorem lots_ok : ∀ lot : Nat, lot < 64 → 1 ≤ lot → lotOk lot = true := by decide +kernel
end Mine

namespace Mine
theorem one_cell {vs : List Value} {f : Int → Int} {xs : List Int} {a : Int} (h : IntsAre vs ((xs.take 1).map f ++ [a].drop ((((xs.take 1).length : Nat) : Int).toNat))) : ∃ c0 t0, vs = [.int c0 t0] := by
  have key : ∀ {x : Int}, IntsAre vs [x] → ∃ c0 t0, vs = [.int c0 t0] := by
    intro x q
    obtain ⟨t, vs', rfl, q1⟩ := q.cons_inv
    obtain rfl := q1.nil_inv
    exact ⟨_, _, rfl⟩
  rcases xs with _ | ⟨x, r⟩
  · exact key h
  · exact key h
end Mine

namespace Mine
section
variable {prog : Program} {w : World} {A : Around} {E : Value → Shared → Prop} {s : Shared} {h₀ : Heap} {L : Addr} {m : Str → Option Value} {env : Env}
/-- a comprehension with a test over a range of any step, stored in a name: what its turns owe -/
def DSrc (prog : Program) (w : World) (A : Around) (h₀ : Heap) (L : Addr) (m : Str → Option Value) (env : Env) (ct elt : Expr) (x y : Str) (scope : Scope) (cl : List (Str × Addr)) (Q : Flow → Shared → Prop) (xv : Value) (s₁ : Shared) : Prop :=
  ∃ r a b c t u v n news, xv = .ref r ∧ A.handled = none ∧ Fr h₀ L s₁.heap m ∧ News h₀ L s₁.heap news ∧ IsRange s₁.heap r a b c t u v ∧ Builtin.Range.small a b c = true ∧ Builtin.Range.rangeSize a b c = ((n : Nat) : Int) ∧ n ≤ sizeLine ∧
    ∀ g : Heap, LCt.CompRestT prog w A h₀ L m env ct elt x scope cl { s₁ with heap := g } (fun _ => True) (fun i v => ∃ t, v = .int (a + i * c) t) (LCg.FinA h₀ L m { s₁ with heap := g } y Q) n 0 [] news
theorem assign_down {ct elt iter : Expr} {x y : Str} {px py : Pos} {scope : Scope} {cl : List (Str × Addr)} {pos spos : Pos} {Q : Flow → Shared → Prop} (_F₀ : Fr h₀ env.locals s.heap m)
    (hsw : swapsWith (.ListComp elt [⟨.Name x px, iter, [ct], 0⟩] scope pos) (some (.Name y py)) spos.line env = pure true)
    (hclos : closureFor scope env = pure cl) (hcell : ∀ z ∈ scope.names, z.2 ≠ .cell) (hkind : scope.kind = .function)
    (hnames : ∀ z ∈ scope.names, z.2 = .local → scope.names.lookup z.1 = some .local) (hx : scope.names.lookup x = some .local)
    (hy : env.kindOf y = some .local) (hp : (env.scope.kind == .class || (env.scope.kind == .module && env.locals != env.globals)) = false)
    (h : wpAny (model prog w) A (eval iter env) (DSrc prog w A h₀ env.locals m env ct elt x y scope cl Q) E s)
    (hs : ∀ x, foldedSetIterable iter env x = pure x := by intro _; rfl) :
    wpAny (model prog w) A (exec (.Assign [.Name y py] (.ListComp elt [⟨.Name x px, iter, [ct], 0⟩] scope pos) spos) env) Q E s := by
  rw [exec_Assign_Name_used _ _ _ _ hsw]
  refine wpAny_bind (wpAny_standAt (wpAny_bind ?_))
  show wpAny _ A (do let _ ← comprehension (.ListComp elt [⟨.Name x px, iter, [ct], 0⟩] scope pos) scope env _ (newList []) false (eval iter env) (some (assign (.Name y py) env))) _ _ s
  refine wpAny_bind (wpAny_mono (wpAny_comprehension_free (use := some (assign (.Name y py) env)) (Q := fun _ s' => Q .next s') rfl hs hclos hkind hnames
    (wpAny_mono h (fun xv s₁ h₁ => ?_) fun _ _ e => e)) (fun _ s' hq => wpAny_pure (wpAny_pure hq)) fun _ _ e => e)
  obtain ⟨r, a, b, c, t, u, v, n, news, rfl, hh, F, N, hr, hsm, hn, hsz, R⟩ := h₁
  refine wpAny_pyIter_range hr hsm ?_
  have W := Walks.range (prog := prog) (w := w) (A := A) hh s₁.heap.objs.size a c n
  have up : ∀ (o : Obj) b o', s₁.heap.get? b = some o' → (s₁.heap.push o).get? b = some o' := fun o b o' e => Heap.get?_push_of_some _ e
  refine LCt.block_T W hsz (fun i h st => ⟨_, st⟩) (fun i h h' o nw st e e' _ _ _ => ?_) hcell hkind hx ?_ (fun b hb => ?_) (F.keeps (up _)) (N.grown (up _)) (Nat.ne_of_lt F.ns.lt) (next_is_new F) (fun p hp => Nat.ne_of_lt (Heap.lt_size (N p hp).1)) trivial (R _) ?_
  · have st' : h.get? s₁.heap.objs.size = some _ := st
    show h'.get? s₁.heap.objs.size = some _
    rw [e', ← e]
    exact st'
  · show IsRangeIter _ _ _ _ _
    rw [hn]
    simpa using Heap.get?_push_size _ rfl
  · rw [List.mem_singleton.mp hb]
    show s₁.heap.objs.size < (s₁.heap.push _).objs.size
    rw [Heap.size_push]; exact Nat.lt_succ_self _
  · intro D C h' tk m' ys news' F' N' o1 hn' hC₀ hD₀ hCL hDL hCD offC fin
    show wpAny _ A (assign (.Name y py) env (.ref D)) _ _ _
    refine wpAny_assign_Name (wpAny_storeName_local hy F'.ns (fun h₂ hn₂ hs₂ => ?_) hp)
    have hL₀ : h₀.get? env.locals = none := Heap.get?_none_of_le F'.above
    have F₂ : Fr h₀ env.locals h₂ (fun z => if z = y then some (.ref D) else m z) := ⟨hn₂, fun b o e => hs₂.extBut b o (fun q => by rw [q, hL₀] at e; cases e) (F'.keep b o e), F'.above⟩
    refine ⟨m', hn'.sameBut hs₂ hCL, fun h'' hs'' => fin D h'' _ (F₂.change hs'' hCL hC₀) (fun p hp => ?_) o1⟩
    have z : h₂.get? p.1 = some p.2 := hs₂.extBut _ _ (N' p hp).2.1 (N' p hp).1
    refine ⟨hs''.extBut _ _ ?_ z, (N' p hp).2⟩
    rcases List.mem_cons.mp hp with rfl | hp
    · exact Ne.symm hCD
    · exact offC p hp
end
end Mine

namespace Mine
section
variable {prog : Program} {w : World} {A : Around} {E : Value → Shared → Prop} {s : Shared} {h₀ : Heap} {L : Addr} {m : Str → Option Value} {env : Env}
theorem down_src {ct elt : Expr} {x y : Str} {scope : Scope} {cl : List (Str × Addr)} {Q : Flow → Shared → Prop} {r : Addr} {a b c : Int} {t u v : Tok} {n : Nat} {news : List (Addr × Obj)} {s₁ : Shared} (f : Int → Bool)
    (hh : A.handled = none) (F : Fr h₀ L s₁.heap m) (N : News h₀ L s₁.heap news) (hr : IsRange s₁.heap r a b c t u v) (hsm : Builtin.Range.small a b c = true) (hn : Builtin.Range.rangeSize a b c = ((n : Nat) : Int)) (hsz : n ≤ sizeLine)
    (turn : ∀ (k : Int) t I oI C oC D m₂ ys h tk (E' : Value → Shared → Prop), k ∈ ((List.range n).map fun (i : Nat) => a + (i : Int) * c) → LCg.NsObj oC m₂ → m₂ x = some (.int k t) → Fr h₀ L h m → News h₀ L h ((I, oI) :: (C, oC) :: (D, LCg.lst ys) :: news) → LCg.Off3 I C D news → ((@Ne Nat I C) ∧ (@Ne Nat I D) ∧ (@Ne Nat C D)) →
      wpAny (model prog w) A (isTrue ct (compEnvC scope cl C env) (eval ct (compEnvC scope cl C env))) (fun ok s' => if ok = true then
        wpAny (model prog w) A (eval elt (compEnvC scope cl C env)) (LCg.CompEnd h₀ L m { s₁ with heap := h, toks := tk } I oI C oC D (LCg.lst ys) (fun _ => True) (fun z news' => news' = news ∧ (∃ t', z = .int k t') ∧ f k = true)) E' s'
        else LCg.CompEnd h₀ L m { s₁ with heap := h, toks := tk } I oI C oC D (LCg.lst ys) (fun _ => True) (fun _ news' => news' = news ∧ f k = false) Value.none s') E' { s₁ with heap := h, toks := tk })
    (fin : ∀ ys D h tk, IntsAre ys (((List.range n).map fun (i : Nat) => a + (i : Int) * c).filter f) → Fr h₀ L h (fun z => if z = y then some (.ref D) else m z) → News h₀ L h ((D, LCg.lst ys) :: news) → LCg.Off1 D news → Q .next { s₁ with heap := h, toks := tk }) :
    DSrc prog w A h₀ L m env ct elt x y scope cl Q (.ref r) s₁ := by
  refine ⟨r, a, b, c, t, u, v, n, news, rfl, hh, F, N, hr, hsm, hn, hsz, fun g0 => ?_⟩
  have key : ∀ (j i : Nat) (ys : List Value), i + j = n → IntsAre ys (((List.range i).map fun (i : Nat) => a + (i : Int) * c).filter f) → LCt.CompRestT prog w A h₀ L m env ct elt x scope cl { s₁ with heap := g0 } (fun _ => True) (fun i v => ∃ t, v = .int (a + i * c) t) (LCg.FinA h₀ L m { s₁ with heap := g0 } y Q) j i ys news := by
    intro j
    induction j with
    | zero =>
      intro i ys hi hy
      rw [show i = n by omega] at hy
      exact LCt.CompRestT.zero fun D h tk F' N' o1 => fin ys D h tk hy F' N' o1
    | succ j ih =>
      intro i ys hi hy
      refine LCt.CompRestT.succ ?_
      intro v I oI C oC D m₂ h tk E' hv hC hx F N off ne
      obtain ⟨t, rfl⟩ := hv
      have hmem : a + (i : Int) * c ∈ ((List.range n).map fun (i : Nat) => a + (i : Int) * c) := List.mem_map.mpr ⟨i, List.mem_range.mpr (by omega), rfl⟩
      have hs : ((List.range (i + 1)).map fun (i : Nat) => a + (i : Int) * c) = ((List.range i).map fun (i : Nat) => a + (i : Int) * c) ++ [a + (i : Int) * c] := by
        rw [List.range_succ, List.map_append, List.map_singleton]
      refine wpAny_mono (turn _ t I oI C oC D m₂ ys h tk E' hmem hC hx F N off ne) (fun ok s₂ hq => ?_) fun _ _ e => e
      cases ok with
      | true =>
        rw [if_pos rfl] at hq ⊢
        refine wpAny_mono hq (fun z s₃ hz => ?_) fun _ _ e => e
        obtain ⟨h', tk', nw, e, F', N', off', _, hn', ⟨t', rfl⟩, hf⟩ := hz
        subst hn'
        refine ⟨h', tk', nw, e, F', N', off', trivial, ih (i + 1) _ (by omega) ?_⟩
        rw [hs, List.filter_append]
        simpa [hf] using ints_snoc hy (a + (i : Int) * c) t'
      | false =>
        rw [if_neg (by decide)] at hq ⊢
        obtain ⟨h', tk', nw, e, F', N', off', _, hn', hf⟩ := hq
        subst hn'
        refine ⟨h', tk', nw, e, F', N', off', trivial, ih (i + 1) _ (by omega) ?_⟩
        rw [hs, List.filter_append]
        simpa [hf] using hy
  exact key n 0 [] (by omega) (by simpa using IntsAre.nil)
end
end Mine

namespace Mine
def LotIn (lot : Int) : Prop := 1 ≤ lot ∧ lot ≤ 63
def bitFn {lot : Int} (_h : LotIn lot) (k : Int) : Bool := decide (Int.fmod (Int.fdiv lot (2 ^ (k - 1).toNat)) 2 = 1)
theorem bit_true {lot k : Int} {h : LotIn lot} (e : Int.fmod (Int.fdiv lot (2 ^ (k - 1).toNat)) 2 = 1) : bitFn h k = true := decide_eq_true e
theorem bit_false {lot k : Int} {h : LotIn lot} (e : ¬ Int.fmod (Int.fdiv lot (2 ^ (k - 1).toNat)) 2 = 1) : bitFn h k = false := decide_eq_false e
@[irreducible] def lotInts (lot : Int) : List Int := ((List.range 6).map fun (i : Nat) => (6 : Int) + (i : Int) * (-1)).filter fun k => decide (Int.fmod (Int.fdiv lot (2 ^ (k - 1).toNat)) 2 = 1)
theorem down6 {k : Int} (h : k ∈ ((List.range 6).map fun (i : Nat) => (6 : Int) + (i : Int) * (-1))) : 1 ≤ k ∧ k ≤ 6 := by
  obtain ⟨i, hi, rfl⟩ := List.mem_map.mp h
  have := List.mem_range.mp hi
  omega
section
variable {prog : Program} {w : World} {A : Around} {E : Value → Shared → Prop} {s : Shared}
theorem store_lot {env : Env} {y : Str} {x : Int} {t : Tok} {Q : Unit → Shared → Prop}
    (h : ∀ n : Int, LotIn n → wpAny (model prog w) A (storeName env y (.int n t)) Q E s) : wpAny (model prog w) A (storeName env y (.int (1 + Int.fmod x 63) t)) Q E s := by
  have h0 := fmod_lo x (n := 63) (by decide)
  have h1 := fmod_hi x (n := 63) (by decide)
  exact h _ ⟨by omega, by omega⟩
theorem pow_bit {k : Int} {t u : Tok} {Q : Value → Shared → Prop} (h0 : 1 ≤ k) (hk : k ≤ 6) (h : Q (.int (2 ^ (k - 1).toNat) s.toks) { s with toks := s.toks + 1 }) :
    wpAny (model prog w) A (binaryOp .Pow (.int 2 t) (.int (k - 1) u)) Q E s := pow_int_small (by omega) (by omega) (by decide) h
theorem div_bit {a k : Int} {t u : Tok} {Q : Value → Shared → Prop} (h6 : k ≤ 6) (h : Q (.int (a.fdiv (2 ^ (k - 1).toNat)) s.toks) { s with toks := s.toks + 1 }) :
    wpAny (model prog w) A (binaryOp .FloorDiv (.int a t) (.int (2 ^ (k - 1).toNat) u)) Q E s :=
  floordiv_int (Int.ne_of_gt (pow_pos_of (by decide) _)) h (Or.inl (PyProof.noPylong_of_log2 (kbt_py (by omega))))
end
section
variable {prog : Program} {w : World} {A : Around} {E : Value → Shared → Prop} {s : Shared} {h₀ : Heap} {L : Addr} {m : Str → Option Value} {env : Env}
theorem down_lot {ct elt : Expr} {x y : Str} {scope : Scope} {cl : List (Str × Addr)} {Q : Flow → Shared → Prop} {r : Addr} {t u v : Tok} {news : List (Addr × Obj)} {s₁ : Shared} {lot : Int} (hL : LotIn lot)
    (hh : A.handled = none) (F : Fr h₀ L s₁.heap m) (N : News h₀ L s₁.heap news) (hr : IsRange s₁.heap r 6 0 (-1) t u v)
    (turn : ∀ (k : Int) t I oI C oC D m₂ ys h tk (E' : Value → Shared → Prop), 1 ≤ k → k ≤ 6 → LCg.NsObj oC m₂ → m₂ x = some (.int k t) → Fr h₀ L h m → News h₀ L h ((I, oI) :: (C, oC) :: (D, LCg.lst ys) :: news) → LCg.Off3 I C D news → ((@Ne Nat I C) ∧ (@Ne Nat I D) ∧ (@Ne Nat C D)) →
      wpAny (model prog w) A (isTrue ct (compEnvC scope cl C env) (eval ct (compEnvC scope cl C env))) (fun ok s' => if ok = true then
        wpAny (model prog w) A (eval elt (compEnvC scope cl C env)) (LCg.CompEnd h₀ L m { s₁ with heap := h, toks := tk } I oI C oC D (LCg.lst ys) (fun _ => True) (fun z news' => news' = news ∧ (∃ t', z = .int k t') ∧ bitFn hL k = true)) E' s'
        else LCg.CompEnd h₀ L m { s₁ with heap := h, toks := tk } I oI C oC D (LCg.lst ys) (fun _ => True) (fun _ news' => news' = news ∧ bitFn hL k = false) Value.none s') E' { s₁ with heap := h, toks := tk })
    (fin : ∀ ys D h tk, IntsAre ys (lotInts lot) → Fr h₀ L h (fun z => if z = y then some (.ref D) else m z) → News h₀ L h ((D, LCg.lst ys) :: news) → LCg.Off1 D news → Q .next { s₁ with heap := h, toks := tk }) :
    DSrc prog w A h₀ L m env ct elt x y scope cl Q (.ref r) s₁ :=
  down_src (n := 6) (bitFn hL) hh F N hr (by decide) rfl (by rw [PySem.sizeLine_eq]; decide) (fun k t I oI C oC D m₂ ys h tk E' hk => turn k t I oI C oC D m₂ ys h tk E' (down6 hk).1 (down6 hk).2) (fun ys D h tk hi => fin ys D h tk (by unfold lotInts; exact hi))
end
end Mine

namespace Mine
def barS (k : Int) : Str := Str.ofString "(" ++ Txt.mul (Str.ofString "|") k ++ Str.ofString ")"
@[irreducible] def heapsOf (lot : Int) : Str := Txt.join (Str.ofString "") ((lotInts lot).map barS)
set_option maxRecDepth 100000 in
theorem lot_facts : ∀ n : Nat, n < 64 → 1 ≤ n → lotInts (n : Int) = (lotSizes n).map (fun (k : Nat) => (k : Int)) ∧ heapsOf (n : Int) = mk (heapsL n) ∧ (((lotInts (n : Int)).map barS).map (·.length)).sum ≤ 40 ∧ (lotInts (n : Int)).length ≤ 6 := by decide +kernel
set_option maxRecDepth 100000 in
theorem lot_pos : ∀ n : Nat, n < 64 → 1 ≤ n → 1 ≤ (lotInts (n : Int)).length := by decide +kernel
theorem LotIn.nat {lot : Int} (h : LotIn lot) : ∃ n : Nat, lot = (n : Int) ∧ n < 64 ∧ 1 ≤ n := ⟨lot.toNat, by have := h.1; omega, by have := h.2; omega, by have := h.1; omega⟩
theorem lot_plain {lot : Int} (h : LotIn lot) : ∃ n : Nat, lot = (n : Int) ∧ n < 64 ∧ 1 ≤ n ∧ lotOk n = true := by
  obtain ⟨n, e, h1, h2⟩ := h.nat
  exact ⟨n, e, h1, h2, lots_ok n h1 h2⟩
theorem heaps_len {lot : Int} (h : LotIn lot) : (heapsOf lot).length ≤ 40 := by
  obtain ⟨n, rfl, h1, h2, ok⟩ := lot_plain h
  rw [(lot_facts n h1 h2).2.1]
  show (heapsL n).length ≤ 40
  unfold lotOk at ok
  simp only [Bool.and_eq_true, decide_eq_true_eq] at ok
  exact ok.1.1.1
theorem heaps_sizes {lot : Int} (h : LotIn lot) : sizesOf (heapsOf lot) = lotInts lot := by
  obtain ⟨n, rfl, h1, h2, ok⟩ := lot_plain h
  rw [(lot_facts n h1 h2).2.1, (lot_facts n h1 h2).1]
  unfold lotOk at ok
  simp only [Bool.and_eq_true, beq_iff_eq] at ok
  exact ok.1.1.2
theorem heaps_few {lot : Int} (h : LotIn lot) : (sizesOf (heapsOf lot)).length ≤ 12 := by
  rw [heaps_sizes h]
  obtain ⟨n, rfl, h1, h2, ok⟩ := lot_plain h
  have := (lot_facts n h1 h2).2.2.2
  omega
theorem DoneV.split {H : Str} {v : Value} (h : DoneV H v) : v = .none ∨ ∃ S u, v = .str S u := by
  have q := done_of h
  cases e : doneF H with
  | none => rw [e] at q; exact .inl q
  | some S => rw [e] at q; obtain ⟨u, q⟩ := q; exact .inr ⟨_, u, q⟩
theorem sub_nil {l : List (Addr × Obj)} : SubL [] l := fun _ h => nomatch h
section
variable {prog : Program} {w : World} {A : Around} {E : Value → Shared → Prop} {s : Shared} {h₀ : Heap} {L : Addr} {m : Str → Option Value} {env : Env}
theorem ints_src {elt : Expr} {x : Str} {scope : Scope} {cl : List (Str × Addr)} {Q : Value → Shared → Prop} {ax : Addr} {vs : List Value} {lot : Int} {k : Nat} {news : List (Addr × Obj)} {s₁ : Shared} (hL : LotIn lot)
    (hh : A.handled = none) (F : Fr h₀ L s₁.heap m) (N : News h₀ L s₁.heap news) (hm : (ax, W.listOf vs.toArray k) ∈ news) (hi : IntsAre vs (lotInts lot))
    (turn : ∀ (y : Int) u I oI C oC D m₂ ys h tk (E' : Value → Shared → Prop), 1 ≤ y → y ≤ 6 → LCg.NsObj oC m₂ → m₂ x = some (.int y u) → Fr h₀ L h m → News h₀ L h ((I, oI) :: (C, oC) :: (D, LCg.lst ys) :: news) → LCg.Off3 I C D news → ((@Ne Nat I C) ∧ (@Ne Nat I D) ∧ (@Ne Nat C D)) →
      wpAny (model prog w) A (eval elt (compEnvC scope cl C env)) (LCg.CompEnd h₀ L m { s₁ with heap := h, toks := tk } I oI C oC D (LCg.lst ys) (fun _ => True) (fun z news' => news' = news ∧ ∃ t', z = .str (barS y) t')) E' { s₁ with heap := h, toks := tk })
    (fin : ∀ ys D h tk, StrsAre ys ((lotInts lot).map barS) → Fr h₀ L h m → News h₀ L h ((D, LCg.lst ys) :: news) → LCg.Off1 D news → Q (.ref D) { s₁ with heap := h, toks := tk }) :
    LCg.CompSrc prog w A h₀ L m env elt x scope cl (fun s₂ => LCg.FinE h₀ L m s₂ Q) (.ref ax) s₁ := by
  have hlen : (lotInts lot).length ≤ 6 := by
    obtain ⟨n, rfl, h1, h2⟩ := hL.nat
    exact (lot_facts n h1 h2).2.2.2
  have hb : ∀ y ∈ lotInts lot, 1 ≤ y ∧ y ≤ 6 := fun y hy => by unfold lotInts at hy; exact down6 (List.mem_filter.mp hy).1
  generalize lotInts lot = xs at *
  have hvl : vs.length = xs.length := IntsAre.length hi
  refine LCg.CompSrc.ledger hh F N hm (by rw [List.size_toArray, hvl, PySem.sizeLine_eq]; omega) fun g0 => ?_
  have key : ∀ (j i : Nat) (ys : List Value), i + j = xs.length → StrsAre ys ((xs.take i).map barS) → LCg.CompRest prog w A h₀ L m env elt x scope cl { s₁ with heap := g0 } (LCg.SrcAt h₀ ax vs.toArray) (fun i v => vs.toArray[i]? = some v) (LCg.FinE h₀ L m { s₁ with heap := g0 } Q) j i ys news := by
    intro j
    induction j with
    | zero =>
      intro i ys hi' hy
      rw [show i = xs.length by omega, List.take_length] at hy
      exact LCg.CompRest.zero fun D h tk F' N' o1 => fin ys D h tk hy F' N' o1
    | succ j ih =>
      intro i ys hi' hy
      refine LCg.CompRest.succ ?_
      intro v I oI C oC D m₂ h tk E' hv hC hx F N off ne
      obtain ⟨y, u, rfl, hy1⟩ := IntsAre.at hi i v (by simpa using hv)
      have hmem : y ∈ xs := List.mem_of_getElem? hy1
      refine wpAny_mono (turn y u I oI C oC D m₂ ys h tk E' (hb y hmem).1 (hb y hmem).2 hC hx F N off ne) (fun z s₂ hq => ?_) fun _ _ e => e
      obtain ⟨h', tk', nw, e, F', N', off', hS, hn, t', rfl⟩ := hq
      subst hn
      refine ⟨h', tk', nw, e, F', N', off', .inr ⟨_, hm, rfl, _, rfl⟩, ih (i + 1) _ (by omega) ?_⟩
      rw [List.take_add_one, hy1]
      simpa using kct_snoc hy
  have e : vs.toArray.size = xs.length := by rw [List.size_toArray, hvl]
  rw [e]
  exact key _ 0 [] (by omega) (by simp only [List.take_zero, List.map_nil]; exact .nil)
theorem join_lot {t : Tok} {Q : Value → Shared → Prop} {D : Addr} {ys : List Value} {led : List (Addr × Obj)} {lot : Int} (hL : LotIn lot)
    (N : News h₀ L s.heap led) (hm : (D, LCg.lst ys) ∈ led) (hi : StrsAre ys ((lotInts lot).map barS))
    (h : ∀ t' k, Q (.str (heapsOf lot) t') { s with toks := k }) : wpAny (model prog w) A (call (.builtin "str.join") [.str (Str.ofString "") t, .ref D]) Q E s := by
  have hl : s.heap.IsList D ys.toArray := ⟨_, (N _ hm).1, rfl, _, rfl⟩
  obtain ⟨n, rfl, h1, h2⟩ := hL.nat
  have hf := lot_facts n h1 h2
  refine join_listW hl (by simpa using hi) (by decide +kernel) ?_ (by unfold heapsOf at h; exact h)
  have q1 := hf.2.2.1
  have q2 := hf.2.2.2
  rw [List.length_map]
  omega
theorem len_lot {Q : Value → Shared → Prop} {D : Addr} {ys : List Value} {c : Nat} {led : List (Addr × Obj)} {lot : Int} (hL : LotIn lot)
    (N : News h₀ L s.heap led) (hm : (D, W.listOf ys.toArray c) ∈ led) (hi : IntsAre ys (lotInts lot))
    (h : ∀ n : Int, n = (lotInts lot).length → 1 ≤ n → n ≤ 6 → ∀ t k, Q (.int n t) { s with toks := k }) : wpAny (model prog w) A (call (.builtin "len") [.ref D]) Q E s := by
  have hl : s.heap.IsList D ys.toArray := ⟨_, (N _ hm).1, rfl, _, rfl⟩
  have e : ys.length = (lotInts lot).length := IntsAre.length hi
  obtain ⟨n, rfl, h1, h2⟩ := hL.nat
  have hf := (lot_facts n h1 h2).2.2.2
  have hp := lot_pos n h1 h2
  refine call_len_list hl (by rw [List.size_toArray]; omega) ?_
  rw [List.size_toArray, e]
  exact h _ rfl (by omega) (by omega) _ _
end
end Mine

namespace Mine
theorem ints_of : ∀ (vs : List Value) (xs : List Int), vs.length = xs.length → (∀ (j : Nat) (v : Value), vs[j]? = some v → ∃ t, v = .int (xs.getD j 0) t) → IntsAre vs xs
  | [], [], _, _ => IntsAre.nil
  | [], _ :: _, h, _ => by simp at h
  | _ :: _, [], h, _ => by simp at h
  | v :: r, x :: xs, h, k => by
    obtain ⟨t, ht⟩ := k 0 v rfl
    have e : v = .int x t := by simpa using ht
    subst e
    exact IntsAre.cons _ _ (ints_of r xs (by simpa using h) fun j w hj => by simpa using k (j + 1) w (by simpa using hj))
section
variable {prog : Program} {w : World} {A : Around} {E : Value → Shared → Prop} {s : Shared} {h₀ : Heap} {L : Addr} {m : Str → Option Value}
theorem list_step {r : Addr} {a b c : Int} {t u v : Tok} {n : Nat} {news : List (Addr × Obj)} {Q : Value → Shared → Prop} (hh : A.handled = none) (F : Fr h₀ L s.heap m) (N : News h₀ L s.heap news)
    (hr : IsRange s.heap r a b c t u v) (hsmall : Builtin.Range.small a b c = true) (hn : Builtin.Range.rangeSize a b c = (n : Int)) (hz : n ≤ 2 ^ 24)
    (h : ∀ D us c' h' tk, Fr h₀ L h' m → News h₀ L h' ((D, W.listOf (List.toArray us) c') :: news) → (∀ p ∈ news, p.1 < D) → IntsAre us ((List.range n).map fun (i : Nat) => a + (i : Int) * c) → Q (.ref D) { s with heap := h', toks := tk }) :
    wpAny (model prog w) A (call (.type "list") [.ref r]) Q E s := by
  refine call_list_range hh hr hsmall hn hz fun h' tk acc c' hk hD hI => ?_
  have hD' : h'.get? s.heap.objs.size = some (W.listOf (List.toArray acc.toList) c') := by
    rw [Array.toArray_toList]
    exact hD
  refine h _ acc.toList c' h' tk (F.keeps hk) (news_pushed F N hk hD' rfl) (fun p hp => Heap.lt_size (N p hp).1) (ints_of _ _ (by rw [Array.length_toList, List.length_map, List.length_range]; exact hI.1) fun j v hj => ?_)
  have hj' : acc[j]? = some v := by rw [← hj, Array.getElem?_toList]
  obtain ⟨t, e⟩ := hI.2 j v hj'
  have hlt : j < n := by
    have := (Array.getElem?_eq_some_iff.mp hj').1
    have := hI.1
    omega
  refine ⟨t, ?_⟩
  rw [e, List.getD_eq_getElem?_getD, List.getElem?_map, List.getElem?_range hlt]
  rfl
end
theorem size_down {a b : Int} (h : b ≤ a) : Builtin.Range.rangeSize a b (-1) = ((a - b).toNat : Int) := by
  unfold Builtin.Range.rangeSize
  rw [if_neg (by decide)]
  by_cases q : a > b
  · rw [if_pos q, show (- (-1 : Int)) = 1 by decide, Int.ediv_one]; omega
  · rw [if_neg q]; omega
theorem small_down {a b : Int} (h : b ≤ a) (h1 : -1000 ≤ b) (h2 : a ≤ 1000) : Builtin.Range.small a b (-1) = true := by
  unfold Builtin.Range.small
  rw [size_down h]
  simp only [Builtin.Range.rangeFitsLong, Bool.and_eq_true, Bool.or_eq_true, decide_eq_true_eq, beq_iff_eq, show ¬ ((-1 : Int) > 0) by decide, if_false]
  refine ⟨⟨⟨⟨⟨by omega, by omega⟩, by omega, by omega⟩, by decide, by decide⟩, by omega, by omega⟩, .inr ⟨by omega, by omega⟩⟩
end Mine

namespace Mine
section
variable {prog : Program} {w : World} {A : Around} {E : Value → Shared → Prop} {s : Shared} {h₀ : Heap} {L : Addr}
theorem in_two {D T l1 l2 : Addr} {ys us vs : List Value} {x a b : List Int} {n0 n1 n2 n3 : Nat} {led : List (Addr × Obj)} {Q : Value → Shared → Prop}
    (N : News h₀ L s.heap led) (hD : (D, W.listOf ys.toArray n0) ∈ led) (h1 : (l1, W.listOf us.toArray n1) ∈ led) (h2 : (l2, W.listOf vs.toArray n2) ∈ led)
    (hT : (T, ({ cls := .type "tuple", data := .seq #[.ref l1, .ref l2] n3 } : Obj)) ∈ led) (ix : IntsAre ys x) (ia : IntsAre us a) (ib : IntsAre vs b) (hu : A.units + 70 < cLine)
    (h : Q (.bool (decide (a = x) || decide (b = x))) s) : wpAny (model prog w) A (compareOp .In (.ref D) (.ref T)) Q E s := by
  have lD : s.heap.IsList D ys.toArray := ⟨_, (N _ hD).1, rfl, _, rfl⟩
  have l1' : s.heap.IsList l1 us.toArray := ⟨_, (N _ h1).1, rfl, _, rfl⟩
  have l2' : s.heap.IsList l2 vs.toArray := ⟨_, (N _ h2).1, rfl, _, rfl⟩
  have rT : Reads s.heap (.ref T) (.tuple [.list (a.map PyData.int), .list (b.map PyData.int)]) ([l1] ++ ([l2] ++ [])) :=
    Reads.tuple (N _ hT).1 rfl rfl (ReadsAll.cons (reads_of_ints l1' ia) (ReadsAll.cons (reads_of_ints l2' ib) ReadsAll.nil))
  have e : ∀ c : List Int, PyData.eqv (.list (c.map PyData.int)) (.list (x.map PyData.int)) = decide (c = x) := fun c => by
    rw [← SeqAt.same_eq_eqv _ _ (by simp only [SeqAt.noMix]; exact noMix_ints c x)]
    simp only [PySem.Spec.same]
    exact same_ints c x
  have d1 := W.depthAll_ints a
  have d2 := W.depthAll_ints b
  have d3 := W.depthAll_ints x
  refine SeqAt.in_tuple_reads rT (reads_of_ints lD ix) ?_ ?_ ?_ ?_
  · simp only [PyData.canLayAll0, PyData.canLay0, canLayAll0_ints, Bool.and_self]
  · simp only [PyData.canLay0]; exact canLayAll0_ints x
  · simp only [PyData.depthAll, PyData.depth]; omega
  · simp only [List.any_cons, List.any_nil, Bool.or_false, e]
    exact h
end
end Mine

namespace Mine
theorem owner_si : Manifest.owners.lookup (String.ofList ['r', 'o', 't', 'a', 'r', 'e', 't', 'i', '_', 't', 'e', 's'].reverse) = some Manifest.sig_set_iterator := by kernel_rfl
theorem slot_si_next : Slot "set_iterator" "__next__" "set_iterator.__next__" :=
  .of (owner := "set_iterator") (n := "__next__") (by rw [typeLookup_type, builtinLookup_eq_fast]; kernel_rfl) (by decide +kernel) (by decide +kernel) (by decide +kernel)
    (by first | exact .inl (by decide +kernel) | exact .inr (by decide +kernel)) (by rw [isSubtype_type]; kernel_rfl)
theorem slot_si_iter : Slot "set_iterator" "__iter__" "set_iterator.__iter__" :=
  .of (owner := "set_iterator") (n := "__iter__") (by rw [typeLookup_type, builtinLookup_eq_fast]; kernel_rfl) (by decide +kernel) (by decide +kernel) (by decide +kernel)
    (by first | exact .inl (by decide +kernel) | exact .inr (by decide +kernel)) (by rw [isSubtype_type]; kernel_rfl)
theorem entry_si_next : entryFor table "set_iterator.__next__" = some Builtin.«set_iterator.__next__» := entryFor_of_tree (by kernel_rfl)
theorem entry_si_iter : entryFor table "set_iterator.__iter__" = some Builtin.«dict_keyiterator.__iter__» :=
  entryFor_alias (id' := "dict_keyiterator.__iter__") (by kernel_rfl) rfl (by decide +kernel) (by kernel_rfl)
theorem entry_set_iter : entryFor table "set.__iter__" = some Builtin.«frozenset.__iter__» :=
  entryFor_alias (id' := "frozenset.__iter__") (by kernel_rfl) rfl (by decide +kernel) (by kernel_rfl)
theorem args_si_next (a : Value) : argsOk "set_iterator.__next__" ⟨[a], []⟩ := by
  unfold argsOk; rw [signature?_of (id := "set_iterator.__next__") (n := ['_', '_', 't', 'x', 'e', 'n', '_', '_']) (o := ['r', 'o', 't', 'a', 'r', 'e', 't', 'i', '_', 't', 'e', 's']) (by kernel_rfl) owner_si]; kernel_rfl
theorem args_si_iter (a : Value) : argsOk "set_iterator.__iter__" ⟨[a], []⟩ := by
  unfold argsOk; rw [signature?_of (id := "set_iterator.__iter__") (n := ['_', '_', 'r', 'e', 't', 'i', '_', '_']) (o := ['r', 'o', 't', 'a', 'r', 'e', 't', 'i', '_', 't', 'e', 's']) (by kernel_rfl) owner_si]; kernel_rfl

def IsSetIter (h : Heap) (it a : Addr) (slot i n ep : Nat) : Prop :=
  ∃ o, h.get? it = some o ∧ o.cls = .type "set_iterator" ∧ o.data = .fields #[.int slot 0, .int i 0, .ref a, .int n 0, .int ep 0]
def IsSetAt (h : Heap) (a : Addr) (es : Array (Int × Value)) (ep : Nat) (t : SetTable) : Prop :=
  ∃ o, h.get? a = some o ∧ o.cls = .type "set" ∧ o.data = .set es ep t ∧ t.fits es.size = true
theorem IsSetIter.at {h h' : Heap} {it a slot i n ep} (x : IsSetIter h it a slot i n ep) (e : ∀ o, h.get? it = some o → h'.get? it = some o) : IsSetIter h' it a slot i n ep := let ⟨o, ho, r⟩ := x; ⟨o, e _ ho, r⟩
theorem IsSetAt.at {h h' : Heap} {a es ep t} (x : IsSetAt h a es ep t) (e : ∀ o, h.get? a = some o → h'.get? a = some o) : IsSetAt h' a es ep t := let ⟨o, ho, r⟩ := x; ⟨o, e _ ho, r⟩
theorem IsSetIter.typeIs {s : Shared} {it a slot i n ep} (x : IsSetIter s.heap it a slot i n ep) : s.TypeIs (.ref it) "set_iterator" := let ⟨o, ho, hc, _⟩ := x; ⟨o, ho, hc⟩
theorem IsSetAt.typeIs {s : Shared} {a es ep t} (x : IsSetAt s.heap a es ep t) : s.TypeIs (.ref a) "set" := let ⟨o, ho, hc, _⟩ := x; ⟨o, ho, hc⟩

/-- how a set that nobody changes is walked: its items and the slots -/
structure SetGoes (prog : Program) (w : World) (a : Addr) (es : Array (Int × Value)) (ep : Nat) (t : SetTable) (xs : List Value) (nx : Nat → Nat) : Prop where
  drawn : ∀ A E s (Q : Bool → Shared → Prop), IsSetAt s.heap a es ep t → Q false s → wpAny (model prog w) A (setDrawn a) Q E s
  len : xs.length = es.size
  start : nx 0 = 0
  item : ∀ A E s i x (Q : Option (Value × Nat) → Shared → Prop), IsSetAt s.heap a es ep t → xs[i]? = some x → Q (some (x, nx (i + 1))) s → wpAny (model prog w) A (setNext a (nx i) i ep) Q E s
  done : ∀ A E s (Q : Option (Value × Nat) → Shared → Prop), IsSetAt s.heap a es ep t → Q none s → wpAny (model prog w) A (setNext a (nx xs.length) xs.length ep) Q E s

section
variable {prog : Program} {w : World} {A : Around} {E : Value → Shared → Prop} {s : Shared} {a : Addr} {es : Array (Int × Value)} {ep : Nat} {t : SetTable}

theorem pyIter_set {xs : List Value} {nx : Nat → Nat} {Q : Value → Shared → Prop} (G : SetGoes prog w a es ep t xs nx) (hS : IsSetAt s.heap a es ep t)
    (hQ : Q (.ref s.heap.objs.size) { s with heap := s.heap.push { cls := .type "set_iterator", data := .fields #[.int ((0 : Nat) : Int) 0, .int ((0 : Nat) : Int) 0, .ref a, .int es.size 0, .int ep 0] } }) :
    wpAny (model prog w) A (pyIter (.ref a)) Q E s := by
  have hT := hS.typeIs
  obtain ⟨o, ho, hc, hd, hf⟩ := id hS
  refine wpAny_pyIter_slot hT F.slot_set_iter (wpAny_call_entry F.slot_set_iter hT entry_set_iter ?_ (F.args_set_iter_1 _))
  unfold Builtin.«frozenset.__iter__» Builtin.Frozenset.slot0 slotArgs
  simp only [List.isEmpty_nil, Bool.not_true, Bool.false_eq_true, ↓reduceIte, bind_assoc, List.length_nil, bne_self_eq_false]
  unfold Builtin.Frozenset.addrOf Builtin.Frozenset.sizeOf
  refine wpAny_bind (wpAny_pure ?_)
  try dsimp only
  refine wpAny_bind (wpAny_pure ?_)
  refine wpAny_bind (wpAny_bind (wpAny_setEntries_of ho hd hf (wpAny_pure ?_)))
  refine wpAny_bind (G.drawn _ _ _ _ hS ?_)
  simp only [Bool.false_eq_true, ↓reduceIte]
  refine wpAny_bind (wpAny_pure ?_)
  refine wpAny_bind (wpAny_setEpoch_of ho hd hf ?_)
  refine wpAny_bind (wpAny_newObj_type (wpAny_pure ⟨_, rfl, "set_iterator", _, ⟨_, Heap.get?_push_size _ rfl, rfl⟩, slot_si_next.lookup, ?_⟩))
  simpa [rawInt] using hQ

theorem pyIter_si {it : Addr} {slot i n : Nat} {Q : Value → Shared → Prop} (hit : IsSetIter s.heap it a slot i n ep) (h : Q (.ref it) s) : wpAny (model prog w) A (pyIter (.ref it)) Q E s := by
  refine wpAny_pyIter_slot hit.typeIs slot_si_iter (wpAny_call_entry slot_si_iter hit.typeIs entry_si_iter ?_ (args_si_iter _))
  show wpAny _ _ (ret (.ref it)) _ _ s
  exact wpAny_pure ⟨_, rfl, "set_iterator", _, hit.typeIs, slot_si_next.lookup, h⟩

theorem next_set_item {it : Addr} {xs : List Value} {nx : Nat → Nat} {i : Nat} {x : Value} {Q : Option Value → Shared → Prop} (G : SetGoes prog w a es ep t xs nx) (hne : a ≠ it)
    (hit : IsSetIter s.heap it a (nx i) i es.size ep) (hS : IsSetAt s.heap a es ep t) (hx : xs[i]? = some x)
    (hQ : ∀ h', IsSetIter h' it a (nx (i + 1)) (i + 1) es.size ep → Heap.SameBut it s.heap h' → Q (some x) { s with heap := h' }) :
    wpAny (model prog w) A (pyNext (.ref it)) Q E s := by
  obtain ⟨oi, hoi, hci, hdi⟩ := id hit
  obtain ⟨o, ho, hc, hd, hf⟩ := id hS
  unfold pyNext
  refine wpAny_bind (wpAny_attempt (wpAny_callSpecial?_slot (name := Str.ofString "__next__") hit.typeIs slot_si_next
    (wpAny_call_entry slot_si_next hit.typeIs entry_si_next ?_ (args_si_next _))))
  unfold Builtin.«set_iterator.__next__» slotArgs
  simp only [List.isEmpty_nil, Bool.not_true, Bool.false_eq_true, ↓reduceIte, List.length_nil, bne_self_eq_false]
  refine wpAny_bind (wpAny_pure ?_)
  refine wpAny_bind (wpAny_fieldsOf hoi hdi ?_)
  dsimp only
  refine wpAny_bind (wpAny_setEntries_of ho hd hf ?_)
  rw [if_neg (by simp)]
  simp only [Int.toNat_natCast]
  refine wpAny_bind (G.item _ _ _ i x _ hS hx ?_)
  dsimp only
  refine wpAny_bind (wpAny_setField hoi hdi (by simp) ?_)
  have ho1 := Heap.get?_update_self (Obj.mapFields (·.setIfInBounds 0 (rawInt (nx (i + 1))))) hoi (Obj.isFreed_of_fields (Obj.data_mapFields hdi _))
  refine wpAny_bind (wpAny_setField ho1 (Obj.data_mapFields hdi _) (by simp) ?_)
  refine wpAny_pure ⟨_, rfl, wpAny_pure (hQ _ ⟨_, Heap.get?_update_self _ ho1 (Obj.isFreed_of_fields (Obj.data_mapFields (Obj.data_mapFields hdi _) _)), ?_, ?_⟩ ((Heap.SameBut.update ..).trans (Heap.SameBut.update ..)))⟩
  · exact (Obj.cls_mapFields ..).trans ((Obj.cls_mapFields ..).trans hci)
  · rw [Obj.data_mapFields (Obj.data_mapFields hdi _)]; simp [rawInt]

theorem next_set_end {it : Addr} {xs : List Value} {nx : Nat → Nat} {Q : Option Value → Shared → Prop} (hh : A.handled = none) (G : SetGoes prog w a es ep t xs nx)
    (hit : IsSetIter s.heap it a (nx xs.length) xs.length es.size ep) (hS : IsSetAt s.heap a es ep t)
    (hQ : ∀ h', Heap.ExtBut it s.heap h' → Q none { s with heap := h' }) :
    wpAny (model prog w) A (pyNext (.ref it)) Q E s := by
  obtain ⟨oi, hoi, hci, hdi⟩ := id hit
  obtain ⟨o, ho, hc, hd, hf⟩ := id hS
  unfold pyNext
  refine wpAny_bind (wpAny_attempt (wpAny_callSpecial?_slot (name := Str.ofString "__next__") hit.typeIs slot_si_next
    (wpAny_call_entry slot_si_next hit.typeIs entry_si_next ?_ (args_si_next _))))
  unfold Builtin.«set_iterator.__next__» slotArgs
  simp only [List.isEmpty_nil, Bool.not_true, Bool.false_eq_true, ↓reduceIte, List.length_nil, bne_self_eq_false]
  refine wpAny_bind (wpAny_pure ?_)
  refine wpAny_bind (wpAny_fieldsOf hoi hdi ?_)
  dsimp only
  refine wpAny_bind (wpAny_setEntries_of ho hd hf ?_)
  rw [if_neg (by simp)]
  simp only [Int.toNat_natCast]
  refine wpAny_bind (G.done _ _ _ _ hS ?_)
  dsimp only
  refine wpAny_bind (wpAny_setField hoi hdi (by simp) ?_)
  show wpAny _ _ (newExc (.type "StopIteration") [] >>= _) _ _ _
  refine wpAny_bind ?_
  simp only [newExc, newTuple]
  refine wpAny_bind (wpAny_newObj_type ?_ (by size_fits))
  refine wpAny_bind (m := firstArgMember _ _) (wpAny_of_eq (a := Value.none) (by first | rfl | (simp only [firstArgMember]; rfl)) ?_)
  refine wpAny_newObj_type ?_ (by size_fits)
  simp only [raiseNew]
  refine wpAny_bind (wpAny_handled ?_)
  rw [show A.in1.handled = none from hh]
  refine wpAny_bind (wpAny_pure (wpAny_throw ?_))
  refine wpAny_bind (wpAny_isInstance (T := "StopIteration") (b := true) ⟨_, Heap.get?_push_size _ rfl, rfl⟩ isSubtype_stop ?_)
  exact wpAny_pure (hQ _ (((Heap.SameBut.update ..).extBut.push _).push _))

theorem walks_set (hh : A.handled = none) (I : Addr) (hne : a ≠ I) {xs : List Value} {nx : Nat → Nat} (G : SetGoes prog w a es ep t xs nx) :
    Walks prog w A I [I, a] [I] xs.length (fun i v => xs[i]? = some v) (fun i h => IsSetIter h I a (nx i) i es.size ep ∧ IsSetAt h a es ep t) where
  sub := fun b hb => by simp at hb; simp [hb]
  frame := fun _ _ _ st hk => ⟨st.1.at fun o e => hk I (by simp) o e, st.2.at fun o e => hk a (by simp) o e⟩
  item := fun i s Q E hi st hQ => by
    obtain ⟨x, hx⟩ : ∃ x, xs[i]? = some x := ⟨xs[i], by simp [hi]⟩
    refine next_set_item G hne st.1 st.2 hx fun h' hit' hs' => ?_
    exact hQ x h' s.toks hx ⟨hit', st.2.at fun o e => hs'.extBut a o hne e⟩ fun b o hb e => hs'.extBut b o (fun h => hb (by simp [h])) e
  done := fun s Q E st hQ => next_set_end hh G st.1 st.2 fun h' he' => hQ h' s.toks fun b o hb e => he' b o (fun h => hb (by simp [h])) e
  self := fun _ _ _ _ st hQ => pyIter_si st.1 hQ
end
end Mine

namespace Mine
def slotAt (place : Array Nat) (i : Nat) : Nat := if i = 0 then 0 else place.getD (i - 1) 0 + 1
def walkOk (place : Array Nat) : Bool := (List.range (place.size + 1)).all fun i => SetTable.below place (slotAt place i) == i
theorem walkOk_at {place : Array Nat} (h : walkOk place = true) {i : Nat} (hi : i ≤ place.size) : SetTable.below place (slotAt place i) = i := by
  unfold walkOk at h
  rw [List.all_eq_true] at h
  simpa using h i (List.mem_range.mpr (by omega))
theorem pick_perm {α : Type} (next : Nat → Nat) : ∀ (fuel k : Nat) (left : List α) (out : Array α), left.length = fuel → List.Perm (pickOrder.go next fuel k left out).toList (out.toList ++ left)
  | 0, k, left, out, h => by
    obtain rfl := List.length_eq_zero_iff.mp h
    simp [pickOrder.go]
  | fuel + 1, k, left, out, h => by
    have hlt : next k % left.length < left.length := Nat.mod_lt _ (by omega)
    unfold pickOrder.go
    rw [List.getElem?_eq_getElem hlt]
    dsimp only
    refine (pick_perm next fuel (k + 1) _ _ (by rw [List.length_eraseIdx_of_lt hlt]; omega)).trans ?_
    rw [Array.toList_push, List.append_assoc]
    refine List.Perm.append_left _ ?_
    rw [List.eraseIdx_eq_take_drop_succ]
    have e := List.perm_middle (a := left[next k % left.length]) (l₁ := left.take (next k % left.length)) (l₂ := left.drop (next k % left.length + 1))
    rw [← List.drop_eq_getElem_cons hlt, List.take_append_drop] at e
    exact e.symm
theorem pickOrder_perm {α : Type} (next : Nat → Nat) (xs : Array α) : List.Perm (pickOrder next xs).toList xs.toList := by
  have := pick_perm next xs.size 0 xs.toList #[] (by simp)
  simpa [pickOrder] using this
section
variable {prog : Program} {w : World} {A : Around} {E : Value → Shared → Prop} {s : Shared} {a : Addr} {es : Array (Int × Value)} {ep : Nat} {t : SetTable}
theorem goes (hl : t.led = !w.params.followText "set-order") (hp : t.plain = true) (hw : walkOk t.place = true) (hf : t.fits es.size = true) :
    ∃ xs nx, SetGoes prog w a es ep t xs nx ∧ List.Perm xs (es.toList.map (·.2)) := by
  have hdr : ∀ A E s (Q : Bool → Shared → Prop), IsSetAt s.heap a es ep t → Q false s → wpAny (model prog w) A (setDrawn a) Q E s := by
    intro A E s Q hS hQ
    obtain ⟨o, ho, _, hd, hf⟩ := hS
    unfold setDrawn setsByText
    refine wpAny_bind (wpAny_setState_of ho hd hf ?_)
    refine wpAny_bind (wpAny_bind (wpAny_askSetting (wpAny_pure ?_)))
    refine wpAny_pure ?_
    show Q (!w.params.followText "set-order" && (!t.plain && decide (es.size > 1))) s
    rw [hp]
    simpa using hQ
  have hsz : t.place.size = es.size := by
    simp only [SetTable.fits, Bool.and_eq_true, beq_iff_eq] at hf
    exact hf.1
  cases hb : w.params.followText "set-order" with
  | true =>
    have hperm := pickOrder_perm (w.params.setOrder a ep) es
    have hlen : (pickOrder (w.params.setOrder a ep) es).size = es.size := by rw [← Array.length_toList, hperm.length_eq, Array.length_toList]
    have key : ∀ A E s (i : Nat) (Q : Option (Value × Nat) → Shared → Prop), IsSetAt s.heap a es ep t → Q (((pickOrder (w.params.setOrder a ep) es)[i]?).map fun e => (e.2, 0)) s → wpAny (model prog w) A (setNext a 0 i ep) Q E s := by
      intro A E s i Q hS hQ
      obtain ⟨o, ho, _, hd, hf⟩ := hS
      unfold setNext setWalk setsByText
      refine wpAny_bind (wpAny_setState_of ho hd hf ?_)
      refine wpAny_bind (wpAny_bind (wpAny_askSetting (wpAny_pure ?_)))
      refine wpAny_ite_split (fun _ => ?_) (fun h => absurd hb h)
      refine wpAny_ite_split (fun h => absurd h (by simp)) (fun _ => ?_)
      refine wpAny_bind (wpAny_bind (wpAny_setState_of ho hd hf ?_))
      refine wpAny_bind (wpAny_bind (wpAny_askSetting (wpAny_pure ?_)))
      refine wpAny_ite_split (fun _ => ?_) (fun h => absurd hb h)
      refine wpAny_bind (wpAny_askSetting ?_)
      exact wpAny_pure (wpAny_pure hQ)
    refine ⟨(pickOrder (w.params.setOrder a ep) es).toList.map (·.2), fun _ => 0, ⟨hdr, by rw [List.length_map, Array.length_toList, hlen], rfl, fun A E s i x Q hS hx hQ => key A E s i Q hS ?_, fun A E s Q hS hQ => key A E s _ Q hS ?_⟩, hperm.map _⟩
    · rw [List.getElem?_map, Array.getElem?_toList] at hx
      cases hg : (pickOrder (w.params.setOrder a ep) es)[i]? with
      | none => rw [hg] at hx; simp at hx
      | some e => rw [hg] at hx; simp at hx; subst hx; exact hQ
    · rw [Array.getElem?_eq_none (by rw [List.length_map, Array.length_toList]; exact Nat.le_refl _)]
      exact hQ
  | false =>
    have hled : t.led = true := by rw [hl, hb]; rfl
    have key : ∀ A E s (i : Nat) (Q : Option (Value × Nat) → Shared → Prop), i ≤ es.size → IsSetAt s.heap a es ep t → (∀ r, r = (match es[i]?, t.place[i]? with | some (_, x), some j => some (x, j + 1) | _, _ => none) → Q r s) → wpAny (model prog w) A (setNext a (slotAt t.place i) i ep) Q E s := by
      intro A E s i Q hi hS hQ
      obtain ⟨o, ho, _, hd, hf⟩ := hS
      unfold setNext setsByText
      refine wpAny_bind (wpAny_setState_of ho hd hf ?_)
      refine wpAny_bind (wpAny_bind (wpAny_askSetting (wpAny_pure ?_)))
      refine wpAny_ite_split (fun h => absurd (hb.symm.trans h) (by decide)) (fun _ => ?_)
      refine wpAny_ite_split (fun h => absurd (show (!t.plain && decide (es.size > 1)) = true from h) (by rw [hp]; simp)) (fun _ => ?_)
      refine wpAny_bind (wpAny_of_eq (a := ()) ?_ ?_)
      · show (if (!t.led && !es.isEmpty) = true then _ else _) = _
        rw [hled]
        rfl
      rw [walkOk_at hw (by rw [hsz]; exact hi)]
      exact wpAny_pure (hQ _ rfl)
    refine ⟨es.toList.map (·.2), slotAt t.place, ⟨hdr, by simp, rfl, fun A E s i x Q hS hx hQ => ?_, fun A E s Q hS hQ => ?_⟩, .refl _⟩
    · rw [List.getElem?_map, Array.getElem?_toList] at hx
      cases hg : es[i]? with
      | none => rw [hg] at hx; simp at hx
      | some e =>
        rw [hg] at hx; simp at hx; subst hx
        have hi : i < es.size := (Array.getElem?_eq_some_iff.mp hg).1
        refine key A E s i Q (by omega) hS fun r hr => ?_
        rw [hr, hg, Array.getElem?_eq_getElem (by omega)]
        have e2 : slotAt t.place (i + 1) = t.place[i]'(by omega) + 1 := by
          unfold slotAt
          rw [if_neg (by omega), Nat.add_sub_cancel, Array.getD_eq_getD_getElem?, Array.getElem?_eq_getElem (by omega)]
          rfl
        rw [e2] at hQ
        exact hQ
    · refine key A E s _ Q (by simp) hS fun r hr => ?_
      rw [hr, Array.getElem?_eq_none (by simp)]
      exact hQ

theorem hint_set {o : Obj} {Q : Bool → Shared → Prop} (ho : s.heap.get? a = some o) (hex : o.ExactSet)
    (h : ∀ b tk, Q b { s with toks := tk }) : wpAny (model prog w) A (Builtin.List.listLengthHint (.ref a)) Q E s := by
  have hT : s.TypeIs (.ref a) "set" := ⟨o, ho, hex.1⟩
  unfold Builtin.List.listLengthHint
  refine wpAny_bind (wpAny_specialOf hT F.slot_set_len.lookup ?_)
  generalize hid : ("set.__len__" : String) = id0
  wp_delta
  rw [show splitId id0 = some ("set", "__len__") from by subst hid; decide +kernel]
  subst hid
  refine wpAny_bind (wpAny_isInstance (T := "set") (b := true) hT (by rw [isSubtype_type]; kernel_rfl) ?_)
  refine wpAny_ite_split (fun hab => absurd hab (by decide)) (fun _ => ?_)
  refine wpAny_ite_split (fun _ => ?_) (fun hab => absurd (by decide +kernel) hab)
  refine wpAny_bind (wpAny_typeOf hT ?_)
  exact wpAny_pure (h false s.toks)

theorem extend_set {R : Result → Shared → Prop} (hh : A.handled = none) {xs : List Value} {nx : Nat → Nat} (G : SetGoes prog w a es ep t xs nx) {o : Obj}
    (ho : s.heap.get? a = some o) (hex : o.ExactSet) (hd : o.data = .set es ep t) (hf : t.fits es.size = true) (hn : es.size ≤ 4096) (S : Addr) (res : Value) (c₀ : Nat) (hS : s.heap.get? S = some { cls := .type "list", data := .seq #[] c₀ })
    (hR : ∀ h' tk acc' c', (∀ b o, b ≠ S → s.heap.get? b = some o → h'.get? b = some o) → h'.get? S = some { cls := .type "list", dict := none, data := .seq acc' c', slots := #[] } →
      ItemsOf (fun i v => xs[i]? = some v) acc' xs.length → R (.ok (.ret res)) { s with heap := h', toks := tk }) :
    wpAny (model prog w) A.in1 (Builtin.List.listExtendWith (.ref S) (.ref a) res)
      (fun fin s' => match fin with | .done f => R (.ok f) s' | .again c' => c'.quiet = true ∧ codeAny (model prog w) A c' R s') (fun e s' => R (.error e) s') s := by
  have hSa : S ≠ a := fun e => by rw [e, ho] at hS; simp at hS; rw [hS] at hd; cases hd
  have hSlt : S < s.heap.objs.size := Heap.lt_size hS
  have halt : a < s.heap.objs.size := Heap.lt_size ho
  have hSI : S ≠ s.heap.objs.size := Nat.ne_of_lt hSlt
  have haI : a ≠ s.heap.objs.size := Nat.ne_of_lt halt
  have hSf : S ∉ [s.heap.objs.size, a] := fun hm => by
    rcases List.mem_cons.mp hm with e | hm
    · exact hSI e
    · exact hSa (List.mem_singleton.mp hm)
  have W := (walks_set (A := A.in1) (a := a) hh s.heap.objs.size haI G).toS
  have hxs : xs.length ≤ sizeLine := by rw [G.len, sizeLine_eq]; omega
  have key : ∀ (h : Heap) (c₁ tk : Nat), (IsSetIter h s.heap.objs.size a (nx 0) 0 es.size ep ∧ IsSetAt h a es ep t) → (∀ b o, b ≠ S → s.heap.get? b = some o → h.get? b = some o) →
      h.get? S = some { cls := .type "list", data := .seq #[] c₁ } → codeAny (model prog w) A (.builtin "list.extend.loop" ⟨[.ref S, .ref s.heap.objs.size, res], []⟩) R { s with heap := h, toks := tk } := by
    intro h c₁ tk hit hk hS₁
    refine codeAny_extend_loopS W hxs S hSf res xs.length 0 _ #[] c₁ rfl (Nat.zero_le _) hit hS₁ (ItemsOf.nil _) fun s' acc' c' hm hS' hacc => ?_
    rw [Moved.eq_with hm]
    refine hR s'.heap s'.toks acc' c' (fun b o hb e => hm.heap b o (fun hmem => ?_) (hk b o hb e)) hS' hacc
    rcases List.mem_cons.mp hmem with e' | hmem
    · exact hb e'
    · exact absurd (Heap.lt_size e) (by rw [List.mem_singleton.mp hmem]; exact Nat.lt_irrefl _)
  have hA : IsSetAt s.heap a es ep t := ⟨o, ho, hex.1, hd, hf⟩
  unfold Builtin.List.listExtendWith
  refine wpAny_bind (wpAny_typeOf (T := "set") ⟨o, ho, hex.1⟩ ?_)
  have h1 : Builtin.List.listSameRef (.ref S) (.ref a) = false := by simp [Builtin.List.listSameRef, hSa]
  have h2 : (Value.type "set" == Value.type "list") = false := by decide
  have h3 : (Value.type "set" == Value.type "tuple") = false := by decide
  simp only [h1, h2, h3, Bool.or_false, Bool.false_eq_true, if_false]
  refine wpAny_bind (pyIter_set G hA ?_)
  have up : ∀ (ob : Obj) b o', s.heap.get? b = some o' → (s.heap.push ob).get? b = some o' := fun ob b o' e => Heap.get?_push_of_some _ e
  refine wpAny_bind (wpAny_holding (hint_set (up _ a o ho) hex fun room tk => ?_))
  have hit₁ : IsSetIter (s.heap.push { cls := .type "set_iterator", data := .fields #[.int ((0 : Nat) : Int) 0, .int ((0 : Nat) : Int) 0, .ref a, .int es.size 0, .int ep 0] }) s.heap.objs.size a (nx 0) 0 es.size ep :=
    ⟨_, Heap.get?_push_size _ rfl, rfl, by rw [G.start]⟩
  have hS₁ := Heap.get?_push_of_some { cls := .type "set_iterator", data := .fields #[.int ((0 : Nat) : Int) 0, .int ((0 : Nat) : Int) 0, .ref a, .int es.size 0, .int ep 0] } hS
  refine wpAny_ite_split (fun _ => ?_) (fun _ => wpAny_pure ⟨plainId_quiet F.plain_extend_loop _, key _ c₀ _ ⟨hit₁, hA.at fun o' e => up _ a o' e⟩ (fun b o _ e => Heap.get?_push_of_some _ e) hS₁⟩)
  refine wpAny_bind (wpAny_rule ?_)
  refine wpAny_bind ?_
  show wpAny _ _ (updateSeq S (·.push .none) >>= fun _ => updateSeq S (·.pop)) _ _ _
  refine wpAny_bind (wpAny_updateSeq hS₁ rfl ?_)
  have hS₂ := Heap.get?_update_self (Obj.mapSeq (·.push Value.none)) hS₁ rfl
  refine wpAny_updateSeq (hz := by seq_fits) hS₂ rfl ?_
  have hS₃ := Heap.get?_update_self (Obj.mapSeq (·.pop)) hS₂ rfl
  have oth : ∀ (b : Addr) (o' : Obj), b ≠ S → (s.heap.push { cls := .type "set_iterator", data := .fields #[.int ((0 : Nat) : Int) 0, .int ((0 : Nat) : Int) 0, .ref a, .int es.size 0, .int ep 0] }).get? b = some o' →
      (((s.heap.push { cls := .type "set_iterator", data := .fields #[.int ((0 : Nat) : Int) 0, .int ((0 : Nat) : Int) 0, .ref a, .int es.size 0, .int ep 0] }).update S (Obj.mapSeq (·.push Value.none))).update S (Obj.mapSeq (·.pop))).get? b = some o' :=
    fun b o' hb e => (Heap.get?_update_other _ _ (Ne.symm hb)).trans ((Heap.get?_update_other _ _ (Ne.symm hb)).trans e)
  exact wpAny_pure ⟨plainId_quiet F.plain_extend_loop _, key _ _ _ ⟨hit₁.at fun o' e => oth _ o' (Ne.symm hSI) e, hA.at fun o' e => oth a o' (Ne.symm hSa) (up _ a o' e)⟩ (fun b o hb e => oth b o hb (up _ b o e)) hS₃⟩

theorem init_set {R : Result → Shared → Prop} (hh : A.handled = none) {xs : List Value} {nx : Nat → Nat} (G : SetGoes prog w a es ep t xs nx) {o : Obj}
    (ho : s.heap.get? a = some o) (hex : o.ExactSet) (hd : o.data = .set es ep t) (hf : t.fits es.size = true) (hn : es.size ≤ 4096) (S : Addr) (hS : s.heap.get? S = some { cls := .type "list", data := .seq #[] })
    (hR : ∀ h' tk acc' c', (∀ b o, b ≠ S → s.heap.get? b = some o → h'.get? b = some o) → h'.get? S = some { cls := .type "list", dict := none, data := .seq acc' c', slots := #[] } →
      ItemsOf (fun i v => xs[i]? = some v) acc' xs.length → R (.ok (.ret .none)) { s with heap := h', toks := tk }) :
    wpAny (model prog w) A.in1 (Builtin.«list.__init__» ⟨[.ref S, .ref a], []⟩)
      (fun fin s' => match fin with | .done f => R (.ok f) s' | .again c' => c'.quiet = true ∧ codeAny (model prog w) A c' R s') (fun e s' => R (.error e) s') s := by
  have hSa : S ≠ a := fun e => by rw [e, ho] at hS; simp at hS; rw [hS] at hd; cases hd
  show wpAny _ _ (do let old ← Builtin.List.listItems (.ref S); Builtin.List.listUpdate (.ref S) (fun _ => #[]); letGo old.toList.reverse; Builtin.List.listExtendWith (.ref S) (.ref a) .none) _ _ s
  refine wpAny_bind ?_
  unfold Builtin.List.listItems
  refine wpAny_bind (wpAny_seqItems hS rfl (wpAny_pure ?_))
  show wpAny _ _ (updateSeq S (fun _ => #[]) >>= fun _ => letGo (#[] : Array Value).toList.reverse >>= fun _ => Builtin.List.listExtendWith (.ref S) (.ref a) .none) _ _ s
  refine wpAny_bind (wpAny_updateSeq hS rfl ?_)
  have hS₂ := Heap.get?_update_self (Obj.mapSeq (fun _ => (#[] : Array Value))) hS rfl
  have oth : ∀ b o, b ≠ S → s.heap.get? b = some o → (s.heap.update S (Obj.mapSeq (fun _ => (#[] : Array Value)))).get? b = some o :=
    fun b o hb e => (Heap.get?_update_other _ _ (Ne.symm hb)).trans e
  refine wpAny_bind (wpAny_letGo ?_)
  refine extend_set hh G (oth a o (Ne.symm hSa) ho) hex hd hf hn S .none _ hS₂ fun h' tk acc' c' hk hS' hacc => ?_
  exact hR h' tk acc' c' (fun b o hb e => hk b o hb (oth b o hb e)) hS' hacc

theorem call_list_set {Q : Value → Shared → Prop} (hh : A.handled = none) {xs : List Value} {nx : Nat → Nat} (G : SetGoes prog w a es ep t xs nx) {o : Obj}
    (ho : s.heap.get? a = some o) (hex : o.ExactSet) (hd : o.data = .set es ep t) (hf : t.fits es.size = true) (hn : es.size ≤ 4096)
    (hQ : ∀ h' tk acc' c', (∀ b o, s.heap.get? b = some o → h'.get? b = some o) →
      h'.get? s.heap.objs.size = some { cls := .type "list", dict := none, data := .seq acc' c', slots := #[] } → ItemsOf (fun i v => xs[i]? = some v) acc' xs.length → Q (.ref s.heap.objs.size) { s with heap := h', toks := tk }) :
    wpAny (model prog w) A (call (.type "list") [.ref a]) Q E s := by
  refine callType_codes (Q₁ := fun obj s₁ => obj = .ref s.heap.objs.size ∧ s₁ = { s with heap := s.heap.push { cls := .type "list", data := .seq #[] } }) F.called_list (F.typeCall_list_1 _) F.entry_list_init
    (code_list_new _ ⟨rfl, rfl⟩) fun obj s₁ h₁ => ?_
  obtain ⟨rfl, rfl⟩ := h₁
  have hS : (s.heap.push { cls := .type "list", data := .seq #[] }).get? s.heap.objs.size = some { cls := .type "list", data := .seq #[] } := Heap.get?_push_size _ rfl
  refine ⟨⟨_, hS, rfl⟩, F.args_list_init_2 _ _, init_set (A := A.in1) hh G (Heap.get?_push_of_some _ ho) hex hd hf hn _ hS fun h' tk acc' c' hk hS' hacc => ?_⟩
  exact ⟨rfl, hQ h' tk acc' c' (fun b o e => hk b o (Nat.ne_of_lt (Heap.lt_size e)) (Heap.get?_push_of_some _ e)) hS' hacc⟩
end
end Mine

namespace Mine
def valOf : Value → Int
  | .int k _ => k
  | _ => 0
def piE (e : Int × Value) : Int × Int := (e.1, valOf e.2)
/-- the entries of a set of ints, with the tokens left out -/
def EI (es : Array (Int × Value)) (g : Array (Int × Int)) : Prop := es.map piE = g ∧ ∀ e ∈ es.toList, ∃ k t, e = (hashInt k, .int k t)
def layG (t : SetTable) (es : Array (Int × Int)) (h x : Int) : Array (Int × Int) × SetTable × Bool :=
  match t.freeSlot h with
  | some (slot, d) => (SetTable.insertAt es (t.put slot).2 (h, x), (t.put slot).1.orStandIn (SetTable.insertAt es (t.put slot).2 (h, x)).size, d)
  | none => (es.push (h, x), t.standIn (es.size + 1), false)
def relayG (t : SetTable) (es : Array (Int × Int)) (wanted : Nat) : Array (Int × Int) × SetTable :=
  match t.relaid (es.map (·.1)) wanted with
  | some (t', order) => if coversAll order es.size && t'.fits (order.filterMap (es[·]?)).size then (order.filterMap (es[·]?), t') else (es, t.standIn es.size)
  | none => (es, t.standIn es.size)
def addG (st : Array (Int × Int) × SetTable) (k : Int) : Array (Int × Int) × SetTable :=
  if st.1.toList.any (fun e => e.2 == k) then st else
  if !(layG st.2 st.1 (hashInt k) k).2.2 && (layG st.2 st.1 (hashInt k) k).2.1.tooFull then
    relayG (layG st.2 st.1 (hashInt k) k).2.1 (layG st.2 st.1 (hashInt k) k).1 (SetTable.grown (layG st.2 st.1 (hashInt k) k).1.size)
  else ((layG st.2 st.1 (hashInt k) k).1, (layG st.2 st.1 (hashInt k) k).2.1)
theorem insertAt_map {α β : Type} (f : α → β) (xs : Array α) (p : Nat) (x : α) : (SetTable.insertAt xs p x).map f = SetTable.insertAt (xs.map f) p (f x) := by
  apply Array.ext'
  rw [Array.toList_map, SetTable.toList_insertAt, SetTable.toList_insertAt, Array.toList_map, List.map_append, List.map_cons, List.map_take, List.map_drop]
theorem layNew_pi (t : SetTable) (es : Array (Int × Value)) (h : Int) (x : Value) :
    (layNew t es h x).1.map piE = (layG t (es.map piE) h (valOf x)).1 ∧ (layNew t es h x).2.1 = (layG t (es.map piE) h (valOf x)).2.1 ∧ (layNew t es h x).2.2.1 = (layG t (es.map piE) h (valOf x)).2.2 := by
  unfold layNew layG
  cases e : t.freeSlot h with
  | none => exact ⟨by simp [piE], by simp, rfl⟩
  | some q =>
    have e1 := insertAt_map piE es (t.put q.1).2 (h, x)
    have e2 : (SetTable.insertAt es (t.put q.1).2 (h, x)).size = (SetTable.insertAt (es.map piE) (t.put q.1).2 (h, valOf x)).size := by
      rw [show (h, valOf x) = piE (h, x) from rfl, ← e1, Array.size_map]
    exact ⟨e1, by show SetTable.orStandIn _ _ = SetTable.orStandIn _ _; rw [e2], rfl⟩
theorem relayAll_pi (t : SetTable) (es : Array (Int × Value)) (wanted : Nat) :
    (relayAll t es wanted).1.map piE = (relayG t (es.map piE) wanted).1 ∧ (relayAll t es wanted).2.1 = (relayG t (es.map piE) wanted).2 := by
  unfold relayAll relayG
  have e0 : (es.map piE).map (·.1) = es.map (·.1) := by rw [Array.map_map]; rfl
  rw [e0]
  cases e : t.relaid (es.map (·.1)) wanted with
  | none => exact ⟨rfl, by simp⟩
  | some q =>
    have e1 : (q.2.filterMap (es[·]?)).map piE = q.2.filterMap ((es.map piE)[·]?) := by
      rw [Array.map_filterMap]
      congr 1
      funext i
      rw [Array.getElem?_map]
    have e2 : (q.2.filterMap ((es.map piE)[·]?)).size = (q.2.filterMap (es[·]?)).size := by rw [← e1, Array.size_map]
    dsimp only
    rw [e2, Array.size_map]
    split
    · exact ⟨e1, rfl⟩
    · exact ⟨rfl, rfl⟩
theorem EI.perm {es es' : Array (Int × Value)} (h : ∀ e ∈ es.toList, ∃ k t, e = (hashInt k, .int k t)) (p : List.Perm es'.toList es.toList) : ∀ e ∈ es'.toList, ∃ k t, e = (hashInt k, Value.int k t) :=
  fun e he => h e (p.mem_iff.mp he)
section
variable {prog : Program} {w : World} {A : Around} {E : Value → Shared → Prop} {s : Shared} {a : Addr} {es : Array (Int × Value)} {ep : Nat} {t : SetTable} {g : Array (Int × Int)}
theorem EI.elems (h : EI es g) : ElemsOf (intKind prog w) es.toList := fun e he => by
  obtain ⟨k, t, rfl⟩ := h.2 e he
  exact ⟨⟨k, intKind_is _ _ _ _, rfl⟩, rfl⟩
theorem store_track {o : Obj} {es' : Array (Int × Value)} {t' : SetTable} (ho : s.heap.get? a = some o) (hd : o.data = .set es ep t) :
    (s.heap.update a (Obj.putSet es' t')).get? a = some { o with data := .set es' (ep + 1) t' } := by
  have := Heap.get?_update_self (Obj.putSet es' t') ho (by rw [putSet_of es' t' hd]; rfl)
  rw [putSet_of es' t' hd] at this; exact this
theorem addTail_track {gg : Bool → Sem Unit} (hg : ∀ (b : Bool) (s₁ : Shared) (Q' : Unit → Shared → Prop), Q' () s₁ → wpAny (model prog w) A (gg b) Q' E s₁)
    {o : Obj} (ho : s.heap.get? a = some o) (hex : o.ExactSet) (hd : o.data = .set es ep t)
    {es1 : Array (Int × Value)} {t2 : SetTable} {wasDummy : Bool} {R : Option Bool → Shared → Prop} (hb1 : es1.size < scanBound)
    (h : ∀ h' o' ep', Heap.SameBut a s.heap h' → h'.get? a = some o' → o'.ExactSet →
      o'.data = .set (if !wasDummy && t2.tooFull then (relayAll t2 es1 (SetTable.grown es1.size)).1 else es1) ep' (if !wasDummy && t2.tooFull then (relayAll t2 es1 (SetTable.grown es1.size)).2.1 else t2) → R (some true) { s with heap := h' }) :
    wpAny (model prog w) A (do
        storeSet a es1 t2
        if (!wasDummy && t2.tooFull) = true then do
            gg (relayAll t2 es1 (SetTable.grown es1.size)).2.2
            storeSet a (relayAll t2 es1 (SetTable.grown es1.size)).1 (relayAll t2 es1 (SetTable.grown es1.size)).2.1
            pure (some true)
          else pure (some true)) R E s := by
  refine wpAny_bind (wpAny_storeSet_of ho hd ?_ (fits_of_scanBound hb1))
  have ho1 := store_track (s := s) (es' := es1) (t' := t2) ho hd
  have hsb1 := Heap.SameBut.update s.heap a (Obj.putSet es1 t2)
  split
  · rename_i hc
    have hp := relayAll_perm t2 es1 (SetTable.grown es1.size)
    have hb2 : (relayAll t2 es1 (SetTable.grown es1.size)).1.size < scanBound := by rw [← Array.length_toList, hp.length_eq, Array.length_toList]; exact hb1
    refine wpAny_bind (hg _ _ _ ?_)
    refine wpAny_bind (wpAny_storeSet_of ho1 rfl ?_ (fits_of_scanBound hb2))
    have ho2 := store_track (s := { s with heap := s.heap.update a (Obj.putSet es1 t2) }) (es' := (relayAll t2 es1 (SetTable.grown es1.size)).1) (t' := (relayAll t2 es1 (SetTable.grown es1.size)).2.1) ho1 rfl
    exact wpAny_pure (h _ _ (ep + 1 + 1) (hsb1.trans (Heap.SameBut.update _ a _)) ho2 ⟨hex.1, hex.2.1, hex.2.2⟩ (by simp only [hc, if_true]))
  · rename_i hc
    exact wpAny_pure (h _ _ (ep + 1) hsb1 ho1 ⟨hex.1, hex.2.1, hex.2.2⟩ (by simp only [hc]; rfl))
/-- adding an int: what becomes of the table -/
theorem add_track {o : Obj} {k : Int} {tk : Tok} {Q : Bool → Shared → Prop} (ho : s.heap.get? a = some o) (hex : o.ExactSet) (hd : o.data = .set es ep t) (hf : t.fits es.size = true) (hE : EI es g) (hroom : es.size + 1 < scanBound)
    (h : ∀ b h' o' es' ep', Heap.SameBut a s.heap h' → h'.get? a = some o' → o'.ExactSet → o'.data = .set es' ep' (addG (g, t) k).2 → (addG (g, t) k).2.fits es'.size = true → EI es' (addG (g, t) k).1 → es'.size ≤ es.size + 1 → Q b { s with heap := h' }) :
    wpAny (model prog w) A (setAddHashed a (.int k tk) ((intKind prog w).hash k)) Q E s := by
  have hel : ElemsOf (intKind prog w) es.toList := hE.elems
  have hkey := intKind_is prog w k tk
  have hsc : (Value.int k tk).scannable = true := rfl
  unfold setAddHashed setAddHashedIn
  refine wpAny_holding (wpAny_bind (wpAny_setState_of ho hd hf ?_))
  dsimp only
  rw [byScan_of hsc (by omega) hel]
  simp only [↓reduceIte]
  unfold setAddByScan
  refine wpAny_bind ?_
  refine wpAny_bind (wpAny_rule ?_)
  refine wpAny_bind (wpAny_setScan_of hkey ho hd hf hel ?_)
  have hany : (g.toList.any fun e => e.2 == k) = (es.toList.any fun e => (intKind prog w).is k e.2) := by
    rw [← hE.1, Array.toList_map, List.any_map]
    have gen : ∀ l : List (Int × Value), (∀ e ∈ l, ∃ k t, e = (hashInt k, Value.int k t)) → (l.any ((fun e => e.2 == k) ∘ piE)) = (l.any fun e => (intKind prog w).is k e.2) := by
      intro l
      induction l with
      | nil => intro _; rfl
      | cons e r ih =>
        intro hl
        obtain ⟨k', t', rfl⟩ := hl e List.mem_cons_self
        rw [List.any_cons, List.any_cons, ih fun e he => hl e (List.mem_cons_of_mem _ he)]
        congr 1
    exact gen es.toList hE.2
  cases hr : List.findIdx? (fun e => (intKind prog w).is k e.2) es.toList with
  | some j =>
    dsimp only
    obtain ⟨hj, hpj, _⟩ := List.findIdx?_eq_some_iff_getElem.mp hr
    have hA : addG (g, t) k = (g, t) := by
      unfold addG
      rw [if_pos]
      show (g.toList.any fun e => e.2 == k) = true
      rw [hany, List.any_eq_true]
      exact ⟨_, List.getElem_mem hj, hpj⟩
    refine wpAny_pure (wpAny_pure ?_)
    have e : s = { s with heap := s.heap } := by cases s; rfl
    rw [e]
    exact h _ s.heap o es ep (Heap.SameBut.refl a s.heap) ho hex (by rw [hA]; exact hd) (by rw [hA]; exact hf) (by rw [hA]; exact hE) (by omega)
  | none =>
    dsimp only
    have hgw : ∀ (b : Bool) {s₁ : Shared} {Q' : Unit → Shared → Prop}, Q' () s₁ → wpAny (model prog w) A (match b with | true => rule "set.scan.the-table-gave-way" | false => pure ()) Q' E s₁ :=
      fun b s₁ Q' hq => by cases b <;> first | exact wpAny_pure hq | exact wpAny_rule hq
    have hno : (g.toList.any fun e => e.2 == k) = false := by
      rw [hany, List.any_eq_false]
      exact fun e he => by rw [List.findIdx?_eq_none_iff.mp hr e he]; decide
    have hperm := layNew_perm t es ((intKind prog w).hash k) (.int k tk)
    have hfits := layNew_fits t es ((intKind prog w).hash k) (.int k tk)
    have hpi := layNew_pi t es ((intKind prog w).hash k) (.int k tk)
    rw [hE.1] at hpi
    have hA : addG (g, t) k = if !(layG t g (hashInt k) k).2.2 && (layG t g (hashInt k) k).2.1.tooFull then
        relayG (layG t g (hashInt k) k).2.1 (layG t g (hashInt k) k).1 (SetTable.grown (layG t g (hashInt k) k).1.size) else ((layG t g (hashInt k) k).1, (layG t g (hashInt k) k).2.1) := by
      unfold addG
      rw [if_neg (by show ¬ ((g.toList.any fun e => e.2 == k) = true); rw [hno]; decide)]
    generalize hL : layNew t es ((intKind prog w).hash k) (.int k tk) = L at hperm hfits hpi ⊢
    obtain ⟨es1, t1, wasDummy, gave⟩ := L
    dsimp only at hperm hfits hpi ⊢
    obtain ⟨p1, p2, p3⟩ := hpi
    rw [Array.toList_push] at hperm
    have hel1 : ∀ e ∈ es1.toList, ∃ k t, e = (hashInt k, Value.int k t) := fun e he => by
      rcases List.mem_append.mp (hperm.mem_iff.mp he) with he | he
      · exact hE.2 e he
      · rw [List.mem_singleton] at he; exact ⟨k, tk, he⟩
    have hs1 : es1.size = es.size + 1 := by rw [← Array.length_toList, hperm.length_eq, List.length_append, Array.length_toList]; rfl
    have hb1' : es1.size < scanBound := by omega
    have hA2 : addG (g, t) k = if !wasDummy && t1.tooFull then relayG t1 (es1.map piE) (SetTable.grown es1.size) else (es1.map piE, t1) := by
      rw [hA]
      show (if !(layG t g ((intKind prog w).hash k) (valOf (.int k tk))).2.2 && (layG t g ((intKind prog w).hash k) (valOf (.int k tk))).2.1.tooFull then
        relayG (layG t g ((intKind prog w).hash k) (valOf (.int k tk))).2.1 (layG t g ((intKind prog w).hash k) (valOf (.int k tk))).1 (SetTable.grown (layG t g ((intKind prog w).hash k) (valOf (.int k tk))).1.size) else ((layG t g ((intKind prog w).hash k) (valOf (.int k tk))).1, (layG t g ((intKind prog w).hash k) (valOf (.int k tk))).2.1)) = _
      rw [← p1, ← p2, ← p3, Array.size_map]
    refine wpAny_bind (hgw _ ?_)
    have hR := relayAll_pi t1 es1 (SetTable.grown es1.size)
    have hRp := relayAll_perm t1 es1 (SetTable.grown es1.size)
    have hRf := relayAll_fits t1 es1 (SetTable.grown es1.size)
    have hRs : (relayAll t1 es1 (SetTable.grown es1.size)).1.size = es1.size := by rw [← Array.length_toList, hRp.length_eq, Array.length_toList]
    have hend : ∀ b h' o' ep', Heap.SameBut a s.heap h' → h'.get? a = some o' → o'.ExactSet →
        o'.data = .set (if !wasDummy && t1.tooFull then (relayAll t1 es1 (SetTable.grown es1.size)).1 else es1) ep' (if !wasDummy && t1.tooFull then (relayAll t1 es1 (SetTable.grown es1.size)).2.1 else t1) → Q b { s with heap := h' } := by
      intro b h' o' ep' hsb ho' hex' hd'
      by_cases hc : (!wasDummy && t1.tooFull) = true
      · rw [if_pos hc] at hA2
        simp only [hc, if_true] at hd'
        refine h b h' o' _ ep' hsb ho' hex' (by rw [hA2, ← hR.2]; exact hd') (by rw [hA2, ← hR.2]; exact hRf) (by rw [hA2]; exact ⟨hR.1, EI.perm hel1 hRp⟩) (by omega)
      · rw [if_neg hc] at hA2
        have hc' : (!wasDummy && t1.tooFull) = false := by simpa using hc
        simp only [hc', Bool.false_eq_true, if_false] at hd'
        refine h b h' o' es1 ep' hsb ho' hex' (by rw [hA2]; exact hd') (by rw [hA2]; exact hfits) (by rw [hA2]; exact ⟨rfl, hel1⟩) (by omega)
    split
    · refine wpAny_bind ?_
      rw [hashByValue_scannable 8 hsc]
      refine wpAny_pure ?_
      simp only [plainKind, if_true]
      refine addTail_track ?_ ho hex hd hb1' ?_
      · intro b s₁ Q' hq; cases b <;> first | exact wpAny_pure hq | exact wpAny_rule hq
      · intro h' o' ep' hsb ho' hex' hd'; exact wpAny_pure (hend _ h' o' ep' hsb ho' hex' hd')
    · refine wpAny_bind (wpAny_pure ?_)
      simp only [↓reduceIte]
      refine addTail_track ?_ ho hex hd hb1' ?_
      · intro b s₁ Q' hq; cases b <;> first | exact wpAny_pure hq | exact wpAny_rule hq
      · intro h' o' ep' hsb ho' hex' hd'; exact wpAny_pure (hend _ h' o' ep' hsb ho' hex' hd')
end
end Mine

namespace Mine
def setG (led : Bool) (ks : List Int) : Array (Int × Int) × SetTable := ks.foldl addG (#[], .fresh 0 0 led)
def setGn (led : Bool) (val : Nat → Int) (i : Nat) : Array (Int × Int) × SetTable := setG led ((List.range i).map val)
theorem setGn_succ (led : Bool) (val : Nat → Int) (i : Nat) : setGn led val (i + 1) = addG (setGn led val i) (val i) := by
  unfold setGn setG
  rw [List.range_succ, List.map_append, List.foldl_append]
  rfl
theorem range_getD (ks : List Int) : (List.range ks.length).map (fun i => ks.getD i 0) = ks := by
  apply List.ext_getElem
  · simp
  · intro i h1 h2
    simp [h2]
/-- the object of a set of ints with a known table -/
def SetTr (h : Heap) (S : Addr) (st : Array (Int × Int) × SetTable) (n : Nat) : Prop :=
  ∃ o es ep, h.get? S = some o ∧ o.ExactSet ∧ o.data = .set es ep st.2 ∧ st.2.fits es.size = true ∧ EI es st.1 ∧ es.size ≤ n
theorem SetTr.at {h h' : Heap} {S st n} (x : SetTr h S st n) (e : ∀ o, h.get? S = some o → h'.get? S = some o) : SetTr h' S st n := let ⟨o, es, ep, ho, r⟩ := x; ⟨o, es, ep, e _ ho, r⟩
section
variable {prog : Program} {w : World} {A : Around} {R : Result → Shared → Prop} {I : Addr} {fp wr : List Addr} {G : Array GenState → Array GenState → Prop} {n : Nat} {P : Nat → Value → Prop} {St : Nat → Shared → Prop}
theorem loop_track (W : WalksS prog w A.in1 I fp wr G n P St) (S : Addr) (hSf : S ∉ fp) (led : Bool)
    (val : Nat → Int) (hval : ∀ i v, P i v → ∃ t, v = .int (val i) t) (hb : n + 1 < scanBound) :
    ∀ (k i : Nat) (s : Shared), n - i = k → i ≤ n → St i s →
      SetTr s.heap S (setGn led val i) i →
      (∀ s', Moved (S :: wr) G s s' → SetTr s'.heap S (setGn led val n) n → R (.ok (.ret .none)) s') →
      codeAny (model prog w) A (.builtin "set.update.loop" ⟨[.ref S, .ref I], []⟩) R s := by
  have hSw : S ∉ wr := fun h => hSf (W.sub _ h)
  have hsub : ∀ b ∈ wr, b ∈ S :: wr := fun b hb => List.mem_cons_of_mem _ hb
  intro k
  induction k with
  | zero =>
    intro i s hk hi hst hS hR
    have hin : i = n := by omega
    subst hin
    refine codeAny_builtin F.entry_set_update_loop ?_
    rw [Around.under_plainId F.plain_set_update_loop _]
    show wpAny _ A.in1 (pyNext (.ref I) >>= _) _ _ s
    refine wpAny_bind (W.done s _ _ hst fun s' hm => ?_)
    show wpAny _ A.in1 (ret Value.none) _ _ s'
    exact wpAny_pure (hR s' (hm.mono hsub) (hS.at fun o e => hm.heap S _ hSw e))
  | succ k ih =>
    intro i s hk hi hst hS hR
    have hlt : i < n := by omega
    refine codeAny_builtin F.entry_set_update_loop ?_
    rw [Around.under_plainId F.plain_set_update_loop _]
    show wpAny _ A.in1 (pyNext (.ref I) >>= _) _ _ s
    refine wpAny_bind (W.item i s _ _ hlt hst fun v s' hP hst' hm => ?_)
    obtain ⟨t, rfl⟩ := hval i v hP
    obtain ⟨o, es, ep, ho, hex, hd, hf, hE, hn⟩ := hS.at (h' := s'.heap) fun o e => hm.heap S _ hSw e
    show wpAny _ A.in1 (holding [Value.int (val i) t] (setAdd S (.int (val i) t)) >>= _) _ _ s'
    refine wpAny_bind (wpAny_holding ?_)
    unfold setAdd
    refine wpAny_holding ?_
    refine wpAny_bind ((intKind prog w).pyHash (k := val i) (intKind_is _ _ _ _) ?_)
    refine add_track (s := { s' with toks := s'.toks + 1 }) ho hex hd hf hE (by omega) fun b h' o' es' ep' hsb ho' hex' hd' hf' hE' hn' => ?_
    have hSi : SetTr h' S (setGn led val (i + 1)) (i + 1) := by
      rw [setGn_succ]
      exact ⟨o', es', ep', ho', hex', hd', hf', hE', by omega⟩
    refine wpAny_pure ⟨plainId_quiet F.plain_set_update_loop _, ih (i + 1) _ (by omega) hlt (W.frame _ s' _ _ hst' (Nat.le_succ _) fun b hb o e => ?_) hSi fun s'' hm'' hS'' => ?_⟩
    · rw [hsb.2 b (fun h : b = S => hSf (by rw [← h]; exact hb))]; exact e
    · refine hR s'' (Moved.trans W.gtrans ((hm.mono hsub).then_heap (Nat.le_succ _) fun b o hb e => ?_) hm'') hS''
      rw [hsb.2 b (fun h : b = S => hb (by rw [h]; exact List.mem_cons_self))]; exact e
end
section
variable {prog : Program} {w : World} {A : Around} {E : Value → Shared → Prop} {s : Shared}
theorem code_set_new_led (a : Value) {Q₁ : Value → Shared → Prop}
    (h : Q₁ (.ref s.heap.objs.size) { s with heap := s.heap.push { cls := .type "set", dict := none, data := .set #[] 0 (.fresh 0 0 (!w.params.followText "set-order")) } }) :
    codeAny (model prog w) A (.call (.builtin "set.__new__") ⟨[.type "set", a], []⟩) (wants Q₁ E) s := by
  refine codeAny_of_tree ?_
  show wpAny _ A.in1 (do checkBuiltinCall "set.__new__" ⟨[.type "set", a], []⟩; again (.builtin "set.__new__" ⟨[.type "set", a], []⟩)) _ _ s
  refine wpAny_bind (wpAny_of_eq (F.newCall_set_1 a) (wpAny_pure ⟨plainId_quiet F.plain_set_new _, codeAny_builtin F.entry_set_new ?_⟩))
  rw [Around.under_plainId F.plain_set_new _]
  unfold Builtin.«set.__new__» Builtin.Frozenset.newClass
  have hsub := sub_set_self
  obtain ⟨hp, g, d, tk, os⟩ := s
  dsimp only
  wp_walk
  refine wpAny_askSetting (wpAny_pure ?_)
  dsimp only
  simp only [newObj]
  refine wpAny_bind (wpAny_alloc (wpAny_pure ?_))
  exact wpAny_pure h

set_option maxRecDepth 100000 in
set_option maxHeartbeats 3200000 in
theorem call_set_track {l : Addr} {items : Array Value} {ns : List Int} {Q : Value → Shared → Prop}
    (hh : A.handled = none) (hl : s.heap.IsList l items) (hi : IntsAre items.toList ns) (hb : items.size + 1 < scanBound)
    (h : ∀ (h' : Heap) (tk : Nat), SetTr h' s.heap.objs.size (setG (!w.params.followText "set-order") ns) ns.length →
      (∀ b o, b < s.heap.objs.size → s.heap.get? b = some o → h'.get? b = some o) → Q (.ref s.heap.objs.size) { s with heap := h', toks := tk }) :
    wpAny (model prog w) A (call (.type "set") [.ref l]) Q E s := by
  have hlen : items.size = ns.length := by rw [← Array.length_toList]; exact IntsAre.length hi
  have hend : setGn (!w.params.followText "set-order") (fun i => ns.getD i 0) items.size = setG (!w.params.followText "set-order") ns := by
    unfold setGn
    rw [hlen, range_getD]
  generalize hled : (!w.params.followText "set-order") = led at h hend
  obtain ⟨c, tl, hmro⟩ := F.called_set.mro
  have hmade := F.called_set.made
  have hsub := F.called_set.sub
  refine wpAny_call (codeAny_of_tree ?_)
  show wpAny _ _ (callAny (.type "set") _) _ _ _
  refine wpAny_pure ⟨Code.quiet_builtin _ (by decide +kernel), codeAny_builtin F.entry_type_call ?_⟩
  rw [Around.under_plain (weight_type_call_type "set" [.ref l] []) rfl]
  have h1 := F.called_set.notType
  have h2 := F.called_set.canCreate
  have hct := F.typeCall_set_1 (.ref l)
  repeat (any_goals (first | assumption | wp_step))
  refine codeAny_mono (code_set_new_led (.ref l) (E := E) (Q₁ := fun obj s₁ => obj = .ref s.heap.objs.size ∧ s₁ = { s with heap := s.heap.push { cls := .type "set", dict := none, data := .set #[] 0 (.fresh 0 0 led) } }) (by rw [hled]; exact ⟨rfl, rfl⟩)) fun r s₁ hr => ?_
  cases r with
  | error e => exact hr
  | ok fl =>
    cases fl with
    | ret obj =>
      obtain ⟨rfl, rfl⟩ := hr
      have hS : (s.heap.push { cls := .type "set", dict := none, data := .set #[] 0 (.fresh 0 0 led) }).get? s.heap.objs.size = some { cls := .type "set", dict := none, data := .set #[] 0 (.fresh 0 0 led) } := Heap.get?_push_size _ rfl
      have hT : Shared.TypeIs { s with heap := s.heap.push { cls := .type "set", dict := none, data := .set #[] 0 (.fresh 0 0 led) } } (.ref s.heap.objs.size) "set" := ⟨_, hS, rfl⟩
      have hli := F.called_set.init.lookup
      have hbi := F.called_set.init.bind (.ref s.heap.objs.size)
      repeat (any_goals (first | assumption | wp_step))
      refine codeAny_mono (codeAny_call_builtin (R := wants (fun r s₂ => r = .none ∧ ∃ h' tk, s₂ = { s with heap := h', toks := tk } ∧
          SetTr h' s.heap.objs.size (setG led ns) ns.length ∧
          (∀ b o, b < s.heap.objs.size → s.heap.get? b = some o → h'.get? b = some o)) E) F.called_set.init.plain F.entry_set_init (check_set_init_1 hT ?_)) fun r₂ s₂ hr₂ => ?_
      · obtain ⟨ol, hol, hcl, nl, hdl⟩ := hl
        obtain ⟨ocls, odict, odata, oslots⟩ := ol
        simp only at hcl hdl
        subst hcl; subst hdl
        have hol' : (s.heap.push { cls := .type "set", dict := none, data := .set #[] 0 (.fresh 0 0 led) }).get? l = some { cls := .type "list", dict := odict, data := .seq items nl, slots := oslots } := Heap.get?_push_of_some _ hol
        have hsls := F.sub_list_set
        have hslf := F.sub_list_frozenset
        have hne : (Value.type "list" == Value.type "dict") = false := by decide
        have hl1 : (s.heap.push { cls := .type "set", dict := none, data := .set #[] 0 (.fresh 0 0 led) }).IsList l items := ⟨_, hol', rfl, nl, rfl⟩
        unfold Builtin.«set.__init__» noKeywords Builtin.Frozenset.updateFrom
        generalize hPI : pyIter = PI
        wp_walk
        subst hPI
        refine wpAny_pyIter_list hl1 ?_
        refine wpAny_bind (wpAny_runValue ?_)
        have hlS : l < s.heap.objs.size := Heap.lt_size hol
        have hh3 : A.in1.in1.in1.handled = none := by simp [hh]
        have hneI : l ≠ (s.heap.push { cls := .type "set", dict := none, data := .set #[] 0 (.fresh 0 0 led) }).objs.size := by
          rw [Heap.size_push]; exact Nat.ne_of_lt (Nat.lt_succ_of_lt hlS)
        have hSf : s.heap.objs.size ∉ [(s.heap.push { cls := .type "set", dict := none, data := .set #[] 0 (.fresh 0 0 led) }).objs.size, l] := by
          rw [Heap.size_push]; simp only [List.mem_cons, List.not_mem_nil, or_false, not_or]
          exact ⟨Nat.ne_of_lt (Nat.lt_succ_self _), Nat.ne_of_gt hlS⟩
        have hval : ∀ (i : Nat) (v : Value), items[i]? = some v → ∃ t, v = .int ((fun i => ns.getD i 0) i) t := fun i v hv =>
          PyProof.Rows.IntsAre.int_at hi i v (by rw [Array.getElem?_toList]; exact hv)
        refine loop_track ((Walks.list hh3 _ l hneI items).toS) s.heap.objs.size
          hSf led (fun i => ns.getD i 0) hval hb (items.size - 0) 0 _ (by omega) (Nat.zero_le _)
          ⟨⟨_, Heap.get?_push_size _ rfl, rfl, rfl⟩, (hl1.push _)⟩ ?hS0 ?hR
        case hS0 =>
          have hget : ((s.heap.push { cls := .type "set", dict := none, data := .set #[] 0 (.fresh 0 0 led) }).push { cls := .type "list_iterator", data := .fields #[.ref l, .int 0 0] }).get? s.heap.objs.size
              = some { cls := .type "set", dict := none, data := .set #[] 0 (.fresh 0 0 led) } := Heap.get?_push_of_some _ hS
          rw [show setGn led (fun i => ns.getD i 0) 0 = (#[], .fresh 0 0 led) from rfl]
          exact ⟨_, #[], 0, hget, ⟨rfl, rfl, rfl⟩, rfl, rfl, ⟨by simp, fun e he => by simp at he⟩, Nat.le_refl _⟩
        case hR =>
          intro s' hm hS'
          obtain ⟨h', g', d', tk', os'⟩ := s'
          have eg : g' = s.gens := hm.gens
          have ed : d' = s.drawn := hm.drawn
          have eo : os' = s.os := hm.os
          subst eg; subst ed; subst eo
          show wpAny _ _ _ _ _ _
          refine wpAny_pure ?_
          show wpAny _ _ (ret Value.none) _ _ _
          rw [hend, hlen] at hS'
          refine wpAny_pure ⟨rfl, h', tk', rfl, hS', fun b o hb e => ?_⟩
          have hb1 : b ≠ s.heap.objs.size := Nat.ne_of_lt hb
          have hb2 : b ≠ (s.heap.push { cls := .type "set", dict := none, data := .set #[] 0 (.fresh 0 0 led) }).objs.size := by
            rw [Heap.size_push]; exact Nat.ne_of_lt (Nat.lt_succ_of_lt hb)
          exact hm.heap b o (by simp only [List.mem_cons, List.not_mem_nil, or_false, not_or]; exact ⟨hb1, hb2⟩) (Heap.get?_push_of_some _ (Heap.get?_push_of_some _ e))
      · cases r₂ with
        | error e => exact hr₂
        | ok fl₂ =>
          cases fl₂ with
          | ret r =>
            obtain ⟨rfl, h', tk, rfl, hS', hk'⟩ := hr₂
            repeat (any_goals (first | assumption | wp_step))
            exact h _ _ hS' hk'
          | _ => exact hr₂.elim
    | _ => exact hr.elim
end
end Mine

namespace Mine
def setOk (ks : List Int) : Bool := [true, false].all fun led =>
  (setG led ks).2.plain && (setG led ks).2.led == led && walkOk (setG led ks).2.place && ((setG led ks).1.toList.map (·.2)).isPerm ks
def lotSet (lot : Nat) : Bool := match doneL (heapsL lot) with
  | none => true
  | some S => setOk (sizesOf (mk S))
set_option maxRecDepth 100000 in
theorem lots_set : ∀ lot : Nat, lot < 64 → 1 ≤ lot → lotSet lot = true := by decide +kernel
def StuckIs (lot : Int) (b : Bool) : Prop := stuckB (lotInts lot) = b
structure Later (lot : Int) (S : Str) : Prop where
  short : S.length ≤ 40
  few : (sizesOf S).length ≤ 12
  sum : (sizesOf S).sum = (lotInts lot).sum
  down : isDown (sizesOf S) = true
  last : 1 ≤ lastI (sizesOf S)
  len : (sizesOf S).length = (lotInts lot).length + 1 ∨ (sizesOf S).length + 1 = (lotInts lot).length
  back : doneF S = some (heapsOf lot)
  set : setOk (sizesOf S) = true
theorem later_split {lot : Int} {v : Value} (hL : LotIn lot) (hD : DoneV (heapsOf lot) v) :
    (v = .none ∧ StuckIs lot true) ∨ ∃ S u, v = .str S u ∧ StuckIs lot false ∧ Later lot S ∧ S.length ≤ 40 := by
  obtain ⟨n, rfl, h1, h2, ok⟩ := lot_plain hL
  have hs := lots_set n h1 h2
  have q := done_of hD
  rw [done_list (heaps_few hL)] at q
  have e1 : tk (heapsOf (n : Int)) = heapsL n := by rw [(lot_facts n h1 h2).2.1, tk_mk]
  have e2 : sizesOf (mk (heapsL n)) = lotInts (n : Int) := by rw [← (lot_facts n h1 h2).2.1]; exact heaps_sizes hL
  have e3 : (lotSizes n).length = (lotInts (n : Int)).length := by rw [(lot_facts n h1 h2).1, List.length_map]
  rw [e1] at q
  unfold lotOk at ok
  unfold lotSet at hs
  rw [e2, e3] at ok
  cases e : doneL (heapsL n) with
  | none =>
    rw [e] at ok q
    simp only [Bool.and_eq_true] at ok
    exact .inl ⟨q, ok.2⟩
  | some S =>
    rw [e] at ok q hs
    obtain ⟨u, rfl⟩ := q
    simp only [Bool.and_eq_true, decide_eq_true_eq, Bool.not_eq_true', Bool.or_eq_true, beq_iff_eq] at ok
    obtain ⟨_, ⟨⟨⟨⟨⟨⟨o1, o2⟩, o3⟩, o4⟩, o5⟩, o6⟩, o7⟩, o8⟩ := ok
    refine .inr ⟨mk S, u, rfl, o1, ⟨o2, o3, o4, o5, o6, ?_, ?_, hs⟩, o2⟩
    · rcases o7 with o7 | o7
      · exact .inl (by omega)
      · exact .inr (by omega)
    · rw [done_list o3, tk_mk, o8, (lot_facts n h1 h2).2.1]
      rfl
theorem later_back {lot : Int} {S : Str} {v : Value} (hS : Later lot S) (hD : DoneV S v) : ∃ u, v = .str (heapsOf lot) u := by
  have q := done_of hD
  rw [hS.back] at q
  exact q
theorem down_pair : ∀ (ks : List Int), isDown ks = true → ks.Pairwise (fun a b => b < a)
  | [], _ => .nil
  | [_], _ => List.pairwise_singleton _ _
  | a :: b :: r, h => by
    simp only [isDown, Bool.and_eq_true, decide_eq_true_eq] at h
    have ih := down_pair (b :: r) h.2
    refine List.pairwise_cons.mpr ⟨fun x hx => ?_, ih⟩
    rcases List.mem_cons.mp hx with rfl | hx
    · exact h.1
    · exact Int.lt_trans ((List.pairwise_cons.mp ih).1 x hx) h.1
theorem sorted_down {ks xs : List Int} (hd : isDown ks = true) (hp : xs.Perm ks) (hs : xs.Pairwise (· ≤ ·)) : xs = ks.reverse := by
  refine List.Perm.eq_of_pairwise (le := (· ≤ ·)) (fun a b _ _ h1 h2 => Int.le_antisymm h1 h2) hs ?_ (hp.trans (List.reverse_perm ks).symm)
  rw [List.pairwise_reverse]
  exact (down_pair ks hd).imp fun h => Int.le_of_lt h
end Mine

namespace Mine
theorem range_down {n : Int} {k : Nat} (len : Nat) (a : Nat) (c : Int) (hk : k = len) (hc : c = (a : Int)) : ((List.range k).map fun (i : Nat) => c + (i : Int) * (-1)) = downTo a len := by
  subst hk hc
  unfold downTo
  apply List.map_congr_left
  intro i _
  omega
def SetOb (o : Obj) (st : Array (Int × Int) × SetTable) (n : Nat) : Prop :=
  ∃ es ep, o.ExactSet ∧ o.data = .set es ep st.2 ∧ st.2.fits es.size = true ∧ EI es st.1 ∧ es.size ≤ n
theorem ints_vals : ∀ {xs : List Value}, (∀ v ∈ xs, ∃ k t, v = .int k t) → IntsAre xs (xs.map valOf)
  | [], _ => IntsAre.nil
  | v :: r, h => by
    obtain ⟨k, t, rfl⟩ := h v List.mem_cons_self
    exact IntsAre.cons _ _ (ints_vals fun x hx => h x (List.mem_cons_of_mem _ hx))
section
variable {prog : Program} {w : World} {A : Around} {E : Value → Shared → Prop} {s : Shared} {h₀ : Heap} {L : Addr} {m : Str → Option Value}
theorem in_stuck {D T l1 l2 : Addr} {ys us vs : List Value} {n : Int} {k1 k2 : Nat} {lot : Int} {b : Bool} {n0 n1 n2 n3 : Nat} {led : List (Addr × Obj)} {Q : Value → Shared → Prop} (hS : StuckIs lot b)
    (N : News h₀ L s.heap led) (hT : (T, ({ cls := .type "tuple", data := .seq #[.ref l1, .ref l2] n3 } : Obj)) ∈ led) (hD : (D, W.listOf ys.toArray n0) ∈ led) (h1 : (l1, W.listOf us.toArray n1) ∈ led) (h2 : (l2, W.listOf vs.toArray n2) ∈ led)
    (ix : IntsAre ys (lotInts lot))
    (ia : IntsAre us ((List.range k1).map fun (i : Nat) => (2 * n - 1) + (i : Int) * (-1))) (ib : IntsAre vs ((List.range k2).map fun (i : Nat) => 2 * n + (i : Int) * (-1))) (hu : A.units + 70 < cLine)
    (hn : n = (lotInts lot).length) (hp : 1 ≤ n) (e1 : (k1 : Int) = n) (e2 : (k2 : Int) = n)
    (h : Q (.bool b) s) : wpAny (model prog w) A (compareOp .In (.ref D) (.ref T)) Q E s := by
  refine in_two N hD h1 h2 hT ix ia ib hu ?_
  rw [range_down (n := n) (lotInts lot).length (2 * (lotInts lot).length - 1) _ (by omega) (by omega), range_down (n := n) (lotInts lot).length (2 * (lotInts lot).length) _ (by omega) (by omega)]
  have e : (decide (downTo (2 * (lotInts lot).length - 1) (lotInts lot).length = lotInts lot) || decide (downTo (2 * (lotInts lot).length) (lotInts lot).length = lotInts lot)) = b := by
    rw [← hS]
    unfold stuckB
    have g : ∀ x y : List Int, decide (x = y) = (y == x) := fun x y => by
      by_cases q : x = y
      · subst q; simp
      · rw [decide_eq_false q]; exact (beq_eq_false_iff_ne.mpr fun r => q r.symm).symm
    rw [g, g]
  rw [e]
  exact h
theorem set_N {l : Addr} {vs : List Value} {ns : List Int} {c : Nat} {news : List (Addr × Obj)} {Q : Value → Shared → Prop} (F : Fr h₀ L s.heap m) (N : News h₀ L s.heap news)
    (hh : A.handled = none) (hm : (l, W.listOf vs.toArray c) ∈ news) (hi : IntsAre vs ns) (hb : ns.length ≤ 64)
    (h : ∀ S h' (tk : Nat) o, Fr h₀ L h' m → News h₀ L h' ((S, o) :: news) → (∀ p ∈ news, p.1 < S) → SetOb o (setG (!w.params.followText "set-order") ns) ns.length → Q (.ref S) { s with heap := h', toks := tk }) :
    wpAny (model prog w) A (call (.type "set") [.ref l]) Q E s := by
  have hl' : s.heap.IsList l vs.toArray := ⟨_, (N _ hm).1, rfl, _, rfl⟩
  have hvn : vs.length = ns.length := IntsAre.length hi
  refine call_set_track (items := vs.toArray) (ns := ns) hh hl' (by simpa using hi) (by rw [List.size_toArray]; unfold scanBound; omega) fun h' tk hS hk => ?_
  obtain ⟨o, es, ep, ho, hex, hd, hf, hE, hn⟩ := hS
  obtain ⟨oL, _, _, hL, _⟩ := F.ns
  have hLlt : L < s.heap.objs.size := Heap.lt_size hL
  refine h _ h' tk o ⟨F.ns.at' fun o' e => hk L o' hLlt e, fun b o' e => hk b o' (Heap.lt_size (F.keep b o' e)) (F.keep b o' e), F.above⟩ (fun p hp => ?_) (fun p hp => Heap.lt_size (N p hp).1) ⟨es, ep, hex, hd, hf, hE, hn⟩
  rcases List.mem_cons.mp hp with rfl | hp
  · refine ⟨ho, Nat.ne_of_gt hLlt, ?_⟩
    cases hq : h₀.get? s.heap.objs.size with
    | none => rfl
    | some o' => exact absurd (Heap.lt_size (F.keep _ _ hq)) (Nat.lt_irrefl _)
  · exact ⟨hk _ _ (Heap.lt_size (N p hp).1) (N p hp).1, (N p hp).2.1, (N p hp).2.2⟩
theorem list_set_N {S : Addr} {o : Obj} {ks : List Int} {n : Nat} {news : List (Addr × Obj)} {Q : Value → Shared → Prop} (F : Fr h₀ L s.heap m) (N : News h₀ L s.heap news)
    (hh : A.handled = none) (hm : (S, o) ∈ news) (hS : SetOb o (setG (!w.params.followText "set-order") ks) n) (hok : setOk ks = true) (hb : n ≤ 64)
    (h : ∀ D us xs c' h' (tk : Nat), Fr h₀ L h' m → News h₀ L h' ((D, W.listOf (List.toArray us) c') :: news) → (∀ p ∈ news, p.1 < D) → IntsAre us xs → xs.Perm ks → Q (.ref D) { s with heap := h', toks := tk }) :
    wpAny (model prog w) A (call (.type "list") [.ref S]) Q E s := by
  obtain ⟨es, ep, hex, hd, hf, hE, hn⟩ := hS
  have hall : ∀ led : Bool, (setG led ks).2.plain = true ∧ (setG led ks).2.led = led ∧ walkOk (setG led ks).2.place = true ∧ List.Perm ((setG led ks).1.toList.map (·.2)) ks := by
    intro led
    unfold setOk at hok
    rw [List.all_eq_true] at hok
    have := hok led (by cases led <;> simp)
    simp only [Bool.and_eq_true, beq_iff_eq, List.isPerm_iff] at this
    exact ⟨this.1.1.1, this.1.1.2, this.1.2, this.2⟩
  obtain ⟨a1, a2, a3, a4⟩ := hall (!w.params.followText "set-order")
  obtain ⟨xs, nx, G, hp⟩ := goes (prog := prog) (w := w) (a := S) (es := es) (ep := ep) a2 a1 a3 hf
  have hints : ∀ v ∈ xs, ∃ k t, v = .int k t := by
    intro v hv
    obtain ⟨e, he, rfl⟩ := List.mem_map.mp (hp.mem_iff.mp hv)
    obtain ⟨k, t, rfl⟩ := hE.2 e he
    exact ⟨k, t, rfl⟩
  have hperm : List.Perm (xs.map valOf) ks := by
    refine (hp.map valOf).trans ?_
    have e : ((es.toList.map (·.2)).map valOf) = (setG (!w.params.followText "set-order") ks).1.toList.map (·.2) := by
      rw [← hE.1, Array.toList_map, List.map_map, List.map_map]
      rfl
    rw [e]
    exact a4
  refine call_list_set hh G (N _ hm).1 hex hd hf (by omega) fun h' tk acc c' hk hD hI => ?_
  have hacc : acc.toList = xs := by
    apply List.ext_getElem?
    intro i
    by_cases hi : i < acc.size
    · have e1 : acc.toList[i]? = some acc[i] := by rw [Array.getElem?_toList, Array.getElem?_eq_getElem hi]
      rw [e1]
      exact (hI.2 i acc[i] (Array.getElem?_eq_getElem hi)).symm
    · have hs := hI.1
      rw [List.getElem?_eq_none (by rw [Array.length_toList]; omega), List.getElem?_eq_none (by omega)]
  have hD' : h'.get? s.heap.objs.size = some (W.listOf (List.toArray xs) c') := by
    rw [← hacc, Array.toArray_toList]
    exact hD
  exact h _ xs (xs.map valOf) c' h' tk (F.keeps hk) (news_pushed F N hk hD' rfl) (fun p hp => Heap.lt_size (N p hp).1) (ints_vals hints) hperm
theorem sorted_later {l : Addr} {vs : List Value} {xs ks : List Int} {c : Nat} {news : List (Addr × Obj)} {Q : Value → Shared → Prop} (hd : isDown ks = true) (hk : ks.length ≤ 12) (F : Fr h₀ L s.heap m) (N : News h₀ L s.heap news)
    (hm : (l, W.listOf vs.toArray c) ∈ news) (hi : IntsAre vs xs) (hp : xs.Perm ks)
    (h : ∀ D vs' c' h', Fr h₀ L h' m → News h₀ L h' ((D, W.listOf (List.toArray vs') c') :: news) → (∀ q ∈ news, q.1 < D) → IntsAre vs' ks.reverse → Q (.ref D) { s with heap := h' }) :
    wpAny (model prog w) A (call (.builtin "sorted") [.ref l]) Q E s :=
  kso_sorted F N ⟨_, (N _ hm).1, rfl, _, rfl⟩ hi (by rw [hp.length_eq]; omega) fun D vs' ns' c' h' F' N' l1 i' _ p' o' _ => h D vs' c' h' F' N' l1 (by rw [← sorted_down hd (p'.trans hp) o']; exact i')
theorem rev_later {l : Addr} {value slice : Expr} {vs : List Value} {ks : List Int} {c : Nat} {vk : Value} {ops : List Value} {news : List (Addr × Obj)} {Q : Value → Shared → Prop} (hk : ks.length ≤ 12) (F : Fr h₀ L s.heap m) (N : News h₀ L s.heap news)
    (hm : (l, W.listOf vs.toArray c) ∈ news) (pk : IsPart vk (some (-1))) (hi : IntsAre vs ks.reverse)
    (h : ∀ D ws h', Fr h₀ L h' m → News h₀ L h' ((D, W.listOf (List.toArray ws) 0) :: news) → (∀ p ∈ news, p.1 < D) → IntsAre ws ks → Q (.ref D) { s with heap := h' })
    (hs : subscripted slice false (.ref l) (.ref s.heap.objs.size) = operate ops (getItem (.ref l) (.ref s.heap.objs.size))) :
    wpAny (model prog w) A (subscriptTail value slice (.ref l) (.ref s.heap.objs.size)) Q E { s with heap := s.heap.push { cls := .type "slice", data := .fields #[.none, .none, vk] } } := by
  have hl : s.heap.IsList l vs.toArray := ⟨_, (N _ hm).1, rfl, _, rfl⟩
  refine PyProof.Rows.tail_any (Heap.IsList.typeIs (s := { s with heap := s.heap.push { cls := .type "slice", data := .fields #[.none, .none, vk] } }) (hl.push _)) list_getitem_lookup
    (wpAny_getItem_list_slice (hl.push _) (Heap.IsSliceOf.new ..) .none .none pk (by decide) ?_ (by rw [List.size_toArray, IntsAre.length hi, List.length_reverse, PySem.sizeLine_eq]; omega)) hs
  rw [krv_pick]
  have N1 := News.push (F.push { cls := .type "slice", data := .fields #[.none, .none, vk] }) (N.grown fun _ _ e => Heap.get?_push_of_some _ e) { cls := .type "list", data := .seq vs.toArray.toList.reverse.toArray }
  rw [Heap.size_push] at N1
  show Q (.ref (s.heap.push _).objs.size) _
  rw [Heap.size_push]
  exact h _ vs.reverse _ ((F.push _).push _) N1 (fun p hp => Nat.lt_succ_of_lt (Heap.lt_size (N p hp).1)) (by have := hi.reverse; rwa [List.reverse_reverse] at this)
theorem ne_same {a b : Addr} {vs us : List Value} {ks : List Int} {c d : Nat} {led : List (Addr × Obj)} {Q : Value → Shared → Prop} (N : News h₀ L s.heap led)
    (ha : (a, W.listOf vs.toArray c) ∈ led) (hb : (b, W.listOf us.toArray d) ∈ led) (hi : IntsAre vs ks) (hi' : IntsAre us ks) (hu : A.units + 64 < cLine)
    (h : Q (.bool false) s) : wpAny (model prog w) A (compareOp .NotEq (.ref a) (.ref b)) Q E s :=
  ne_intsK ⟨_, (N _ ha).1, rfl, _, rfl⟩ hi ⟨_, (N _ hb).1, rfl, _, rfl⟩ hi' hu (by simpa using h)
theorem sum_later {l : Addr} {vs : List Value} {S : Str} {lot : Int} {c : Nat} {news : List (Addr × Obj)} {Q : Value → Shared → Prop} (hS : Later lot S) (hh : A.handled = none) (F : Fr h₀ L s.heap m) (N : News h₀ L s.heap news)
    (hm : (l, W.listOf vs.toArray c) ∈ news) (hi : IntsAre vs (sizesOf S))
    (h : ∀ h' tk t', Fr h₀ L h' m → News h₀ L h' news → Q (.int (lotInts lot).sum t') { s with heap := h', toks := tk }) :
    wpAny (model prog w) A (call (.builtin "sum") [.ref l]) Q E s :=
  sumK hh F N ⟨_, (N _ hm).1, rfl, _, rfl⟩ hi (by rw [hS.sum]; exact h)
theorem sum_lot {l : Addr} {vs : List Value} {lot : Int} {c : Nat} {news : List (Addr × Obj)} {Q : Value → Shared → Prop} (hh : A.handled = none) (F : Fr h₀ L s.heap m) (N : News h₀ L s.heap news)
    (hm : (l, W.listOf vs.toArray c) ∈ news) (hi : IntsAre vs (lotInts lot))
    (h : ∀ h' tk t', Fr h₀ L h' m → News h₀ L h' news → Q (.int (lotInts lot).sum t') { s with heap := h', toks := tk }) :
    wpAny (model prog w) A (call (.builtin "sum") [.ref l]) Q E s :=
  sumK hh F N ⟨_, (N _ hm).1, rfl, _, rfl⟩ hi h
theorem ne_int_same {x y : Int} {t u : Tok} {Q : Value → Shared → Prop} (e : x = y) (h : Q (.bool false) s) : wpAny (model prog w) A (compareOp .NotEq (.int x t) (.int y u)) Q E s := by
  subst e
  exact PyProof.Rows.ne_int (by simpa using h)
theorem ne_str_same {x : Str} {t u : Tok} {Q : Value → Shared → Prop} (h : Q (.bool false) s) : wpAny (model prog w) A (compareOp .NotEq (.str x t) (.str x u)) Q E s :=
  PyProof.Rows.ne_str (by simpa using h)
theorem last_later {value slice : Expr} {l : Addr} {vs : List Value} {S : Str} {lot : Int} {c : Nat} {u : Tok} {led : List (Addr × Obj)} {Q : Value → Shared → Prop} (hS : Later lot S) (N : News h₀ L s.heap led)
    (hm : (l, W.listOf vs.toArray c) ∈ led) (hi : IntsAre vs (sizesOf S)) (h : ∀ x : Int, 1 ≤ x → ∀ t, Q (.int x t) s)
    (hs : subscripted slice false (.ref l) (.int (-1) u) = operate [.ref l, .int (-1) u] (getItem (.ref l) (.int (-1) u))) :
    wpAny (model prog w) A (subscriptTail value slice (.ref l) (.int (-1) u)) Q E s := by
  have h1 := sizes_pos S
  refine item_list_ints_negR ⟨_, (N _ hm).1, rfl, _, rfl⟩ hi (by decide) (by omega) (by decide) (fun t => h _ ?_ t) hs
  rw [show ((-1 : Int) + ((sizesOf S).length : Int)).toNat = (sizesOf S).length - 1 by omega]
  exact hS.last
theorem lt_one {x : Int} {t u : Tok} {Q : Value → Shared → Prop} (hx : 1 ≤ x) (h : Q (.bool false) s) : wpAny (model prog w) A (compareOp .Lt (.int x t) (.int 1 u)) Q E s :=
  PyProof.Rows.lt_int (by rw [decide_eq_false (by omega)]; exact h)
theorem len_later {Q : Value → Shared → Prop} {D : Addr} {vs : List Value} {c : Nat} {led : List (Addr × Obj)} {S : Str} {lot : Int} (hS : Later lot S)
    (N : News h₀ L s.heap led) (hm : (D, W.listOf vs.toArray c) ∈ led) (hi : IntsAre vs (sizesOf S))
    (h : ∀ n : Int, (n = ((lotInts lot).length : Int) + 1 ∨ n + 1 = (lotInts lot).length) → ∀ t k, Q (.int n t) { s with toks := k }) : wpAny (model prog w) A (call (.builtin "len") [.ref D]) Q E s := by
  have hl : s.heap.IsList D vs.toArray := ⟨_, (N _ hm).1, rfl, _, rfl⟩
  have e : vs.length = (sizesOf S).length := IntsAre.length hi
  have hf := hS.few
  have hl2 := hS.len
  refine call_len_list hl (by rw [List.size_toArray]; omega) ?_
  rw [List.size_toArray, e]
  exact h _ (by omega) _ _
theorem abs_one {n k : Int} {t : Tok} {Q : Value → Shared → Prop} (hd : n = k + 1 ∨ n + 1 = k) (h : ∀ u tk, Q (.int 1 u) { s with toks := tk }) :
    wpAny (model prog w) A (call (.builtin "abs") [.int (n - k) t]) Q E s := by
  refine call_abs_int fun u tk => ?_
  have e : (if n - k < 0 then -(n - k) else n - k) = 1 := by split <;> omega
  rw [e]
  exact h u tk
end
end Mine

namespace Mine
def SubO (a b : List (Addr × Obj)) : Prop := ∀ p ∈ a, p ∈ b
def OffT (a : List (Addr × Obj)) : Prop := ∀ p ∈ a, p.1 ≠ 473
def OffC (cc : Addr) (a : List (Addr × Obj)) : Prop := ∀ p ∈ a, p.1 ≠ cc
theorem tail_join {tl0 tl cs : List (Addr × Obj)} (ho : SubO tl0 tl) (hne : OffT tl) (hn : ∀ p ∈ cs, p.1 ≠ 473) : ∃ tl', tl ++ cs = tl' ∧ SubL cs tl' ∧ SubO tl0 tl' ∧ OffT tl' :=
  ⟨_, rfl, fun p hp => List.mem_append_right _ hp, fun p hp => List.mem_append_left _ (ho p hp), fun p hp => (List.mem_append.mp hp).elim (hne p) (hn p)⟩
section
variable {prog : Program} {w : World} {A : Around} {E : Value → Shared → Prop} {s : Shared} {env : Env} {h₀ : Heap} {x : Str} {body : List Stmt} {Q : Flow → Shared → Prop}
def MyEnd (h₀ : Heap) (L : Addr) (pos : Pos) (qual : Str) (x : Str) (stored : List Str) (m₀ : Str → Option Value) (kp : Addr × Obj) (cc : Addr) (tl : List (Addr × Obj)) (s₁ s₂ : Shared) : Prop :=
  ∃ h' tk m' led' ps cs oc v, s₂ = { s₁ with heap := h', toks := tk } ∧ Fr h₀ L h' m' ∧ News h₀ L h' led' ∧ (∀ p ∈ (473, tabObj ps) :: kp :: (cc, oc) :: (tl ++ cs), p ∈ led') ∧ oc.data = .cell v ∧
    TabC pos qual 473 ps cs ∧ (∀ p ∈ cs, p.1 ≠ 473) ∧ (∀ z, z ≠ x → stored.contains z = false → m' z = m₀ z)
def MyPost (h₀ : Heap) (L : Addr) (pos : Pos) (qual : Str) (x : Str) (stored : List Str) (m₀ : Str → Option Value) (kp : Addr × Obj) (cc : Addr) (tl : List (Addr × Obj)) (s₁ : Shared) (Q : Flow → Shared → Prop) (f : Flow) (s₂ : Shared) : Prop :=
  match f with
  | .ret v => Q (.ret v) s₂
  | .brk => Q .next s₂
  | _ => MyEnd h₀ L pos qual x stored m₀ kp cc tl s₁ s₂
theorem my_next {pos : Pos} {qual : Str} {stored : List Str} {m₀ m' : Str → Option Value} {tl tl' led' ex : List (Addr × Obj)} {ps : Array Value} {s₁ : Shared} {h' : Heap} {tk : Nat} {L cc : Addr} {kp : Addr × Obj} {oc : Obj} {v : Option Value}
    (F : Fr h₀ L h' m') (N : News h₀ L h' led') (hT : TabC pos qual 473 ps ex) (hs : SubL ex tl') (ho : SubO tl tl') (hne : OffT tl') (hd : oc.data = .cell v) (hin : ∀ p ∈ (473, tabObj ps) :: kp :: (cc, oc) :: tl', p ∈ led')
    (h7 : ∀ z, z ≠ x → stored.contains z = false → m' z = m₀ z) :
    MyPost h₀ L pos qual x stored m₀ kp cc tl s₁ Q .next { s₁ with heap := h', toks := tk } :=
  ⟨h', tk, m', led', ps, ex, oc, v, rfl, F, N, fun p hp => by
    apply hin
    rcases List.mem_cons.mp hp with rfl | hp
    · exact .head _
    · rcases List.mem_cons.mp hp with rfl | hp
      · exact .tail _ (.head _)
      · rcases List.mem_cons.mp hp with rfl | hp
        · exact .tail _ (.tail _ (.head _))
        · rcases List.mem_append.mp hp with hp | hp
          · exact .tail _ (.tail _ (.tail _ (ho p hp)))
          · exact .tail _ (.tail _ (.tail _ (hs p hp))), hd, hT, fun p hp => hne p (hs p hp), h7⟩
theorem my_loop {r : Addr} {b₀ : Int} {t₀ u₀ v₀ : Tok} {n : Nat} {m₀ : Str → Option Value} {news : List (Addr × Obj)} (pos : Pos) (qual : Str) (stored : List Str)
    (hh : A.handled = none) (hr : IsRange s.heap r 0 b₀ 1 t₀ u₀ v₀) (hsmall : Builtin.Range.small 0 b₀ 1 = true) (hn : Builtin.Range.rangeSize 0 b₀ 1 = (n : Int))
    (F : Fr h₀ env.locals s.heap m₀) (N : News h₀ env.locals s.heap news) (hP : (473, tabObj #[]) ∈ news) {ca : Addr} {oca : Obj} {cells : Str} (_hcv : m₀ cells = some (.ref ca)) (hK : (ca, oca) ∈ news) (hca : @Ne Nat ca 473) {cc : Addr} {oc : Obj} {vc : Option Value} (hC : (cc, oc) ∈ news) (hcd : oc.data = .cell vc) (hcc : @Ne Nat cc 473) (hac : @Ne Nat ca cc)
    (turn : ∀ (i : Nat) ps oc v t (u : Str → Option Value) h tk tl ex, i < n → TabC pos qual 473 ps ex → SubL ex tl → SubO tl tl → OffT tl → OffC cc tl → (@Ne Nat ca 473 ∧ @Ne Nat cc 473 ∧ @Ne Nat ca cc) → oc.data = .cell v →
      Fr h₀ env.locals h (fun y => if y = x then some (.int (i : Int) t) else if stored.contains y then u y else m₀ y) → News h₀ env.locals h ((473, tabObj ps) :: (ca, oca) :: (cc, oc) :: tl) →
      wpAny (model prog w) A (execs body env) (MyPost h₀ env.locals pos qual x stored m₀ (ca, oca) cc tl { s with heap := h, toks := tk } Q) E { s with heap := h, toks := tk })
    (done : ∀ ps (u : Str → Option Value) h tk, Fr h₀ env.locals h (fun y => if y = x then u y else if stored.contains y then u y else m₀ y) → News h₀ env.locals h [(473, tabObj ps)] → Q .next { s with heap := h, toks := tk }) :
    wpAny (model prog w) A (pyIter (.ref r)) (fun it s₂ => LoopAtV prog w A h₀ env x body Q E it s₂) E s := by
  refine wpAny_pyIter_range hr hsmall ?_
  have W : Walks prog w A s.heap.objs.size [s.heap.objs.size] [s.heap.objs.size] n (fun i v => i < n ∧ ∃ t, v = .int (0 + i * 1) t)
      (fun i h => IsRangeIter h s.heap.objs.size (0 + (i : Nat) * 1) ((n : Int) - (i : Nat)) 1) := (Walks.range hh _ 0 1 n).bound
  have hPlt : (473 : Addr) < s.heap.objs.size := Heap.lt_size (N _ hP).1
  have hclt : ca < s.heap.objs.size := Heap.lt_size (N _ hK).1
  have hcclt : cc < s.heap.objs.size := Heap.lt_size (N _ hC).1
  have hInone : h₀.get? s.heap.objs.size = none := next_is_new F
  let J : Nat → (Str → Option Value) → List (Addr × Obj) → Prop := fun i m nx =>
    ∃ ps ex oc v, nx = (473, tabObj ps) :: (ca, oca) :: (cc, oc) :: ex ∧ oc.data = .cell v ∧ TabC pos qual 473 ps ex ∧ (∀ p ∈ ex, p.1 ≠ 473) ∧ OffC cc ex ∧ (∀ z, z ≠ x → stored.contains z = false → m z = m₀ z)
  have hfun : ∀ {m₁ : Str → Option Value} (v : Str → Option Value), (∀ z, z ≠ x → stored.contains z = false → m₁ z = m₀ z) →
      (fun y => if y = x then v y else m₁ y) = (fun y => if y = x then v y else if stored.contains y then m₁ y else m₀ y) := by
    intro m₁ v hk
    funext y
    by_cases hx : y = x
    · rw [if_pos hx, if_pos hx]
    · rw [if_neg hx, if_neg hx]
      cases hc : stored.contains y with
      | true => rw [if_pos rfl]
      | false => rw [if_neg (by decide)]; exact hk y hx hc
  refine ⟨s.heap.objs.size, [s.heap.objs.size], [s.heap.objs.size], n, _, _, m₀, [(473, tabObj #[]), (ca, oca), (cc, oc)], J, rfl, W, ?_, ?_, ?_, (by show IsRangeIter _ _ _ _ _; rw [hn]; simpa using Heap.get?_push_size _ rfl), F.push _, ?_,
    ⟨#[], [], oc, vc, rfl, hcd, .inl ⟨rfl, rfl⟩, (fun _ h => nomatch h), (fun _ h => nomatch h), fun _ _ _ => rfl⟩, ?_, ?_⟩
  · intro hm
    exact absurd F.ns.lt ((List.mem_singleton.mp hm) ▸ Nat.lt_irrefl _)
  · intro b hb
    rw [List.mem_singleton.mp hb]
    exact hInone
  · intro p hp hI
    rcases List.mem_cons.mp hp with rfl | hp
    · exact absurd hPlt ((List.mem_singleton.mp hI) ▸ Nat.lt_irrefl _)
    · rcases List.mem_cons.mp hp with rfl | hp
      · exact absurd hclt ((List.mem_singleton.mp hI) ▸ Nat.lt_irrefl _)
      · rw [List.mem_singleton.mp hp] at hI
        exact absurd hcclt ((List.mem_singleton.mp hI) ▸ Nat.lt_irrefl _)
  · intro p hp
    rcases List.mem_cons.mp hp with rfl | hp
    · exact ⟨Heap.get?_push_of_some _ (N _ hP).1, (N _ hP).2⟩
    · rcases List.mem_cons.mp hp with rfl | hp
      · exact ⟨Heap.get?_push_of_some _ (N _ hK).1, (N _ hK).2⟩
      · rw [List.mem_singleton.mp hp]
        exact ⟨Heap.get?_push_of_some _ (N _ hC).1, (N _ hC).2⟩
  · rintro i v m₁ nx s₁ own ⟨hh', tk', rfl⟩ hi ⟨_, t, rfl⟩ ⟨ps, ex, oc₁, v₁, rfl, hd₁, hT, hex, hexc, hk⟩ hoff hown _ hall hst F₁ N₁
    have e1 : (0 : Int) + (i : Int) * 1 = (i : Int) := by omega
    rw [e1] at F₁
    have hI := hall _ (List.mem_singleton.mpr rfl) hInone _ hst
    have hPt : OffT (ex ++ own) := by
      intro p hp
      rcases List.mem_append.mp hp with hp | hp
      · exact hex p hp
      · rw [List.mem_singleton.mp (hown p hp)]
        exact Nat.ne_of_gt hPlt
    have hPc : OffC cc (ex ++ own) := by
      intro p hp
      rcases List.mem_append.mp hp with hp | hp
      · exact hexc p hp
      · rw [List.mem_singleton.mp (hown p hp)]
        exact Nat.ne_of_gt hcclt
    have N₂ : News h₀ env.locals hh' ((473, tabObj ps) :: (ca, oca) :: (cc, oc₁) :: (ex ++ own)) := by
      intro p hp
      apply N₁
      rcases List.mem_cons.mp hp with rfl | hp
      · exact List.mem_append_right _ (.head _)
      · rcases List.mem_cons.mp hp with rfl | hp
        · exact List.mem_append_right _ (.tail _ (.head _))
        · rcases List.mem_cons.mp hp with rfl | hp
          · exact List.mem_append_right _ (.tail _ (.tail _ (.head _)))
          · rcases List.mem_append.mp hp with hp | hp
            · exact List.mem_append_right _ (.tail _ (.tail _ (.tail _ hp)))
            · exact List.mem_append_left _ hp
    rw [hfun (fun _ => some (.int (i : Int) t)) hk] at F₁
    refine wpAny_mono (turn i ps oc₁ v₁ t m₁ hh' tk' (ex ++ own) ex hi hT (fun p hp => List.mem_append_left _ hp) (fun p hp => hp) hPt hPc ⟨hca, hcc, hac⟩ hd₁ F₁ N₂) (fun f s₂ p => ?_) fun _ _ e => e
    have fin : MyEnd h₀ env.locals pos qual x stored m₀ (ca, oca) cc (ex ++ own) { s with heap := hh', toks := tk' } s₂ → LoopStepU h₀ env.locals [s.heap.objs.size] own (J (i + 1)) { s with heap := hh', toks := tk' } .next s₂ := by
      rintro ⟨h', tk, m', led', ps', cs', oc₂, v₂, e, F', N', hin, hd₂, hT', hcs', hk'⟩
      have hI' : ∀ p ∈ cs', p.1 ≠ s.heap.objs.size := by
        intro p hp hpe
        have g1 := (N' _ (hin _ (.tail _ (.tail _ (.tail _ (List.mem_append_left _ (List.mem_append_right _ hI))))))).1
        have g2 := (N' _ (hin _ (.tail _ (.tail _ (.tail _ (List.mem_append_right _ hp)))))).1
        rw [hpe, g1] at g2
        rcases hT' with ⟨_, rfl⟩ | ⟨c', oc, vs, tq, _, rfl, d1, d2, _⟩
        · cases hp
        · rw [List.mem_singleton.mp hp] at g2
          have g3 : _ = oc := Option.some.inj g2
          rw [← g3] at d1
          have g4 := Data.fields.inj d1
          rw [← g4] at d2
          simp [rawInt] at d2
      have hC' : OffC cc cs' := by
        intro p hp hpe
        have g1 := (N' _ (hin _ (.tail _ (.tail _ (.head _))))).1
        have g2 := (N' _ (hin _ (.tail _ (.tail _ (.tail _ (List.mem_append_right _ hp)))))).1
        rw [hpe, g1] at g2
        rcases hT' with ⟨_, rfl⟩ | ⟨c', oc, vs, tq, _, rfl, d1, d2, _⟩
        · cases hp
        · rw [List.mem_singleton.mp hp] at g2
          have g3 : _ = oc := Option.some.inj g2
          rw [← g3, hd₂] at d1
          cases d1
      refine ⟨rfl, h', tk, m', (473, tabObj ps') :: (ca, oca) :: (cc, oc₂) :: cs', e, F', fun p hp => N' p ?_, fun p hp hq => ?_, ps', cs', oc₂, v₂, rfl, hd₂, hT', hcs', hC', hk'⟩
      · apply hin
        rcases List.mem_append.mp hp with hp | hp
        · exact .tail _ (.tail _ (.tail _ (List.mem_append_left _ (List.mem_append_right _ hp))))
        · rcases List.mem_cons.mp hp with rfl | hp
          · exact .head _
          · rcases List.mem_cons.mp hp with rfl | hp
            · exact .tail _ (.head _)
            · rcases List.mem_cons.mp hp with rfl | hp
              · exact .tail _ (.tail _ (.head _))
              · exact .tail _ (.tail _ (.tail _ (List.mem_append_right _ hp)))
      · have hq' := List.mem_singleton.mp hq
        rcases List.mem_cons.mp hp with rfl | hp
        · exact absurd hPlt (hq' ▸ Nat.lt_irrefl _)
        · rcases List.mem_cons.mp hp with rfl | hp
          · exact absurd hclt (hq' ▸ Nat.lt_irrefl _)
          · rcases List.mem_cons.mp hp with rfl | hp
            · exact absurd hcclt (hq' ▸ Nat.lt_irrefl _)
            · exact hI' p hp hq'
    cases f with
    | ret v => exact .ret p
    | brk => exact .brk p
    | next => exact .next (fin p)
    | cont => exact .cont (fin p)
  · rintro h' tk m' news' F' N' _ ⟨ps, ex, oc₁, v₁, rfl, _, _, _, _, hk⟩
    refine done ps m' h' tk ?_ (fun p hp => N' p (by rw [List.mem_singleton.mp hp]; exact .head _))
    have e : m' = fun y => if y = x then m' y else if stored.contains y then m' y else m₀ y := by
      rw [← hfun m' hk]
      funext y
      split <;> rfl
    rw [← e]
    exact F'
end
end Mine



local macro_rules | `(tactic| walk_at "pyIter ref") => `(tactic| (k_here; (with_reducible show wpAny _ _ (pyIter (Value.ref _)) (fun it s₂ => LoopAtV _ _ _ _ _ _ _ _ _ it s₂) _ _); k_dflt (refine' Mine.my_loop (n := 2) ⟨348, 94, 348, 110⟩ (Str.ofString "_law_marked" ++ ".<locals>." ++ "<lambda>") [Str.ofString "lot", Str.ofString "sizes", Str.ofString "heaps", Str.ofString "many", Str.ofString "later", Str.ofString "stuck", Str.ofString "others"] ?hh ?hr ?hs ?hn ?F ?N ?hP (cells := Str.ofString "cells") ?hcv ?hK ?hca ?hC ?hcd ?hcc ?hac (fun i9 ps9 oc9 v9 t9 u9 h' tk9 tl9 ex9 hi9 hT9 hs9 ho9 hne9 hoc9 hca9 hcd9 F' N' => ?_) (fun ps9 u9 h' tk9 F' N' => ?_); (case hh => exact rfl); (case hr => assumption); (case hs => decide); (case hn => decide); (case F => k_asm); (case N => k_asm); (case hP => k_mem); (case hcv => exact rfl); (case hK => k_mem); (case hca => k_ne); (case hcd => assumption); (case hC => k_mem); (case hcc => k_ne); (case hac => k_ne)); (all_goals ((try dsimp only); (try k_fold)))))

theorem Mine.rows_98b_law : True := by
  k_with "subscriptTail Name Slice ref ref" => (k_here; (with_reducible show wpAny _ _ (subscriptTail (Expr.Name _ _) (PySem.Expr.Slice (some (Expr.Call _ _ _ _)) none none _) (Value.ref _) (Value.ref _)) _ _ _); k_dflt (refine' kmk_slice_ints (by (k_asm)) (by (k_asm)) (by (kmk_list)) (by (kmk_part)) (by (kmk_part)) (by (l_ints)) (by (exact kmk_from (by l_ints) (by omega))) (by (exact List.length_drop ..)) ?_ (by (with_unfolding_all rfl)) (by (kmk_pure)) (by (kmk_size))); intro D' ws' h' F' N' l1 hI' hC' hL'; (try k_lt l1); (try k_sweep))
  k_with "storeName" => (k_here; (rename IntsAre _ (List.map _ _ ++ List.drop _ _) => hI9; obtain ⟨c0, t0, e9⟩ := Mine.one_cell hI9; clear hI9; subst e9); (repeat (rename (List.length _ = _) => hq; clear hq)); (repeat (rename (List.length _ ≤ _) => hq; clear hq)); (repeat (first | (rename IntsAre _ (List.take _ _) => hq; clear hq) | (rename IntsAre _ (List.drop _ _) => hq; clear hq) | (rename IntsAre _ (List.map _ _) => hq; clear hq))))
  k_with "storeName" => (k_here; (with_reducible refine Mine.store_lot ?_); intro n9 hn9)
  k_with "binaryOp Pow int int" => (k_here; (with_reducible refine Mine.pow_bit (by with_reducible assumption) (by with_reducible assumption) ?_))
  k_with "binaryOp FloorDiv int int" => (k_here; (with_reducible refine Mine.div_bit (by with_reducible assumption) ?_))
  k_with "exec Assign cons ListComp" => (k_here; (with_reducible show wpAny _ _ (exec (Stmt.Assign [Expr.Name _ _] (Expr.ListComp (Expr.Name _ _) _ _ _) _) _) _ _ _); k_dflt (refine Mine.assign_down (by k_asm) (by with_unfolding_all rfl) (by with_unfolding_all rfl) (by decide) (by rfl) (by decide) (by rfl) (by rfl) (by rfl) ?_))
  k_with "DSrc" => (k_here; (with_reducible rename Mine.LotIn _ => hL9); k_dflt (refine' Mine.down_lot hL9 (by (exact rfl)) (by (k_asm)) (by (k_asm)) (by (assumption)) (fun k' t' I' oI' C' oC' D' m' ys' h' tk' E' hlo' hhi' hC' hx' F' N' off' ne' => ?_) (fun ys' D' h' tk' hI' F' N' o1' => ?_)); all_goals ((try dsimp only); (try k_fold)); (all_goals (try (simp only [LCg.Off1, and_true] at o1'))))
  k_with "CompEnd" => (k_dflt (refine' LCg.CompEnd.intro (by (k_asm)) (by (k_asm)) _ (by (ktr_rel)) (by (with_reducible assumption)) trivial ⟨rfl, ⟨_, rfl⟩, (by (exact Mine.bit_true (by with_reducible assumption)))⟩))
  k_with "CompEnd" => (k_dflt (refine' LCg.CompEnd.intro (by (k_asm)) (by (k_asm)) _ (by (ktr_rel)) (by (with_reducible assumption)) trivial ⟨rfl, (by (exact Mine.bit_false (by with_reducible assumption)))⟩))
  k_with "eval ListComp" => (k_here; (with_reducible show wpAny _ _ (eval (Expr.ListComp (Expr.BinOp _ _ _ _) _ _ _) _) _ _ _); k_dflt (refine LCg.ListComp_U (F₀ := by k_asm) (by with_unfolding_all rfl) (by decide) (by rfl) (by decide) (by rfl) ?_))
  k_with "CompSrc" => (k_here; (with_reducible show LCg.CompSrc _ _ _ _ _ _ _ (Expr.BinOp _ _ _ _) _ _ _ _ _ _); (with_reducible rename Mine.LotIn _ => hL9); k_dflt (refine' Mine.ints_src hL9 (by (exact rfl)) (by (k_asm)) (by (k_asm)) (by (k_mem)) (by (with_reducible assumption)) (fun y' u' I' oI' C' oC' D' m' ys' h' tk' E' hlo' hhi' hC' hx' F' N' off' ne' => ?_) (fun ys' D' h' tk' hys' F' N' o1' => ?_)); all_goals ((try dsimp only); (try k_fold)); (all_goals (try (simp only [LCg.Off1, and_true] at o1'))))
  k_with "call builtin:str.join" => (k_here; (with_reducible rename Mine.LotIn _ => hL9); k_dflt (refine' Mine.join_lot hL9 (by (k_asm)) (by (k_mem)) (by (with_reducible assumption)) (fun t' k' => ?_)); (try dsimp only))
  k_with "call builtin:len" => (k_here; (with_reducible show wpAny _ _ (call (Value.builtin "len") [Value.ref _]) _ _ _); (with_reducible rename Mine.LotIn _ => hL9); k_dflt (refine' Mine.len_lot hL9 (by (k_asm)) (by (k_mem)) (by (with_reducible assumption)) (fun n' hn' hp' hq' t' k' => ?_)); (try dsimp only))
  k_with "call type:list" => (k_here; (with_reducible show wpAny _ _ (call (Value.type _) [Value.ref _]) _ _ _); (rename IsRange _ _ _ _ (-1) _ _ _ => rg9); k_dflt (refine' Mine.list_step (by (exact rfl)) (by (k_asm)) (by (k_asm)) rg9 (by (exact Mine.small_down (by omega) (by omega) (by omega))) (by (exact Mine.size_down (by omega))) (by (omega)) (fun D' us' c' h' tk' F' N' l1 hI' => ?_)); (try k_lt l1))
  k_with "storeName" => (k_here; (with_reducible show wpAny _ _ (storeName _ (Str.ofString "lot") _) _ _ _); (with_reducible rename Mine.LotIn _ => hq9); (with_reducible rename Mine.OffC _ _ => hoc9); k_dflt (refine' storeX_C (by (k_asm)) (by (k_asm)) (by (rfl)) (UpdF.tail (by (k_ne)) (UpdF.tail (by (k_ne)) (UpdF.head hoc9))) (by (k_asm)) ?_ (by (rfl)) (by (rfl)); k_whole); intro h' o' F' N' d'; (try dsimp only at N'))
  k_with "call ref" => (k_here; (with_reducible show wpAny _ _ (call (Value.ref 485) [Value.str (Mine.heapsOf _) _]) _ _ _); (with_reducible rename Mine.LotIn _ => hL9); (with_reducible rename Mine.TabC _ _ _ _ _ => hT9); (with_reducible rename Mine.SubL _ _ => hs9); (with_reducible rename Mine.SubO _ _ => ho9); (with_reducible rename Mine.OffT _ => hne9); k_dflt (refine' Mine.c_done (by (k_asm)) (by (k_asm)) (by (k_asm)) (by (first | with_reducible assumption | kn_code)) (Mine.pick1 (by (k_asm)) (by (tb_start))) hT9 (by ((intro p9 hp9; (repeat (first | exact hs9 _ hp9 | refine List.Mem.tail _ ?_))))) (by ((repeat (refine List.forall_mem_cons.mpr ⟨by k_ne, ?_⟩)); exact hne9)) (by (k_asm)) (by (first | exact rfl | assumption)) (by (decide)) (by (exact (by decide +kernel))) (by (exact Mine.heaps_len hL9)) (by (exact Mine.heaps_few hL9)) (fun v' h' tk' hD' F' hO' => ?_); all_goals ((try dsimp only); (try k_fold))); k_dflt (obtain ⟨ps9, cs9, hT8, hn8, N9⟩ := hO'; obtain ⟨tl8, e8, hs8, ho8, hne8⟩ := Mine.tail_join ho9 hne9 hn8); (clear hT9 hs9 ho9 hne9 hn8); (simp only [List.cons_append] at N9); (rw [e8] at N9); (clear e8); (rcases Mine.later_split hL9 hD' with ⟨hz9, hk9⟩ | ⟨S9, u9, hz9, hk9, hl9, hq9⟩ <;> subst hz9))
  k_with "call ref" => (k_here; (with_reducible show wpAny _ _ (call (Value.ref 485) [Value.str _ _]) _ _ _); (with_reducible rename Mine.Later _ _ => hL9); (with_reducible rename Mine.TabC _ _ _ _ _ => hT9); (with_reducible rename Mine.SubL _ _ => hs9); (with_reducible rename Mine.SubO _ _ => ho9); (with_reducible rename Mine.OffT _ => hne9); k_dflt (refine' Mine.c_done (by (k_asm)) (by (k_asm)) (by (k_asm)) (by (first | with_reducible assumption | kn_code)) (Mine.pick1 (by (k_asm)) (by (tb_start))) hT9 (by ((intro p9 hp9; (repeat (first | exact hs9 _ hp9 | refine List.Mem.tail _ ?_))))) (by ((repeat (refine List.forall_mem_cons.mpr ⟨by k_ne, ?_⟩)); exact hne9)) (by (k_asm)) (by (first | exact rfl | assumption)) (by (decide)) (by (exact (by decide +kernel))) (by (exact Mine.Later.short hL9)) (by (exact Mine.Later.few hL9)) (fun v' h' tk' hD' F' hO' => ?_); all_goals ((try dsimp only); (try k_fold))); k_dflt (obtain ⟨ps9, cs9, hT8, hn8, N9⟩ := hO'; obtain ⟨tl8, e8, hs8, ho8, hne8⟩ := Mine.tail_join ho9 hne9 hn8); (clear hT9 hs9 ho9 hne9 hn8); (simp only [List.cons_append] at N9); (rw [e8] at N9); (clear e8); (obtain ⟨u9, hz9⟩ := Mine.later_back hL9 hD'; subst hz9))
  k_with "compareOp In ref ref" => (k_here; (with_reducible show wpAny _ _ (compareOp CmpOp.In (Value.ref _) (Value.ref _)) _ _ _); (with_reducible rename Mine.StuckIs _ _ => hK9); k_dflt (refine' Mine.in_stuck hK9 (by (k_asm)) (by (k_mem)) (by (k_mem)) (by (k_mem)) (by (k_mem)) (by (with_reducible assumption)) (by (with_reducible assumption)) (by (with_reducible assumption)) (by (first | units_room | exact (by decide +kernel))) (by (with_reducible assumption)) (by (with_reducible assumption)) (by (omega)) (by (omega)) ?_))
  k_with "call type:set" => (k_here; (with_reducible show wpAny _ _ (call (Value.type "set") [Value.ref _]) _ _ _); (with_reducible rename Mine.Later _ _ => hL9); k_dflt (refine' Mine.set_N (by (k_asm)) (by (k_asm)) (by (exact rfl)) (by (k_mem)) (by (with_reducible assumption)) (by (exact Nat.le_trans (Mine.Later.few hL9) (by decide))) (fun S' h' tk' o' F' N' l1 hS' => ?_)); (try k_lt l1))
  k_with "call type:list" => (k_here; (with_reducible show wpAny _ _ (call (Value.type "list") [Value.ref _]) _ _ _); (with_reducible rename Mine.Later _ _ => hL9); (with_reducible rename Mine.SetOb _ _ _ => hS9); k_dflt (refine' Mine.list_set_N (by (k_asm)) (by (k_asm)) (by (exact rfl)) (by (k_mem)) hS9 (by (exact Mine.Later.set hL9)) (by (exact Nat.le_trans (Mine.Later.few hL9) (by decide))) (fun D' us' xs' c' h' tk' F' N' l1 hI' hp' => ?_)); (try k_lt l1))
  k_with "call builtin:sorted" => (k_here; (with_reducible show wpAny _ _ (call (Value.builtin "sorted") [Value.ref _]) _ _ _); (with_reducible rename Mine.Later _ _ => hL9); (with_reducible rename List.Perm _ (Mine.sizesOf _) => hp9); k_dflt (refine' Mine.sorted_later (Mine.Later.down hL9) (Mine.Later.few hL9) (by (k_asm)) (by (k_asm)) (by (k_mem)) (by (with_reducible assumption)) hp9 (fun D' vs' c' h' F' N' l1 hI' => ?_)); (try k_lt l1))
  k_with "subscriptTail" => (k_here; (with_reducible show wpAny _ _ (subscriptTail _ (PySem.Expr.Slice none none (some _) _) (Value.ref _) (Value.ref _)) _ _ _); (with_reducible rename Mine.Later _ _ => hL9); k_dflt (refine' Mine.rev_later (Mine.Later.few hL9) (by (k_asm)) (by (k_asm)) (by (k_mem)) (by (exact IsPart.int _ _)) (by (with_reducible assumption)) (fun D' ws' h' F' N' l1 hI' => ?_) (by (with_unfolding_all rfl))); (try k_lt l1))
  k_with "compareOp NotEq ref ref" => (k_here; (with_reducible show wpAny _ _ (compareOp CmpOp.NotEq (Value.ref _) (Value.ref _)) _ _ _); k_dflt (refine' Mine.ne_same (ks := Mine.sizesOf _) (by (k_asm)) (by (k_mem)) (by (k_mem)) (by (with_reducible assumption)) (by (with_reducible assumption)) (by (first | units_room | exact (by decide +kernel))) ?_))
  k_with "call builtin:sum" => (k_here; (with_reducible show wpAny _ _ (call (Value.builtin "sum") [Value.ref _]) _ _ _); (with_reducible rename Mine.Later _ _ => hL9); k_dflt (refine' Mine.sum_later hL9 (by (exact rfl)) (by (k_asm)) (by (k_asm)) (by (k_mem)) (by (with_reducible assumption)) (fun h' tk' t' F' N' => ?_)))
  k_with "call builtin:sum" => (k_here; (with_reducible show wpAny _ _ (call (Value.builtin "sum") [Value.ref _]) _ _ _); k_dflt (refine' Mine.sum_lot (by (exact rfl)) (by (k_asm)) (by (k_asm)) (by (k_mem)) (by (with_reducible assumption)) (fun h' tk' t' F' N' => ?_)))
  k_with "compareOp NotEq int int" => (k_here; (with_reducible refine Mine.ne_int_same (by with_reducible exact rfl) ?_))
  k_with "compareOp NotEq str str" => (k_here; (with_reducible refine Mine.ne_str_same ?_))
  k_with "subscriptTail Name UnaryOp ref int" => (k_here; (with_reducible show wpAny _ _ (subscriptTail _ (PySem.Expr.UnaryOp _ _ _) (Value.ref _) (Value.int (-1) _)) _ _ _); (with_reducible rename Mine.Later _ _ => hL9); k_dflt (refine' Mine.last_later hL9 (by (k_asm)) (by (k_mem)) (by (with_reducible assumption)) ?_ (by (with_unfolding_all rfl))); intro x9 hx9 t9)
  k_with "compareOp Lt int int" => (k_here; (with_reducible refine Mine.lt_one (by with_reducible assumption) ?_))
  k_with "call builtin:len" => (k_here; (with_reducible show wpAny _ _ (call (Value.builtin "len") [Value.ref _]) _ _ _); (with_reducible rename Mine.Later _ _ => hL9); k_dflt (refine' Mine.len_later hL9 (by (k_asm)) (by (k_mem)) (by (with_reducible assumption)) (fun n' hd' t' k' => ?_)); (try dsimp only))
  k_with "call builtin:abs" => (k_here; (with_reducible show wpAny _ _ (call (Value.builtin "abs") [Value.int (_ - _) _]) _ _ _); (with_reducible refine Mine.abs_one (by (omega)) ?_); intro u9 k9)
  k_with "MyPost" => (k_dflt (refine' Mine.my_next (by (k_asm)) (by (k_asm)) (by (with_reducible assumption)) (by (with_reducible assumption)) (by (with_reducible assumption)) (by (with_reducible assumption)) (by (with_reducible assumption)) (by (ktr_rel)) (by ((intro z z1 z2; (simp only [List.contains_cons, Bool.or_eq_false_iff, beq_eq_false_iff_ne, List.contains_nil, and_true] at z2); simp [z1, z2])))))
  exact True.intro

set_option maxRecDepth 100000 in
set_option maxHeartbeats 8000000 in
theorem PySem.Challenge.cw_xw0308_02_holds : PySem.Challenge.rw_xw0308_02.Holds := by
  refine holds_law Mine.said fun said => ?_
  refine holds_open (r := PySem.Challenge.rw_xw0308_02.row) (q := Mine.vw) (loose := Mine.loose) (Xt := fun s => xlAt Mine.vw [] s && recOk (RowW.records (PySem.Challenge.rw_xw0308_02.row.toRowW)) s) (XP := XL Mine.vw [])
    (Yf := Hook.obs (kHook Mine.K Mine.as (fun _ => by kernel_rfl))) (Ya := Hook.val (kHook Mine.K Mine.as (fun _ => by kernel_rfl))) (YP := Hook.says (kHook Mine.K Mine.as (fun _ => by kernel_rfl))) (N := Mine.N)
    Mine.left (Hook.of _) (Hook.keeps _) (fun s e => xl_of s (Bool.and_eq_true_iff.mp e).1) XL.keeps (by rfl) (by rfl) (by rfl) (fun s e => recFacts_of (Bool.and_eq_true_iff.mp e).2) (by rfl) said (by decide +kernel) ⟨rfl, rfl, rfl, rfl, rfl, by decide +kernel⟩ ?hw ?hc
  case hw => w_witness2
  clear said
  k_go0
  all_goals try k_fold
  k_steps

