import PyProof.Rows.All
import Wide.All
import OpenK.AllK
import Wide.FinOn
import PySem.Challenge.RW_xw0308_01
open PySem PySem.W PyProof.Rows PySem.Calls PySem.Spec
set_option Elab.async false

set_option linter.unusedVariables false
namespace Mine
abbrev pw : Program := PySem.Challenge.pw_xw0308_01
def vw : Program := view pw [1, 2, 3, 4, 5, 7, 8, 9, 10, 11, 12, 13, 14, 15, 16, 17, 19, 21, 22, 23, 25, 26, 27, 29, 30, 31, 32, 34, 35, 36, 37, 38, 39, 40, 41, 42, 43, 44, 45, 46, 47, 48, 49, 50, 51, 53, 54, 55, 56, 57, 58, 59, 60, 61, 63, 65, 66]
def loose : List PySem.Str := ["SnobolError", "plain_count"]
def N : Nat := 8000
def defOf : Stmt → PySem.Arguments × List Stmt × PySem.Scope
  | .FunctionDef _ args body _ _ _ scope .. => (args, body, scope)
  | _ => default
def inCls : Stmt → List Stmt
  | .ClassDef _ _ _ body .. => body
  | _ => []
def top (i : Nat) : PySem.Arguments × List Stmt × PySem.Scope := defOf ((pw.main.body.drop i).headD default)
def meth (i j : Nat) : PySem.Arguments × List Stmt × PySem.Scope := defOf ((inCls ((pw.main.body.drop i).headD default)).drop j |>.headD default)
noncomputable def F19a : PySem.Arguments := by
  refine (?f : (x : PySem.Arguments) → x = (top 1).1 → PySem.Arguments) ?x ?h
  case f => exact fun x _ => x
  case h => conv => rhs; whnf
noncomputable def F19b : List Stmt := by
  refine (?f : (x : List Stmt) → x = (top 1).2.1 → List Stmt) ?x ?h
  case f => exact fun x _ => x
  case h => conv => rhs; whnf
noncomputable def F19s : PySem.Scope := by
  refine (?f : (x : PySem.Scope) → x = (top 1).2.2 → PySem.Scope) ?x ?h
  case f => exact fun x _ => x
  case h => conv => rhs; whnf
noncomputable def F21a : PySem.Arguments := by
  refine (?f : (x : PySem.Arguments) → x = (top 1).1 → PySem.Arguments) ?x ?h
  case f => exact fun x _ => x
  case h => conv => rhs; whnf
noncomputable def F21b : List Stmt := by
  refine (?f : (x : List Stmt) → x = (top 1).2.1 → List Stmt) ?x ?h
  case f => exact fun x _ => x
  case h => conv => rhs; whnf
noncomputable def F21s : PySem.Scope := by
  refine (?f : (x : PySem.Scope) → x = (top 1).2.2 → PySem.Scope) ?x ?h
  case f => exact fun x _ => x
  case h => conv => rhs; whnf
noncomputable def F26a : PySem.Arguments := by
  refine (?f : (x : PySem.Arguments) → x = (top 2).1 → PySem.Arguments) ?x ?h
  case f => exact fun x _ => x
  case h => conv => rhs; whnf
noncomputable def F26b : List Stmt := by
  refine (?f : (x : List Stmt) → x = (top 2).2.1 → List Stmt) ?x ?h
  case f => exact fun x _ => x
  case h => conv => rhs; whnf
noncomputable def F26s : PySem.Scope := by
  refine (?f : (x : PySem.Scope) → x = (top 2).2.2 → PySem.Scope) ?x ?h
  case f => exact fun x _ => x
  case h => conv => rhs; whnf
noncomputable def F28a : PySem.Arguments := by
  refine (?f : (x : PySem.Arguments) → x = (top 2).1 → PySem.Arguments) ?x ?h
  case f => exact fun x _ => x
  case h => conv => rhs; whnf
noncomputable def F28b : List Stmt := by
  refine (?f : (x : List Stmt) → x = (top 2).2.1 → List Stmt) ?x ?h
  case f => exact fun x _ => x
  case h => conv => rhs; whnf
noncomputable def F28s : PySem.Scope := by
  refine (?f : (x : PySem.Scope) → x = (top 2).2.2 → PySem.Scope) ?x ?h
  case f => exact fun x _ => x
  case h => conv => rhs; whnf
noncomputable def F33a : PySem.Arguments := by
  refine (?f : (x : PySem.Arguments) → x = (top 3).1 → PySem.Arguments) ?x ?h
  case f => exact fun x _ => x
  case h => conv => rhs; whnf
noncomputable def F33b : List Stmt := by
  refine (?f : (x : List Stmt) → x = (top 3).2.1 → List Stmt) ?x ?h
  case f => exact fun x _ => x
  case h => conv => rhs; whnf
noncomputable def F33s : PySem.Scope := by
  refine (?f : (x : PySem.Scope) → x = (top 3).2.2 → PySem.Scope) ?x ?h
  case f => exact fun x _ => x
  case h => conv => rhs; whnf
noncomputable def F35a : PySem.Arguments := by
  refine (?f : (x : PySem.Arguments) → x = (top 3).1 → PySem.Arguments) ?x ?h
  case f => exact fun x _ => x
  case h => conv => rhs; whnf
noncomputable def F35b : List Stmt := by
  refine (?f : (x : List Stmt) → x = (top 3).2.1 → List Stmt) ?x ?h
  case f => exact fun x _ => x
  case h => conv => rhs; whnf
noncomputable def F35s : PySem.Scope := by
  refine (?f : (x : PySem.Scope) → x = (top 3).2.2 → PySem.Scope) ?x ?h
  case f => exact fun x _ => x
  case h => conv => rhs; whnf
noncomputable def F40a : PySem.Arguments := by
  refine (?f : (x : PySem.Arguments) → x = (top 4).1 → PySem.Arguments) ?x ?h
  case f => exact fun x _ => x
  case h => conv => rhs; whnf
noncomputable def F40b : List Stmt := by
  refine (?f : (x : List Stmt) → x = (top 4).2.1 → List Stmt) ?x ?h
  case f => exact fun x _ => x
  case h => conv => rhs; whnf
noncomputable def F40s : PySem.Scope := by
  refine (?f : (x : PySem.Scope) → x = (top 4).2.2 → PySem.Scope) ?x ?h
  case f => exact fun x _ => x
  case h => conv => rhs; whnf
noncomputable def F42a : PySem.Arguments := by
  refine (?f : (x : PySem.Arguments) → x = (top 4).1 → PySem.Arguments) ?x ?h
  case f => exact fun x _ => x
  case h => conv => rhs; whnf
noncomputable def F42b : List Stmt := by
  refine (?f : (x : List Stmt) → x = (top 4).2.1 → List Stmt) ?x ?h
  case f => exact fun x _ => x
  case h => conv => rhs; whnf
noncomputable def F42s : PySem.Scope := by
  refine (?f : (x : PySem.Scope) → x = (top 4).2.2 → PySem.Scope) ?x ?h
  case f => exact fun x _ => x
  case h => conv => rhs; whnf
noncomputable def F47a : PySem.Arguments := by
  refine (?f : (x : PySem.Arguments) → x = (top 5).1 → PySem.Arguments) ?x ?h
  case f => exact fun x _ => x
  case h => conv => rhs; whnf
noncomputable def F47b : List Stmt := by
  refine (?f : (x : List Stmt) → x = (top 5).2.1 → List Stmt) ?x ?h
  case f => exact fun x _ => x
  case h => conv => rhs; whnf
noncomputable def F47s : PySem.Scope := by
  refine (?f : (x : PySem.Scope) → x = (top 5).2.2 → PySem.Scope) ?x ?h
  case f => exact fun x _ => x
  case h => conv => rhs; whnf
noncomputable def F49a : PySem.Arguments := by
  refine (?f : (x : PySem.Arguments) → x = (top 5).1 → PySem.Arguments) ?x ?h
  case f => exact fun x _ => x
  case h => conv => rhs; whnf
noncomputable def F49b : List Stmt := by
  refine (?f : (x : List Stmt) → x = (top 5).2.1 → List Stmt) ?x ?h
  case f => exact fun x _ => x
  case h => conv => rhs; whnf
noncomputable def F49s : PySem.Scope := by
  refine (?f : (x : PySem.Scope) → x = (top 5).2.2 → PySem.Scope) ?x ?h
  case f => exact fun x _ => x
  case h => conv => rhs; whnf
noncomputable def F64a : PySem.Arguments := by
  refine (?f : (x : PySem.Arguments) → x = (meth 7 0).1 → PySem.Arguments) ?x ?h
  case f => exact fun x _ => x
  case h => conv => rhs; whnf
noncomputable def F64b : List Stmt := by
  refine (?f : (x : List Stmt) → x = (meth 7 0).2.1 → List Stmt) ?x ?h
  case f => exact fun x _ => x
  case h => conv => rhs; whnf
noncomputable def F64s : PySem.Scope := by
  refine (?f : (x : PySem.Scope) → x = (meth 7 0).2.2 → PySem.Scope) ?x ?h
  case f => exact fun x _ => x
  case h => conv => rhs; whnf
noncomputable def F66a : PySem.Arguments := by
  refine (?f : (x : PySem.Arguments) → x = (meth 7 0).1 → PySem.Arguments) ?x ?h
  case f => exact fun x _ => x
  case h => conv => rhs; whnf
noncomputable def F66b : List Stmt := by
  refine (?f : (x : List Stmt) → x = (meth 7 0).2.1 → List Stmt) ?x ?h
  case f => exact fun x _ => x
  case h => conv => rhs; whnf
noncomputable def F66s : PySem.Scope := by
  refine (?f : (x : PySem.Scope) → x = (meth 7 0).2.2 → PySem.Scope) ?x ?h
  case f => exact fun x _ => x
  case h => conv => rhs; whnf
noncomputable def F98a : PySem.Arguments := by
  refine (?f : (x : PySem.Arguments) → x = (meth 9 0).1 → PySem.Arguments) ?x ?h
  case f => exact fun x _ => x
  case h => conv => rhs; whnf
noncomputable def F98b : List Stmt := by
  refine (?f : (x : List Stmt) → x = (meth 9 0).2.1 → List Stmt) ?x ?h
  case f => exact fun x _ => x
  case h => conv => rhs; whnf
noncomputable def F98s : PySem.Scope := by
  refine (?f : (x : PySem.Scope) → x = (meth 9 0).2.2 → PySem.Scope) ?x ?h
  case f => exact fun x _ => x
  case h => conv => rhs; whnf
noncomputable def F100a : PySem.Arguments := by
  refine (?f : (x : PySem.Arguments) → x = (meth 9 0).1 → PySem.Arguments) ?x ?h
  case f => exact fun x _ => x
  case h => conv => rhs; whnf
noncomputable def F100b : List Stmt := by
  refine (?f : (x : List Stmt) → x = (meth 9 0).2.1 → List Stmt) ?x ?h
  case f => exact fun x _ => x
  case h => conv => rhs; whnf
noncomputable def F100s : PySem.Scope := by
  refine (?f : (x : PySem.Scope) → x = (meth 9 0).2.2 → PySem.Scope) ?x ?h
  case f => exact fun x _ => x
  case h => conv => rhs; whnf
noncomputable def F119a : PySem.Arguments := by
  refine (?f : (x : PySem.Arguments) → x = (meth 10 0).1 → PySem.Arguments) ?x ?h
  case f => exact fun x _ => x
  case h => conv => rhs; whnf
noncomputable def F119b : List Stmt := by
  refine (?f : (x : List Stmt) → x = (meth 10 0).2.1 → List Stmt) ?x ?h
  case f => exact fun x _ => x
  case h => conv => rhs; whnf
noncomputable def F119s : PySem.Scope := by
  refine (?f : (x : PySem.Scope) → x = (meth 10 0).2.2 → PySem.Scope) ?x ?h
  case f => exact fun x _ => x
  case h => conv => rhs; whnf
noncomputable def F121a : PySem.Arguments := by
  refine (?f : (x : PySem.Arguments) → x = (meth 10 0).1 → PySem.Arguments) ?x ?h
  case f => exact fun x _ => x
  case h => conv => rhs; whnf
noncomputable def F121b : List Stmt := by
  refine (?f : (x : List Stmt) → x = (meth 10 0).2.1 → List Stmt) ?x ?h
  case f => exact fun x _ => x
  case h => conv => rhs; whnf
noncomputable def F121s : PySem.Scope := by
  refine (?f : (x : PySem.Scope) → x = (meth 10 0).2.2 → PySem.Scope) ?x ?h
  case f => exact fun x _ => x
  case h => conv => rhs; whnf
noncomputable def F133a : PySem.Arguments := by
  refine (?f : (x : PySem.Arguments) → x = (top 11).1 → PySem.Arguments) ?x ?h
  case f => exact fun x _ => x
  case h => conv => rhs; whnf
noncomputable def F133b : List Stmt := by
  refine (?f : (x : List Stmt) → x = (top 11).2.1 → List Stmt) ?x ?h
  case f => exact fun x _ => x
  case h => conv => rhs; whnf
noncomputable def F133s : PySem.Scope := by
  refine (?f : (x : PySem.Scope) → x = (top 11).2.2 → PySem.Scope) ?x ?h
  case f => exact fun x _ => x
  case h => conv => rhs; whnf
noncomputable def F135a : PySem.Arguments := by
  refine (?f : (x : PySem.Arguments) → x = (top 11).1 → PySem.Arguments) ?x ?h
  case f => exact fun x _ => x
  case h => conv => rhs; whnf
noncomputable def F135b : List Stmt := by
  refine (?f : (x : List Stmt) → x = (top 11).2.1 → List Stmt) ?x ?h
  case f => exact fun x _ => x
  case h => conv => rhs; whnf
noncomputable def F135s : PySem.Scope := by
  refine (?f : (x : PySem.Scope) → x = (top 11).2.2 → PySem.Scope) ?x ?h
  case f => exact fun x _ => x
  case h => conv => rhs; whnf
noncomputable def F140a : PySem.Arguments := by
  refine (?f : (x : PySem.Arguments) → x = (top 12).1 → PySem.Arguments) ?x ?h
  case f => exact fun x _ => x
  case h => conv => rhs; whnf
noncomputable def F140b : List Stmt := by
  refine (?f : (x : List Stmt) → x = (top 12).2.1 → List Stmt) ?x ?h
  case f => exact fun x _ => x
  case h => conv => rhs; whnf
noncomputable def F140s : PySem.Scope := by
  refine (?f : (x : PySem.Scope) → x = (top 12).2.2 → PySem.Scope) ?x ?h
  case f => exact fun x _ => x
  case h => conv => rhs; whnf
noncomputable def F142a : PySem.Arguments := by
  refine (?f : (x : PySem.Arguments) → x = (top 12).1 → PySem.Arguments) ?x ?h
  case f => exact fun x _ => x
  case h => conv => rhs; whnf
noncomputable def F142b : List Stmt := by
  refine (?f : (x : List Stmt) → x = (top 12).2.1 → List Stmt) ?x ?h
  case f => exact fun x _ => x
  case h => conv => rhs; whnf
noncomputable def F142s : PySem.Scope := by
  refine (?f : (x : PySem.Scope) → x = (top 12).2.2 → PySem.Scope) ?x ?h
  case f => exact fun x _ => x
  case h => conv => rhs; whnf
noncomputable def F147a : PySem.Arguments := by
  refine (?f : (x : PySem.Arguments) → x = (top 13).1 → PySem.Arguments) ?x ?h
  case f => exact fun x _ => x
  case h => conv => rhs; whnf
noncomputable def F147b : List Stmt := by
  refine (?f : (x : List Stmt) → x = (top 13).2.1 → List Stmt) ?x ?h
  case f => exact fun x _ => x
  case h => conv => rhs; whnf
noncomputable def F147s : PySem.Scope := by
  refine (?f : (x : PySem.Scope) → x = (top 13).2.2 → PySem.Scope) ?x ?h
  case f => exact fun x _ => x
  case h => conv => rhs; whnf
noncomputable def F149a : PySem.Arguments := by
  refine (?f : (x : PySem.Arguments) → x = (top 13).1 → PySem.Arguments) ?x ?h
  case f => exact fun x _ => x
  case h => conv => rhs; whnf
noncomputable def F149b : List Stmt := by
  refine (?f : (x : List Stmt) → x = (top 13).2.1 → List Stmt) ?x ?h
  case f => exact fun x _ => x
  case h => conv => rhs; whnf
noncomputable def F149s : PySem.Scope := by
  refine (?f : (x : PySem.Scope) → x = (top 13).2.2 → PySem.Scope) ?x ?h
  case f => exact fun x _ => x
  case h => conv => rhs; whnf
noncomputable def F154a : PySem.Arguments := by
  refine (?f : (x : PySem.Arguments) → x = (top 14).1 → PySem.Arguments) ?x ?h
  case f => exact fun x _ => x
  case h => conv => rhs; whnf
noncomputable def F154b : List Stmt := by
  refine (?f : (x : List Stmt) → x = (top 14).2.1 → List Stmt) ?x ?h
  case f => exact fun x _ => x
  case h => conv => rhs; whnf
noncomputable def F154s : PySem.Scope := by
  refine (?f : (x : PySem.Scope) → x = (top 14).2.2 → PySem.Scope) ?x ?h
  case f => exact fun x _ => x
  case h => conv => rhs; whnf
noncomputable def F156a : PySem.Arguments := by
  refine (?f : (x : PySem.Arguments) → x = (top 14).1 → PySem.Arguments) ?x ?h
  case f => exact fun x _ => x
  case h => conv => rhs; whnf
noncomputable def F156b : List Stmt := by
  refine (?f : (x : List Stmt) → x = (top 14).2.1 → List Stmt) ?x ?h
  case f => exact fun x _ => x
  case h => conv => rhs; whnf
noncomputable def F156s : PySem.Scope := by
  refine (?f : (x : PySem.Scope) → x = (top 14).2.2 → PySem.Scope) ?x ?h
  case f => exact fun x _ => x
  case h => conv => rhs; whnf
noncomputable def F161a : PySem.Arguments := by
  refine (?f : (x : PySem.Arguments) → x = (top 15).1 → PySem.Arguments) ?x ?h
  case f => exact fun x _ => x
  case h => conv => rhs; whnf
noncomputable def F161b : List Stmt := by
  refine (?f : (x : List Stmt) → x = (top 15).2.1 → List Stmt) ?x ?h
  case f => exact fun x _ => x
  case h => conv => rhs; whnf
noncomputable def F161s : PySem.Scope := by
  refine (?f : (x : PySem.Scope) → x = (top 15).2.2 → PySem.Scope) ?x ?h
  case f => exact fun x _ => x
  case h => conv => rhs; whnf
noncomputable def F163a : PySem.Arguments := by
  refine (?f : (x : PySem.Arguments) → x = (top 15).1 → PySem.Arguments) ?x ?h
  case f => exact fun x _ => x
  case h => conv => rhs; whnf
noncomputable def F163b : List Stmt := by
  refine (?f : (x : List Stmt) → x = (top 15).2.1 → List Stmt) ?x ?h
  case f => exact fun x _ => x
  case h => conv => rhs; whnf
noncomputable def F163s : PySem.Scope := by
  refine (?f : (x : PySem.Scope) → x = (top 15).2.2 → PySem.Scope) ?x ?h
  case f => exact fun x _ => x
  case h => conv => rhs; whnf
noncomputable def F168a : PySem.Arguments := by
  refine (?f : (x : PySem.Arguments) → x = (top 16).1 → PySem.Arguments) ?x ?h
  case f => exact fun x _ => x
  case h => conv => rhs; whnf
noncomputable def F168b : List Stmt := by
  refine (?f : (x : List Stmt) → x = (top 16).2.1 → List Stmt) ?x ?h
  case f => exact fun x _ => x
  case h => conv => rhs; whnf
noncomputable def F168s : PySem.Scope := by
  refine (?f : (x : PySem.Scope) → x = (top 16).2.2 → PySem.Scope) ?x ?h
  case f => exact fun x _ => x
  case h => conv => rhs; whnf
noncomputable def F170a : PySem.Arguments := by
  refine (?f : (x : PySem.Arguments) → x = (top 16).1 → PySem.Arguments) ?x ?h
  case f => exact fun x _ => x
  case h => conv => rhs; whnf
noncomputable def F170b : List Stmt := by
  refine (?f : (x : List Stmt) → x = (top 16).2.1 → List Stmt) ?x ?h
  case f => exact fun x _ => x
  case h => conv => rhs; whnf
noncomputable def F170s : PySem.Scope := by
  refine (?f : (x : PySem.Scope) → x = (top 16).2.2 → PySem.Scope) ?x ?h
  case f => exact fun x _ => x
  case h => conv => rhs; whnf
noncomputable def F175a : PySem.Arguments := by
  refine (?f : (x : PySem.Arguments) → x = (top 17).1 → PySem.Arguments) ?x ?h
  case f => exact fun x _ => x
  case h => conv => rhs; whnf
noncomputable def F175b : List Stmt := by
  refine (?f : (x : List Stmt) → x = (top 17).2.1 → List Stmt) ?x ?h
  case f => exact fun x _ => x
  case h => conv => rhs; whnf
noncomputable def F175s : PySem.Scope := by
  refine (?f : (x : PySem.Scope) → x = (top 17).2.2 → PySem.Scope) ?x ?h
  case f => exact fun x _ => x
  case h => conv => rhs; whnf
noncomputable def F177a : PySem.Arguments := by
  refine (?f : (x : PySem.Arguments) → x = (top 17).1 → PySem.Arguments) ?x ?h
  case f => exact fun x _ => x
  case h => conv => rhs; whnf
noncomputable def F177b : List Stmt := by
  refine (?f : (x : List Stmt) → x = (top 17).2.1 → List Stmt) ?x ?h
  case f => exact fun x _ => x
  case h => conv => rhs; whnf
noncomputable def F177s : PySem.Scope := by
  refine (?f : (x : PySem.Scope) → x = (top 17).2.2 → PySem.Scope) ?x ?h
  case f => exact fun x _ => x
  case h => conv => rhs; whnf
noncomputable def F189a : PySem.Arguments := by
  refine (?f : (x : PySem.Arguments) → x = (meth 19 0).1 → PySem.Arguments) ?x ?h
  case f => exact fun x _ => x
  case h => conv => rhs; whnf
noncomputable def F189b : List Stmt := by
  refine (?f : (x : List Stmt) → x = (meth 19 0).2.1 → List Stmt) ?x ?h
  case f => exact fun x _ => x
  case h => conv => rhs; whnf
noncomputable def F189s : PySem.Scope := by
  refine (?f : (x : PySem.Scope) → x = (meth 19 0).2.2 → PySem.Scope) ?x ?h
  case f => exact fun x _ => x
  case h => conv => rhs; whnf
noncomputable def F191a : PySem.Arguments := by
  refine (?f : (x : PySem.Arguments) → x = (meth 19 0).1 → PySem.Arguments) ?x ?h
  case f => exact fun x _ => x
  case h => conv => rhs; whnf
noncomputable def F191b : List Stmt := by
  refine (?f : (x : List Stmt) → x = (meth 19 0).2.1 → List Stmt) ?x ?h
  case f => exact fun x _ => x
  case h => conv => rhs; whnf
noncomputable def F191s : PySem.Scope := by
  refine (?f : (x : PySem.Scope) → x = (meth 19 0).2.2 → PySem.Scope) ?x ?h
  case f => exact fun x _ => x
  case h => conv => rhs; whnf
noncomputable def F196a : PySem.Arguments := by
  refine (?f : (x : PySem.Arguments) → x = (meth 19 1).1 → PySem.Arguments) ?x ?h
  case f => exact fun x _ => x
  case h => conv => rhs; whnf
noncomputable def F196b : List Stmt := by
  refine (?f : (x : List Stmt) → x = (meth 19 1).2.1 → List Stmt) ?x ?h
  case f => exact fun x _ => x
  case h => conv => rhs; whnf
noncomputable def F196s : PySem.Scope := by
  refine (?f : (x : PySem.Scope) → x = (meth 19 1).2.2 → PySem.Scope) ?x ?h
  case f => exact fun x _ => x
  case h => conv => rhs; whnf
noncomputable def F198a : PySem.Arguments := by
  refine (?f : (x : PySem.Arguments) → x = (meth 19 1).1 → PySem.Arguments) ?x ?h
  case f => exact fun x _ => x
  case h => conv => rhs; whnf
noncomputable def F198b : List Stmt := by
  refine (?f : (x : List Stmt) → x = (meth 19 1).2.1 → List Stmt) ?x ?h
  case f => exact fun x _ => x
  case h => conv => rhs; whnf
noncomputable def F198s : PySem.Scope := by
  refine (?f : (x : PySem.Scope) → x = (meth 19 1).2.2 → PySem.Scope) ?x ?h
  case f => exact fun x _ => x
  case h => conv => rhs; whnf
noncomputable def F203a : PySem.Arguments := by
  refine (?f : (x : PySem.Arguments) → x = (meth 19 2).1 → PySem.Arguments) ?x ?h
  case f => exact fun x _ => x
  case h => conv => rhs; whnf
noncomputable def F203b : List Stmt := by
  refine (?f : (x : List Stmt) → x = (meth 19 2).2.1 → List Stmt) ?x ?h
  case f => exact fun x _ => x
  case h => conv => rhs; whnf
noncomputable def F203s : PySem.Scope := by
  refine (?f : (x : PySem.Scope) → x = (meth 19 2).2.2 → PySem.Scope) ?x ?h
  case f => exact fun x _ => x
  case h => conv => rhs; whnf
noncomputable def F205a : PySem.Arguments := by
  refine (?f : (x : PySem.Arguments) → x = (meth 19 2).1 → PySem.Arguments) ?x ?h
  case f => exact fun x _ => x
  case h => conv => rhs; whnf
noncomputable def F205b : List Stmt := by
  refine (?f : (x : List Stmt) → x = (meth 19 2).2.1 → List Stmt) ?x ?h
  case f => exact fun x _ => x
  case h => conv => rhs; whnf
noncomputable def F205s : PySem.Scope := by
  refine (?f : (x : PySem.Scope) → x = (meth 19 2).2.2 → PySem.Scope) ?x ?h
  case f => exact fun x _ => x
  case h => conv => rhs; whnf
noncomputable def F210a : PySem.Arguments := by
  refine (?f : (x : PySem.Arguments) → x = (meth 19 3).1 → PySem.Arguments) ?x ?h
  case f => exact fun x _ => x
  case h => conv => rhs; whnf
noncomputable def F210b : List Stmt := by
  refine (?f : (x : List Stmt) → x = (meth 19 3).2.1 → List Stmt) ?x ?h
  case f => exact fun x _ => x
  case h => conv => rhs; whnf
noncomputable def F210s : PySem.Scope := by
  refine (?f : (x : PySem.Scope) → x = (meth 19 3).2.2 → PySem.Scope) ?x ?h
  case f => exact fun x _ => x
  case h => conv => rhs; whnf
noncomputable def F212a : PySem.Arguments := by
  refine (?f : (x : PySem.Arguments) → x = (meth 19 3).1 → PySem.Arguments) ?x ?h
  case f => exact fun x _ => x
  case h => conv => rhs; whnf
noncomputable def F212b : List Stmt := by
  refine (?f : (x : List Stmt) → x = (meth 19 3).2.1 → List Stmt) ?x ?h
  case f => exact fun x _ => x
  case h => conv => rhs; whnf
noncomputable def F212s : PySem.Scope := by
  refine (?f : (x : PySem.Scope) → x = (meth 19 3).2.2 → PySem.Scope) ?x ?h
  case f => exact fun x _ => x
  case h => conv => rhs; whnf
noncomputable def F222a : PySem.Arguments := by
  refine (?f : (x : PySem.Arguments) → x = (top 21).1 → PySem.Arguments) ?x ?h
  case f => exact fun x _ => x
  case h => conv => rhs; whnf
noncomputable def F222b : List Stmt := by
  refine (?f : (x : List Stmt) → x = (top 21).2.1 → List Stmt) ?x ?h
  case f => exact fun x _ => x
  case h => conv => rhs; whnf
noncomputable def F222s : PySem.Scope := by
  refine (?f : (x : PySem.Scope) → x = (top 21).2.2 → PySem.Scope) ?x ?h
  case f => exact fun x _ => x
  case h => conv => rhs; whnf
noncomputable def F224a : PySem.Arguments := by
  refine (?f : (x : PySem.Arguments) → x = (top 21).1 → PySem.Arguments) ?x ?h
  case f => exact fun x _ => x
  case h => conv => rhs; whnf
noncomputable def F224b : List Stmt := by
  refine (?f : (x : List Stmt) → x = (top 21).2.1 → List Stmt) ?x ?h
  case f => exact fun x _ => x
  case h => conv => rhs; whnf
noncomputable def F224s : PySem.Scope := by
  refine (?f : (x : PySem.Scope) → x = (top 21).2.2 → PySem.Scope) ?x ?h
  case f => exact fun x _ => x
  case h => conv => rhs; whnf
noncomputable def F229a : PySem.Arguments := by
  refine (?f : (x : PySem.Arguments) → x = (top 22).1 → PySem.Arguments) ?x ?h
  case f => exact fun x _ => x
  case h => conv => rhs; whnf
noncomputable def F229b : List Stmt := by
  refine (?f : (x : List Stmt) → x = (top 22).2.1 → List Stmt) ?x ?h
  case f => exact fun x _ => x
  case h => conv => rhs; whnf
noncomputable def F229s : PySem.Scope := by
  refine (?f : (x : PySem.Scope) → x = (top 22).2.2 → PySem.Scope) ?x ?h
  case f => exact fun x _ => x
  case h => conv => rhs; whnf
noncomputable def F231a : PySem.Arguments := by
  refine (?f : (x : PySem.Arguments) → x = (top 22).1 → PySem.Arguments) ?x ?h
  case f => exact fun x _ => x
  case h => conv => rhs; whnf
noncomputable def F231b : List Stmt := by
  refine (?f : (x : List Stmt) → x = (top 22).2.1 → List Stmt) ?x ?h
  case f => exact fun x _ => x
  case h => conv => rhs; whnf
noncomputable def F231s : PySem.Scope := by
  refine (?f : (x : PySem.Scope) → x = (top 22).2.2 → PySem.Scope) ?x ?h
  case f => exact fun x _ => x
  case h => conv => rhs; whnf
noncomputable def F236a : PySem.Arguments := by
  refine (?f : (x : PySem.Arguments) → x = (top 23).1 → PySem.Arguments) ?x ?h
  case f => exact fun x _ => x
  case h => conv => rhs; whnf
noncomputable def F236b : List Stmt := by
  refine (?f : (x : List Stmt) → x = (top 23).2.1 → List Stmt) ?x ?h
  case f => exact fun x _ => x
  case h => conv => rhs; whnf
noncomputable def F236s : PySem.Scope := by
  refine (?f : (x : PySem.Scope) → x = (top 23).2.2 → PySem.Scope) ?x ?h
  case f => exact fun x _ => x
  case h => conv => rhs; whnf
noncomputable def F238a : PySem.Arguments := by
  refine (?f : (x : PySem.Arguments) → x = (top 23).1 → PySem.Arguments) ?x ?h
  case f => exact fun x _ => x
  case h => conv => rhs; whnf
noncomputable def F238b : List Stmt := by
  refine (?f : (x : List Stmt) → x = (top 23).2.1 → List Stmt) ?x ?h
  case f => exact fun x _ => x
  case h => conv => rhs; whnf
noncomputable def F238s : PySem.Scope := by
  refine (?f : (x : PySem.Scope) → x = (top 23).2.2 → PySem.Scope) ?x ?h
  case f => exact fun x _ => x
  case h => conv => rhs; whnf
noncomputable def F246a : PySem.Arguments := by
  refine (?f : (x : PySem.Arguments) → x = (top 28).1 → PySem.Arguments) ?x ?h
  case f => exact fun x _ => x
  case h => conv => rhs; whnf
noncomputable def F246b : List Stmt := by
  refine (?f : (x : List Stmt) → x = (top 28).2.1 → List Stmt) ?x ?h
  case f => exact fun x _ => x
  case h => conv => rhs; whnf
noncomputable def F246s : PySem.Scope := by
  refine (?f : (x : PySem.Scope) → x = (top 28).2.2 → PySem.Scope) ?x ?h
  case f => exact fun x _ => x
  case h => conv => rhs; whnf
noncomputable def F248a : PySem.Arguments := by
  refine (?f : (x : PySem.Arguments) → x = (top 28).1 → PySem.Arguments) ?x ?h
  case f => exact fun x _ => x
  case h => conv => rhs; whnf
noncomputable def F248b : List Stmt := by
  refine (?f : (x : List Stmt) → x = (top 28).2.1 → List Stmt) ?x ?h
  case f => exact fun x _ => x
  case h => conv => rhs; whnf
noncomputable def F248s : PySem.Scope := by
  refine (?f : (x : PySem.Scope) → x = (top 28).2.2 → PySem.Scope) ?x ?h
  case f => exact fun x _ => x
  case h => conv => rhs; whnf
noncomputable def F253a : PySem.Arguments := by
  refine (?f : (x : PySem.Arguments) → x = (top 29).1 → PySem.Arguments) ?x ?h
  case f => exact fun x _ => x
  case h => conv => rhs; whnf
noncomputable def F253b : List Stmt := by
  refine (?f : (x : List Stmt) → x = (top 29).2.1 → List Stmt) ?x ?h
  case f => exact fun x _ => x
  case h => conv => rhs; whnf
noncomputable def F253s : PySem.Scope := by
  refine (?f : (x : PySem.Scope) → x = (top 29).2.2 → PySem.Scope) ?x ?h
  case f => exact fun x _ => x
  case h => conv => rhs; whnf
noncomputable def F255a : PySem.Arguments := by
  refine (?f : (x : PySem.Arguments) → x = (top 29).1 → PySem.Arguments) ?x ?h
  case f => exact fun x _ => x
  case h => conv => rhs; whnf
noncomputable def F255b : List Stmt := by
  refine (?f : (x : List Stmt) → x = (top 29).2.1 → List Stmt) ?x ?h
  case f => exact fun x _ => x
  case h => conv => rhs; whnf
noncomputable def F255s : PySem.Scope := by
  refine (?f : (x : PySem.Scope) → x = (top 29).2.2 → PySem.Scope) ?x ?h
  case f => exact fun x _ => x
  case h => conv => rhs; whnf
noncomputable def F260a : PySem.Arguments := by
  refine (?f : (x : PySem.Arguments) → x = (top 30).1 → PySem.Arguments) ?x ?h
  case f => exact fun x _ => x
  case h => conv => rhs; whnf
noncomputable def F260b : List Stmt := by
  refine (?f : (x : List Stmt) → x = (top 30).2.1 → List Stmt) ?x ?h
  case f => exact fun x _ => x
  case h => conv => rhs; whnf
noncomputable def F260s : PySem.Scope := by
  refine (?f : (x : PySem.Scope) → x = (top 30).2.2 → PySem.Scope) ?x ?h
  case f => exact fun x _ => x
  case h => conv => rhs; whnf
noncomputable def F262a : PySem.Arguments := by
  refine (?f : (x : PySem.Arguments) → x = (top 30).1 → PySem.Arguments) ?x ?h
  case f => exact fun x _ => x
  case h => conv => rhs; whnf
noncomputable def F262b : List Stmt := by
  refine (?f : (x : List Stmt) → x = (top 30).2.1 → List Stmt) ?x ?h
  case f => exact fun x _ => x
  case h => conv => rhs; whnf
noncomputable def F262s : PySem.Scope := by
  refine (?f : (x : PySem.Scope) → x = (top 30).2.2 → PySem.Scope) ?x ?h
  case f => exact fun x _ => x
  case h => conv => rhs; whnf
noncomputable def F267a : PySem.Arguments := by
  refine (?f : (x : PySem.Arguments) → x = (top 31).1 → PySem.Arguments) ?x ?h
  case f => exact fun x _ => x
  case h => conv => rhs; whnf
noncomputable def F267b : List Stmt := by
  refine (?f : (x : List Stmt) → x = (top 31).2.1 → List Stmt) ?x ?h
  case f => exact fun x _ => x
  case h => conv => rhs; whnf
noncomputable def F267s : PySem.Scope := by
  refine (?f : (x : PySem.Scope) → x = (top 31).2.2 → PySem.Scope) ?x ?h
  case f => exact fun x _ => x
  case h => conv => rhs; whnf
noncomputable def F269a : PySem.Arguments := by
  refine (?f : (x : PySem.Arguments) → x = (top 31).1 → PySem.Arguments) ?x ?h
  case f => exact fun x _ => x
  case h => conv => rhs; whnf
noncomputable def F269b : List Stmt := by
  refine (?f : (x : List Stmt) → x = (top 31).2.1 → List Stmt) ?x ?h
  case f => exact fun x _ => x
  case h => conv => rhs; whnf
noncomputable def F269s : PySem.Scope := by
  refine (?f : (x : PySem.Scope) → x = (top 31).2.2 → PySem.Scope) ?x ?h
  case f => exact fun x _ => x
  case h => conv => rhs; whnf
noncomputable def F274a : PySem.Arguments := by
  refine (?f : (x : PySem.Arguments) → x = (top 32).1 → PySem.Arguments) ?x ?h
  case f => exact fun x _ => x
  case h => conv => rhs; whnf
noncomputable def F274b : List Stmt := by
  refine (?f : (x : List Stmt) → x = (top 32).2.1 → List Stmt) ?x ?h
  case f => exact fun x _ => x
  case h => conv => rhs; whnf
noncomputable def F274s : PySem.Scope := by
  refine (?f : (x : PySem.Scope) → x = (top 32).2.2 → PySem.Scope) ?x ?h
  case f => exact fun x _ => x
  case h => conv => rhs; whnf
noncomputable def F276a : PySem.Arguments := by
  refine (?f : (x : PySem.Arguments) → x = (top 32).1 → PySem.Arguments) ?x ?h
  case f => exact fun x _ => x
  case h => conv => rhs; whnf
noncomputable def F276b : List Stmt := by
  refine (?f : (x : List Stmt) → x = (top 32).2.1 → List Stmt) ?x ?h
  case f => exact fun x _ => x
  case h => conv => rhs; whnf
noncomputable def F276s : PySem.Scope := by
  refine (?f : (x : PySem.Scope) → x = (top 32).2.2 → PySem.Scope) ?x ?h
  case f => exact fun x _ => x
  case h => conv => rhs; whnf
noncomputable def F281a : PySem.Arguments := by
  refine (?f : (x : PySem.Arguments) → x = (top 36).1 → PySem.Arguments) ?x ?h
  case f => exact fun x _ => x
  case h => conv => rhs; whnf
noncomputable def F281b : List Stmt := by
  refine (?f : (x : List Stmt) → x = (top 36).2.1 → List Stmt) ?x ?h
  case f => exact fun x _ => x
  case h => conv => rhs; whnf
noncomputable def F281s : PySem.Scope := by
  refine (?f : (x : PySem.Scope) → x = (top 36).2.2 → PySem.Scope) ?x ?h
  case f => exact fun x _ => x
  case h => conv => rhs; whnf
noncomputable def F283a : PySem.Arguments := by
  refine (?f : (x : PySem.Arguments) → x = (top 36).1 → PySem.Arguments) ?x ?h
  case f => exact fun x _ => x
  case h => conv => rhs; whnf
noncomputable def F283b : List Stmt := by
  refine (?f : (x : List Stmt) → x = (top 36).2.1 → List Stmt) ?x ?h
  case f => exact fun x _ => x
  case h => conv => rhs; whnf
noncomputable def F283s : PySem.Scope := by
  refine (?f : (x : PySem.Scope) → x = (top 36).2.2 → PySem.Scope) ?x ?h
  case f => exact fun x _ => x
  case h => conv => rhs; whnf
noncomputable def F288a : PySem.Arguments := by
  refine (?f : (x : PySem.Arguments) → x = (top 37).1 → PySem.Arguments) ?x ?h
  case f => exact fun x _ => x
  case h => conv => rhs; whnf
noncomputable def F288b : List Stmt := by
  refine (?f : (x : List Stmt) → x = (top 37).2.1 → List Stmt) ?x ?h
  case f => exact fun x _ => x
  case h => conv => rhs; whnf
noncomputable def F288s : PySem.Scope := by
  refine (?f : (x : PySem.Scope) → x = (top 37).2.2 → PySem.Scope) ?x ?h
  case f => exact fun x _ => x
  case h => conv => rhs; whnf
noncomputable def F290a : PySem.Arguments := by
  refine (?f : (x : PySem.Arguments) → x = (top 37).1 → PySem.Arguments) ?x ?h
  case f => exact fun x _ => x
  case h => conv => rhs; whnf
noncomputable def F290b : List Stmt := by
  refine (?f : (x : List Stmt) → x = (top 37).2.1 → List Stmt) ?x ?h
  case f => exact fun x _ => x
  case h => conv => rhs; whnf
noncomputable def F290s : PySem.Scope := by
  refine (?f : (x : PySem.Scope) → x = (top 37).2.2 → PySem.Scope) ?x ?h
  case f => exact fun x _ => x
  case h => conv => rhs; whnf
noncomputable def F295a : PySem.Arguments := by
  refine (?f : (x : PySem.Arguments) → x = (top 38).1 → PySem.Arguments) ?x ?h
  case f => exact fun x _ => x
  case h => conv => rhs; whnf
noncomputable def F295b : List Stmt := by
  refine (?f : (x : List Stmt) → x = (top 38).2.1 → List Stmt) ?x ?h
  case f => exact fun x _ => x
  case h => conv => rhs; whnf
noncomputable def F295s : PySem.Scope := by
  refine (?f : (x : PySem.Scope) → x = (top 38).2.2 → PySem.Scope) ?x ?h
  case f => exact fun x _ => x
  case h => conv => rhs; whnf
noncomputable def F297a : PySem.Arguments := by
  refine (?f : (x : PySem.Arguments) → x = (top 38).1 → PySem.Arguments) ?x ?h
  case f => exact fun x _ => x
  case h => conv => rhs; whnf
noncomputable def F297b : List Stmt := by
  refine (?f : (x : List Stmt) → x = (top 38).2.1 → List Stmt) ?x ?h
  case f => exact fun x _ => x
  case h => conv => rhs; whnf
noncomputable def F297s : PySem.Scope := by
  refine (?f : (x : PySem.Scope) → x = (top 38).2.2 → PySem.Scope) ?x ?h
  case f => exact fun x _ => x
  case h => conv => rhs; whnf
noncomputable def F302a : PySem.Arguments := by
  refine (?f : (x : PySem.Arguments) → x = (top 39).1 → PySem.Arguments) ?x ?h
  case f => exact fun x _ => x
  case h => conv => rhs; whnf
noncomputable def F302b : List Stmt := by
  refine (?f : (x : List Stmt) → x = (top 39).2.1 → List Stmt) ?x ?h
  case f => exact fun x _ => x
  case h => conv => rhs; whnf
noncomputable def F302s : PySem.Scope := by
  refine (?f : (x : PySem.Scope) → x = (top 39).2.2 → PySem.Scope) ?x ?h
  case f => exact fun x _ => x
  case h => conv => rhs; whnf
noncomputable def F304a : PySem.Arguments := by
  refine (?f : (x : PySem.Arguments) → x = (top 39).1 → PySem.Arguments) ?x ?h
  case f => exact fun x _ => x
  case h => conv => rhs; whnf
noncomputable def F304b : List Stmt := by
  refine (?f : (x : List Stmt) → x = (top 39).2.1 → List Stmt) ?x ?h
  case f => exact fun x _ => x
  case h => conv => rhs; whnf
noncomputable def F304s : PySem.Scope := by
  refine (?f : (x : PySem.Scope) → x = (top 39).2.2 → PySem.Scope) ?x ?h
  case f => exact fun x _ => x
  case h => conv => rhs; whnf
noncomputable def F309a : PySem.Arguments := by
  refine (?f : (x : PySem.Arguments) → x = (top 40).1 → PySem.Arguments) ?x ?h
  case f => exact fun x _ => x
  case h => conv => rhs; whnf
noncomputable def F309b : List Stmt := by
  refine (?f : (x : List Stmt) → x = (top 40).2.1 → List Stmt) ?x ?h
  case f => exact fun x _ => x
  case h => conv => rhs; whnf
noncomputable def F309s : PySem.Scope := by
  refine (?f : (x : PySem.Scope) → x = (top 40).2.2 → PySem.Scope) ?x ?h
  case f => exact fun x _ => x
  case h => conv => rhs; whnf
noncomputable def F311a : PySem.Arguments := by
  refine (?f : (x : PySem.Arguments) → x = (top 40).1 → PySem.Arguments) ?x ?h
  case f => exact fun x _ => x
  case h => conv => rhs; whnf
noncomputable def F311b : List Stmt := by
  refine (?f : (x : List Stmt) → x = (top 40).2.1 → List Stmt) ?x ?h
  case f => exact fun x _ => x
  case h => conv => rhs; whnf
noncomputable def F311s : PySem.Scope := by
  refine (?f : (x : PySem.Scope) → x = (top 40).2.2 → PySem.Scope) ?x ?h
  case f => exact fun x _ => x
  case h => conv => rhs; whnf
noncomputable def F316a : PySem.Arguments := by
  refine (?f : (x : PySem.Arguments) → x = (top 41).1 → PySem.Arguments) ?x ?h
  case f => exact fun x _ => x
  case h => conv => rhs; whnf
noncomputable def F316b : List Stmt := by
  refine (?f : (x : List Stmt) → x = (top 41).2.1 → List Stmt) ?x ?h
  case f => exact fun x _ => x
  case h => conv => rhs; whnf
noncomputable def F316s : PySem.Scope := by
  refine (?f : (x : PySem.Scope) → x = (top 41).2.2 → PySem.Scope) ?x ?h
  case f => exact fun x _ => x
  case h => conv => rhs; whnf
noncomputable def F318a : PySem.Arguments := by
  refine (?f : (x : PySem.Arguments) → x = (top 41).1 → PySem.Arguments) ?x ?h
  case f => exact fun x _ => x
  case h => conv => rhs; whnf
noncomputable def F318b : List Stmt := by
  refine (?f : (x : List Stmt) → x = (top 41).2.1 → List Stmt) ?x ?h
  case f => exact fun x _ => x
  case h => conv => rhs; whnf
noncomputable def F318s : PySem.Scope := by
  refine (?f : (x : PySem.Scope) → x = (top 41).2.2 → PySem.Scope) ?x ?h
  case f => exact fun x _ => x
  case h => conv => rhs; whnf
noncomputable def F323a : PySem.Arguments := by
  refine (?f : (x : PySem.Arguments) → x = (top 42).1 → PySem.Arguments) ?x ?h
  case f => exact fun x _ => x
  case h => conv => rhs; whnf
noncomputable def F323b : List Stmt := by
  refine (?f : (x : List Stmt) → x = (top 42).2.1 → List Stmt) ?x ?h
  case f => exact fun x _ => x
  case h => conv => rhs; whnf
noncomputable def F323s : PySem.Scope := by
  refine (?f : (x : PySem.Scope) → x = (top 42).2.2 → PySem.Scope) ?x ?h
  case f => exact fun x _ => x
  case h => conv => rhs; whnf
noncomputable def F325a : PySem.Arguments := by
  refine (?f : (x : PySem.Arguments) → x = (top 42).1 → PySem.Arguments) ?x ?h
  case f => exact fun x _ => x
  case h => conv => rhs; whnf
noncomputable def F325b : List Stmt := by
  refine (?f : (x : List Stmt) → x = (top 42).2.1 → List Stmt) ?x ?h
  case f => exact fun x _ => x
  case h => conv => rhs; whnf
noncomputable def F325s : PySem.Scope := by
  refine (?f : (x : PySem.Scope) → x = (top 42).2.2 → PySem.Scope) ?x ?h
  case f => exact fun x _ => x
  case h => conv => rhs; whnf
noncomputable def F330a : PySem.Arguments := by
  refine (?f : (x : PySem.Arguments) → x = (top 43).1 → PySem.Arguments) ?x ?h
  case f => exact fun x _ => x
  case h => conv => rhs; whnf
noncomputable def F330b : List Stmt := by
  refine (?f : (x : List Stmt) → x = (top 43).2.1 → List Stmt) ?x ?h
  case f => exact fun x _ => x
  case h => conv => rhs; whnf
noncomputable def F330s : PySem.Scope := by
  refine (?f : (x : PySem.Scope) → x = (top 43).2.2 → PySem.Scope) ?x ?h
  case f => exact fun x _ => x
  case h => conv => rhs; whnf
noncomputable def F332a : PySem.Arguments := by
  refine (?f : (x : PySem.Arguments) → x = (top 43).1 → PySem.Arguments) ?x ?h
  case f => exact fun x _ => x
  case h => conv => rhs; whnf
noncomputable def F332b : List Stmt := by
  refine (?f : (x : List Stmt) → x = (top 43).2.1 → List Stmt) ?x ?h
  case f => exact fun x _ => x
  case h => conv => rhs; whnf
noncomputable def F332s : PySem.Scope := by
  refine (?f : (x : PySem.Scope) → x = (top 43).2.2 → PySem.Scope) ?x ?h
  case f => exact fun x _ => x
  case h => conv => rhs; whnf
noncomputable def F337a : PySem.Arguments := by
  refine (?f : (x : PySem.Arguments) → x = (top 44).1 → PySem.Arguments) ?x ?h
  case f => exact fun x _ => x
  case h => conv => rhs; whnf
noncomputable def F337b : List Stmt := by
  refine (?f : (x : List Stmt) → x = (top 44).2.1 → List Stmt) ?x ?h
  case f => exact fun x _ => x
  case h => conv => rhs; whnf
noncomputable def F337s : PySem.Scope := by
  refine (?f : (x : PySem.Scope) → x = (top 44).2.2 → PySem.Scope) ?x ?h
  case f => exact fun x _ => x
  case h => conv => rhs; whnf
noncomputable def F339a : PySem.Arguments := by
  refine (?f : (x : PySem.Arguments) → x = (top 44).1 → PySem.Arguments) ?x ?h
  case f => exact fun x _ => x
  case h => conv => rhs; whnf
noncomputable def F339b : List Stmt := by
  refine (?f : (x : List Stmt) → x = (top 44).2.1 → List Stmt) ?x ?h
  case f => exact fun x _ => x
  case h => conv => rhs; whnf
noncomputable def F339s : PySem.Scope := by
  refine (?f : (x : PySem.Scope) → x = (top 44).2.2 → PySem.Scope) ?x ?h
  case f => exact fun x _ => x
  case h => conv => rhs; whnf
noncomputable def F344a : PySem.Arguments := by
  refine (?f : (x : PySem.Arguments) → x = (top 45).1 → PySem.Arguments) ?x ?h
  case f => exact fun x _ => x
  case h => conv => rhs; whnf
noncomputable def F344b : List Stmt := by
  refine (?f : (x : List Stmt) → x = (top 45).2.1 → List Stmt) ?x ?h
  case f => exact fun x _ => x
  case h => conv => rhs; whnf
noncomputable def F344s : PySem.Scope := by
  refine (?f : (x : PySem.Scope) → x = (top 45).2.2 → PySem.Scope) ?x ?h
  case f => exact fun x _ => x
  case h => conv => rhs; whnf
noncomputable def F346a : PySem.Arguments := by
  refine (?f : (x : PySem.Arguments) → x = (top 45).1 → PySem.Arguments) ?x ?h
  case f => exact fun x _ => x
  case h => conv => rhs; whnf
noncomputable def F346b : List Stmt := by
  refine (?f : (x : List Stmt) → x = (top 45).2.1 → List Stmt) ?x ?h
  case f => exact fun x _ => x
  case h => conv => rhs; whnf
noncomputable def F346s : PySem.Scope := by
  refine (?f : (x : PySem.Scope) → x = (top 45).2.2 → PySem.Scope) ?x ?h
  case f => exact fun x _ => x
  case h => conv => rhs; whnf
noncomputable def F351a : PySem.Arguments := by
  refine (?f : (x : PySem.Arguments) → x = (top 46).1 → PySem.Arguments) ?x ?h
  case f => exact fun x _ => x
  case h => conv => rhs; whnf
noncomputable def F351b : List Stmt := by
  refine (?f : (x : List Stmt) → x = (top 46).2.1 → List Stmt) ?x ?h
  case f => exact fun x _ => x
  case h => conv => rhs; whnf
noncomputable def F351s : PySem.Scope := by
  refine (?f : (x : PySem.Scope) → x = (top 46).2.2 → PySem.Scope) ?x ?h
  case f => exact fun x _ => x
  case h => conv => rhs; whnf
noncomputable def F353a : PySem.Arguments := by
  refine (?f : (x : PySem.Arguments) → x = (top 46).1 → PySem.Arguments) ?x ?h
  case f => exact fun x _ => x
  case h => conv => rhs; whnf
noncomputable def F353b : List Stmt := by
  refine (?f : (x : List Stmt) → x = (top 46).2.1 → List Stmt) ?x ?h
  case f => exact fun x _ => x
  case h => conv => rhs; whnf
noncomputable def F353s : PySem.Scope := by
  refine (?f : (x : PySem.Scope) → x = (top 46).2.2 → PySem.Scope) ?x ?h
  case f => exact fun x _ => x
  case h => conv => rhs; whnf
noncomputable def F358a : PySem.Arguments := by
  refine (?f : (x : PySem.Arguments) → x = (top 47).1 → PySem.Arguments) ?x ?h
  case f => exact fun x _ => x
  case h => conv => rhs; whnf
noncomputable def F358b : List Stmt := by
  refine (?f : (x : List Stmt) → x = (top 47).2.1 → List Stmt) ?x ?h
  case f => exact fun x _ => x
  case h => conv => rhs; whnf
noncomputable def F358s : PySem.Scope := by
  refine (?f : (x : PySem.Scope) → x = (top 47).2.2 → PySem.Scope) ?x ?h
  case f => exact fun x _ => x
  case h => conv => rhs; whnf
noncomputable def F360a : PySem.Arguments := by
  refine (?f : (x : PySem.Arguments) → x = (top 47).1 → PySem.Arguments) ?x ?h
  case f => exact fun x _ => x
  case h => conv => rhs; whnf
noncomputable def F360b : List Stmt := by
  refine (?f : (x : List Stmt) → x = (top 47).2.1 → List Stmt) ?x ?h
  case f => exact fun x _ => x
  case h => conv => rhs; whnf
noncomputable def F360s : PySem.Scope := by
  refine (?f : (x : PySem.Scope) → x = (top 47).2.2 → PySem.Scope) ?x ?h
  case f => exact fun x _ => x
  case h => conv => rhs; whnf
noncomputable def F365a : PySem.Arguments := by
  refine (?f : (x : PySem.Arguments) → x = (top 48).1 → PySem.Arguments) ?x ?h
  case f => exact fun x _ => x
  case h => conv => rhs; whnf
noncomputable def F365b : List Stmt := by
  refine (?f : (x : List Stmt) → x = (top 48).2.1 → List Stmt) ?x ?h
  case f => exact fun x _ => x
  case h => conv => rhs; whnf
noncomputable def F365s : PySem.Scope := by
  refine (?f : (x : PySem.Scope) → x = (top 48).2.2 → PySem.Scope) ?x ?h
  case f => exact fun x _ => x
  case h => conv => rhs; whnf
noncomputable def F367a : PySem.Arguments := by
  refine (?f : (x : PySem.Arguments) → x = (top 48).1 → PySem.Arguments) ?x ?h
  case f => exact fun x _ => x
  case h => conv => rhs; whnf
noncomputable def F367b : List Stmt := by
  refine (?f : (x : List Stmt) → x = (top 48).2.1 → List Stmt) ?x ?h
  case f => exact fun x _ => x
  case h => conv => rhs; whnf
noncomputable def F367s : PySem.Scope := by
  refine (?f : (x : PySem.Scope) → x = (top 48).2.2 → PySem.Scope) ?x ?h
  case f => exact fun x _ => x
  case h => conv => rhs; whnf
noncomputable def F372a : PySem.Arguments := by
  refine (?f : (x : PySem.Arguments) → x = (top 49).1 → PySem.Arguments) ?x ?h
  case f => exact fun x _ => x
  case h => conv => rhs; whnf
noncomputable def F372b : List Stmt := by
  refine (?f : (x : List Stmt) → x = (top 49).2.1 → List Stmt) ?x ?h
  case f => exact fun x _ => x
  case h => conv => rhs; whnf
noncomputable def F372s : PySem.Scope := by
  refine (?f : (x : PySem.Scope) → x = (top 49).2.2 → PySem.Scope) ?x ?h
  case f => exact fun x _ => x
  case h => conv => rhs; whnf
noncomputable def F374a : PySem.Arguments := by
  refine (?f : (x : PySem.Arguments) → x = (top 49).1 → PySem.Arguments) ?x ?h
  case f => exact fun x _ => x
  case h => conv => rhs; whnf
noncomputable def F374b : List Stmt := by
  refine (?f : (x : List Stmt) → x = (top 49).2.1 → List Stmt) ?x ?h
  case f => exact fun x _ => x
  case h => conv => rhs; whnf
noncomputable def F374s : PySem.Scope := by
  refine (?f : (x : PySem.Scope) → x = (top 49).2.2 → PySem.Scope) ?x ?h
  case f => exact fun x _ => x
  case h => conv => rhs; whnf
noncomputable def F379a : PySem.Arguments := by
  refine (?f : (x : PySem.Arguments) → x = (top 50).1 → PySem.Arguments) ?x ?h
  case f => exact fun x _ => x
  case h => conv => rhs; whnf
noncomputable def F379b : List Stmt := by
  refine (?f : (x : List Stmt) → x = (top 50).2.1 → List Stmt) ?x ?h
  case f => exact fun x _ => x
  case h => conv => rhs; whnf
noncomputable def F379s : PySem.Scope := by
  refine (?f : (x : PySem.Scope) → x = (top 50).2.2 → PySem.Scope) ?x ?h
  case f => exact fun x _ => x
  case h => conv => rhs; whnf
noncomputable def F381a : PySem.Arguments := by
  refine (?f : (x : PySem.Arguments) → x = (top 50).1 → PySem.Arguments) ?x ?h
  case f => exact fun x _ => x
  case h => conv => rhs; whnf
noncomputable def F381b : List Stmt := by
  refine (?f : (x : List Stmt) → x = (top 50).2.1 → List Stmt) ?x ?h
  case f => exact fun x _ => x
  case h => conv => rhs; whnf
noncomputable def F381s : PySem.Scope := by
  refine (?f : (x : PySem.Scope) → x = (top 50).2.2 → PySem.Scope) ?x ?h
  case f => exact fun x _ => x
  case h => conv => rhs; whnf
noncomputable def F386a : PySem.Arguments := by
  refine (?f : (x : PySem.Arguments) → x = (top 51).1 → PySem.Arguments) ?x ?h
  case f => exact fun x _ => x
  case h => conv => rhs; whnf
noncomputable def F386b : List Stmt := by
  refine (?f : (x : List Stmt) → x = (top 51).2.1 → List Stmt) ?x ?h
  case f => exact fun x _ => x
  case h => conv => rhs; whnf
noncomputable def F386s : PySem.Scope := by
  refine (?f : (x : PySem.Scope) → x = (top 51).2.2 → PySem.Scope) ?x ?h
  case f => exact fun x _ => x
  case h => conv => rhs; whnf
noncomputable def F388a : PySem.Arguments := by
  refine (?f : (x : PySem.Arguments) → x = (top 51).1 → PySem.Arguments) ?x ?h
  case f => exact fun x _ => x
  case h => conv => rhs; whnf
noncomputable def F388b : List Stmt := by
  refine (?f : (x : List Stmt) → x = (top 51).2.1 → List Stmt) ?x ?h
  case f => exact fun x _ => x
  case h => conv => rhs; whnf
noncomputable def F388s : PySem.Scope := by
  refine (?f : (x : PySem.Scope) → x = (top 51).2.2 → PySem.Scope) ?x ?h
  case f => exact fun x _ => x
  case h => conv => rhs; whnf
noncomputable def F393a : PySem.Arguments := by
  refine (?f : (x : PySem.Arguments) → x = (top 54).1 → PySem.Arguments) ?x ?h
  case f => exact fun x _ => x
  case h => conv => rhs; whnf
noncomputable def F393b : List Stmt := by
  refine (?f : (x : List Stmt) → x = (top 54).2.1 → List Stmt) ?x ?h
  case f => exact fun x _ => x
  case h => conv => rhs; whnf
noncomputable def F393s : PySem.Scope := by
  refine (?f : (x : PySem.Scope) → x = (top 54).2.2 → PySem.Scope) ?x ?h
  case f => exact fun x _ => x
  case h => conv => rhs; whnf
noncomputable def F395a : PySem.Arguments := by
  refine (?f : (x : PySem.Arguments) → x = (top 54).1 → PySem.Arguments) ?x ?h
  case f => exact fun x _ => x
  case h => conv => rhs; whnf
noncomputable def F395b : List Stmt := by
  refine (?f : (x : List Stmt) → x = (top 54).2.1 → List Stmt) ?x ?h
  case f => exact fun x _ => x
  case h => conv => rhs; whnf
noncomputable def F395s : PySem.Scope := by
  refine (?f : (x : PySem.Scope) → x = (top 54).2.2 → PySem.Scope) ?x ?h
  case f => exact fun x _ => x
  case h => conv => rhs; whnf
noncomputable def F400a : PySem.Arguments := by
  refine (?f : (x : PySem.Arguments) → x = (top 55).1 → PySem.Arguments) ?x ?h
  case f => exact fun x _ => x
  case h => conv => rhs; whnf
noncomputable def F400b : List Stmt := by
  refine (?f : (x : List Stmt) → x = (top 55).2.1 → List Stmt) ?x ?h
  case f => exact fun x _ => x
  case h => conv => rhs; whnf
noncomputable def F400s : PySem.Scope := by
  refine (?f : (x : PySem.Scope) → x = (top 55).2.2 → PySem.Scope) ?x ?h
  case f => exact fun x _ => x
  case h => conv => rhs; whnf
noncomputable def F402a : PySem.Arguments := by
  refine (?f : (x : PySem.Arguments) → x = (top 55).1 → PySem.Arguments) ?x ?h
  case f => exact fun x _ => x
  case h => conv => rhs; whnf
noncomputable def F402b : List Stmt := by
  refine (?f : (x : List Stmt) → x = (top 55).2.1 → List Stmt) ?x ?h
  case f => exact fun x _ => x
  case h => conv => rhs; whnf
noncomputable def F402s : PySem.Scope := by
  refine (?f : (x : PySem.Scope) → x = (top 55).2.2 → PySem.Scope) ?x ?h
  case f => exact fun x _ => x
  case h => conv => rhs; whnf
noncomputable def F407a : PySem.Arguments := by
  refine (?f : (x : PySem.Arguments) → x = (top 56).1 → PySem.Arguments) ?x ?h
  case f => exact fun x _ => x
  case h => conv => rhs; whnf
noncomputable def F407b : List Stmt := by
  refine (?f : (x : List Stmt) → x = (top 56).2.1 → List Stmt) ?x ?h
  case f => exact fun x _ => x
  case h => conv => rhs; whnf
noncomputable def F407s : PySem.Scope := by
  refine (?f : (x : PySem.Scope) → x = (top 56).2.2 → PySem.Scope) ?x ?h
  case f => exact fun x _ => x
  case h => conv => rhs; whnf
noncomputable def F409a : PySem.Arguments := by
  refine (?f : (x : PySem.Arguments) → x = (top 56).1 → PySem.Arguments) ?x ?h
  case f => exact fun x _ => x
  case h => conv => rhs; whnf
noncomputable def F409b : List Stmt := by
  refine (?f : (x : List Stmt) → x = (top 56).2.1 → List Stmt) ?x ?h
  case f => exact fun x _ => x
  case h => conv => rhs; whnf
noncomputable def F409s : PySem.Scope := by
  refine (?f : (x : PySem.Scope) → x = (top 56).2.2 → PySem.Scope) ?x ?h
  case f => exact fun x _ => x
  case h => conv => rhs; whnf
noncomputable def F414a : PySem.Arguments := by
  refine (?f : (x : PySem.Arguments) → x = (top 57).1 → PySem.Arguments) ?x ?h
  case f => exact fun x _ => x
  case h => conv => rhs; whnf
noncomputable def F414b : List Stmt := by
  refine (?f : (x : List Stmt) → x = (top 57).2.1 → List Stmt) ?x ?h
  case f => exact fun x _ => x
  case h => conv => rhs; whnf
noncomputable def F414s : PySem.Scope := by
  refine (?f : (x : PySem.Scope) → x = (top 57).2.2 → PySem.Scope) ?x ?h
  case f => exact fun x _ => x
  case h => conv => rhs; whnf
noncomputable def F416a : PySem.Arguments := by
  refine (?f : (x : PySem.Arguments) → x = (top 57).1 → PySem.Arguments) ?x ?h
  case f => exact fun x _ => x
  case h => conv => rhs; whnf
noncomputable def F416b : List Stmt := by
  refine (?f : (x : List Stmt) → x = (top 57).2.1 → List Stmt) ?x ?h
  case f => exact fun x _ => x
  case h => conv => rhs; whnf
noncomputable def F416s : PySem.Scope := by
  refine (?f : (x : PySem.Scope) → x = (top 57).2.2 → PySem.Scope) ?x ?h
  case f => exact fun x _ => x
  case h => conv => rhs; whnf
noncomputable def F421a : PySem.Arguments := by
  refine (?f : (x : PySem.Arguments) → x = (top 58).1 → PySem.Arguments) ?x ?h
  case f => exact fun x _ => x
  case h => conv => rhs; whnf
noncomputable def F421b : List Stmt := by
  refine (?f : (x : List Stmt) → x = (top 58).2.1 → List Stmt) ?x ?h
  case f => exact fun x _ => x
  case h => conv => rhs; whnf
noncomputable def F421s : PySem.Scope := by
  refine (?f : (x : PySem.Scope) → x = (top 58).2.2 → PySem.Scope) ?x ?h
  case f => exact fun x _ => x
  case h => conv => rhs; whnf
noncomputable def F423a : PySem.Arguments := by
  refine (?f : (x : PySem.Arguments) → x = (top 58).1 → PySem.Arguments) ?x ?h
  case f => exact fun x _ => x
  case h => conv => rhs; whnf
noncomputable def F423b : List Stmt := by
  refine (?f : (x : List Stmt) → x = (top 58).2.1 → List Stmt) ?x ?h
  case f => exact fun x _ => x
  case h => conv => rhs; whnf
noncomputable def F423s : PySem.Scope := by
  refine (?f : (x : PySem.Scope) → x = (top 58).2.2 → PySem.Scope) ?x ?h
  case f => exact fun x _ => x
  case h => conv => rhs; whnf
noncomputable def F428a : PySem.Arguments := by
  refine (?f : (x : PySem.Arguments) → x = (top 59).1 → PySem.Arguments) ?x ?h
  case f => exact fun x _ => x
  case h => conv => rhs; whnf
noncomputable def F428b : List Stmt := by
  refine (?f : (x : List Stmt) → x = (top 59).2.1 → List Stmt) ?x ?h
  case f => exact fun x _ => x
  case h => conv => rhs; whnf
noncomputable def F428s : PySem.Scope := by
  refine (?f : (x : PySem.Scope) → x = (top 59).2.2 → PySem.Scope) ?x ?h
  case f => exact fun x _ => x
  case h => conv => rhs; whnf
noncomputable def F430a : PySem.Arguments := by
  refine (?f : (x : PySem.Arguments) → x = (top 59).1 → PySem.Arguments) ?x ?h
  case f => exact fun x _ => x
  case h => conv => rhs; whnf
noncomputable def F430b : List Stmt := by
  refine (?f : (x : List Stmt) → x = (top 59).2.1 → List Stmt) ?x ?h
  case f => exact fun x _ => x
  case h => conv => rhs; whnf
noncomputable def F430s : PySem.Scope := by
  refine (?f : (x : PySem.Scope) → x = (top 59).2.2 → PySem.Scope) ?x ?h
  case f => exact fun x _ => x
  case h => conv => rhs; whnf
noncomputable def F435a : PySem.Arguments := by
  refine (?f : (x : PySem.Arguments) → x = (top 60).1 → PySem.Arguments) ?x ?h
  case f => exact fun x _ => x
  case h => conv => rhs; whnf
noncomputable def F435b : List Stmt := by
  refine (?f : (x : List Stmt) → x = (top 60).2.1 → List Stmt) ?x ?h
  case f => exact fun x _ => x
  case h => conv => rhs; whnf
noncomputable def F435s : PySem.Scope := by
  refine (?f : (x : PySem.Scope) → x = (top 60).2.2 → PySem.Scope) ?x ?h
  case f => exact fun x _ => x
  case h => conv => rhs; whnf
noncomputable def F437a : PySem.Arguments := by
  refine (?f : (x : PySem.Arguments) → x = (top 60).1 → PySem.Arguments) ?x ?h
  case f => exact fun x _ => x
  case h => conv => rhs; whnf
noncomputable def F437b : List Stmt := by
  refine (?f : (x : List Stmt) → x = (top 60).2.1 → List Stmt) ?x ?h
  case f => exact fun x _ => x
  case h => conv => rhs; whnf
noncomputable def F437s : PySem.Scope := by
  refine (?f : (x : PySem.Scope) → x = (top 60).2.2 → PySem.Scope) ?x ?h
  case f => exact fun x _ => x
  case h => conv => rhs; whnf
noncomputable def F442a : PySem.Arguments := by
  refine (?f : (x : PySem.Arguments) → x = (top 61).1 → PySem.Arguments) ?x ?h
  case f => exact fun x _ => x
  case h => conv => rhs; whnf
noncomputable def F442b : List Stmt := by
  refine (?f : (x : List Stmt) → x = (top 61).2.1 → List Stmt) ?x ?h
  case f => exact fun x _ => x
  case h => conv => rhs; whnf
noncomputable def F442s : PySem.Scope := by
  refine (?f : (x : PySem.Scope) → x = (top 61).2.2 → PySem.Scope) ?x ?h
  case f => exact fun x _ => x
  case h => conv => rhs; whnf
noncomputable def F444a : PySem.Arguments := by
  refine (?f : (x : PySem.Arguments) → x = (top 61).1 → PySem.Arguments) ?x ?h
  case f => exact fun x _ => x
  case h => conv => rhs; whnf
noncomputable def F444b : List Stmt := by
  refine (?f : (x : List Stmt) → x = (top 61).2.1 → List Stmt) ?x ?h
  case f => exact fun x _ => x
  case h => conv => rhs; whnf
noncomputable def F444s : PySem.Scope := by
  refine (?f : (x : PySem.Scope) → x = (top 61).2.2 → PySem.Scope) ?x ?h
  case f => exact fun x _ => x
  case h => conv => rhs; whnf
noncomputable def F457a : PySem.Arguments := by
  refine (?f : (x : PySem.Arguments) → x = (meth 63 0).1 → PySem.Arguments) ?x ?h
  case f => exact fun x _ => x
  case h => conv => rhs; whnf
noncomputable def F457b : List Stmt := by
  refine (?f : (x : List Stmt) → x = (meth 63 0).2.1 → List Stmt) ?x ?h
  case f => exact fun x _ => x
  case h => conv => rhs; whnf
noncomputable def F457s : PySem.Scope := by
  refine (?f : (x : PySem.Scope) → x = (meth 63 0).2.2 → PySem.Scope) ?x ?h
  case f => exact fun x _ => x
  case h => conv => rhs; whnf
noncomputable def F459a : PySem.Arguments := by
  refine (?f : (x : PySem.Arguments) → x = (meth 63 0).1 → PySem.Arguments) ?x ?h
  case f => exact fun x _ => x
  case h => conv => rhs; whnf
noncomputable def F459b : List Stmt := by
  refine (?f : (x : List Stmt) → x = (meth 63 0).2.1 → List Stmt) ?x ?h
  case f => exact fun x _ => x
  case h => conv => rhs; whnf
noncomputable def F459s : PySem.Scope := by
  refine (?f : (x : PySem.Scope) → x = (meth 63 0).2.2 → PySem.Scope) ?x ?h
  case f => exact fun x _ => x
  case h => conv => rhs; whnf
noncomputable def F471a : PySem.Arguments := by
  refine (?f : (x : PySem.Arguments) → x = (top 65).1 → PySem.Arguments) ?x ?h
  case f => exact fun x _ => x
  case h => conv => rhs; whnf
noncomputable def F471b : List Stmt := by
  refine (?f : (x : List Stmt) → x = (top 65).2.1 → List Stmt) ?x ?h
  case f => exact fun x _ => x
  case h => conv => rhs; whnf
noncomputable def F471s : PySem.Scope := by
  refine (?f : (x : PySem.Scope) → x = (top 65).2.2 → PySem.Scope) ?x ?h
  case f => exact fun x _ => x
  case h => conv => rhs; whnf
noncomputable def F473a : PySem.Arguments := by
  refine (?f : (x : PySem.Arguments) → x = (top 65).1 → PySem.Arguments) ?x ?h
  case f => exact fun x _ => x
  case h => conv => rhs; whnf
noncomputable def F473b : List Stmt := by
  refine (?f : (x : List Stmt) → x = (top 65).2.1 → List Stmt) ?x ?h
  case f => exact fun x _ => x
  case h => conv => rhs; whnf
noncomputable def F473s : PySem.Scope := by
  refine (?f : (x : PySem.Scope) → x = (top 65).2.2 → PySem.Scope) ?x ?h
  case f => exact fun x _ => x
  case h => conv => rhs; whnf
noncomputable def F476a : PySem.Arguments := by
  refine (?f : (x : PySem.Arguments) → x = (top 66).1 → PySem.Arguments) ?x ?h
  case f => exact fun x _ => x
  case h => conv => rhs; whnf
noncomputable def F476b : List Stmt := by
  refine (?f : (x : List Stmt) → x = (top 66).2.1 → List Stmt) ?x ?h
  case f => exact fun x _ => x
  case h => conv => rhs; whnf
noncomputable def F476s : PySem.Scope := by
  refine (?f : (x : PySem.Scope) → x = (top 66).2.2 → PySem.Scope) ?x ?h
  case f => exact fun x _ => x
  case h => conv => rhs; whnf
noncomputable def F478a : PySem.Arguments := by
  refine (?f : (x : PySem.Arguments) → x = (top 66).1 → PySem.Arguments) ?x ?h
  case f => exact fun x _ => x
  case h => conv => rhs; whnf
noncomputable def F478b : List Stmt := by
  refine (?f : (x : List Stmt) → x = (top 66).2.1 → List Stmt) ?x ?h
  case f => exact fun x _ => x
  case h => conv => rhs; whnf
noncomputable def F478s : PySem.Scope := by
  refine (?f : (x : PySem.Scope) → x = (top 66).2.2 → PySem.Scope) ?x ?h
  case f => exact fun x _ => x
  case h => conv => rhs; whnf
set_option maxRecDepth 100000 in
noncomputable def Kraw : Params → Frag := fun P =>
  (nat_lit 2, ({ cls := Value.none, data := Data.dict #[{ hash := PyData.keyHash P (Str.ofString "type.__subclasses__.Exception.0"), key := Value.str (Str.ofString "type.__subclasses__.Exception.0") 280, val := Value.int 69 0 }, { hash := PyData.keyHash P (Str.ofString "type.__subclasses__.Exception.n"), key := Value.str (Str.ofString "type.__subclasses__.Exception.n") 281, val := Value.int 1 0 }] 2 } : Obj)) ::
  (nat_lit 3, ({ cls := Value.type "dict", data := Data.dict #[{ hash := PyData.keyHash P (Str.ofString "__name__"), key := Value.str (Str.ofString "__name__") 165, val := Value.str (Str.ofString "law_xw0308_01") 897 }, { hash := PyData.keyHash P (Str.ofString "__doc__"), key := Value.str (Str.ofString "__doc__") 166, val := Value.none }, { hash := PyData.keyHash P (Str.ofString "__package__"), key := Value.str (Str.ofString "__package__") 167, val := Value.none }, { hash := PyData.keyHash P (Str.ofString "__loader__"), key := Value.str (Str.ofString "__loader__") 168, val := Value.builtin "__main__.__loader__#opaque" }, { hash := PyData.keyHash P (Str.ofString "__spec__"), key := Value.str (Str.ofString "__spec__") 169, val := Value.none }, { hash := PyData.keyHash P (Str.ofString "__annotations__"), key := Value.str (Str.ofString "__annotations__") 170, val := Value.ref 6 }, { hash := PyData.keyHash P (Str.ofString "__builtins__"), key := Value.str (Str.ofString "__builtins__") 171, val := Value.ref 4 }, { hash := PyData.keyHash P (Str.ofString "__file__"), key := Value.str (Str.ofString "__file__") 173, val := Value.str (Str.ofString "/claim/cut.py") 172 }, { hash := PyData.keyHash P (Str.ofString "__cached__"), key := Value.str (Str.ofString "__cached__") 174, val := Value.none }, { hash := PyData.keyHash P (Str.ofString "give_names"), key := Value.str (Str.ofString "give_names") 198, val := Value.ref 21 }, { hash := PyData.keyHash P (Str.ofString "three_pieces"), key := Value.str (Str.ofString "three_pieces") 206, val := Value.ref 28 }, { hash := PyData.keyHash P (Str.ofString "spliced"), key := Value.str (Str.ofString "spliced") 218, val := Value.ref 35 }, { hash := PyData.keyHash P (Str.ofString "replace_once"), key := Value.str (Str.ofString "replace_once") 232, val := Value.ref 42 }, { hash := PyData.keyHash P (Str.ofString "replace_often"), key := Value.str (Str.ofString "replace_often") 247, val := Value.ref 49 }, { hash := PyData.keyHash P (Str.ofString "SnobolError"), key := Value.str (Str.ofString "SnobolError") 283, val := Value.ref 69 }, { hash := PyData.keyHash P (Str.ofString "Failure"), key := Value.str (Str.ofString "Failure") 303, val := Value.ref 82 }, { hash := PyData.keyHash P (Str.ofString "Pattern"), key := Value.str (Str.ofString "Pattern") 332, val := Value.ref 103 }, { hash := PyData.keyHash P (Str.ofString "Delayed"), key := Value.str (Str.ofString "Delayed") 361, val := Value.ref 124 }, { hash := PyData.keyHash P (Str.ofString "is_fail"), key := Value.str (Str.ofString "is_fail") 368, val := Value.ref 135 }, { hash := PyData.keyHash P (Str.ofString "fits"), key := Value.str (Str.ofString "fits") 376, val := Value.ref 142 }, { hash := PyData.keyHash P (Str.ofString "whole_of_text"), key := Value.str (Str.ofString "whole_of_text") 387, val := Value.ref 149 }, { hash := PyData.keyHash P (Str.ofString "text_of_whole"), key := Value.str (Str.ofString "text_of_whole") 396, val := Value.ref 156 }, { hash := PyData.keyHash P (Str.ofString "to_whole"), key := Value.str (Str.ofString "to_whole") 404, val := Value.ref 163 }, { hash := PyData.keyHash P (Str.ofString "to_text"), key := Value.str (Str.ofString "to_text") 411, val := Value.ref 170 }, { hash := PyData.keyHash P (Str.ofString "need_text"), key := Value.str (Str.ofString "need_text") 419, val := Value.ref 177 }, { hash := PyData.keyHash P (Str.ofString "PlainHost"), key := Value.str (Str.ofString "PlainHost") 481, val := Value.ref 215 }, { hash := PyData.keyHash P (Str.ofString "replaced_signs"), key := Value.str (Str.ofString "replaced_signs") 489, val := Value.ref 224 }, { hash := PyData.keyHash P (Str.ofString "told_or_fail"), key := Value.str (Str.ofString "told_or_fail") 496, val := Value.ref 231 }, { hash := PyData.keyHash P (Str.ofString "text_replace"), key := Value.str (Str.ofString "text_replace") 506, val := Value.ref 238 }, { hash := PyData.keyHash P (Str.ofString "COUNTED"), key := Value.str (Str.ofString "COUNTED") 514, val := Value.ref 239 }, { hash := PyData.keyHash P (Str.ofString "SIGNED"), key := Value.str (Str.ofString "SIGNED") 519, val := Value.ref 240 }, { hash := PyData.keyHash P (Str.ofString "WIDTH_OF_COUNT"), key := Value.str (Str.ofString "WIDTH_OF_COUNT") 521, val := Value.int 64 520 }, { hash := PyData.keyHash P (Str.ofString "plain_count"), key := Value.str (Str.ofString "plain_count") 531, val := Value.ref 248 }, { hash := PyData.keyHash P (Str.ofString "plain_signs"), key := Value.str (Str.ofString "plain_signs") 540, val := Value.ref 255 }, { hash := PyData.keyHash P (Str.ofString "pattern_of"), key := Value.str (Str.ofString "pattern_of") 548, val := Value.ref 262 }, { hash := PyData.keyHash P (Str.ofString "is_delayed"), key := Value.str (Str.ofString "is_delayed") 555, val := Value.ref 269 }, { hash := PyData.keyHash P (Str.ofString "settled"), key := Value.str (Str.ofString "settled") 564, val := Value.ref 276 }, { hash := PyData.keyHash P (Str.ofString "OPENING"), key := Value.str (Str.ofString "OPENING") 568, val := Value.str (Str.ofString "(") 567 }, { hash := PyData.keyHash P (Str.ofString "CLOSING"), key := Value.str (Str.ofString "CLOSING") 570, val := Value.str (Str.ofString ")") 569 }, { hash := PyData.keyHash P (Str.ofString "chars_end"), key := Value.str (Str.ofString "chars_end") 580, val := Value.ref 283 }, { hash := PyData.keyHash P (Str.ofString "len_end"), key := Value.str (Str.ofString "len_end") 589, val := Value.ref 290 }, { hash := PyData.keyHash P (Str.ofString "pos_end"), key := Value.str (Str.ofString "pos_end") 597, val := Value.ref 297 }, { hash := PyData.keyHash P (Str.ofString "rpos_end"), key := Value.str (Str.ofString "rpos_end") 606, val := Value.ref 304 }, { hash := PyData.keyHash P (Str.ofString "tab_end"), key := Value.str (Str.ofString "tab_end") 615, val := Value.ref 311 }, { hash := PyData.keyHash P (Str.ofString "rtab_end"), key := Value.str (Str.ofString "rtab_end") 625, val := Value.ref 318 }, { hash := PyData.keyHash P (Str.ofString "rem_end"), key := Value.str (Str.ofString "rem_end") 632, val := Value.ref 325 }, { hash := PyData.keyHash P (Str.ofString "any_at"), key := Value.str (Str.ofString "any_at") 641, val := Value.ref 332 }, { hash := PyData.keyHash P (Str.ofString "notany_at"), key := Value.str (Str.ofString "notany_at") 650, val := Value.ref 339 }, { hash := PyData.keyHash P (Str.ofString "run_end"), key := Value.str (Str.ofString "run_end") 660, val := Value.ref 346 }, { hash := PyData.keyHash P (Str.ofString "span_end"), key := Value.str (Str.ofString "span_end") 670, val := Value.ref 353 }, { hash := PyData.keyHash P (Str.ofString "break_end"), key := Value.str (Str.ofString "break_end") 680, val := Value.ref 360 }, { hash := PyData.keyHash P (Str.ofString "bal_end"), key := Value.str (Str.ofString "bal_end") 689, val := Value.ref 367 }, { hash := PyData.keyHash P (Str.ofString "bal_ends"), key := Value.str (Str.ofString "bal_ends") 699, val := Value.ref 374 }, { hash := PyData.keyHash P (Str.ofString "one_end"), key := Value.str (Str.ofString "one_end") 709, val := Value.ref 381 }, { hash := PyData.keyHash P (Str.ofString "plain_end"), key := Value.str (Str.ofString "plain_end") 718, val := Value.ref 388 }, { hash := PyData.keyHash P (Str.ofString "LOST"), key := Value.str (Str.ofString "LOST") 722, val := Value.str (Str.ofString "lost") 721 }, { hash := PyData.keyHash P (Str.ofString "match_plain"), key := Value.str (Str.ofString "match_plain") 734, val := Value.ref 395 }, { hash := PyData.keyHash P (Str.ofString "match_at"), key := Value.str (Str.ofString "match_at") 745, val := Value.ref 402 }, { hash := PyData.keyHash P (Str.ofString "tried"), key := Value.str (Str.ofString "tried") 760, val := Value.ref 409 }, { hash := PyData.keyHash P (Str.ofString "advanced"), key := Value.str (Str.ofString "advanced") 776, val := Value.ref 416 }, { hash := PyData.keyHash P (Str.ofString "led_in"), key := Value.str (Str.ofString "led_in") 788, val := Value.ref 423 }, { hash := PyData.keyHash P (Str.ofString "led_out"), key := Value.str (Str.ofString "led_out") 804, val := Value.ref 430 }, { hash := PyData.keyHash P (Str.ofString "steered"), key := Value.str (Str.ofString "steered") 816, val := Value.ref 437 }, { hash := PyData.keyHash P (Str.ofString "taken"), key := Value.str (Str.ofString "taken") 833, val := Value.ref 444 }, { hash := PyData.keyHash P (Str.ofString "World"), key := Value.str (Str.ofString "World") 896, val := Value.ref 462 }, { hash := PyData.keyHash P (Str.ofString "_law_due"), key := Value.str (Str.ofString "_law_due") 910, val := Value.ref 473 }, { hash := PyData.keyHash P (Str.ofString "law"), key := Value.str (Str.ofString "law") 916, val := Value.ref 478 }] 67 } : Obj)) ::
  (nat_lit 15, ({ cls := Value.type "tuple", data := Data.seq #[] } : Obj)) ::
  (nat_lit 17, ({ cls := Value.type "tuple", data := Data.seq #[Value.str (Str.ofString "found") 192, Value.str (Str.ofString "give") 193, Value.str (Str.ofString "ref") 194, Value.str (Str.ofString "text") 195] } : Obj)) ::
  (nat_lit 18, ({ cls := Value.type "tuple", data := Data.seq #[] } : Obj)) ::
  (nat_lit 20, ({ cls := Value.type "code", data := Data.fields #[Value.str (Str.ofString "give_names") 189, Value.str (Str.ofString "give_names") 190, Value.str (Str.ofString "/claim/cut.py") 191, Value.int 2 0, Value.int 2 0, Value.int 0 0, Value.int 0 0, Value.int 3 0, Value.ref 15, Value.bool true, Value.int 181 0, Value.ref 16, Value.none, Value.ref 17, Value.ref 18, Value.ref 19, Value.int 196 0, Value.int 2 0, Value.str (Str.ofString "/claim/cut.py") 197] } : Obj)) ::
  (nat_lit 21, ({ cls := Value.type "function", data := Data.func { name := Str.ofString "give_names", qualname := Str.ofString "give_names", params := F21a, body := FuncBody.stmts F21b, scope := F21s, globals := 3, closure := [], defaults := Value.none, kwdefaults := Value.none, pyModule := Value.str (Str.ofString "snobol.matchcore") 187, code := Value.ref 20 } } : Obj)) ::
  (nat_lit 22, ({ cls := Value.type "tuple", data := Data.seq #[] } : Obj)) ::
  (nat_lit 24, ({ cls := Value.type "tuple", data := Data.seq #[Value.str (Str.ofString "subject") 202, Value.str (Str.ofString "found") 203] } : Obj)) ::
  (nat_lit 25, ({ cls := Value.type "tuple", data := Data.seq #[] } : Obj)) ::
  (nat_lit 27, ({ cls := Value.type "code", data := Data.fields #[Value.str (Str.ofString "three_pieces") 199, Value.str (Str.ofString "three_pieces") 200, Value.str (Str.ofString "/claim/cut.py") 201, Value.int 5 0, Value.int 2 0, Value.int 0 0, Value.int 0 0, Value.int 3 0, Value.ref 22, Value.bool true, Value.int 181 0, Value.ref 23, Value.none, Value.ref 24, Value.ref 25, Value.ref 26, Value.int 204 0, Value.int 5 0, Value.str (Str.ofString "/claim/cut.py") 205] } : Obj)) ::
  (nat_lit 28, ({ cls := Value.type "function", data := Data.func { name := Str.ofString "three_pieces", qualname := Str.ofString "three_pieces", params := F28a, body := FuncBody.stmts F28b, scope := F28s, globals := 3, closure := [], defaults := Value.none, kwdefaults := Value.none, pyModule := Value.str (Str.ofString "snobol.matchcore") 187, code := Value.ref 27 } } : Obj)) ::
  (nat_lit 29, ({ cls := Value.type "tuple", data := Data.seq #[] } : Obj)) ::
  (nat_lit 31, ({ cls := Value.type "tuple", data := Data.seq #[Value.str (Str.ofString "subject") 210, Value.str (Str.ofString "found") 211, Value.str (Str.ofString "text") 212, Value.str (Str.ofString "ahead") 213, Value.str (Str.ofString "met") 214, Value.str (Str.ofString "behind") 215] } : Obj)) ::
  (nat_lit 32, ({ cls := Value.type "tuple", data := Data.seq #[] } : Obj)) ::
  (nat_lit 34, ({ cls := Value.type "code", data := Data.fields #[Value.str (Str.ofString "spliced") 207, Value.str (Str.ofString "spliced") 208, Value.str (Str.ofString "/claim/cut.py") 209, Value.int 7 0, Value.int 3 0, Value.int 0 0, Value.int 0 0, Value.int 3 0, Value.ref 29, Value.bool true, Value.int 181 0, Value.ref 30, Value.none, Value.ref 31, Value.ref 32, Value.ref 33, Value.int 216 0, Value.int 7 0, Value.str (Str.ofString "/claim/cut.py") 217] } : Obj)) ::
  (nat_lit 35, ({ cls := Value.type "function", data := Data.func { name := Str.ofString "spliced", qualname := Str.ofString "spliced", params := F35a, body := FuncBody.stmts F35b, scope := F35s, globals := 3, closure := [], defaults := Value.none, kwdefaults := Value.none, pyModule := Value.str (Str.ofString "snobol.matchcore") 187, code := Value.ref 34 } } : Obj)) ::
  (nat_lit 36, ({ cls := Value.type "tuple", data := Data.seq #[] } : Obj)) ::
  (nat_lit 38, ({ cls := Value.type "tuple", data := Data.seq #[Value.str (Str.ofString "matcher") 222, Value.str (Str.ofString "node") 223, Value.str (Str.ofString "subject") 224, Value.str (Str.ofString "is_anchored") 225, Value.str (Str.ofString "host") 226, Value.str (Str.ofString "text_of") 227, Value.str (Str.ofString "found") 228, Value.str (Str.ofString "text") 229] } : Obj)) ::
  (nat_lit 39, ({ cls := Value.type "tuple", data := Data.seq #[] } : Obj)) ::
  (nat_lit 41, ({ cls := Value.type "code", data := Data.fields #[Value.str (Str.ofString "replace_once") 219, Value.str (Str.ofString "replace_once") 220, Value.str (Str.ofString "/claim/cut.py") 221, Value.int 10 0, Value.int 6 0, Value.int 0 0, Value.int 0 0, Value.int 3 0, Value.ref 36, Value.bool true, Value.int 181 0, Value.ref 37, Value.none, Value.ref 38, Value.ref 39, Value.ref 40, Value.int 230 0, Value.int 10 0, Value.str (Str.ofString "/claim/cut.py") 231] } : Obj)) ::
  (nat_lit 42, ({ cls := Value.type "function", data := Data.func { name := Str.ofString "replace_once", qualname := Str.ofString "replace_once", params := F42a, body := FuncBody.stmts F42b, scope := F42s, globals := 3, closure := [], defaults := Value.none, kwdefaults := Value.none, pyModule := Value.str (Str.ofString "snobol.matchcore") 187, code := Value.ref 41 } } : Obj)) ::
  (nat_lit 43, ({ cls := Value.type "tuple", data := Data.seq #[] } : Obj)) ::
  (nat_lit 45, ({ cls := Value.type "tuple", data := Data.seq #[Value.str (Str.ofString "matcher") 236, Value.str (Str.ofString "node") 237, Value.str (Str.ofString "subject") 238, Value.str (Str.ofString "is_anchored") 239, Value.str (Str.ofString "host") 240, Value.str (Str.ofString "text_of") 241, Value.str (Str.ofString "most") 242, Value.str (Str.ofString "many") 243, Value.str (Str.ofString "later") 244] } : Obj)) ::
  (nat_lit 46, ({ cls := Value.type "tuple", data := Data.seq #[] } : Obj)) ::
  (nat_lit 48, ({ cls := Value.type "code", data := Data.fields #[Value.str (Str.ofString "replace_often") 233, Value.str (Str.ofString "replace_often") 234, Value.str (Str.ofString "/claim/cut.py") 235, Value.int 17 0, Value.int 7 0, Value.int 0 0, Value.int 0 0, Value.int 3 0, Value.ref 43, Value.bool true, Value.int 181 0, Value.ref 44, Value.none, Value.ref 45, Value.ref 46, Value.ref 47, Value.int 245 0, Value.int 17 0, Value.str (Str.ofString "/claim/cut.py") 246] } : Obj)) ::
  (nat_lit 49, ({ cls := Value.type "function", data := Data.func { name := Str.ofString "replace_often", qualname := Str.ofString "replace_often", params := F49a, body := FuncBody.stmts F49b, scope := F49s, globals := 3, closure := [], defaults := Value.none, kwdefaults := Value.none, pyModule := Value.str (Str.ofString "snobol.matchcore") 187, code := Value.ref 48 } } : Obj)) ::
  (nat_lit 50, ({ cls := Value.type "tuple", data := Data.seq #[Value.type "Exception"] } : Obj)) ::
  (nat_lit 53, ({ cls := Value.type "cell", data := Data.cell (some (Value.ref 69)) } : Obj)) ::
  (nat_lit 58, ({ cls := Value.type "tuple", data := Data.seq #[Value.str (Str.ofString "") 262] } : Obj)) ::
  (nat_lit 59, ({ cls := Value.type "tuple", data := Data.seq #[Value.ref 53] } : Obj)) ::
  (nat_lit 60, ({ cls := Value.type "tuple", data := Data.seq #[Value.str (Str.ofString "__class__") 266] } : Obj)) ::
  (nat_lit 62, ({ cls := Value.type "tuple", data := Data.seq #[Value.str (Str.ofString "self") 267, Value.str (Str.ofString "number") 268, Value.str (Str.ofString "told") 269] } : Obj)) ::
  (nat_lit 63, ({ cls := Value.type "tuple", data := Data.seq #[] } : Obj)) ::
  (nat_lit 65, ({ cls := Value.type "code", data := Data.fields #[Value.str (Str.ofString "__init__") 263, Value.str (Str.ofString "SnobolError.__init__") 264, Value.str (Str.ofString "/claim/cut.py") 265, Value.int 28 0, Value.int 3 0, Value.int 0 0, Value.int 0 0, Value.int 3 0, Value.ref 60, Value.bool true, Value.int 181 0, Value.ref 61, Value.none, Value.ref 62, Value.ref 63, Value.ref 64, Value.int 270 0, Value.int 28 0, Value.str (Str.ofString "/claim/cut.py") 271] } : Obj)) ::
  (nat_lit 66, ({ cls := Value.type "function", data := Data.func { name := Str.ofString "__init__", qualname := Str.ofString "SnobolError.__init__", params := F66a, body := FuncBody.stmts F66b, scope := F66s, globals := 3, closure := [(Str.ofString "__class__", 53)], defaults := Value.ref 58, kwdefaults := Value.none, pyModule := Value.str (Str.ofString "snobol.values") 248, code := Value.ref 65, closureTuple := Value.ref 59 } } : Obj)) ::
  (nat_lit 67, ({ cls := Value.type "tuple", data := Data.seq #[Value.str (Str.ofString "number") 273, Value.str (Str.ofString "told") 274] } : Obj)) ::
  (nat_lit 68, ({ cls := Value.type "dict", data := Data.dict #[{ hash := PyData.keyHash P (Str.ofString "__module__"), key := Value.str (Str.ofString "__module__") 257, val := Value.str (Str.ofString "snobol.values") 248 }, { hash := PyData.keyHash P (Str.ofString "__firstlineno__"), key := Value.str (Str.ofString "__firstlineno__") 261, val := Value.int 26 260 }, { hash := PyData.keyHash P (Str.ofString "__init__"), key := Value.str (Str.ofString "__init__") 272, val := Value.ref 66 }, { hash := PyData.keyHash P (Str.ofString "__static_attributes__"), key := Value.str (Str.ofString "__static_attributes__") 275, val := Value.ref 67 }, { hash := PyData.keyHash P (Str.ofString "__weakref__"), key := Value.str (Str.ofString "__weakref__") 278, val := Value.ref 70 }, { hash := PyData.keyHash P (Str.ofString "__doc__"), key := Value.str (Str.ofString "__doc__") 279, val := Value.none }] 4 } : Obj)) ::
  (nat_lit 69, ({ cls := Value.type "type", data := Data.cls { name := Str.ofString "SnobolError", bases := [Value.type "Exception"], mro := [Value.ref 69, Value.type "Exception", Value.type "BaseException", Value.type "object"], ns := 68, qualname := Str.ofString "SnobolError" }, slots := #[some (Value.ref 50), none, some (Value.str (Str.ofString "SnobolError") 250), some (Value.str (Str.ofString "SnobolError") 258), some (Value.builtin "Exception.__new__"), some (Value.bool true)] } : Obj)) ::
  (nat_lit 70, ({ cls := Value.type "getset_descriptor", data := Data.fields #[Value.str (Str.ofString "__weakref__") 277, Value.ref 69, Value.builtin "ExceptionGroup.__weakref__", Value.none] } : Obj)) ::
  (nat_lit 80, ({ cls := Value.type "tuple", data := Data.seq #[] } : Obj)) ::
  (nat_lit 81, ({ cls := Value.type "dict", data := Data.dict #[{ hash := PyData.keyHash P (Str.ofString "__module__"), key := Value.str (Str.ofString "__module__") 291, val := Value.str (Str.ofString "snobol.values") 248 }, { hash := PyData.keyHash P (Str.ofString "__firstlineno__"), key := Value.str (Str.ofString "__firstlineno__") 295, val := Value.int 32 294 }, { hash := PyData.keyHash P (Str.ofString "__static_attributes__"), key := Value.str (Str.ofString "__static_attributes__") 296, val := Value.ref 80 }, { hash := PyData.keyHash P (Str.ofString "__dict__"), key := Value.str (Str.ofString "__dict__") 298, val := Value.ref 83 }, { hash := PyData.keyHash P (Str.ofString "__weakref__"), key := Value.str (Str.ofString "__weakref__") 300, val := Value.ref 84 }, { hash := PyData.keyHash P (Str.ofString "__doc__"), key := Value.str (Str.ofString "__doc__") 301, val := Value.none }] 4 } : Obj)) ::
  (nat_lit 82, ({ cls := Value.type "type", data := Data.cls { name := Str.ofString "Failure", bases := [Value.type "object"], mro := [Value.ref 82, Value.type "object"], ns := 81, qualname := Str.ofString "Failure" }, slots := #[none, none, some (Value.str (Str.ofString "Failure") 284), some (Value.str (Str.ofString "Failure") 292), some (Value.builtin "object.__new__"), some (Value.bool true)] } : Obj)) ::
  (nat_lit 83, ({ cls := Value.type "getset_descriptor", data := Data.fields #[Value.str (Str.ofString "__dict__") 297, Value.ref 82, Value.builtin "function.__dict__", Value.builtin "function.__dict__#set"] } : Obj)) ::
  (nat_lit 84, ({ cls := Value.type "getset_descriptor", data := Data.fields #[Value.str (Str.ofString "__weakref__") 299, Value.ref 82, Value.builtin "ExceptionGroup.__weakref__", Value.none] } : Obj)) ::
  (nat_lit 94, ({ cls := Value.type "tuple", data := Data.seq #[] } : Obj)) ::
  (nat_lit 96, ({ cls := Value.type "tuple", data := Data.seq #[Value.str (Str.ofString "self") 319, Value.str (Str.ofString "node") 320] } : Obj)) ::
  (nat_lit 97, ({ cls := Value.type "tuple", data := Data.seq #[] } : Obj)) ::
  (nat_lit 99, ({ cls := Value.type "code", data := Data.fields #[Value.str (Str.ofString "__init__") 316, Value.str (Str.ofString "Pattern.__init__") 317, Value.str (Str.ofString "/claim/cut.py") 318, Value.int 36 0, Value.int 2 0, Value.int 0 0, Value.int 0 0, Value.int 3 0, Value.ref 94, Value.bool true, Value.int 181 0, Value.ref 95, Value.none, Value.ref 96, Value.ref 97, Value.ref 98, Value.int 321 0, Value.int 36 0, Value.str (Str.ofString "/claim/cut.py") 322] } : Obj)) ::
  (nat_lit 100, ({ cls := Value.type "function", data := Data.func { name := Str.ofString "__init__", qualname := Str.ofString "Pattern.__init__", params := F100a, body := FuncBody.stmts F100b, scope := F100s, globals := 3, closure := [], defaults := Value.none, kwdefaults := Value.none, pyModule := Value.str (Str.ofString "snobol.values") 248, code := Value.ref 99 } } : Obj)) ::
  (nat_lit 101, ({ cls := Value.type "tuple", data := Data.seq #[Value.str (Str.ofString "node") 324] } : Obj)) ::
  (nat_lit 102, ({ cls := Value.type "dict", data := Data.dict #[{ hash := PyData.keyHash P (Str.ofString "__module__"), key := Value.str (Str.ofString "__module__") 311, val := Value.str (Str.ofString "snobol.values") 248 }, { hash := PyData.keyHash P (Str.ofString "__firstlineno__"), key := Value.str (Str.ofString "__firstlineno__") 315, val := Value.int 34 314 }, { hash := PyData.keyHash P (Str.ofString "__init__"), key := Value.str (Str.ofString "__init__") 323, val := Value.ref 100 }, { hash := PyData.keyHash P (Str.ofString "__static_attributes__"), key := Value.str (Str.ofString "__static_attributes__") 325, val := Value.ref 101 }, { hash := PyData.keyHash P (Str.ofString "__dict__"), key := Value.str (Str.ofString "__dict__") 327, val := Value.ref 104 }, { hash := PyData.keyHash P (Str.ofString "__weakref__"), key := Value.str (Str.ofString "__weakref__") 329, val := Value.ref 105 }, { hash := PyData.keyHash P (Str.ofString "__doc__"), key := Value.str (Str.ofString "__doc__") 330, val := Value.none }] 4 } : Obj)) ::
  (nat_lit 103, ({ cls := Value.type "type", data := Data.cls { name := Str.ofString "Pattern", bases := [Value.type "object"], mro := [Value.ref 103, Value.type "object"], ns := 102, qualname := Str.ofString "Pattern" }, slots := #[none, none, some (Value.str (Str.ofString "Pattern") 304), some (Value.str (Str.ofString "Pattern") 312), some (Value.builtin "object.__new__"), some (Value.bool true)] } : Obj)) ::
  (nat_lit 104, ({ cls := Value.type "getset_descriptor", data := Data.fields #[Value.str (Str.ofString "__dict__") 326, Value.ref 103, Value.builtin "function.__dict__", Value.builtin "function.__dict__#set"] } : Obj)) ::
  (nat_lit 105, ({ cls := Value.type "getset_descriptor", data := Data.fields #[Value.str (Str.ofString "__weakref__") 328, Value.ref 103, Value.builtin "ExceptionGroup.__weakref__", Value.none] } : Obj)) ::
  (nat_lit 115, ({ cls := Value.type "tuple", data := Data.seq #[] } : Obj)) ::
  (nat_lit 117, ({ cls := Value.type "tuple", data := Data.seq #[Value.str (Str.ofString "self") 348, Value.str (Str.ofString "tree") 349] } : Obj)) ::
  (nat_lit 118, ({ cls := Value.type "tuple", data := Data.seq #[] } : Obj)) ::
  (nat_lit 120, ({ cls := Value.type "code", data := Data.fields #[Value.str (Str.ofString "__init__") 345, Value.str (Str.ofString "Delayed.__init__") 346, Value.str (Str.ofString "/claim/cut.py") 347, Value.int 40 0, Value.int 2 0, Value.int 0 0, Value.int 0 0, Value.int 3 0, Value.ref 115, Value.bool true, Value.int 181 0, Value.ref 116, Value.none, Value.ref 117, Value.ref 118, Value.ref 119, Value.int 350 0, Value.int 40 0, Value.str (Str.ofString "/claim/cut.py") 351] } : Obj)) ::
  (nat_lit 121, ({ cls := Value.type "function", data := Data.func { name := Str.ofString "__init__", qualname := Str.ofString "Delayed.__init__", params := F121a, body := FuncBody.stmts F121b, scope := F121s, globals := 3, closure := [], defaults := Value.none, kwdefaults := Value.none, pyModule := Value.str (Str.ofString "snobol.values") 248, code := Value.ref 120 } } : Obj)) ::
  (nat_lit 122, ({ cls := Value.type "tuple", data := Data.seq #[Value.str (Str.ofString "tree") 353] } : Obj)) ::
  (nat_lit 123, ({ cls := Value.type "dict", data := Data.dict #[{ hash := PyData.keyHash P (Str.ofString "__module__"), key := Value.str (Str.ofString "__module__") 340, val := Value.str (Str.ofString "snobol.values") 248 }, { hash := PyData.keyHash P (Str.ofString "__firstlineno__"), key := Value.str (Str.ofString "__firstlineno__") 344, val := Value.int 38 343 }, { hash := PyData.keyHash P (Str.ofString "__init__"), key := Value.str (Str.ofString "__init__") 352, val := Value.ref 121 }, { hash := PyData.keyHash P (Str.ofString "__static_attributes__"), key := Value.str (Str.ofString "__static_attributes__") 354, val := Value.ref 122 }, { hash := PyData.keyHash P (Str.ofString "__dict__"), key := Value.str (Str.ofString "__dict__") 356, val := Value.ref 125 }, { hash := PyData.keyHash P (Str.ofString "__weakref__"), key := Value.str (Str.ofString "__weakref__") 358, val := Value.ref 126 }, { hash := PyData.keyHash P (Str.ofString "__doc__"), key := Value.str (Str.ofString "__doc__") 359, val := Value.none }] 4 } : Obj)) ::
  (nat_lit 124, ({ cls := Value.type "type", data := Data.cls { name := Str.ofString "Delayed", bases := [Value.type "object"], mro := [Value.ref 124, Value.type "object"], ns := 123, qualname := Str.ofString "Delayed" }, slots := #[none, none, some (Value.str (Str.ofString "Delayed") 333), some (Value.str (Str.ofString "Delayed") 341), some (Value.builtin "object.__new__"), some (Value.bool true)] } : Obj)) ::
  (nat_lit 125, ({ cls := Value.type "getset_descriptor", data := Data.fields #[Value.str (Str.ofString "__dict__") 355, Value.ref 124, Value.builtin "function.__dict__", Value.builtin "function.__dict__#set"] } : Obj)) ::
  (nat_lit 126, ({ cls := Value.type "getset_descriptor", data := Data.fields #[Value.str (Str.ofString "__weakref__") 357, Value.ref 124, Value.builtin "ExceptionGroup.__weakref__", Value.none] } : Obj)) ::
  (nat_lit 129, ({ cls := Value.type "tuple", data := Data.seq #[] } : Obj)) ::
  (nat_lit 131, ({ cls := Value.type "tuple", data := Data.seq #[Value.str (Str.ofString "value") 365] } : Obj)) ::
  (nat_lit 132, ({ cls := Value.type "tuple", data := Data.seq #[] } : Obj)) ::
  (nat_lit 134, ({ cls := Value.type "code", data := Data.fields #[Value.str (Str.ofString "is_fail") 362, Value.str (Str.ofString "is_fail") 363, Value.str (Str.ofString "/claim/cut.py") 364, Value.int 42 0, Value.int 1 0, Value.int 0 0, Value.int 0 0, Value.int 3 0, Value.ref 129, Value.bool true, Value.int 181 0, Value.ref 130, Value.none, Value.ref 131, Value.ref 132, Value.ref 133, Value.int 366 0, Value.int 42 0, Value.str (Str.ofString "/claim/cut.py") 367] } : Obj)) ::
  (nat_lit 135, ({ cls := Value.type "function", data := Data.func { name := Str.ofString "is_fail", qualname := Str.ofString "is_fail", params := F135a, body := FuncBody.stmts F135b, scope := F135s, globals := 3, closure := [], defaults := Value.none, kwdefaults := Value.none, pyModule := Value.str (Str.ofString "snobol.values") 248, code := Value.ref 134 } } : Obj)) ::
  (nat_lit 136, ({ cls := Value.type "tuple", data := Data.seq #[] } : Obj)) ::
  (nat_lit 138, ({ cls := Value.type "tuple", data := Data.seq #[Value.str (Str.ofString "number") 372, Value.str (Str.ofString "width") 373] } : Obj)) ::
  (nat_lit 139, ({ cls := Value.type "tuple", data := Data.seq #[] } : Obj)) ::
  (nat_lit 141, ({ cls := Value.type "code", data := Data.fields #[Value.str (Str.ofString "fits") 369, Value.str (Str.ofString "fits") 370, Value.str (Str.ofString "/claim/cut.py") 371, Value.int 44 0, Value.int 2 0, Value.int 0 0, Value.int 0 0, Value.int 3 0, Value.ref 136, Value.bool true, Value.int 181 0, Value.ref 137, Value.none, Value.ref 138, Value.ref 139, Value.ref 140, Value.int 374 0, Value.int 44 0, Value.str (Str.ofString "/claim/cut.py") 375] } : Obj)) ::
  (nat_lit 142, ({ cls := Value.type "function", data := Data.func { name := Str.ofString "fits", qualname := Str.ofString "fits", params := F142a, body := FuncBody.stmts F142b, scope := F142s, globals := 3, closure := [], defaults := Value.none, kwdefaults := Value.none, pyModule := Value.str (Str.ofString "snobol.values") 248, code := Value.ref 141 } } : Obj)) ::
  (nat_lit 143, ({ cls := Value.type "tuple", data := Data.seq #[] } : Obj)) ::
  (nat_lit 145, ({ cls := Value.type "tuple", data := Data.seq #[Value.str (Str.ofString "text") 380, Value.str (Str.ofString "width") 381, Value.str (Str.ofString "digits") 382, Value.str (Str.ofString "number") 383, Value.str (Str.ofString "sign") 384] } : Obj)) ::
  (nat_lit 146, ({ cls := Value.type "tuple", data := Data.seq #[] } : Obj)) ::
  (nat_lit 148, ({ cls := Value.type "code", data := Data.fields #[Value.str (Str.ofString "whole_of_text") 377, Value.str (Str.ofString "whole_of_text") 378, Value.str (Str.ofString "/claim/cut.py") 379, Value.int 46 0, Value.int 2 0, Value.int 0 0, Value.int 0 0, Value.int 3 0, Value.ref 143, Value.bool true, Value.int 181 0, Value.ref 144, Value.none, Value.ref 145, Value.ref 146, Value.ref 147, Value.int 385 0, Value.int 46 0, Value.str (Str.ofString "/claim/cut.py") 386] } : Obj)) ::
  (nat_lit 149, ({ cls := Value.type "function", data := Data.func { name := Str.ofString "whole_of_text", qualname := Str.ofString "whole_of_text", params := F149a, body := FuncBody.stmts F149b, scope := F149s, globals := 3, closure := [], defaults := Value.none, kwdefaults := Value.none, pyModule := Value.str (Str.ofString "snobol.values") 248, code := Value.ref 148 } } : Obj)) ::
  (nat_lit 150, ({ cls := Value.type "tuple", data := Data.seq #[] } : Obj)) ::
  (nat_lit 152, ({ cls := Value.type "tuple", data := Data.seq #[Value.str (Str.ofString "number") 391, Value.str (Str.ofString "left") 392, Value.str (Str.ofString "found") 393] } : Obj)) ::
  (nat_lit 153, ({ cls := Value.type "tuple", data := Data.seq #[] } : Obj)) ::
  (nat_lit 155, ({ cls := Value.type "code", data := Data.fields #[Value.str (Str.ofString "text_of_whole") 388, Value.str (Str.ofString "text_of_whole") 389, Value.str (Str.ofString "/claim/cut.py") 390, Value.int 59 0, Value.int 1 0, Value.int 0 0, Value.int 0 0, Value.int 3 0, Value.ref 150, Value.bool true, Value.int 181 0, Value.ref 151, Value.none, Value.ref 152, Value.ref 153, Value.ref 154, Value.int 394 0, Value.int 59 0, Value.str (Str.ofString "/claim/cut.py") 395] } : Obj)) ::
  (nat_lit 156, ({ cls := Value.type "function", data := Data.func { name := Str.ofString "text_of_whole", qualname := Str.ofString "text_of_whole", params := F156a, body := FuncBody.stmts F156b, scope := F156s, globals := 3, closure := [], defaults := Value.none, kwdefaults := Value.none, pyModule := Value.str (Str.ofString "snobol.values") 248, code := Value.ref 155 } } : Obj)) ::
  (nat_lit 157, ({ cls := Value.type "tuple", data := Data.seq #[] } : Obj)) ::
  (nat_lit 159, ({ cls := Value.type "tuple", data := Data.seq #[Value.str (Str.ofString "value") 400, Value.str (Str.ofString "width") 401] } : Obj)) ::
  (nat_lit 160, ({ cls := Value.type "tuple", data := Data.seq #[] } : Obj)) ::
  (nat_lit 162, ({ cls := Value.type "code", data := Data.fields #[Value.str (Str.ofString "to_whole") 397, Value.str (Str.ofString "to_whole") 398, Value.str (Str.ofString "/claim/cut.py") 399, Value.int 65 0, Value.int 2 0, Value.int 0 0, Value.int 0 0, Value.int 3 0, Value.ref 157, Value.bool true, Value.int 181 0, Value.ref 158, Value.none, Value.ref 159, Value.ref 160, Value.ref 161, Value.int 402 0, Value.int 65 0, Value.str (Str.ofString "/claim/cut.py") 403] } : Obj)) ::
  (nat_lit 163, ({ cls := Value.type "function", data := Data.func { name := Str.ofString "to_whole", qualname := Str.ofString "to_whole", params := F163a, body := FuncBody.stmts F163b, scope := F163s, globals := 3, closure := [], defaults := Value.none, kwdefaults := Value.none, pyModule := Value.str (Str.ofString "snobol.values") 248, code := Value.ref 162 } } : Obj)) ::
  (nat_lit 164, ({ cls := Value.type "tuple", data := Data.seq #[] } : Obj)) ::
  (nat_lit 166, ({ cls := Value.type "tuple", data := Data.seq #[Value.str (Str.ofString "value") 408] } : Obj)) ::
  (nat_lit 167, ({ cls := Value.type "tuple", data := Data.seq #[] } : Obj)) ::
  (nat_lit 169, ({ cls := Value.type "code", data := Data.fields #[Value.str (Str.ofString "to_text") 405, Value.str (Str.ofString "to_text") 406, Value.str (Str.ofString "/claim/cut.py") 407, Value.int 69 0, Value.int 1 0, Value.int 0 0, Value.int 0 0, Value.int 3 0, Value.ref 164, Value.bool true, Value.int 181 0, Value.ref 165, Value.none, Value.ref 166, Value.ref 167, Value.ref 168, Value.int 409 0, Value.int 69 0, Value.str (Str.ofString "/claim/cut.py") 410] } : Obj)) ::
  (nat_lit 170, ({ cls := Value.type "function", data := Data.func { name := Str.ofString "to_text", qualname := Str.ofString "to_text", params := F170a, body := FuncBody.stmts F170b, scope := F170s, globals := 3, closure := [], defaults := Value.none, kwdefaults := Value.none, pyModule := Value.str (Str.ofString "snobol.values") 248, code := Value.ref 169 } } : Obj)) ::
  (nat_lit 171, ({ cls := Value.type "tuple", data := Data.seq #[] } : Obj)) ::
  (nat_lit 173, ({ cls := Value.type "tuple", data := Data.seq #[Value.str (Str.ofString "value") 415, Value.str (Str.ofString "text") 416] } : Obj)) ::
  (nat_lit 174, ({ cls := Value.type "tuple", data := Data.seq #[] } : Obj)) ::
  (nat_lit 176, ({ cls := Value.type "code", data := Data.fields #[Value.str (Str.ofString "need_text") 412, Value.str (Str.ofString "need_text") 413, Value.str (Str.ofString "/claim/cut.py") 414, Value.int 73 0, Value.int 1 0, Value.int 0 0, Value.int 0 0, Value.int 3 0, Value.ref 171, Value.bool true, Value.int 181 0, Value.ref 172, Value.none, Value.ref 173, Value.ref 174, Value.ref 175, Value.int 417 0, Value.int 73 0, Value.str (Str.ofString "/claim/cut.py") 418] } : Obj)) ::
  (nat_lit 177, ({ cls := Value.type "function", data := Data.func { name := Str.ofString "need_text", qualname := Str.ofString "need_text", params := F177a, body := FuncBody.stmts F177b, scope := F177s, globals := 3, closure := [], defaults := Value.none, kwdefaults := Value.none, pyModule := Value.str (Str.ofString "snobol.values") 248, code := Value.ref 176 } } : Obj)) ::
  (nat_lit 185, ({ cls := Value.type "tuple", data := Data.seq #[] } : Obj)) ::
  (nat_lit 187, ({ cls := Value.type "tuple", data := Data.seq #[Value.str (Str.ofString "self") 437, Value.str (Str.ofString "values") 438, Value.str (Str.ofString "limit") 439, Value.str (Str.ofString "refused") 440] } : Obj)) ::
  (nat_lit 188, ({ cls := Value.type "tuple", data := Data.seq #[] } : Obj)) ::
  (nat_lit 190, ({ cls := Value.type "code", data := Data.fields #[Value.str (Str.ofString "__init__") 434, Value.str (Str.ofString "PlainHost.__init__") 435, Value.str (Str.ofString "/claim/cut.py") 436, Value.int 81 0, Value.int 4 0, Value.int 0 0, Value.int 0 0, Value.int 3 0, Value.ref 185, Value.bool true, Value.int 181 0, Value.ref 186, Value.none, Value.ref 187, Value.ref 188, Value.ref 189, Value.int 441 0, Value.int 81 0, Value.str (Str.ofString "/claim/cut.py") 442] } : Obj)) ::
  (nat_lit 191, ({ cls := Value.type "function", data := Data.func { name := Str.ofString "__init__", qualname := Str.ofString "PlainHost.__init__", params := F191a, body := FuncBody.stmts F191b, scope := F191s, globals := 3, closure := [], defaults := Value.none, kwdefaults := Value.none, pyModule := Value.str (Str.ofString "snobol.hosts") 420, code := Value.ref 190 } } : Obj)) ::
  (nat_lit 192, ({ cls := Value.type "tuple", data := Data.seq #[] } : Obj)) ::
  (nat_lit 194, ({ cls := Value.type "tuple", data := Data.seq #[Value.str (Str.ofString "self") 447, Value.str (Str.ofString "tree") 448] } : Obj)) ::
  (nat_lit 195, ({ cls := Value.type "tuple", data := Data.seq #[] } : Obj)) ::
  (nat_lit 197, ({ cls := Value.type "code", data := Data.fields #[Value.str (Str.ofString "value_of") 444, Value.str (Str.ofString "PlainHost.value_of") 445, Value.str (Str.ofString "/claim/cut.py") 446, Value.int 89 0, Value.int 2 0, Value.int 0 0, Value.int 0 0, Value.int 3 0, Value.ref 192, Value.bool true, Value.int 181 0, Value.ref 193, Value.none, Value.ref 194, Value.ref 195, Value.ref 196, Value.int 449 0, Value.int 89 0, Value.str (Str.ofString "/claim/cut.py") 450] } : Obj)) ::
  (nat_lit 198, ({ cls := Value.type "function", data := Data.func { name := Str.ofString "value_of", qualname := Str.ofString "PlainHost.value_of", params := F198a, body := FuncBody.stmts F198b, scope := F198s, globals := 3, closure := [], defaults := Value.none, kwdefaults := Value.none, pyModule := Value.str (Str.ofString "snobol.hosts") 420, code := Value.ref 197 } } : Obj)) ::
  (nat_lit 199, ({ cls := Value.type "tuple", data := Data.seq #[] } : Obj)) ::
  (nat_lit 201, ({ cls := Value.type "tuple", data := Data.seq #[Value.str (Str.ofString "self") 455, Value.str (Str.ofString "ref") 456, Value.str (Str.ofString "value") 457] } : Obj)) ::
  (nat_lit 202, ({ cls := Value.type "tuple", data := Data.seq #[] } : Obj)) ::
  (nat_lit 204, ({ cls := Value.type "code", data := Data.fields #[Value.str (Str.ofString "assign") 452, Value.str (Str.ofString "PlainHost.assign") 453, Value.str (Str.ofString "/claim/cut.py") 454, Value.int 94 0, Value.int 3 0, Value.int 0 0, Value.int 0 0, Value.int 3 0, Value.ref 199, Value.bool true, Value.int 181 0, Value.ref 200, Value.none, Value.ref 201, Value.ref 202, Value.ref 203, Value.int 458 0, Value.int 94 0, Value.str (Str.ofString "/claim/cut.py") 459] } : Obj)) ::
  (nat_lit 205, ({ cls := Value.type "function", data := Data.func { name := Str.ofString "assign", qualname := Str.ofString "PlainHost.assign", params := F205a, body := FuncBody.stmts F205b, scope := F205s, globals := 3, closure := [], defaults := Value.none, kwdefaults := Value.none, pyModule := Value.str (Str.ofString "snobol.hosts") 420, code := Value.ref 204 } } : Obj)) ::
  (nat_lit 206, ({ cls := Value.type "tuple", data := Data.seq #[] } : Obj)) ::
  (nat_lit 208, ({ cls := Value.type "tuple", data := Data.seq #[Value.str (Str.ofString "self") 464] } : Obj)) ::
  (nat_lit 209, ({ cls := Value.type "tuple", data := Data.seq #[] } : Obj)) ::
  (nat_lit 211, ({ cls := Value.type "code", data := Data.fields #[Value.str (Str.ofString "step") 461, Value.str (Str.ofString "PlainHost.step") 462, Value.str (Str.ofString "/claim/cut.py") 463, Value.int 101 0, Value.int 1 0, Value.int 0 0, Value.int 0 0, Value.int 3 0, Value.ref 206, Value.bool true, Value.int 181 0, Value.ref 207, Value.none, Value.ref 208, Value.ref 209, Value.ref 210, Value.int 465 0, Value.int 101 0, Value.str (Str.ofString "/claim/cut.py") 466] } : Obj)) ::
  (nat_lit 212, ({ cls := Value.type "function", data := Data.func { name := Str.ofString "step", qualname := Str.ofString "PlainHost.step", params := F212a, body := FuncBody.stmts F212b, scope := F212s, globals := 3, closure := [], defaults := Value.none, kwdefaults := Value.none, pyModule := Value.str (Str.ofString "snobol.hosts") 420, code := Value.ref 211 } } : Obj)) ::
  (nat_lit 213, ({ cls := Value.type "tuple", data := Data.seq #[Value.str (Str.ofString "limit") 468, Value.str (Str.ofString "log") 469, Value.str (Str.ofString "refused") 470, Value.str (Str.ofString "steps") 471, Value.str (Str.ofString "values") 472, Value.str (Str.ofString "width") 473] } : Obj)) ::
  (nat_lit 214, ({ cls := Value.type "dict", data := Data.dict #[{ hash := PyData.keyHash P (Str.ofString "__module__"), key := Value.str (Str.ofString "__module__") 429, val := Value.str (Str.ofString "snobol.hosts") 420 }, { hash := PyData.keyHash P (Str.ofString "__firstlineno__"), key := Value.str (Str.ofString "__firstlineno__") 433, val := Value.int 79 432 }, { hash := PyData.keyHash P (Str.ofString "__init__"), key := Value.str (Str.ofString "__init__") 443, val := Value.ref 191 }, { hash := PyData.keyHash P (Str.ofString "value_of"), key := Value.str (Str.ofString "value_of") 451, val := Value.ref 198 }, { hash := PyData.keyHash P (Str.ofString "assign"), key := Value.str (Str.ofString "assign") 460, val := Value.ref 205 }, { hash := PyData.keyHash P (Str.ofString "step"), key := Value.str (Str.ofString "step") 467, val := Value.ref 212 }, { hash := PyData.keyHash P (Str.ofString "__static_attributes__"), key := Value.str (Str.ofString "__static_attributes__") 474, val := Value.ref 213 }, { hash := PyData.keyHash P (Str.ofString "__dict__"), key := Value.str (Str.ofString "__dict__") 476, val := Value.ref 216 }, { hash := PyData.keyHash P (Str.ofString "__weakref__"), key := Value.str (Str.ofString "__weakref__") 478, val := Value.ref 217 }, { hash := PyData.keyHash P (Str.ofString "__doc__"), key := Value.str (Str.ofString "__doc__") 479, val := Value.none }] 4 } : Obj)) ::
  (nat_lit 215, ({ cls := Value.type "type", data := Data.cls { name := Str.ofString "PlainHost", bases := [Value.type "object"], mro := [Value.ref 215, Value.type "object"], ns := 214, qualname := Str.ofString "PlainHost" }, slots := #[none, none, some (Value.str (Str.ofString "PlainHost") 422), some (Value.str (Str.ofString "PlainHost") 430), some (Value.builtin "object.__new__"), some (Value.bool true)] } : Obj)) ::
  (nat_lit 216, ({ cls := Value.type "getset_descriptor", data := Data.fields #[Value.str (Str.ofString "__dict__") 475, Value.ref 215, Value.builtin "function.__dict__", Value.builtin "function.__dict__#set"] } : Obj)) ::
  (nat_lit 217, ({ cls := Value.type "getset_descriptor", data := Data.fields #[Value.str (Str.ofString "__weakref__") 477, Value.ref 215, Value.builtin "ExceptionGroup.__weakref__", Value.none] } : Obj)) ::
  (nat_lit 220, ({ cls := Value.type "tuple", data := Data.seq #[] } : Obj)) ::
  (nat_lit 223, ({ cls := Value.type "code", data := Data.fields #[Value.str (Str.ofString "replaced_signs") 484, Value.str (Str.ofString "replaced_signs") 485, Value.str (Str.ofString "/claim/cut.py") 486, Value.int 106 0, Value.int 3 0, Value.int 0 0, Value.int 0 0, Value.int 3 0, Value.ref 220, Value.bool true, Value.int 181 0, Value.ref 221, Value.none, Value.none, Value.none, Value.ref 222, Value.int 487 0, Value.int 106 0, Value.str (Str.ofString "/claim/cut.py") 488] } : Obj)) ::
  (nat_lit 224, ({ cls := Value.type "function", data := Data.func { name := Str.ofString "replaced_signs", qualname := Str.ofString "replaced_signs", params := F224a, body := FuncBody.stmts F224b, scope := F224s, globals := 3, closure := [], defaults := Value.none, kwdefaults := Value.none, pyModule := Value.str (Str.ofString "snobol.strings") 482, code := Value.ref 223 } } : Obj)) ::
  (nat_lit 225, ({ cls := Value.type "tuple", data := Data.seq #[] } : Obj)) ::
  (nat_lit 227, ({ cls := Value.type "tuple", data := Data.seq #[Value.str (Str.ofString "value") 493] } : Obj)) ::
  (nat_lit 228, ({ cls := Value.type "tuple", data := Data.seq #[] } : Obj)) ::
  (nat_lit 230, ({ cls := Value.type "code", data := Data.fields #[Value.str (Str.ofString "told_or_fail") 490, Value.str (Str.ofString "told_or_fail") 491, Value.str (Str.ofString "/claim/cut.py") 492, Value.int 113 0, Value.int 1 0, Value.int 0 0, Value.int 0 0, Value.int 3 0, Value.ref 225, Value.bool true, Value.int 181 0, Value.ref 226, Value.none, Value.ref 227, Value.ref 228, Value.ref 229, Value.int 494 0, Value.int 113 0, Value.str (Str.ofString "/claim/cut.py") 495] } : Obj)) ::
  (nat_lit 231, ({ cls := Value.type "function", data := Data.func { name := Str.ofString "told_or_fail", qualname := Str.ofString "told_or_fail", params := F231a, body := FuncBody.stmts F231b, scope := F231s, globals := 3, closure := [], defaults := Value.none, kwdefaults := Value.none, pyModule := Value.str (Str.ofString "snobol.strings") 482, code := Value.ref 230 } } : Obj)) ::
  (nat_lit 232, ({ cls := Value.type "tuple", data := Data.seq #[] } : Obj)) ::
  (nat_lit 234, ({ cls := Value.type "tuple", data := Data.seq #[Value.str (Str.ofString "world") 500, Value.str (Str.ofString "args") 501, Value.str (Str.ofString "text") 502, Value.str (Str.ofString "olds") 503] } : Obj)) ::
  (nat_lit 235, ({ cls := Value.type "tuple", data := Data.seq #[] } : Obj)) ::
  (nat_lit 237, ({ cls := Value.type "code", data := Data.fields #[Value.str (Str.ofString "text_replace") 497, Value.str (Str.ofString "text_replace") 498, Value.str (Str.ofString "/claim/cut.py") 499, Value.int 115 0, Value.int 2 0, Value.int 0 0, Value.int 0 0, Value.int 3 0, Value.ref 232, Value.bool true, Value.int 181 0, Value.ref 233, Value.none, Value.ref 234, Value.ref 235, Value.ref 236, Value.int 504 0, Value.int 115 0, Value.str (Str.ofString "/claim/cut.py") 505] } : Obj)) ::
  (nat_lit 238, ({ cls := Value.type "function", data := Data.func { name := Str.ofString "text_replace", qualname := Str.ofString "text_replace", params := F238a, body := FuncBody.stmts F238b, scope := F238s, globals := 3, closure := [], defaults := Value.none, kwdefaults := Value.none, pyModule := Value.str (Str.ofString "snobol.strings") 482, code := Value.ref 237 } } : Obj)) ::
  (nat_lit 239, ({ cls := Value.type "tuple", data := Data.seq #[Value.str (Str.ofString "len") 509, Value.str (Str.ofString "pos") 510, Value.str (Str.ofString "rpos") 511, Value.str (Str.ofString "tab") 512, Value.str (Str.ofString "rtab") 513] } : Obj)) ::
  (nat_lit 240, ({ cls := Value.type "tuple", data := Data.seq #[Value.str (Str.ofString "any") 515, Value.str (Str.ofString "notany") 516, Value.str (Str.ofString "span") 517, Value.str (Str.ofString "break") 518] } : Obj)) ::
  (nat_lit 241, ({ cls := Value.type "tuple", data := Data.seq #[Value.int 64 520] } : Obj)) ::
  (nat_lit 242, ({ cls := Value.type "tuple", data := Data.seq #[] } : Obj)) ::
  (nat_lit 244, ({ cls := Value.type "tuple", data := Data.seq #[Value.str (Str.ofString "value") 525, Value.str (Str.ofString "kind") 526, Value.str (Str.ofString "width") 527, Value.str (Str.ofString "count") 528] } : Obj)) ::
  (nat_lit 245, ({ cls := Value.type "tuple", data := Data.seq #[] } : Obj)) ::
  (nat_lit 247, ({ cls := Value.type "code", data := Data.fields #[Value.str (Str.ofString "plain_count") 522, Value.str (Str.ofString "plain_count") 523, Value.str (Str.ofString "/claim/cut.py") 524, Value.int 122 0, Value.int 3 0, Value.int 0 0, Value.int 0 0, Value.int 3 0, Value.ref 242, Value.bool true, Value.int 181 0, Value.ref 243, Value.none, Value.ref 244, Value.ref 245, Value.ref 246, Value.int 529 0, Value.int 122 0, Value.str (Str.ofString "/claim/cut.py") 530] } : Obj)) ::
  (nat_lit 248, ({ cls := Value.type "function", data := Data.func { name := Str.ofString "plain_count", qualname := Str.ofString "plain_count", params := F248a, body := FuncBody.stmts F248b, scope := F248s, globals := 3, closure := [], defaults := Value.ref 241, kwdefaults := Value.none, pyModule := Value.str (Str.ofString "snobol.nodes") 507, code := Value.ref 247 } } : Obj)) ::
  (nat_lit 249, ({ cls := Value.type "tuple", data := Data.seq #[] } : Obj)) ::
  (nat_lit 251, ({ cls := Value.type "tuple", data := Data.seq #[Value.str (Str.ofString "value") 535, Value.str (Str.ofString "kind") 536, Value.str (Str.ofString "text") 537] } : Obj)) ::
  (nat_lit 252, ({ cls := Value.type "tuple", data := Data.seq #[] } : Obj)) ::
  (nat_lit 254, ({ cls := Value.type "code", data := Data.fields #[Value.str (Str.ofString "plain_signs") 532, Value.str (Str.ofString "plain_signs") 533, Value.str (Str.ofString "/claim/cut.py") 534, Value.int 129 0, Value.int 2 0, Value.int 0 0, Value.int 0 0, Value.int 3 0, Value.ref 249, Value.bool true, Value.int 181 0, Value.ref 250, Value.none, Value.ref 251, Value.ref 252, Value.ref 253, Value.int 538 0, Value.int 129 0, Value.str (Str.ofString "/claim/cut.py") 539] } : Obj)) ::
  (nat_lit 255, ({ cls := Value.type "function", data := Data.func { name := Str.ofString "plain_signs", qualname := Str.ofString "plain_signs", params := F255a, body := FuncBody.stmts F255b, scope := F255s, globals := 3, closure := [], defaults := Value.none, kwdefaults := Value.none, pyModule := Value.str (Str.ofString "snobol.nodes") 507, code := Value.ref 254 } } : Obj)) ::
  (nat_lit 256, ({ cls := Value.type "tuple", data := Data.seq #[] } : Obj)) ::
  (nat_lit 258, ({ cls := Value.type "tuple", data := Data.seq #[Value.str (Str.ofString "value") 544, Value.str (Str.ofString "text") 545] } : Obj)) ::
  (nat_lit 259, ({ cls := Value.type "tuple", data := Data.seq #[] } : Obj)) ::
  (nat_lit 261, ({ cls := Value.type "code", data := Data.fields #[Value.str (Str.ofString "pattern_of") 541, Value.str (Str.ofString "pattern_of") 542, Value.str (Str.ofString "/claim/cut.py") 543, Value.int 134 0, Value.int 1 0, Value.int 0 0, Value.int 0 0, Value.int 3 0, Value.ref 256, Value.bool true, Value.int 181 0, Value.ref 257, Value.none, Value.ref 258, Value.ref 259, Value.ref 260, Value.int 546 0, Value.int 134 0, Value.str (Str.ofString "/claim/cut.py") 547] } : Obj)) ::
  (nat_lit 262, ({ cls := Value.type "function", data := Data.func { name := Str.ofString "pattern_of", qualname := Str.ofString "pattern_of", params := F262a, body := FuncBody.stmts F262b, scope := F262s, globals := 3, closure := [], defaults := Value.none, kwdefaults := Value.none, pyModule := Value.str (Str.ofString "snobol.nodes") 507, code := Value.ref 261 } } : Obj)) ::
  (nat_lit 263, ({ cls := Value.type "tuple", data := Data.seq #[] } : Obj)) ::
  (nat_lit 265, ({ cls := Value.type "tuple", data := Data.seq #[Value.str (Str.ofString "told") 552] } : Obj)) ::
  (nat_lit 266, ({ cls := Value.type "tuple", data := Data.seq #[] } : Obj)) ::
  (nat_lit 268, ({ cls := Value.type "code", data := Data.fields #[Value.str (Str.ofString "is_delayed") 549, Value.str (Str.ofString "is_delayed") 550, Value.str (Str.ofString "/claim/cut.py") 551, Value.int 143 0, Value.int 1 0, Value.int 0 0, Value.int 0 0, Value.int 3 0, Value.ref 263, Value.bool true, Value.int 181 0, Value.ref 264, Value.none, Value.ref 265, Value.ref 266, Value.ref 267, Value.int 553 0, Value.int 143 0, Value.str (Str.ofString "/claim/cut.py") 554] } : Obj)) ::
  (nat_lit 269, ({ cls := Value.type "function", data := Data.func { name := Str.ofString "is_delayed", qualname := Str.ofString "is_delayed", params := F269a, body := FuncBody.stmts F269b, scope := F269s, globals := 3, closure := [], defaults := Value.none, kwdefaults := Value.none, pyModule := Value.str (Str.ofString "snobol.nodes") 507, code := Value.ref 268 } } : Obj)) ::
  (nat_lit 270, ({ cls := Value.type "tuple", data := Data.seq #[] } : Obj)) ::
  (nat_lit 272, ({ cls := Value.type "tuple", data := Data.seq #[Value.str (Str.ofString "node") 559, Value.str (Str.ofString "host") 560, Value.str (Str.ofString "value") 561] } : Obj)) ::
  (nat_lit 273, ({ cls := Value.type "tuple", data := Data.seq #[] } : Obj)) ::
  (nat_lit 275, ({ cls := Value.type "code", data := Data.fields #[Value.str (Str.ofString "settled") 556, Value.str (Str.ofString "settled") 557, Value.str (Str.ofString "/claim/cut.py") 558, Value.int 145 0, Value.int 2 0, Value.int 0 0, Value.int 0 0, Value.int 3 0, Value.ref 270, Value.bool true, Value.int 181 0, Value.ref 271, Value.none, Value.ref 272, Value.ref 273, Value.ref 274, Value.int 562 0, Value.int 145 0, Value.str (Str.ofString "/claim/cut.py") 563] } : Obj)) ::
  (nat_lit 276, ({ cls := Value.type "function", data := Data.func { name := Str.ofString "settled", qualname := Str.ofString "settled", params := F276a, body := FuncBody.stmts F276b, scope := F276s, globals := 3, closure := [], defaults := Value.none, kwdefaults := Value.none, pyModule := Value.str (Str.ofString "snobol.nodes") 507, code := Value.ref 275 } } : Obj)) ::
  (nat_lit 277, ({ cls := Value.type "tuple", data := Data.seq #[] } : Obj)) ::
  (nat_lit 279, ({ cls := Value.type "tuple", data := Data.seq #[Value.str (Str.ofString "subject") 574, Value.str (Str.ofString "at") 575, Value.str (Str.ofString "text") 576, Value.str (Str.ofString "end") 577] } : Obj)) ::
  (nat_lit 280, ({ cls := Value.type "tuple", data := Data.seq #[] } : Obj)) ::
  (nat_lit 282, ({ cls := Value.type "code", data := Data.fields #[Value.str (Str.ofString "chars_end") 571, Value.str (Str.ofString "chars_end") 572, Value.str (Str.ofString "/claim/cut.py") 573, Value.int 157 0, Value.int 3 0, Value.int 0 0, Value.int 0 0, Value.int 3 0, Value.ref 277, Value.bool true, Value.int 181 0, Value.ref 278, Value.none, Value.ref 279, Value.ref 280, Value.ref 281, Value.int 578 0, Value.int 157 0, Value.str (Str.ofString "/claim/cut.py") 579] } : Obj)) ::
  (nat_lit 283, ({ cls := Value.type "function", data := Data.func { name := Str.ofString "chars_end", qualname := Str.ofString "chars_end", params := F283a, body := FuncBody.stmts F283b, scope := F283s, globals := 3, closure := [], defaults := Value.none, kwdefaults := Value.none, pyModule := Value.str (Str.ofString "snobol.primitives") 565, code := Value.ref 282 } } : Obj)) ::
  (nat_lit 284, ({ cls := Value.type "tuple", data := Data.seq #[] } : Obj)) ::
  (nat_lit 286, ({ cls := Value.type "tuple", data := Data.seq #[Value.str (Str.ofString "subject") 584, Value.str (Str.ofString "at") 585, Value.str (Str.ofString "many") 586] } : Obj)) ::
  (nat_lit 287, ({ cls := Value.type "tuple", data := Data.seq #[] } : Obj)) ::
  (nat_lit 289, ({ cls := Value.type "code", data := Data.fields #[Value.str (Str.ofString "len_end") 581, Value.str (Str.ofString "len_end") 582, Value.str (Str.ofString "/claim/cut.py") 583, Value.int 160 0, Value.int 3 0, Value.int 0 0, Value.int 0 0, Value.int 3 0, Value.ref 284, Value.bool true, Value.int 181 0, Value.ref 285, Value.none, Value.ref 286, Value.ref 287, Value.ref 288, Value.int 587 0, Value.int 160 0, Value.str (Str.ofString "/claim/cut.py") 588] } : Obj)) ::
  (nat_lit 290, ({ cls := Value.type "function", data := Data.func { name := Str.ofString "len_end", qualname := Str.ofString "len_end", params := F290a, body := FuncBody.stmts F290b, scope := F290s, globals := 3, closure := [], defaults := Value.none, kwdefaults := Value.none, pyModule := Value.str (Str.ofString "snobol.primitives") 565, code := Value.ref 289 } } : Obj)) ::
  (nat_lit 291, ({ cls := Value.type "tuple", data := Data.seq #[] } : Obj)) ::
  (nat_lit 293, ({ cls := Value.type "tuple", data := Data.seq #[Value.str (Str.ofString "at") 593, Value.str (Str.ofString "place") 594] } : Obj)) ::
  (nat_lit 294, ({ cls := Value.type "tuple", data := Data.seq #[] } : Obj)) ::
  (nat_lit 296, ({ cls := Value.type "code", data := Data.fields #[Value.str (Str.ofString "pos_end") 590, Value.str (Str.ofString "pos_end") 591, Value.str (Str.ofString "/claim/cut.py") 592, Value.int 162 0, Value.int 2 0, Value.int 0 0, Value.int 0 0, Value.int 3 0, Value.ref 291, Value.bool true, Value.int 181 0, Value.ref 292, Value.none, Value.ref 293, Value.ref 294, Value.ref 295, Value.int 595 0, Value.int 162 0, Value.str (Str.ofString "/claim/cut.py") 596] } : Obj)) ::
  (nat_lit 297, ({ cls := Value.type "function", data := Data.func { name := Str.ofString "pos_end", qualname := Str.ofString "pos_end", params := F297a, body := FuncBody.stmts F297b, scope := F297s, globals := 3, closure := [], defaults := Value.none, kwdefaults := Value.none, pyModule := Value.str (Str.ofString "snobol.primitives") 565, code := Value.ref 296 } } : Obj)) ::
  (nat_lit 298, ({ cls := Value.type "tuple", data := Data.seq #[] } : Obj)) ::
  (nat_lit 300, ({ cls := Value.type "tuple", data := Data.seq #[Value.str (Str.ofString "subject") 601, Value.str (Str.ofString "at") 602, Value.str (Str.ofString "place") 603] } : Obj)) ::
  (nat_lit 301, ({ cls := Value.type "tuple", data := Data.seq #[] } : Obj)) ::
  (nat_lit 303, ({ cls := Value.type "code", data := Data.fields #[Value.str (Str.ofString "rpos_end") 598, Value.str (Str.ofString "rpos_end") 599, Value.str (Str.ofString "/claim/cut.py") 600, Value.int 164 0, Value.int 3 0, Value.int 0 0, Value.int 0 0, Value.int 3 0, Value.ref 298, Value.bool true, Value.int 181 0, Value.ref 299, Value.none, Value.ref 300, Value.ref 301, Value.ref 302, Value.int 604 0, Value.int 164 0, Value.str (Str.ofString "/claim/cut.py") 605] } : Obj)) ::
  (nat_lit 304, ({ cls := Value.type "function", data := Data.func { name := Str.ofString "rpos_end", qualname := Str.ofString "rpos_end", params := F304a, body := FuncBody.stmts F304b, scope := F304s, globals := 3, closure := [], defaults := Value.none, kwdefaults := Value.none, pyModule := Value.str (Str.ofString "snobol.primitives") 565, code := Value.ref 303 } } : Obj)) ::
  (nat_lit 305, ({ cls := Value.type "tuple", data := Data.seq #[] } : Obj)) ::
  (nat_lit 307, ({ cls := Value.type "tuple", data := Data.seq #[Value.str (Str.ofString "subject") 610, Value.str (Str.ofString "at") 611, Value.str (Str.ofString "place") 612] } : Obj)) ::
  (nat_lit 308, ({ cls := Value.type "tuple", data := Data.seq #[] } : Obj)) ::
  (nat_lit 310, ({ cls := Value.type "code", data := Data.fields #[Value.str (Str.ofString "tab_end") 607, Value.str (Str.ofString "tab_end") 608, Value.str (Str.ofString "/claim/cut.py") 609, Value.int 166 0, Value.int 3 0, Value.int 0 0, Value.int 0 0, Value.int 3 0, Value.ref 305, Value.bool true, Value.int 181 0, Value.ref 306, Value.none, Value.ref 307, Value.ref 308, Value.ref 309, Value.int 613 0, Value.int 166 0, Value.str (Str.ofString "/claim/cut.py") 614] } : Obj)) ::
  (nat_lit 311, ({ cls := Value.type "function", data := Data.func { name := Str.ofString "tab_end", qualname := Str.ofString "tab_end", params := F311a, body := FuncBody.stmts F311b, scope := F311s, globals := 3, closure := [], defaults := Value.none, kwdefaults := Value.none, pyModule := Value.str (Str.ofString "snobol.primitives") 565, code := Value.ref 310 } } : Obj)) ::
  (nat_lit 312, ({ cls := Value.type "tuple", data := Data.seq #[] } : Obj)) ::
  (nat_lit 314, ({ cls := Value.type "tuple", data := Data.seq #[Value.str (Str.ofString "subject") 619, Value.str (Str.ofString "at") 620, Value.str (Str.ofString "place") 621, Value.str (Str.ofString "goal") 622] } : Obj)) ::
  (nat_lit 315, ({ cls := Value.type "tuple", data := Data.seq #[] } : Obj)) ::
  (nat_lit 317, ({ cls := Value.type "code", data := Data.fields #[Value.str (Str.ofString "rtab_end") 616, Value.str (Str.ofString "rtab_end") 617, Value.str (Str.ofString "/claim/cut.py") 618, Value.int 168 0, Value.int 3 0, Value.int 0 0, Value.int 0 0, Value.int 3 0, Value.ref 312, Value.bool true, Value.int 181 0, Value.ref 313, Value.none, Value.ref 314, Value.ref 315, Value.ref 316, Value.int 623 0, Value.int 168 0, Value.str (Str.ofString "/claim/cut.py") 624] } : Obj)) ::
  (nat_lit 318, ({ cls := Value.type "function", data := Data.func { name := Str.ofString "rtab_end", qualname := Str.ofString "rtab_end", params := F318a, body := FuncBody.stmts F318b, scope := F318s, globals := 3, closure := [], defaults := Value.none, kwdefaults := Value.none, pyModule := Value.str (Str.ofString "snobol.primitives") 565, code := Value.ref 317 } } : Obj)) ::
  (nat_lit 319, ({ cls := Value.type "tuple", data := Data.seq #[] } : Obj)) ::
  (nat_lit 321, ({ cls := Value.type "tuple", data := Data.seq #[Value.str (Str.ofString "subject") 629] } : Obj)) ::
  (nat_lit 322, ({ cls := Value.type "tuple", data := Data.seq #[] } : Obj)) ::
  (nat_lit 324, ({ cls := Value.type "code", data := Data.fields #[Value.str (Str.ofString "rem_end") 626, Value.str (Str.ofString "rem_end") 627, Value.str (Str.ofString "/claim/cut.py") 628, Value.int 171 0, Value.int 1 0, Value.int 0 0, Value.int 0 0, Value.int 3 0, Value.ref 319, Value.bool true, Value.int 181 0, Value.ref 320, Value.none, Value.ref 321, Value.ref 322, Value.ref 323, Value.int 630 0, Value.int 171 0, Value.str (Str.ofString "/claim/cut.py") 631] } : Obj)) ::
  (nat_lit 325, ({ cls := Value.type "function", data := Data.func { name := Str.ofString "rem_end", qualname := Str.ofString "rem_end", params := F325a, body := FuncBody.stmts F325b, scope := F325s, globals := 3, closure := [], defaults := Value.none, kwdefaults := Value.none, pyModule := Value.str (Str.ofString "snobol.primitives") 565, code := Value.ref 324 } } : Obj)) ::
  (nat_lit 326, ({ cls := Value.type "tuple", data := Data.seq #[] } : Obj)) ::
  (nat_lit 328, ({ cls := Value.type "tuple", data := Data.seq #[Value.str (Str.ofString "subject") 636, Value.str (Str.ofString "at") 637, Value.str (Str.ofString "signs") 638] } : Obj)) ::
  (nat_lit 329, ({ cls := Value.type "tuple", data := Data.seq #[] } : Obj)) ::
  (nat_lit 331, ({ cls := Value.type "code", data := Data.fields #[Value.str (Str.ofString "any_at") 633, Value.str (Str.ofString "any_at") 634, Value.str (Str.ofString "/claim/cut.py") 635, Value.int 173 0, Value.int 3 0, Value.int 0 0, Value.int 0 0, Value.int 3 0, Value.ref 326, Value.bool true, Value.int 181 0, Value.ref 327, Value.none, Value.ref 328, Value.ref 329, Value.ref 330, Value.int 639 0, Value.int 173 0, Value.str (Str.ofString "/claim/cut.py") 640] } : Obj)) ::
  (nat_lit 332, ({ cls := Value.type "function", data := Data.func { name := Str.ofString "any_at", qualname := Str.ofString "any_at", params := F332a, body := FuncBody.stmts F332b, scope := F332s, globals := 3, closure := [], defaults := Value.none, kwdefaults := Value.none, pyModule := Value.str (Str.ofString "snobol.primitives") 565, code := Value.ref 331 } } : Obj)) ::
  (nat_lit 333, ({ cls := Value.type "tuple", data := Data.seq #[] } : Obj)) ::
  (nat_lit 335, ({ cls := Value.type "tuple", data := Data.seq #[Value.str (Str.ofString "subject") 645, Value.str (Str.ofString "at") 646, Value.str (Str.ofString "signs") 647] } : Obj)) ::
  (nat_lit 336, ({ cls := Value.type "tuple", data := Data.seq #[] } : Obj)) ::
  (nat_lit 338, ({ cls := Value.type "code", data := Data.fields #[Value.str (Str.ofString "notany_at") 642, Value.str (Str.ofString "notany_at") 643, Value.str (Str.ofString "/claim/cut.py") 644, Value.int 175 0, Value.int 3 0, Value.int 0 0, Value.int 0 0, Value.int 3 0, Value.ref 333, Value.bool true, Value.int 181 0, Value.ref 334, Value.none, Value.ref 335, Value.ref 336, Value.ref 337, Value.int 648 0, Value.int 175 0, Value.str (Str.ofString "/claim/cut.py") 649] } : Obj)) ::
  (nat_lit 339, ({ cls := Value.type "function", data := Data.func { name := Str.ofString "notany_at", qualname := Str.ofString "notany_at", params := F339a, body := FuncBody.stmts F339b, scope := F339s, globals := 3, closure := [], defaults := Value.none, kwdefaults := Value.none, pyModule := Value.str (Str.ofString "snobol.primitives") 565, code := Value.ref 338 } } : Obj)) ::
  (nat_lit 340, ({ cls := Value.type "tuple", data := Data.seq #[] } : Obj)) ::
  (nat_lit 342, ({ cls := Value.type "tuple", data := Data.seq #[Value.str (Str.ofString "subject") 654, Value.str (Str.ofString "at") 655, Value.str (Str.ofString "signs") 656, Value.str (Str.ofString "is_in") 657] } : Obj)) ::
  (nat_lit 343, ({ cls := Value.type "tuple", data := Data.seq #[] } : Obj)) ::
  (nat_lit 345, ({ cls := Value.type "code", data := Data.fields #[Value.str (Str.ofString "run_end") 651, Value.str (Str.ofString "run_end") 652, Value.str (Str.ofString "/claim/cut.py") 653, Value.int 177 0, Value.int 4 0, Value.int 0 0, Value.int 0 0, Value.int 3 0, Value.ref 340, Value.bool true, Value.int 181 0, Value.ref 341, Value.none, Value.ref 342, Value.ref 343, Value.ref 344, Value.int 658 0, Value.int 177 0, Value.str (Str.ofString "/claim/cut.py") 659] } : Obj)) ::
  (nat_lit 346, ({ cls := Value.type "function", data := Data.func { name := Str.ofString "run_end", qualname := Str.ofString "run_end", params := F346a, body := FuncBody.stmts F346b, scope := F346s, globals := 3, closure := [], defaults := Value.none, kwdefaults := Value.none, pyModule := Value.str (Str.ofString "snobol.primitives") 565, code := Value.ref 345 } } : Obj)) ::
  (nat_lit 347, ({ cls := Value.type "tuple", data := Data.seq #[] } : Obj)) ::
  (nat_lit 349, ({ cls := Value.type "tuple", data := Data.seq #[Value.str (Str.ofString "subject") 664, Value.str (Str.ofString "at") 665, Value.str (Str.ofString "signs") 666, Value.str (Str.ofString "end") 667] } : Obj)) ::
  (nat_lit 350, ({ cls := Value.type "tuple", data := Data.seq #[] } : Obj)) ::
  (nat_lit 352, ({ cls := Value.type "code", data := Data.fields #[Value.str (Str.ofString "span_end") 661, Value.str (Str.ofString "span_end") 662, Value.str (Str.ofString "/claim/cut.py") 663, Value.int 181 0, Value.int 3 0, Value.int 0 0, Value.int 0 0, Value.int 3 0, Value.ref 347, Value.bool true, Value.int 181 0, Value.ref 348, Value.none, Value.ref 349, Value.ref 350, Value.ref 351, Value.int 668 0, Value.int 181 0, Value.str (Str.ofString "/claim/cut.py") 669] } : Obj)) ::
  (nat_lit 353, ({ cls := Value.type "function", data := Data.func { name := Str.ofString "span_end", qualname := Str.ofString "span_end", params := F353a, body := FuncBody.stmts F353b, scope := F353s, globals := 3, closure := [], defaults := Value.none, kwdefaults := Value.none, pyModule := Value.str (Str.ofString "snobol.primitives") 565, code := Value.ref 352 } } : Obj)) ::
  (nat_lit 354, ({ cls := Value.type "tuple", data := Data.seq #[] } : Obj)) ::
  (nat_lit 356, ({ cls := Value.type "tuple", data := Data.seq #[Value.str (Str.ofString "subject") 674, Value.str (Str.ofString "at") 675, Value.str (Str.ofString "signs") 676, Value.str (Str.ofString "end") 677] } : Obj)) ::
  (nat_lit 357, ({ cls := Value.type "tuple", data := Data.seq #[] } : Obj)) ::
  (nat_lit 359, ({ cls := Value.type "code", data := Data.fields #[Value.str (Str.ofString "break_end") 671, Value.str (Str.ofString "break_end") 672, Value.str (Str.ofString "/claim/cut.py") 673, Value.int 184 0, Value.int 3 0, Value.int 0 0, Value.int 0 0, Value.int 3 0, Value.ref 354, Value.bool true, Value.int 181 0, Value.ref 355, Value.none, Value.ref 356, Value.ref 357, Value.ref 358, Value.int 678 0, Value.int 184 0, Value.str (Str.ofString "/claim/cut.py") 679] } : Obj)) ::
  (nat_lit 360, ({ cls := Value.type "function", data := Data.func { name := Str.ofString "break_end", qualname := Str.ofString "break_end", params := F360a, body := FuncBody.stmts F360b, scope := F360s, globals := 3, closure := [], defaults := Value.none, kwdefaults := Value.none, pyModule := Value.str (Str.ofString "snobol.primitives") 565, code := Value.ref 359 } } : Obj)) ::
  (nat_lit 361, ({ cls := Value.type "tuple", data := Data.seq #[] } : Obj)) ::
  (nat_lit 363, ({ cls := Value.type "tuple", data := Data.seq #[Value.str (Str.ofString "subject") 684, Value.str (Str.ofString "at") 685, Value.str (Str.ofString "level") 686] } : Obj)) ::
  (nat_lit 364, ({ cls := Value.type "tuple", data := Data.seq #[] } : Obj)) ::
  (nat_lit 366, ({ cls := Value.type "code", data := Data.fields #[Value.str (Str.ofString "bal_end") 681, Value.str (Str.ofString "bal_end") 682, Value.str (Str.ofString "/claim/cut.py") 683, Value.int 187 0, Value.int 2 0, Value.int 0 0, Value.int 0 0, Value.int 3 0, Value.ref 361, Value.bool true, Value.int 181 0, Value.ref 362, Value.none, Value.ref 363, Value.ref 364, Value.ref 365, Value.int 687 0, Value.int 187 0, Value.str (Str.ofString "/claim/cut.py") 688] } : Obj)) ::
  (nat_lit 367, ({ cls := Value.type "function", data := Data.func { name := Str.ofString "bal_end", qualname := Str.ofString "bal_end", params := F367a, body := FuncBody.stmts F367b, scope := F367s, globals := 3, closure := [], defaults := Value.none, kwdefaults := Value.none, pyModule := Value.str (Str.ofString "snobol.primitives") 565, code := Value.ref 366 } } : Obj)) ::
  (nat_lit 368, ({ cls := Value.type "tuple", data := Data.seq #[] } : Obj)) ::
  (nat_lit 370, ({ cls := Value.type "tuple", data := Data.seq #[Value.str (Str.ofString "subject") 693, Value.str (Str.ofString "at") 694, Value.str (Str.ofString "found") 695, Value.str (Str.ofString "end") 696] } : Obj)) ::
  (nat_lit 371, ({ cls := Value.type "tuple", data := Data.seq #[] } : Obj)) ::
  (nat_lit 373, ({ cls := Value.type "code", data := Data.fields #[Value.str (Str.ofString "bal_ends") 690, Value.str (Str.ofString "bal_ends") 691, Value.str (Str.ofString "/claim/cut.py") 692, Value.int 200 0, Value.int 2 0, Value.int 0 0, Value.int 0 0, Value.int 3 0, Value.ref 368, Value.bool true, Value.int 181 0, Value.ref 369, Value.none, Value.ref 370, Value.ref 371, Value.ref 372, Value.int 697 0, Value.int 200 0, Value.str (Str.ofString "/claim/cut.py") 698] } : Obj)) ::
  (nat_lit 374, ({ cls := Value.type "function", data := Data.func { name := Str.ofString "bal_ends", qualname := Str.ofString "bal_ends", params := F374a, body := FuncBody.stmts F374b, scope := F374s, globals := 3, closure := [], defaults := Value.none, kwdefaults := Value.none, pyModule := Value.str (Str.ofString "snobol.primitives") 565, code := Value.ref 373 } } : Obj)) ::
  (nat_lit 375, ({ cls := Value.type "tuple", data := Data.seq #[] } : Obj)) ::
  (nat_lit 377, ({ cls := Value.type "tuple", data := Data.seq #[Value.str (Str.ofString "kind") 703, Value.str (Str.ofString "subject") 704, Value.str (Str.ofString "at") 705, Value.str (Str.ofString "told") 706] } : Obj)) ::
  (nat_lit 378, ({ cls := Value.type "tuple", data := Data.seq #[] } : Obj)) ::
  (nat_lit 380, ({ cls := Value.type "code", data := Data.fields #[Value.str (Str.ofString "one_end") 700, Value.str (Str.ofString "one_end") 701, Value.str (Str.ofString "/claim/cut.py") 702, Value.int 206 0, Value.int 4 0, Value.int 0 0, Value.int 0 0, Value.int 3 0, Value.ref 375, Value.bool true, Value.int 181 0, Value.ref 376, Value.none, Value.ref 377, Value.ref 378, Value.ref 379, Value.int 707 0, Value.int 206 0, Value.str (Str.ofString "/claim/cut.py") 708] } : Obj)) ::
  (nat_lit 381, ({ cls := Value.type "function", data := Data.func { name := Str.ofString "one_end", qualname := Str.ofString "one_end", params := F381a, body := FuncBody.stmts F381b, scope := F381s, globals := 3, closure := [], defaults := Value.none, kwdefaults := Value.none, pyModule := Value.str (Str.ofString "snobol.primitives") 565, code := Value.ref 380 } } : Obj)) ::
  (nat_lit 382, ({ cls := Value.type "tuple", data := Data.seq #[] } : Obj)) ::
  (nat_lit 384, ({ cls := Value.type "tuple", data := Data.seq #[Value.str (Str.ofString "node") 713, Value.str (Str.ofString "subject") 714, Value.str (Str.ofString "at") 715] } : Obj)) ::
  (nat_lit 385, ({ cls := Value.type "tuple", data := Data.seq #[] } : Obj)) ::
  (nat_lit 387, ({ cls := Value.type "code", data := Data.fields #[Value.str (Str.ofString "plain_end") 710, Value.str (Str.ofString "plain_end") 711, Value.str (Str.ofString "/claim/cut.py") 712, Value.int 226 0, Value.int 3 0, Value.int 0 0, Value.int 0 0, Value.int 3 0, Value.ref 382, Value.bool true, Value.int 181 0, Value.ref 383, Value.none, Value.ref 384, Value.ref 385, Value.ref 386, Value.int 716 0, Value.int 226 0, Value.str (Str.ofString "/claim/cut.py") 717] } : Obj)) ::
  (nat_lit 388, ({ cls := Value.type "function", data := Data.func { name := Str.ofString "plain_end", qualname := Str.ofString "plain_end", params := F388a, body := FuncBody.stmts F388b, scope := F388s, globals := 3, closure := [], defaults := Value.none, kwdefaults := Value.none, pyModule := Value.str (Str.ofString "snobol.primitives") 565, code := Value.ref 387 } } : Obj)) ::
  (nat_lit 389, ({ cls := Value.type "tuple", data := Data.seq #[] } : Obj)) ::
  (nat_lit 391, ({ cls := Value.type "tuple", data := Data.seq #[Value.str (Str.ofString "node") 726, Value.str (Str.ofString "subject") 727, Value.str (Str.ofString "is_anchored") 728, Value.str (Str.ofString "host") 729, Value.str (Str.ofString "begin") 730, Value.str (Str.ofString "found") 731] } : Obj)) ::
  (nat_lit 392, ({ cls := Value.type "tuple", data := Data.seq #[] } : Obj)) ::
  (nat_lit 394, ({ cls := Value.type "code", data := Data.fields #[Value.str (Str.ofString "match_plain") 723, Value.str (Str.ofString "match_plain") 724, Value.str (Str.ofString "/claim/cut.py") 725, Value.int 230 0, Value.int 4 0, Value.int 0 0, Value.int 0 0, Value.int 3 0, Value.ref 389, Value.bool true, Value.int 181 0, Value.ref 390, Value.none, Value.ref 391, Value.ref 392, Value.ref 393, Value.int 732 0, Value.int 230 0, Value.str (Str.ofString "/claim/cut.py") 733] } : Obj)) ::
  (nat_lit 395, ({ cls := Value.type "function", data := Data.func { name := Str.ofString "match_plain", qualname := Str.ofString "match_plain", params := F395a, body := FuncBody.stmts F395b, scope := F395s, globals := 3, closure := [], defaults := Value.none, kwdefaults := Value.none, pyModule := Value.str (Str.ofString "snobol.trial") 719, code := Value.ref 394 } } : Obj)) ::
  (nat_lit 396, ({ cls := Value.type "tuple", data := Data.seq #[] } : Obj)) ::
  (nat_lit 398, ({ cls := Value.type "tuple", data := Data.seq #[Value.str (Str.ofString "node") 738, Value.str (Str.ofString "subject") 739, Value.str (Str.ofString "begin") 740, Value.str (Str.ofString "host") 741, Value.str (Str.ofString "found") 742] } : Obj)) ::
  (nat_lit 399, ({ cls := Value.type "tuple", data := Data.seq #[] } : Obj)) ::
  (nat_lit 401, ({ cls := Value.type "code", data := Data.fields #[Value.str (Str.ofString "match_at") 735, Value.str (Str.ofString "match_at") 736, Value.str (Str.ofString "/claim/cut.py") 737, Value.int 236 0, Value.int 4 0, Value.int 0 0, Value.int 0 0, Value.int 3 0, Value.ref 396, Value.bool true, Value.int 181 0, Value.ref 397, Value.none, Value.ref 398, Value.ref 399, Value.ref 400, Value.int 743 0, Value.int 236 0, Value.str (Str.ofString "/claim/cut.py") 744] } : Obj)) ::
  (nat_lit 402, ({ cls := Value.type "function", data := Data.func { name := Str.ofString "match_at", qualname := Str.ofString "match_at", params := F402a, body := FuncBody.stmts F402b, scope := F402s, globals := 3, closure := [], defaults := Value.none, kwdefaults := Value.none, pyModule := Value.str (Str.ofString "snobol.trial") 719, code := Value.ref 401 } } : Obj)) ::
  (nat_lit 403, ({ cls := Value.type "tuple", data := Data.seq #[] } : Obj)) ::
  (nat_lit 405, ({ cls := Value.type "tuple", data := Data.seq #[Value.str (Str.ofString "node") 749, Value.str (Str.ofString "subject") 750, Value.str (Str.ofString "begin") 751, Value.str (Str.ofString "host") 752, Value.str (Str.ofString "pile") 753, Value.str (Str.ofString "way") 754, Value.str (Str.ofString "chain") 755, Value.str (Str.ofString "at") 756, Value.str (Str.ofString "named") 757] } : Obj)) ::
  (nat_lit 406, ({ cls := Value.type "tuple", data := Data.seq #[] } : Obj)) ::
  (nat_lit 408, ({ cls := Value.type "code", data := Data.fields #[Value.str (Str.ofString "tried") 746, Value.str (Str.ofString "tried") 747, Value.str (Str.ofString "/claim/cut.py") 748, Value.int 239 0, Value.int 4 0, Value.int 0 0, Value.int 0 0, Value.int 3 0, Value.ref 403, Value.bool true, Value.int 181 0, Value.ref 404, Value.none, Value.ref 405, Value.ref 406, Value.ref 407, Value.int 758 0, Value.int 239 0, Value.str (Str.ofString "/claim/cut.py") 759] } : Obj)) ::
  (nat_lit 409, ({ cls := Value.type "function", data := Data.func { name := Str.ofString "tried", qualname := Str.ofString "tried", params := F409a, body := FuncBody.stmts F409b, scope := F409s, globals := 3, closure := [], defaults := Value.none, kwdefaults := Value.none, pyModule := Value.str (Str.ofString "snobol.trial") 719, code := Value.ref 408 } } : Obj)) ::
  (nat_lit 410, ({ cls := Value.type "tuple", data := Data.seq #[] } : Obj)) ::
  (nat_lit 412, ({ cls := Value.type "tuple", data := Data.seq #[Value.str (Str.ofString "chain") 764, Value.str (Str.ofString "at") 765, Value.str (Str.ofString "named") 766, Value.str (Str.ofString "subject") 767, Value.str (Str.ofString "pile") 768, Value.str (Str.ofString "host") 769, Value.str (Str.ofString "here") 770, Value.str (Str.ofString "rest") 771, Value.str (Str.ofString "kind") 772, Value.str (Str.ofString "value") 773] } : Obj)) ::
  (nat_lit 413, ({ cls := Value.type "tuple", data := Data.seq #[] } : Obj)) ::
  (nat_lit 415, ({ cls := Value.type "code", data := Data.fields #[Value.str (Str.ofString "advanced") 761, Value.str (Str.ofString "advanced") 762, Value.str (Str.ofString "/claim/cut.py") 763, Value.int 257 0, Value.int 6 0, Value.int 0 0, Value.int 0 0, Value.int 3 0, Value.ref 410, Value.bool true, Value.int 181 0, Value.ref 411, Value.none, Value.ref 412, Value.ref 413, Value.ref 414, Value.int 774 0, Value.int 257 0, Value.str (Str.ofString "/claim/cut.py") 775] } : Obj)) ::
  (nat_lit 416, ({ cls := Value.type "function", data := Data.func { name := Str.ofString "advanced", qualname := Str.ofString "advanced", params := F416a, body := FuncBody.stmts F416b, scope := F416s, globals := 3, closure := [], defaults := Value.none, kwdefaults := Value.none, pyModule := Value.str (Str.ofString "snobol.trial") 719, code := Value.ref 415 } } : Obj)) ::
  (nat_lit 417, ({ cls := Value.type "tuple", data := Data.seq #[] } : Obj)) ::
  (nat_lit 419, ({ cls := Value.type "tuple", data := Data.seq #[Value.str (Str.ofString "here") 780, Value.str (Str.ofString "rest") 781, Value.str (Str.ofString "at") 782, Value.str (Str.ofString "named") 783, Value.str (Str.ofString "pile") 784, Value.str (Str.ofString "kind") 785] } : Obj)) ::
  (nat_lit 420, ({ cls := Value.type "tuple", data := Data.seq #[] } : Obj)) ::
  (nat_lit 422, ({ cls := Value.type "code", data := Data.fields #[Value.str (Str.ofString "led_in") 777, Value.str (Str.ofString "led_in") 778, Value.str (Str.ofString "/claim/cut.py") 779, Value.int 272 0, Value.int 5 0, Value.int 0 0, Value.int 0 0, Value.int 3 0, Value.ref 417, Value.bool true, Value.int 181 0, Value.ref 418, Value.none, Value.ref 419, Value.ref 420, Value.ref 421, Value.int 786 0, Value.int 272 0, Value.str (Str.ofString "/claim/cut.py") 787] } : Obj)) ::
  (nat_lit 423, ({ cls := Value.type "function", data := Data.func { name := Str.ofString "led_in", qualname := Str.ofString "led_in", params := F423a, body := FuncBody.stmts F423b, scope := F423s, globals := 3, closure := [], defaults := Value.none, kwdefaults := Value.none, pyModule := Value.str (Str.ofString "snobol.trial") 719, code := Value.ref 422 } } : Obj)) ::
  (nat_lit 424, ({ cls := Value.type "tuple", data := Data.seq #[] } : Obj)) ::
  (nat_lit 426, ({ cls := Value.type "tuple", data := Data.seq #[Value.str (Str.ofString "here") 792, Value.str (Str.ofString "rest") 793, Value.str (Str.ofString "at") 794, Value.str (Str.ofString "named") 795, Value.str (Str.ofString "subject") 796, Value.str (Str.ofString "pile") 797, Value.str (Str.ofString "host") 798, Value.str (Str.ofString "kind") 799, Value.str (Str.ofString "told") 800, Value.str (Str.ofString "begin") 801] } : Obj)) ::
  (nat_lit 427, ({ cls := Value.type "tuple", data := Data.seq #[] } : Obj)) ::
  (nat_lit 429, ({ cls := Value.type "code", data := Data.fields #[Value.str (Str.ofString "led_out") 789, Value.str (Str.ofString "led_out") 790, Value.str (Str.ofString "/claim/cut.py") 791, Value.int 283 0, Value.int 7 0, Value.int 0 0, Value.int 0 0, Value.int 3 0, Value.ref 424, Value.bool true, Value.int 181 0, Value.ref 425, Value.none, Value.ref 426, Value.ref 427, Value.ref 428, Value.int 802 0, Value.int 283 0, Value.str (Str.ofString "/claim/cut.py") 803] } : Obj)) ::
  (nat_lit 430, ({ cls := Value.type "function", data := Data.func { name := Str.ofString "led_out", qualname := Str.ofString "led_out", params := F430a, body := FuncBody.stmts F430b, scope := F430s, globals := 3, closure := [], defaults := Value.none, kwdefaults := Value.none, pyModule := Value.str (Str.ofString "snobol.trial") 719, code := Value.ref 429 } } : Obj)) ::
  (nat_lit 431, ({ cls := Value.type "tuple", data := Data.seq #[] } : Obj)) ::
  (nat_lit 433, ({ cls := Value.type "tuple", data := Data.seq #[Value.str (Str.ofString "chain") 808, Value.str (Str.ofString "at") 809, Value.str (Str.ofString "named") 810, Value.str (Str.ofString "pile") 811, Value.str (Str.ofString "kind") 812, Value.str (Str.ofString "rest") 813] } : Obj)) ::
  (nat_lit 434, ({ cls := Value.type "tuple", data := Data.seq #[] } : Obj)) ::
  (nat_lit 436, ({ cls := Value.type "code", data := Data.fields #[Value.str (Str.ofString "steered") 805, Value.str (Str.ofString "steered") 806, Value.str (Str.ofString "/claim/cut.py") 807, Value.int 290 0, Value.int 4 0, Value.int 0 0, Value.int 0 0, Value.int 3 0, Value.ref 431, Value.bool true, Value.int 181 0, Value.ref 432, Value.none, Value.ref 433, Value.ref 434, Value.ref 435, Value.int 814 0, Value.int 290 0, Value.str (Str.ofString "/claim/cut.py") 815] } : Obj)) ::
  (nat_lit 437, ({ cls := Value.type "function", data := Data.func { name := Str.ofString "steered", qualname := Str.ofString "steered", params := F437a, body := FuncBody.stmts F437b, scope := F437s, globals := 3, closure := [], defaults := Value.none, kwdefaults := Value.none, pyModule := Value.str (Str.ofString "snobol.trial") 719, code := Value.ref 436 } } : Obj)) ::
  (nat_lit 438, ({ cls := Value.type "tuple", data := Data.seq #[] } : Obj)) ::
  (nat_lit 440, ({ cls := Value.type "tuple", data := Data.seq #[Value.str (Str.ofString "here") 820, Value.str (Str.ofString "rest") 821, Value.str (Str.ofString "at") 822, Value.str (Str.ofString "named") 823, Value.str (Str.ofString "subject") 824, Value.str (Str.ofString "pile") 825, Value.str (Str.ofString "host") 826, Value.str (Str.ofString "kind") 827, Value.str (Str.ofString "ends") 828, Value.str (Str.ofString "end") 829, Value.str (Str.ofString "plain") 830] } : Obj)) ::
  (nat_lit 441, ({ cls := Value.type "tuple", data := Data.seq #[] } : Obj)) ::
  (nat_lit 443, ({ cls := Value.type "code", data := Data.fields #[Value.str (Str.ofString "taken") 817, Value.str (Str.ofString "taken") 818, Value.str (Str.ofString "/claim/cut.py") 819, Value.int 298 0, Value.int 7 0, Value.int 0 0, Value.int 0 0, Value.int 3 0, Value.ref 438, Value.bool true, Value.int 181 0, Value.ref 439, Value.none, Value.ref 440, Value.ref 441, Value.ref 442, Value.int 831 0, Value.int 298 0, Value.str (Str.ofString "/claim/cut.py") 832] } : Obj)) ::
  (nat_lit 444, ({ cls := Value.type "function", data := Data.func { name := Str.ofString "taken", qualname := Str.ofString "taken", params := F444a, body := FuncBody.stmts F444b, scope := F444s, globals := 3, closure := [], defaults := Value.none, kwdefaults := Value.none, pyModule := Value.str (Str.ofString "snobol.trial") 719, code := Value.ref 443 } } : Obj)) ::
  (nat_lit 452, ({ cls := Value.type "tuple", data := Data.seq #[Value.int 32 848, Value.int 5000 849, Value.int 30 850, Value.int 5000 851] } : Obj)) ::
  (nat_lit 453, ({ cls := Value.type "tuple", data := Data.seq #[] } : Obj)) ::
  (nat_lit 455, ({ cls := Value.type "tuple", data := Data.seq #[Value.str (Str.ofString "self") 855, Value.str (Str.ofString "width") 856, Value.str (Str.ofString "most_steps") 857, Value.str (Str.ofString "most_depth") 858, Value.str (Str.ofString "most_length") 859] } : Obj)) ::
  (nat_lit 456, ({ cls := Value.type "tuple", data := Data.seq #[] } : Obj)) ::
  (nat_lit 458, ({ cls := Value.type "code", data := Data.fields #[Value.str (Str.ofString "__init__") 852, Value.str (Str.ofString "World.__init__") 853, Value.str (Str.ofString "/claim/cut.py") 854, Value.int 317 0, Value.int 5 0, Value.int 0 0, Value.int 0 0, Value.int 3 0, Value.ref 453, Value.bool true, Value.int 181 0, Value.ref 454, Value.none, Value.ref 455, Value.ref 456, Value.ref 457, Value.int 860 0, Value.int 317 0, Value.str (Str.ofString "/claim/cut.py") 861] } : Obj)) ::
  (nat_lit 459, ({ cls := Value.type "function", data := Data.func { name := Str.ofString "__init__", qualname := Str.ofString "World.__init__", params := F459a, body := FuncBody.stmts F459b, scope := F459s, globals := 3, closure := [], defaults := Value.ref 452, kwdefaults := Value.none, pyModule := Value.str (Str.ofString "snobol.world") 834, code := Value.ref 458 } } : Obj)) ::
  (nat_lit 460, ({ cls := Value.type "tuple", data := Data.seq #[Value.str (Str.ofString "aside") 863, Value.str (Str.ofString "depth") 864, Value.str (Str.ofString "evaluate") 865, Value.str (Str.ofString "functions") 866, Value.str (Str.ofString "holders") 867, Value.str (Str.ofString "inputs") 868, Value.str (Str.ofString "kept_names") 869, Value.str (Str.ofString "keywords") 870, Value.str (Str.ofString "labels") 871, Value.str (Str.ofString "made") 872, Value.str (Str.ofString "make_code") 873, Value.str (Str.ofString "matcher") 874, Value.str (Str.ofString "most_depth") 875, Value.str (Str.ofString "most_items") 876, Value.str (Str.ofString "most_length") 877, Value.str (Str.ofString "most_steps") 878, Value.str (Str.ofString "nested") 879, Value.str (Str.ofString "opsyns") 880, Value.str (Str.ofString "outputs") 881, Value.str (Str.ofString "read_names") 882, Value.str (Str.ofString "steps") 883, Value.str (Str.ofString "store") 884, Value.str (Str.ofString "traced") 885, Value.str (Str.ofString "traces") 886, Value.str (Str.ofString "width") 887, Value.str (Str.ofString "write_names") 888] } : Obj)) ::
  (nat_lit 461, ({ cls := Value.type "dict", data := Data.dict #[{ hash := PyData.keyHash P (Str.ofString "__module__"), key := Value.str (Str.ofString "__module__") 843, val := Value.str (Str.ofString "snobol.world") 834 }, { hash := PyData.keyHash P (Str.ofString "__firstlineno__"), key := Value.str (Str.ofString "__firstlineno__") 847, val := Value.int 315 846 }, { hash := PyData.keyHash P (Str.ofString "__init__"), key := Value.str (Str.ofString "__init__") 862, val := Value.ref 459 }, { hash := PyData.keyHash P (Str.ofString "__static_attributes__"), key := Value.str (Str.ofString "__static_attributes__") 889, val := Value.ref 460 }, { hash := PyData.keyHash P (Str.ofString "__dict__"), key := Value.str (Str.ofString "__dict__") 891, val := Value.ref 463 }, { hash := PyData.keyHash P (Str.ofString "__weakref__"), key := Value.str (Str.ofString "__weakref__") 893, val := Value.ref 464 }, { hash := PyData.keyHash P (Str.ofString "__doc__"), key := Value.str (Str.ofString "__doc__") 894, val := Value.none }] 4 } : Obj)) ::
  (nat_lit 462, ({ cls := Value.type "type", data := Data.cls { name := Str.ofString "World", bases := [Value.type "object"], mro := [Value.ref 462, Value.type "object"], ns := 461, qualname := Str.ofString "World" }, slots := #[none, none, some (Value.str (Str.ofString "World") 836), some (Value.str (Str.ofString "World") 844), some (Value.builtin "object.__new__"), some (Value.bool true)] } : Obj)) ::
  (nat_lit 463, ({ cls := Value.type "getset_descriptor", data := Data.fields #[Value.str (Str.ofString "__dict__") 890, Value.ref 462, Value.builtin "function.__dict__", Value.builtin "function.__dict__#set"] } : Obj)) ::
  (nat_lit 464, ({ cls := Value.type "getset_descriptor", data := Data.fields #[Value.str (Str.ofString "__weakref__") 892, Value.ref 462, Value.builtin "ExceptionGroup.__weakref__", Value.none] } : Obj)) ::
  (nat_lit 467, ({ cls := Value.type "tuple", data := Data.seq #[] } : Obj)) ::
  (nat_lit 469, ({ cls := Value.type "tuple", data := Data.seq #[Value.str (Str.ofString "ring") 902, Value.str (Str.ofString "due") 903, Value.str (Str.ofString "at") 904, Value.str (Str.ofString "ahead") 905, Value.str (Str.ofString "here") 906, Value.str (Str.ofString "behind") 907] } : Obj)) ::
  (nat_lit 470, ({ cls := Value.type "tuple", data := Data.seq #[] } : Obj)) ::
  (nat_lit 472, ({ cls := Value.type "code", data := Data.fields #[Value.str (Str.ofString "_law_due") 899, Value.str (Str.ofString "_law_due") 900, Value.str (Str.ofString "/claim/cut.py") 901, Value.int 345 0, Value.int 1 0, Value.int 0 0, Value.int 0 0, Value.int 3 0, Value.ref 467, Value.bool true, Value.int 181 0, Value.ref 468, Value.none, Value.ref 469, Value.ref 470, Value.ref 471, Value.int 908 0, Value.int 345 0, Value.str (Str.ofString "/claim/cut.py") 909] } : Obj)) ::
  (nat_lit 473, ({ cls := Value.type "function", data := Data.func { name := Str.ofString "_law_due", qualname := Str.ofString "_law_due", params := F473a, body := FuncBody.stmts F473b, scope := F473s, globals := 3, closure := [], defaults := Value.none, kwdefaults := Value.none, pyModule := Value.str (Str.ofString "law_xw0308_01") 897, code := Value.ref 472 } } : Obj)) ::
  (nat_lit 474, ({ cls := Value.type "tuple", data := Data.seq #[] } : Obj)) ::
  (nat_lit 477, ({ cls := Value.type "code", data := Data.fields #[Value.str (Str.ofString "law") 911, Value.str (Str.ofString "law") 912, Value.str (Str.ofString "/claim/cut.py") 913, Value.int 351 0, Value.int 1 0, Value.int 0 0, Value.int 0 0, Value.int 3 0, Value.ref 474, Value.bool true, Value.int 181 0, Value.ref 475, Value.none, Value.none, Value.none, Value.ref 476, Value.int 914 0, Value.int 351 0, Value.str (Str.ofString "/claim/cut.py") 915] } : Obj)) ::
  (nat_lit 478, ({ cls := Value.type "function", data := Data.func { name := Str.ofString "law", qualname := Str.ofString "law", params := F478a, body := FuncBody.stmts F478b, scope := F478s, globals := 3, closure := [], defaults := Value.none, kwdefaults := Value.none, pyModule := Value.str (Str.ofString "law_xw0308_01") 897, code := Value.ref 477 } } : Obj)) :: []
set_option maxRecDepth 100000 in
set_option maxHeartbeats 8000000 in
noncomputable def K : Params → Frag := by
  refine (?f : (x : Params → Frag) → x = Kraw → Params → Frag) ?x ?h
  case f => exact fun x _ => x
  case h =>
    delta Kraw F21a F21b F21s F28a F28b F28s F35a F35b F35s F42a F42b F42s F49a F49b F49s F66a F66b F66s F100a F100b F100s F121a F121b F121s F135a F135b F135s F142a F142b F142s F149a F149b F149s F156a F156b F156s F163a F163b F163s F170a F170b F170s F177a F177b F177s F191a F191b F191s F198a F198b F198s F205a F205b F205s F212a F212b F212s F224a F224b F224s F231a F231b F231s F238a F238b F238s F248a F248b F248s F255a F255b F255s F262a F262b F262s F269a F269b F269s F276a F276b F276s F283a F283b F283s F290a F290b F290s F297a F297b F297s F304a F304b F304s F311a F311b F311s F318a F318b F318s F325a F325b F325s F332a F332b F332s F339a F339b F339s F346a F346b F346s F353a F353b F353s F360a F360b F360s F367a F367b F367s F374a F374b F374s F381a F381b F381s F388a F388b F388s F395a F395b F395s F402a F402b F402s F409a F409b F409s F416a F416b F416s F423a F423b F423s F430a F430b F430s F437a F437b F437s F444a F444b F444s F459a F459b F459s F473a F473b F473s F478a F478b F478s
    exact rfl
def as : List Addr := [nat_lit 2, nat_lit 3, nat_lit 15, nat_lit 17, nat_lit 18, nat_lit 20, nat_lit 21, nat_lit 22, nat_lit 24, nat_lit 25, nat_lit 27, nat_lit 28, nat_lit 29, nat_lit 31, nat_lit 32, nat_lit 34, nat_lit 35, nat_lit 36, nat_lit 38, nat_lit 39, nat_lit 41, nat_lit 42, nat_lit 43, nat_lit 45, nat_lit 46, nat_lit 48, nat_lit 49, nat_lit 50, nat_lit 53, nat_lit 58, nat_lit 59, nat_lit 60, nat_lit 62, nat_lit 63, nat_lit 65, nat_lit 66, nat_lit 67, nat_lit 68, nat_lit 69, nat_lit 70, nat_lit 80, nat_lit 81, nat_lit 82, nat_lit 83, nat_lit 84, nat_lit 94, nat_lit 96, nat_lit 97, nat_lit 99, nat_lit 100, nat_lit 101, nat_lit 102, nat_lit 103, nat_lit 104, nat_lit 105, nat_lit 115, nat_lit 117, nat_lit 118, nat_lit 120, nat_lit 121, nat_lit 122, nat_lit 123, nat_lit 124, nat_lit 125, nat_lit 126, nat_lit 129, nat_lit 131, nat_lit 132, nat_lit 134, nat_lit 135, nat_lit 136, nat_lit 138, nat_lit 139, nat_lit 141, nat_lit 142, nat_lit 143, nat_lit 145, nat_lit 146, nat_lit 148, nat_lit 149, nat_lit 150, nat_lit 152, nat_lit 153, nat_lit 155, nat_lit 156, nat_lit 157, nat_lit 159, nat_lit 160, nat_lit 162, nat_lit 163, nat_lit 164, nat_lit 166, nat_lit 167, nat_lit 169, nat_lit 170, nat_lit 171, nat_lit 173, nat_lit 174, nat_lit 176, nat_lit 177, nat_lit 185, nat_lit 187, nat_lit 188, nat_lit 190, nat_lit 191, nat_lit 192, nat_lit 194, nat_lit 195, nat_lit 197, nat_lit 198, nat_lit 199, nat_lit 201, nat_lit 202, nat_lit 204, nat_lit 205, nat_lit 206, nat_lit 208, nat_lit 209, nat_lit 211, nat_lit 212, nat_lit 213, nat_lit 214, nat_lit 215, nat_lit 216, nat_lit 217, nat_lit 220, nat_lit 223, nat_lit 224, nat_lit 225, nat_lit 227, nat_lit 228, nat_lit 230, nat_lit 231, nat_lit 232, nat_lit 234, nat_lit 235, nat_lit 237, nat_lit 238, nat_lit 239, nat_lit 240, nat_lit 241, nat_lit 242, nat_lit 244, nat_lit 245, nat_lit 247, nat_lit 248, nat_lit 249, nat_lit 251, nat_lit 252, nat_lit 254, nat_lit 255, nat_lit 256, nat_lit 258, nat_lit 259, nat_lit 261, nat_lit 262, nat_lit 263, nat_lit 265, nat_lit 266, nat_lit 268, nat_lit 269, nat_lit 270, nat_lit 272, nat_lit 273, nat_lit 275, nat_lit 276, nat_lit 277, nat_lit 279, nat_lit 280, nat_lit 282, nat_lit 283, nat_lit 284, nat_lit 286, nat_lit 287, nat_lit 289, nat_lit 290, nat_lit 291, nat_lit 293, nat_lit 294, nat_lit 296, nat_lit 297, nat_lit 298, nat_lit 300, nat_lit 301, nat_lit 303, nat_lit 304, nat_lit 305, nat_lit 307, nat_lit 308, nat_lit 310, nat_lit 311, nat_lit 312, nat_lit 314, nat_lit 315, nat_lit 317, nat_lit 318, nat_lit 319, nat_lit 321, nat_lit 322, nat_lit 324, nat_lit 325, nat_lit 326, nat_lit 328, nat_lit 329, nat_lit 331, nat_lit 332, nat_lit 333, nat_lit 335, nat_lit 336, nat_lit 338, nat_lit 339, nat_lit 340, nat_lit 342, nat_lit 343, nat_lit 345, nat_lit 346, nat_lit 347, nat_lit 349, nat_lit 350, nat_lit 352, nat_lit 353, nat_lit 354, nat_lit 356, nat_lit 357, nat_lit 359, nat_lit 360, nat_lit 361, nat_lit 363, nat_lit 364, nat_lit 366, nat_lit 367, nat_lit 368, nat_lit 370, nat_lit 371, nat_lit 373, nat_lit 374, nat_lit 375, nat_lit 377, nat_lit 378, nat_lit 380, nat_lit 381, nat_lit 382, nat_lit 384, nat_lit 385, nat_lit 387, nat_lit 388, nat_lit 389, nat_lit 391, nat_lit 392, nat_lit 394, nat_lit 395, nat_lit 396, nat_lit 398, nat_lit 399, nat_lit 401, nat_lit 402, nat_lit 403, nat_lit 405, nat_lit 406, nat_lit 408, nat_lit 409, nat_lit 410, nat_lit 412, nat_lit 413, nat_lit 415, nat_lit 416, nat_lit 417, nat_lit 419, nat_lit 420, nat_lit 422, nat_lit 423, nat_lit 424, nat_lit 426, nat_lit 427, nat_lit 429, nat_lit 430, nat_lit 431, nat_lit 433, nat_lit 434, nat_lit 436, nat_lit 437, nat_lit 438, nat_lit 440, nat_lit 441, nat_lit 443, nat_lit 444, nat_lit 452, nat_lit 453, nat_lit 455, nat_lit 456, nat_lit 458, nat_lit 459, nat_lit 460, nat_lit 461, nat_lit 462, nat_lit 463, nat_lit 464, nat_lit 467, nat_lit 469, nat_lit 470, nat_lit 472, nat_lit 473, nat_lit 474, nat_lit 477, nat_lit 478]
noncomputable abbrev H : Hook := kHook K as (fun _ => by kernel_rfl)
def o11 : Obj := { cls := .type "tuple", data := .seq #[] }
def o12 : Obj := { cls := .none, data := .fields #[] }
def o13 : Obj := { cls := .type "code", data := .fields #[.str "<module>" 182, .str "<module>" 183, .str "/claim/cut.py" 184, .int 1 0, .int 0 0, .int 0 0, .int 0 0, .int 0 0, .ref 11, .bool false, .int 181 0, .ref 12, .none, .none, .none, .none, .int 185 0, .int 1 0, .str "/claim/cut.py" 186] }
def o14 : Obj := { cls := .type "frame", slots := #[some (.ref 13), some (.ref 3), some (.ref 3), none, some (.str "__main__" 164), none, some (.ref 0)] }
noncomputable def tree0 (P : Params) : BT := (.node (boot_o_0 P) (.node (boot_o_1 P) (.node (boot_o_3 P) (.node (boot_o_7 P) .nil .nil) (.node (o11) .nil .nil)) (.node (boot_o_5 P) (.node (boot_o_9 P) .nil .nil) (.node (o13) .nil .nil))) (.node (boot_o_2 P) (.node (boot_o_4 P) (.node (boot_o_8 P) .nil .nil) (.node (o12) .nil .nil)) (.node (boot_o_6 P) (.node (boot_o_10 P) .nil .nil) (.node (o14) .nil .nil))))
noncomputable def v1o2 (P : Params) : Obj := { cls := Value.none, data := Data.dict #[{ hash := PyData.keyHash P (Str.ofString "type.__subclasses__.Exception.0"), key := Value.str (Str.ofString "type.__subclasses__.Exception.0") 280, val := Value.int 69 0 }, { hash := PyData.keyHash P (Str.ofString "type.__subclasses__.Exception.n"), key := Value.str (Str.ofString "type.__subclasses__.Exception.n") 281, val := Value.int 1 0 }] 2 }
noncomputable def v1o3 (P : Params) : Obj := { cls := Value.type "dict", data := Data.dict #[{ hash := PyData.keyHash P (Str.ofString "__name__"), key := Value.str (Str.ofString "__name__") 165, val := Value.str (Str.ofString "snobol.values") 248 }, { hash := PyData.keyHash P (Str.ofString "__doc__"), key := Value.str (Str.ofString "__doc__") 166, val := Value.none }, { hash := PyData.keyHash P (Str.ofString "__package__"), key := Value.str (Str.ofString "__package__") 167, val := Value.none }, { hash := PyData.keyHash P (Str.ofString "__loader__"), key := Value.str (Str.ofString "__loader__") 168, val := Value.builtin "__main__.__loader__#opaque" }, { hash := PyData.keyHash P (Str.ofString "__spec__"), key := Value.str (Str.ofString "__spec__") 169, val := Value.none }, { hash := PyData.keyHash P (Str.ofString "__annotations__"), key := Value.str (Str.ofString "__annotations__") 170, val := Value.ref 6 }, { hash := PyData.keyHash P (Str.ofString "__builtins__"), key := Value.str (Str.ofString "__builtins__") 171, val := Value.ref 4 }, { hash := PyData.keyHash P (Str.ofString "__file__"), key := Value.str (Str.ofString "__file__") 173, val := Value.str (Str.ofString "/claim/cut.py") 172 }, { hash := PyData.keyHash P (Str.ofString "__cached__"), key := Value.str (Str.ofString "__cached__") 174, val := Value.none }, { hash := PyData.keyHash P (Str.ofString "give_names"), key := Value.str (Str.ofString "give_names") 198, val := Value.ref 21 }, { hash := PyData.keyHash P (Str.ofString "three_pieces"), key := Value.str (Str.ofString "three_pieces") 206, val := Value.ref 28 }, { hash := PyData.keyHash P (Str.ofString "spliced"), key := Value.str (Str.ofString "spliced") 218, val := Value.ref 35 }, { hash := PyData.keyHash P (Str.ofString "replace_once"), key := Value.str (Str.ofString "replace_once") 232, val := Value.ref 42 }, { hash := PyData.keyHash P (Str.ofString "replace_often"), key := Value.str (Str.ofString "replace_often") 247, val := Value.ref 49 }, { hash := PyData.keyHash P (Str.ofString "SnobolError"), key := Value.str (Str.ofString "SnobolError") 283, val := Value.ref 69 }, { hash := PyData.keyHash P (Str.ofString "Failure"), key := Value.str (Str.ofString "Failure") 303, val := Value.ref 82 }] 16 }
noncomputable def v1o12 (P : Params) : Obj := { cls := Value.none, data := Data.fields #[Value.int 2 0, Value.int 0 0, Value.ref 20, Value.int 5 0, Value.int 0 0, Value.ref 27, Value.int 7 0, Value.int 0 0, Value.ref 34, Value.int 10 0, Value.int 0 0, Value.ref 41, Value.int 17 0, Value.int 0 0, Value.ref 48, Value.int 26 0, Value.int 0 0, Value.ref 56, Value.int 32 0, Value.int 0 0, Value.ref 78] }
noncomputable def v1o15 (P : Params) : Obj := { cls := Value.type "tuple", data := Data.seq #[] }
noncomputable def v1o16 (P : Params) : Obj := { cls := Value.none, data := Data.fields #[] }
noncomputable def v1o17 (P : Params) : Obj := { cls := Value.type "tuple", data := Data.seq #[Value.str (Str.ofString "found") 192, Value.str (Str.ofString "give") 193, Value.str (Str.ofString "ref") 194, Value.str (Str.ofString "text") 195] }
noncomputable def v1o18 (P : Params) : Obj := { cls := Value.type "tuple", data := Data.seq #[] }
noncomputable def v1o19 (P : Params) : Obj := { cls := Value.none, data := Data.func { name := Str.ofString "give_names", qualname := Str.ofString "give_names", params := F19a, body := FuncBody.stmts F19b, scope := F19s, globals := 0, closure := [], defaults := Value.none, kwdefaults := Value.none } }
noncomputable def v1o20 (P : Params) : Obj := { cls := Value.type "code", data := Data.fields #[Value.str (Str.ofString "give_names") 189, Value.str (Str.ofString "give_names") 190, Value.str (Str.ofString "/claim/cut.py") 191, Value.int 2 0, Value.int 2 0, Value.int 0 0, Value.int 0 0, Value.int 3 0, Value.ref 15, Value.bool true, Value.int 181 0, Value.ref 16, Value.none, Value.ref 17, Value.ref 18, Value.ref 19, Value.int 196 0, Value.int 2 0, Value.str (Str.ofString "/claim/cut.py") 197] }
noncomputable def v1o21 (P : Params) : Obj := { cls := Value.type "function", data := Data.func { name := Str.ofString "give_names", qualname := Str.ofString "give_names", params := F21a, body := FuncBody.stmts F21b, scope := F21s, globals := 3, closure := [], defaults := Value.none, kwdefaults := Value.none, pyModule := Value.str (Str.ofString "snobol.matchcore") 187, code := Value.ref 20 } }
noncomputable def v1o22 (P : Params) : Obj := { cls := Value.type "tuple", data := Data.seq #[] }
noncomputable def v1o23 (P : Params) : Obj := { cls := Value.none, data := Data.fields #[] }
noncomputable def v1o24 (P : Params) : Obj := { cls := Value.type "tuple", data := Data.seq #[Value.str (Str.ofString "subject") 202, Value.str (Str.ofString "found") 203] }
noncomputable def v1o25 (P : Params) : Obj := { cls := Value.type "tuple", data := Data.seq #[] }
noncomputable def v1o26 (P : Params) : Obj := { cls := Value.none, data := Data.func { name := Str.ofString "three_pieces", qualname := Str.ofString "three_pieces", params := F26a, body := FuncBody.stmts F26b, scope := F26s, globals := 0, closure := [], defaults := Value.none, kwdefaults := Value.none } }
noncomputable def v1o27 (P : Params) : Obj := { cls := Value.type "code", data := Data.fields #[Value.str (Str.ofString "three_pieces") 199, Value.str (Str.ofString "three_pieces") 200, Value.str (Str.ofString "/claim/cut.py") 201, Value.int 5 0, Value.int 2 0, Value.int 0 0, Value.int 0 0, Value.int 3 0, Value.ref 22, Value.bool true, Value.int 181 0, Value.ref 23, Value.none, Value.ref 24, Value.ref 25, Value.ref 26, Value.int 204 0, Value.int 5 0, Value.str (Str.ofString "/claim/cut.py") 205] }
noncomputable def v1o28 (P : Params) : Obj := { cls := Value.type "function", data := Data.func { name := Str.ofString "three_pieces", qualname := Str.ofString "three_pieces", params := F28a, body := FuncBody.stmts F28b, scope := F28s, globals := 3, closure := [], defaults := Value.none, kwdefaults := Value.none, pyModule := Value.str (Str.ofString "snobol.matchcore") 187, code := Value.ref 27 } }
noncomputable def v1o29 (P : Params) : Obj := { cls := Value.type "tuple", data := Data.seq #[] }
noncomputable def v1o30 (P : Params) : Obj := { cls := Value.none, data := Data.fields #[] }
noncomputable def v1o31 (P : Params) : Obj := { cls := Value.type "tuple", data := Data.seq #[Value.str (Str.ofString "subject") 210, Value.str (Str.ofString "found") 211, Value.str (Str.ofString "text") 212, Value.str (Str.ofString "ahead") 213, Value.str (Str.ofString "met") 214, Value.str (Str.ofString "behind") 215] }
noncomputable def v1o32 (P : Params) : Obj := { cls := Value.type "tuple", data := Data.seq #[] }
noncomputable def v1o33 (P : Params) : Obj := { cls := Value.none, data := Data.func { name := Str.ofString "spliced", qualname := Str.ofString "spliced", params := F33a, body := FuncBody.stmts F33b, scope := F33s, globals := 0, closure := [], defaults := Value.none, kwdefaults := Value.none } }
noncomputable def v1o34 (P : Params) : Obj := { cls := Value.type "code", data := Data.fields #[Value.str (Str.ofString "spliced") 207, Value.str (Str.ofString "spliced") 208, Value.str (Str.ofString "/claim/cut.py") 209, Value.int 7 0, Value.int 3 0, Value.int 0 0, Value.int 0 0, Value.int 3 0, Value.ref 29, Value.bool true, Value.int 181 0, Value.ref 30, Value.none, Value.ref 31, Value.ref 32, Value.ref 33, Value.int 216 0, Value.int 7 0, Value.str (Str.ofString "/claim/cut.py") 217] }
noncomputable def v1o35 (P : Params) : Obj := { cls := Value.type "function", data := Data.func { name := Str.ofString "spliced", qualname := Str.ofString "spliced", params := F35a, body := FuncBody.stmts F35b, scope := F35s, globals := 3, closure := [], defaults := Value.none, kwdefaults := Value.none, pyModule := Value.str (Str.ofString "snobol.matchcore") 187, code := Value.ref 34 } }
noncomputable def v1o36 (P : Params) : Obj := { cls := Value.type "tuple", data := Data.seq #[] }
noncomputable def v1o37 (P : Params) : Obj := { cls := Value.none, data := Data.fields #[] }
noncomputable def v1o38 (P : Params) : Obj := { cls := Value.type "tuple", data := Data.seq #[Value.str (Str.ofString "matcher") 222, Value.str (Str.ofString "node") 223, Value.str (Str.ofString "subject") 224, Value.str (Str.ofString "is_anchored") 225, Value.str (Str.ofString "host") 226, Value.str (Str.ofString "text_of") 227, Value.str (Str.ofString "found") 228, Value.str (Str.ofString "text") 229] }
noncomputable def v1o39 (P : Params) : Obj := { cls := Value.type "tuple", data := Data.seq #[] }
noncomputable def v1o40 (P : Params) : Obj := { cls := Value.none, data := Data.func { name := Str.ofString "replace_once", qualname := Str.ofString "replace_once", params := F40a, body := FuncBody.stmts F40b, scope := F40s, globals := 0, closure := [], defaults := Value.none, kwdefaults := Value.none } }
noncomputable def v1o41 (P : Params) : Obj := { cls := Value.type "code", data := Data.fields #[Value.str (Str.ofString "replace_once") 219, Value.str (Str.ofString "replace_once") 220, Value.str (Str.ofString "/claim/cut.py") 221, Value.int 10 0, Value.int 6 0, Value.int 0 0, Value.int 0 0, Value.int 3 0, Value.ref 36, Value.bool true, Value.int 181 0, Value.ref 37, Value.none, Value.ref 38, Value.ref 39, Value.ref 40, Value.int 230 0, Value.int 10 0, Value.str (Str.ofString "/claim/cut.py") 231] }
noncomputable def v1o42 (P : Params) : Obj := { cls := Value.type "function", data := Data.func { name := Str.ofString "replace_once", qualname := Str.ofString "replace_once", params := F42a, body := FuncBody.stmts F42b, scope := F42s, globals := 3, closure := [], defaults := Value.none, kwdefaults := Value.none, pyModule := Value.str (Str.ofString "snobol.matchcore") 187, code := Value.ref 41 } }
noncomputable def v1o43 (P : Params) : Obj := { cls := Value.type "tuple", data := Data.seq #[] }
noncomputable def v1o44 (P : Params) : Obj := { cls := Value.none, data := Data.fields #[] }
noncomputable def v1o45 (P : Params) : Obj := { cls := Value.type "tuple", data := Data.seq #[Value.str (Str.ofString "matcher") 236, Value.str (Str.ofString "node") 237, Value.str (Str.ofString "subject") 238, Value.str (Str.ofString "is_anchored") 239, Value.str (Str.ofString "host") 240, Value.str (Str.ofString "text_of") 241, Value.str (Str.ofString "most") 242, Value.str (Str.ofString "many") 243, Value.str (Str.ofString "later") 244] }
noncomputable def v1o46 (P : Params) : Obj := { cls := Value.type "tuple", data := Data.seq #[] }
noncomputable def v1o47 (P : Params) : Obj := { cls := Value.none, data := Data.func { name := Str.ofString "replace_often", qualname := Str.ofString "replace_often", params := F47a, body := FuncBody.stmts F47b, scope := F47s, globals := 0, closure := [], defaults := Value.none, kwdefaults := Value.none } }
noncomputable def v1o48 (P : Params) : Obj := { cls := Value.type "code", data := Data.fields #[Value.str (Str.ofString "replace_often") 233, Value.str (Str.ofString "replace_often") 234, Value.str (Str.ofString "/claim/cut.py") 235, Value.int 17 0, Value.int 7 0, Value.int 0 0, Value.int 0 0, Value.int 3 0, Value.ref 43, Value.bool true, Value.int 181 0, Value.ref 44, Value.none, Value.ref 45, Value.ref 46, Value.ref 47, Value.int 245 0, Value.int 17 0, Value.str (Str.ofString "/claim/cut.py") 246] }
noncomputable def v1o49 (P : Params) : Obj := { cls := Value.type "function", data := Data.func { name := Str.ofString "replace_often", qualname := Str.ofString "replace_often", params := F49a, body := FuncBody.stmts F49b, scope := F49s, globals := 3, closure := [], defaults := Value.none, kwdefaults := Value.none, pyModule := Value.str (Str.ofString "snobol.matchcore") 187, code := Value.ref 48 } }
noncomputable def v1o50 (P : Params) : Obj := { cls := Value.type "tuple", data := Data.seq #[Value.type "Exception"] }
noncomputable def v1o51 (P : Params) : Obj := { cls := Value.type "builtin_function_or_method", data := Data.fields #[Value.builtin "type.__prepare__", Value.type "type"] }
noncomputable def v1o52 (P : Params) : Obj := { cls := Value.type "dict", data := Data.dict #[{ hash := PyData.keyHash P (Str.ofString "__module__"), key := Value.str (Str.ofString "__module__") 257, val := Value.str (Str.ofString "snobol.values") 248 }, { hash := PyData.keyHash P (Str.ofString "__qualname__"), key := Value.str (Str.ofString "__qualname__") 259, val := Value.str (Str.ofString "SnobolError") 258 }, { hash := PyData.keyHash P (Str.ofString "__firstlineno__"), key := Value.str (Str.ofString "__firstlineno__") 261, val := Value.int 26 260 }, { hash := PyData.keyHash P (Str.ofString "__init__"), key := Value.str (Str.ofString "__init__") 272, val := Value.ref 66 }, { hash := PyData.keyHash P (Str.ofString "__static_attributes__"), key := Value.str (Str.ofString "__static_attributes__") 275, val := Value.ref 67 }, { hash := PyData.keyHash P (Str.ofString "__classcell__"), key := Value.str (Str.ofString "__classcell__") 276, val := Value.ref 53 }] 6 }
noncomputable def v1o53 (P : Params) : Obj := { cls := Value.type "cell", data := Data.cell (some (Value.ref 69)) }
noncomputable def v1o54 (P : Params) : Obj := { cls := Value.type "tuple", data := Data.seq #[] }
noncomputable def v1o55 (P : Params) : Obj := { cls := Value.none, data := Data.fields #[Value.int 28 0, Value.int 4 0, Value.ref 65] }
noncomputable def v1o56 (P : Params) : Obj := { cls := Value.type "code", data := Data.fields #[Value.str (Str.ofString "SnobolError") 252, Value.str (Str.ofString "SnobolError") 253, Value.str (Str.ofString "/claim/cut.py") 254, Value.int 26 0, Value.int 0 0, Value.int 0 0, Value.int 0 0, Value.int 0 0, Value.ref 54, Value.bool false, Value.int 181 0, Value.ref 55, Value.none, Value.none, Value.none, Value.none, Value.int 255 0, Value.int 26 0, Value.str (Str.ofString "/claim/cut.py") 256] }
noncomputable def v1o57 (P : Params) : Obj := { cls := Value.type "frame", slots := #[some (Value.ref 56), some (Value.ref 3), some (Value.ref 52), none, some (Value.str (Str.ofString "snobol.values") 248), none, some (Value.ref 0)] }
noncomputable def v1o58 (P : Params) : Obj := { cls := Value.type "tuple", data := Data.seq #[Value.str (Str.ofString "") 262] }
noncomputable def v1o59 (P : Params) : Obj := { cls := Value.type "tuple", data := Data.seq #[Value.ref 53] }
noncomputable def v1o60 (P : Params) : Obj := { cls := Value.type "tuple", data := Data.seq #[Value.str (Str.ofString "__class__") 266] }
noncomputable def v1o61 (P : Params) : Obj := { cls := Value.none, data := Data.fields #[] }
noncomputable def v1o62 (P : Params) : Obj := { cls := Value.type "tuple", data := Data.seq #[Value.str (Str.ofString "self") 267, Value.str (Str.ofString "number") 268, Value.str (Str.ofString "told") 269] }
noncomputable def v1o63 (P : Params) : Obj := { cls := Value.type "tuple", data := Data.seq #[] }
noncomputable def v1o64 (P : Params) : Obj := { cls := Value.none, data := Data.func { name := Str.ofString "__init__", qualname := Str.ofString "SnobolError.__init__", params := F64a, body := FuncBody.stmts F64b, scope := F64s, globals := 0, closure := [], defaults := Value.none, kwdefaults := Value.none } }
noncomputable def v1o65 (P : Params) : Obj := { cls := Value.type "code", data := Data.fields #[Value.str (Str.ofString "__init__") 263, Value.str (Str.ofString "SnobolError.__init__") 264, Value.str (Str.ofString "/claim/cut.py") 265, Value.int 28 0, Value.int 3 0, Value.int 0 0, Value.int 0 0, Value.int 3 0, Value.ref 60, Value.bool true, Value.int 181 0, Value.ref 61, Value.none, Value.ref 62, Value.ref 63, Value.ref 64, Value.int 270 0, Value.int 28 0, Value.str (Str.ofString "/claim/cut.py") 271] }
noncomputable def v1o66 (P : Params) : Obj := { cls := Value.type "function", data := Data.func { name := Str.ofString "__init__", qualname := Str.ofString "SnobolError.__init__", params := F66a, body := FuncBody.stmts F66b, scope := F66s, globals := 3, closure := [(Str.ofString "__class__", 53)], defaults := Value.ref 58, kwdefaults := Value.none, pyModule := Value.str (Str.ofString "snobol.values") 248, code := Value.ref 65, closureTuple := Value.ref 59 } }
noncomputable def v1o67 (P : Params) : Obj := { cls := Value.type "tuple", data := Data.seq #[Value.str (Str.ofString "number") 273, Value.str (Str.ofString "told") 274] }
noncomputable def v1o68 (P : Params) : Obj := { cls := Value.type "dict", data := Data.dict #[{ hash := PyData.keyHash P (Str.ofString "__module__"), key := Value.str (Str.ofString "__module__") 257, val := Value.str (Str.ofString "snobol.values") 248 }, { hash := PyData.keyHash P (Str.ofString "__firstlineno__"), key := Value.str (Str.ofString "__firstlineno__") 261, val := Value.int 26 260 }, { hash := PyData.keyHash P (Str.ofString "__init__"), key := Value.str (Str.ofString "__init__") 272, val := Value.ref 66 }, { hash := PyData.keyHash P (Str.ofString "__static_attributes__"), key := Value.str (Str.ofString "__static_attributes__") 275, val := Value.ref 67 }, { hash := PyData.keyHash P (Str.ofString "__weakref__"), key := Value.str (Str.ofString "__weakref__") 278, val := Value.ref 70 }, { hash := PyData.keyHash P (Str.ofString "__doc__"), key := Value.str (Str.ofString "__doc__") 279, val := Value.none }] 4 }
noncomputable def v1o69 (P : Params) : Obj := { cls := Value.type "type", data := Data.cls { name := Str.ofString "SnobolError", bases := [Value.type "Exception"], mro := [Value.ref 69, Value.type "Exception", Value.type "BaseException", Value.type "object"], ns := 68, qualname := Str.ofString "SnobolError" }, slots := #[some (Value.ref 50), none, some (Value.str (Str.ofString "SnobolError") 250), some (Value.str (Str.ofString "SnobolError") 258), some (Value.builtin "Exception.__new__"), some (Value.bool true)] }
noncomputable def v1o70 (P : Params) : Obj := { cls := Value.type "getset_descriptor", data := Data.fields #[Value.str (Str.ofString "__weakref__") 277, Value.ref 69, Value.builtin "ExceptionGroup.__weakref__", Value.none] }
noncomputable def v1o71 (P : Params) : Obj := { cls := Value.type "super", data := Data.fields #[Value.ref 69, Value.ref 69, Value.ref 69] }
noncomputable def v1o72 (P : Params) : Obj := { cls := Value.type "builtin_function_or_method", data := Data.fields #[Value.builtin "object.__init_subclass__", Value.ref 69] }
noncomputable def v1o73 (P : Params) : Obj := { cls := Value.type "tuple", data := Data.seq #[] }
noncomputable def v1o74 (P : Params) : Obj := { cls := Value.type "builtin_function_or_method", data := Data.fields #[Value.builtin "type.__prepare__", Value.type "type"] }
noncomputable def v1o75 (P : Params) : Obj := { cls := Value.type "dict", data := Data.dict #[{ hash := PyData.keyHash P (Str.ofString "__module__"), key := Value.str (Str.ofString "__module__") 291, val := Value.str (Str.ofString "snobol.values") 248 }, { hash := PyData.keyHash P (Str.ofString "__qualname__"), key := Value.str (Str.ofString "__qualname__") 293, val := Value.str (Str.ofString "Failure") 292 }, { hash := PyData.keyHash P (Str.ofString "__firstlineno__"), key := Value.str (Str.ofString "__firstlineno__") 295, val := Value.int 32 294 }, { hash := PyData.keyHash P (Str.ofString "__static_attributes__"), key := Value.str (Str.ofString "__static_attributes__") 296, val := Value.ref 80 }] 4 }
noncomputable def v1o76 (P : Params) : Obj := { cls := Value.type "tuple", data := Data.seq #[] }
noncomputable def v1o77 (P : Params) : Obj := { cls := Value.none, data := Data.fields #[] }
noncomputable def v1o78 (P : Params) : Obj := { cls := Value.type "code", data := Data.fields #[Value.str (Str.ofString "Failure") 286, Value.str (Str.ofString "Failure") 287, Value.str (Str.ofString "/claim/cut.py") 288, Value.int 32 0, Value.int 0 0, Value.int 0 0, Value.int 0 0, Value.int 0 0, Value.ref 76, Value.bool false, Value.int 181 0, Value.ref 77, Value.none, Value.none, Value.none, Value.none, Value.int 289 0, Value.int 32 0, Value.str (Str.ofString "/claim/cut.py") 290] }
noncomputable def v1o79 (P : Params) : Obj := { cls := Value.type "frame", slots := #[some (Value.ref 78), some (Value.ref 3), some (Value.ref 75), none, some (Value.str (Str.ofString "snobol.values") 248), none, some (Value.ref 0)] }
noncomputable def v1o80 (P : Params) : Obj := { cls := Value.type "tuple", data := Data.seq #[] }
noncomputable def v1o81 (P : Params) : Obj := { cls := Value.type "dict", data := Data.dict #[{ hash := PyData.keyHash P (Str.ofString "__module__"), key := Value.str (Str.ofString "__module__") 291, val := Value.str (Str.ofString "snobol.values") 248 }, { hash := PyData.keyHash P (Str.ofString "__firstlineno__"), key := Value.str (Str.ofString "__firstlineno__") 295, val := Value.int 32 294 }, { hash := PyData.keyHash P (Str.ofString "__static_attributes__"), key := Value.str (Str.ofString "__static_attributes__") 296, val := Value.ref 80 }, { hash := PyData.keyHash P (Str.ofString "__dict__"), key := Value.str (Str.ofString "__dict__") 298, val := Value.ref 83 }, { hash := PyData.keyHash P (Str.ofString "__weakref__"), key := Value.str (Str.ofString "__weakref__") 300, val := Value.ref 84 }, { hash := PyData.keyHash P (Str.ofString "__doc__"), key := Value.str (Str.ofString "__doc__") 301, val := Value.none }] 4 }
noncomputable def v1o82 (P : Params) : Obj := { cls := Value.type "type", data := Data.cls { name := Str.ofString "Failure", bases := [Value.type "object"], mro := [Value.ref 82, Value.type "object"], ns := 81, qualname := Str.ofString "Failure" }, slots := #[none, none, some (Value.str (Str.ofString "Failure") 284), some (Value.str (Str.ofString "Failure") 292), some (Value.builtin "object.__new__"), some (Value.bool true)] }
noncomputable def v1o83 (P : Params) : Obj := { cls := Value.type "getset_descriptor", data := Data.fields #[Value.str (Str.ofString "__dict__") 297, Value.ref 82, Value.builtin "function.__dict__", Value.builtin "function.__dict__#set"] }
noncomputable def v1o84 (P : Params) : Obj := { cls := Value.type "getset_descriptor", data := Data.fields #[Value.str (Str.ofString "__weakref__") 299, Value.ref 82, Value.builtin "ExceptionGroup.__weakref__", Value.none] }
noncomputable def v1o85 (P : Params) : Obj := { cls := Value.type "super", data := Data.fields #[Value.ref 82, Value.ref 82, Value.ref 82] }
noncomputable def v1o86 (P : Params) : Obj := { cls := Value.type "builtin_function_or_method", data := Data.fields #[Value.builtin "object.__init_subclass__", Value.ref 82] }
set_option maxRecDepth 100000 in
noncomputable def tree1 (P : Params) : BT := (.node (boot_o_0 P) (.node (boot_o_1 P) (.node (v1o3 P) (.node (boot_o_7 P) (.node (v1o15 P) (.node (v1o31 P) (.node (v1o63 P) .nil .nil) .nil) (.node (v1o47 P) (.node (v1o79 P) .nil .nil) .nil)) (.node (v1o23 P) (.node (v1o39 P) (.node (v1o71 P) .nil .nil) .nil) (.node (v1o55 P) .nil .nil))) (.node (o11) (.node (v1o19 P) (.node (v1o35 P) (.node (v1o67 P) .nil .nil) .nil) (.node (v1o51 P) (.node (v1o83 P) .nil .nil) .nil)) (.node (v1o27 P) (.node (v1o43 P) (.node (v1o75 P) .nil .nil) .nil) (.node (v1o59 P) .nil .nil)))) (.node (boot_o_5 P) (.node (boot_o_9 P) (.node (v1o17 P) (.node (v1o33 P) (.node (v1o65 P) .nil .nil) .nil) (.node (v1o49 P) (.node (v1o81 P) .nil .nil) .nil)) (.node (v1o25 P) (.node (v1o41 P) (.node (v1o73 P) .nil .nil) .nil) (.node (v1o57 P) .nil .nil))) (.node (o13) (.node (v1o21 P) (.node (v1o37 P) (.node (v1o69 P) .nil .nil) .nil) (.node (v1o53 P) (.node (v1o85 P) .nil .nil) .nil)) (.node (v1o29 P) (.node (v1o45 P) (.node (v1o77 P) .nil .nil) .nil) (.node (v1o61 P) .nil .nil))))) (.node (v1o2 P) (.node (boot_o_4 P) (.node (boot_o_8 P) (.node (v1o16 P) (.node (v1o32 P) (.node (v1o64 P) .nil .nil) .nil) (.node (v1o48 P) (.node (v1o80 P) .nil .nil) .nil)) (.node (v1o24 P) (.node (v1o40 P) (.node (v1o72 P) .nil .nil) .nil) (.node (v1o56 P) .nil .nil))) (.node (v1o12 P) (.node (v1o20 P) (.node (v1o36 P) (.node (v1o68 P) .nil .nil) .nil) (.node (v1o52 P) (.node (v1o84 P) .nil .nil) .nil)) (.node (v1o28 P) (.node (v1o44 P) (.node (v1o76 P) .nil .nil) .nil) (.node (v1o60 P) .nil .nil)))) (.node (boot_o_6 P) (.node (boot_o_10 P) (.node (v1o18 P) (.node (v1o34 P) (.node (v1o66 P) .nil .nil) .nil) (.node (v1o50 P) (.node (v1o82 P) .nil .nil) .nil)) (.node (v1o26 P) (.node (v1o42 P) (.node (v1o74 P) .nil .nil) .nil) (.node (v1o58 P) .nil .nil))) (.node (o14) (.node (v1o22 P) (.node (v1o38 P) (.node (v1o70 P) .nil .nil) .nil) (.node (v1o54 P) (.node (v1o86 P) .nil .nil) .nil)) (.node (v1o30 P) (.node (v1o46 P) (.node (v1o78 P) .nil .nil) .nil) (.node (v1o62 P) .nil .nil))))))
noncomputable def v2o3 (P : Params) : Obj := { cls := Value.type "dict", data := Data.dict #[{ hash := PyData.keyHash P (Str.ofString "__name__"), key := Value.str (Str.ofString "__name__") 165, val := Value.str (Str.ofString "snobol.hosts") 420 }, { hash := PyData.keyHash P (Str.ofString "__doc__"), key := Value.str (Str.ofString "__doc__") 166, val := Value.none }, { hash := PyData.keyHash P (Str.ofString "__package__"), key := Value.str (Str.ofString "__package__") 167, val := Value.none }, { hash := PyData.keyHash P (Str.ofString "__loader__"), key := Value.str (Str.ofString "__loader__") 168, val := Value.builtin "__main__.__loader__#opaque" }, { hash := PyData.keyHash P (Str.ofString "__spec__"), key := Value.str (Str.ofString "__spec__") 169, val := Value.none }, { hash := PyData.keyHash P (Str.ofString "__annotations__"), key := Value.str (Str.ofString "__annotations__") 170, val := Value.ref 6 }, { hash := PyData.keyHash P (Str.ofString "__builtins__"), key := Value.str (Str.ofString "__builtins__") 171, val := Value.ref 4 }, { hash := PyData.keyHash P (Str.ofString "__file__"), key := Value.str (Str.ofString "__file__") 173, val := Value.str (Str.ofString "/claim/cut.py") 172 }, { hash := PyData.keyHash P (Str.ofString "__cached__"), key := Value.str (Str.ofString "__cached__") 174, val := Value.none }, { hash := PyData.keyHash P (Str.ofString "give_names"), key := Value.str (Str.ofString "give_names") 198, val := Value.ref 21 }, { hash := PyData.keyHash P (Str.ofString "three_pieces"), key := Value.str (Str.ofString "three_pieces") 206, val := Value.ref 28 }, { hash := PyData.keyHash P (Str.ofString "spliced"), key := Value.str (Str.ofString "spliced") 218, val := Value.ref 35 }, { hash := PyData.keyHash P (Str.ofString "replace_once"), key := Value.str (Str.ofString "replace_once") 232, val := Value.ref 42 }, { hash := PyData.keyHash P (Str.ofString "replace_often"), key := Value.str (Str.ofString "replace_often") 247, val := Value.ref 49 }, { hash := PyData.keyHash P (Str.ofString "SnobolError"), key := Value.str (Str.ofString "SnobolError") 283, val := Value.ref 69 }, { hash := PyData.keyHash P (Str.ofString "Failure"), key := Value.str (Str.ofString "Failure") 303, val := Value.ref 82 }, { hash := PyData.keyHash P (Str.ofString "Pattern"), key := Value.str (Str.ofString "Pattern") 332, val := Value.ref 103 }, { hash := PyData.keyHash P (Str.ofString "Delayed"), key := Value.str (Str.ofString "Delayed") 361, val := Value.ref 124 }, { hash := PyData.keyHash P (Str.ofString "is_fail"), key := Value.str (Str.ofString "is_fail") 368, val := Value.ref 135 }, { hash := PyData.keyHash P (Str.ofString "fits"), key := Value.str (Str.ofString "fits") 376, val := Value.ref 142 }, { hash := PyData.keyHash P (Str.ofString "whole_of_text"), key := Value.str (Str.ofString "whole_of_text") 387, val := Value.ref 149 }, { hash := PyData.keyHash P (Str.ofString "text_of_whole"), key := Value.str (Str.ofString "text_of_whole") 396, val := Value.ref 156 }, { hash := PyData.keyHash P (Str.ofString "to_whole"), key := Value.str (Str.ofString "to_whole") 404, val := Value.ref 163 }, { hash := PyData.keyHash P (Str.ofString "to_text"), key := Value.str (Str.ofString "to_text") 411, val := Value.ref 170 }, { hash := PyData.keyHash P (Str.ofString "need_text"), key := Value.str (Str.ofString "need_text") 419, val := Value.ref 177 }] 25 }
noncomputable def v2o12 (P : Params) : Obj := { cls := Value.none, data := Data.fields #[Value.int 2 0, Value.int 0 0, Value.ref 20, Value.int 5 0, Value.int 0 0, Value.ref 27, Value.int 7 0, Value.int 0 0, Value.ref 34, Value.int 10 0, Value.int 0 0, Value.ref 41, Value.int 17 0, Value.int 0 0, Value.ref 48, Value.int 26 0, Value.int 0 0, Value.ref 56, Value.int 32 0, Value.int 0 0, Value.ref 78, Value.int 34 0, Value.int 0 0, Value.ref 92, Value.int 38 0, Value.int 0 0, Value.ref 113, Value.int 42 0, Value.int 0 0, Value.ref 134, Value.int 44 0, Value.int 0 0, Value.ref 141, Value.int 46 0, Value.int 0 0, Value.ref 148, Value.int 59 0, Value.int 0 0, Value.ref 155, Value.int 65 0, Value.int 0 0, Value.ref 162, Value.int 69 0, Value.int 0 0, Value.ref 169, Value.int 73 0, Value.int 0 0, Value.ref 176] }
noncomputable def v2o87 (P : Params) : Obj := { cls := Value.type "tuple", data := Data.seq #[] }
noncomputable def v2o88 (P : Params) : Obj := { cls := Value.type "builtin_function_or_method", data := Data.fields #[Value.builtin "type.__prepare__", Value.type "type"] }
noncomputable def v2o89 (P : Params) : Obj := { cls := Value.type "dict", data := Data.dict #[{ hash := PyData.keyHash P (Str.ofString "__module__"), key := Value.str (Str.ofString "__module__") 311, val := Value.str (Str.ofString "snobol.values") 248 }, { hash := PyData.keyHash P (Str.ofString "__qualname__"), key := Value.str (Str.ofString "__qualname__") 313, val := Value.str (Str.ofString "Pattern") 312 }, { hash := PyData.keyHash P (Str.ofString "__firstlineno__"), key := Value.str (Str.ofString "__firstlineno__") 315, val := Value.int 34 314 }, { hash := PyData.keyHash P (Str.ofString "__init__"), key := Value.str (Str.ofString "__init__") 323, val := Value.ref 100 }, { hash := PyData.keyHash P (Str.ofString "__static_attributes__"), key := Value.str (Str.ofString "__static_attributes__") 325, val := Value.ref 101 }] 5 }
noncomputable def v2o90 (P : Params) : Obj := { cls := Value.type "tuple", data := Data.seq #[] }
noncomputable def v2o91 (P : Params) : Obj := { cls := Value.none, data := Data.fields #[Value.int 36 0, Value.int 4 0, Value.ref 99] }
noncomputable def v2o92 (P : Params) : Obj := { cls := Value.type "code", data := Data.fields #[Value.str (Str.ofString "Pattern") 306, Value.str (Str.ofString "Pattern") 307, Value.str (Str.ofString "/claim/cut.py") 308, Value.int 34 0, Value.int 0 0, Value.int 0 0, Value.int 0 0, Value.int 0 0, Value.ref 90, Value.bool false, Value.int 181 0, Value.ref 91, Value.none, Value.none, Value.none, Value.none, Value.int 309 0, Value.int 34 0, Value.str (Str.ofString "/claim/cut.py") 310] }
noncomputable def v2o93 (P : Params) : Obj := { cls := Value.type "frame", slots := #[some (Value.ref 92), some (Value.ref 3), some (Value.ref 89), none, some (Value.str (Str.ofString "snobol.values") 248), none, some (Value.ref 0)] }
noncomputable def v2o94 (P : Params) : Obj := { cls := Value.type "tuple", data := Data.seq #[] }
noncomputable def v2o95 (P : Params) : Obj := { cls := Value.none, data := Data.fields #[] }
noncomputable def v2o96 (P : Params) : Obj := { cls := Value.type "tuple", data := Data.seq #[Value.str (Str.ofString "self") 319, Value.str (Str.ofString "node") 320] }
noncomputable def v2o97 (P : Params) : Obj := { cls := Value.type "tuple", data := Data.seq #[] }
noncomputable def v2o98 (P : Params) : Obj := { cls := Value.none, data := Data.func { name := Str.ofString "__init__", qualname := Str.ofString "Pattern.__init__", params := F98a, body := FuncBody.stmts F98b, scope := F98s, globals := 0, closure := [], defaults := Value.none, kwdefaults := Value.none } }
noncomputable def v2o99 (P : Params) : Obj := { cls := Value.type "code", data := Data.fields #[Value.str (Str.ofString "__init__") 316, Value.str (Str.ofString "Pattern.__init__") 317, Value.str (Str.ofString "/claim/cut.py") 318, Value.int 36 0, Value.int 2 0, Value.int 0 0, Value.int 0 0, Value.int 3 0, Value.ref 94, Value.bool true, Value.int 181 0, Value.ref 95, Value.none, Value.ref 96, Value.ref 97, Value.ref 98, Value.int 321 0, Value.int 36 0, Value.str (Str.ofString "/claim/cut.py") 322] }
noncomputable def v2o100 (P : Params) : Obj := { cls := Value.type "function", data := Data.func { name := Str.ofString "__init__", qualname := Str.ofString "Pattern.__init__", params := F100a, body := FuncBody.stmts F100b, scope := F100s, globals := 3, closure := [], defaults := Value.none, kwdefaults := Value.none, pyModule := Value.str (Str.ofString "snobol.values") 248, code := Value.ref 99 } }
noncomputable def v2o101 (P : Params) : Obj := { cls := Value.type "tuple", data := Data.seq #[Value.str (Str.ofString "node") 324] }
noncomputable def v2o102 (P : Params) : Obj := { cls := Value.type "dict", data := Data.dict #[{ hash := PyData.keyHash P (Str.ofString "__module__"), key := Value.str (Str.ofString "__module__") 311, val := Value.str (Str.ofString "snobol.values") 248 }, { hash := PyData.keyHash P (Str.ofString "__firstlineno__"), key := Value.str (Str.ofString "__firstlineno__") 315, val := Value.int 34 314 }, { hash := PyData.keyHash P (Str.ofString "__init__"), key := Value.str (Str.ofString "__init__") 323, val := Value.ref 100 }, { hash := PyData.keyHash P (Str.ofString "__static_attributes__"), key := Value.str (Str.ofString "__static_attributes__") 325, val := Value.ref 101 }, { hash := PyData.keyHash P (Str.ofString "__dict__"), key := Value.str (Str.ofString "__dict__") 327, val := Value.ref 104 }, { hash := PyData.keyHash P (Str.ofString "__weakref__"), key := Value.str (Str.ofString "__weakref__") 329, val := Value.ref 105 }, { hash := PyData.keyHash P (Str.ofString "__doc__"), key := Value.str (Str.ofString "__doc__") 330, val := Value.none }] 4 }
noncomputable def v2o103 (P : Params) : Obj := { cls := Value.type "type", data := Data.cls { name := Str.ofString "Pattern", bases := [Value.type "object"], mro := [Value.ref 103, Value.type "object"], ns := 102, qualname := Str.ofString "Pattern" }, slots := #[none, none, some (Value.str (Str.ofString "Pattern") 304), some (Value.str (Str.ofString "Pattern") 312), some (Value.builtin "object.__new__"), some (Value.bool true)] }
noncomputable def v2o104 (P : Params) : Obj := { cls := Value.type "getset_descriptor", data := Data.fields #[Value.str (Str.ofString "__dict__") 326, Value.ref 103, Value.builtin "function.__dict__", Value.builtin "function.__dict__#set"] }
noncomputable def v2o105 (P : Params) : Obj := { cls := Value.type "getset_descriptor", data := Data.fields #[Value.str (Str.ofString "__weakref__") 328, Value.ref 103, Value.builtin "ExceptionGroup.__weakref__", Value.none] }
noncomputable def v2o106 (P : Params) : Obj := { cls := Value.type "super", data := Data.fields #[Value.ref 103, Value.ref 103, Value.ref 103] }
noncomputable def v2o107 (P : Params) : Obj := { cls := Value.type "builtin_function_or_method", data := Data.fields #[Value.builtin "object.__init_subclass__", Value.ref 103] }
noncomputable def v2o108 (P : Params) : Obj := { cls := Value.type "tuple", data := Data.seq #[] }
noncomputable def v2o109 (P : Params) : Obj := { cls := Value.type "builtin_function_or_method", data := Data.fields #[Value.builtin "type.__prepare__", Value.type "type"] }
noncomputable def v2o110 (P : Params) : Obj := { cls := Value.type "dict", data := Data.dict #[{ hash := PyData.keyHash P (Str.ofString "__module__"), key := Value.str (Str.ofString "__module__") 340, val := Value.str (Str.ofString "snobol.values") 248 }, { hash := PyData.keyHash P (Str.ofString "__qualname__"), key := Value.str (Str.ofString "__qualname__") 342, val := Value.str (Str.ofString "Delayed") 341 }, { hash := PyData.keyHash P (Str.ofString "__firstlineno__"), key := Value.str (Str.ofString "__firstlineno__") 344, val := Value.int 38 343 }, { hash := PyData.keyHash P (Str.ofString "__init__"), key := Value.str (Str.ofString "__init__") 352, val := Value.ref 121 }, { hash := PyData.keyHash P (Str.ofString "__static_attributes__"), key := Value.str (Str.ofString "__static_attributes__") 354, val := Value.ref 122 }] 5 }
noncomputable def v2o111 (P : Params) : Obj := { cls := Value.type "tuple", data := Data.seq #[] }
noncomputable def v2o112 (P : Params) : Obj := { cls := Value.none, data := Data.fields #[Value.int 40 0, Value.int 4 0, Value.ref 120] }
noncomputable def v2o113 (P : Params) : Obj := { cls := Value.type "code", data := Data.fields #[Value.str (Str.ofString "Delayed") 335, Value.str (Str.ofString "Delayed") 336, Value.str (Str.ofString "/claim/cut.py") 337, Value.int 38 0, Value.int 0 0, Value.int 0 0, Value.int 0 0, Value.int 0 0, Value.ref 111, Value.bool false, Value.int 181 0, Value.ref 112, Value.none, Value.none, Value.none, Value.none, Value.int 338 0, Value.int 38 0, Value.str (Str.ofString "/claim/cut.py") 339] }
noncomputable def v2o114 (P : Params) : Obj := { cls := Value.type "frame", slots := #[some (Value.ref 113), some (Value.ref 3), some (Value.ref 110), none, some (Value.str (Str.ofString "snobol.values") 248), none, some (Value.ref 0)] }
noncomputable def v2o115 (P : Params) : Obj := { cls := Value.type "tuple", data := Data.seq #[] }
noncomputable def v2o116 (P : Params) : Obj := { cls := Value.none, data := Data.fields #[] }
noncomputable def v2o117 (P : Params) : Obj := { cls := Value.type "tuple", data := Data.seq #[Value.str (Str.ofString "self") 348, Value.str (Str.ofString "tree") 349] }
noncomputable def v2o118 (P : Params) : Obj := { cls := Value.type "tuple", data := Data.seq #[] }
noncomputable def v2o119 (P : Params) : Obj := { cls := Value.none, data := Data.func { name := Str.ofString "__init__", qualname := Str.ofString "Delayed.__init__", params := F119a, body := FuncBody.stmts F119b, scope := F119s, globals := 0, closure := [], defaults := Value.none, kwdefaults := Value.none } }
noncomputable def v2o120 (P : Params) : Obj := { cls := Value.type "code", data := Data.fields #[Value.str (Str.ofString "__init__") 345, Value.str (Str.ofString "Delayed.__init__") 346, Value.str (Str.ofString "/claim/cut.py") 347, Value.int 40 0, Value.int 2 0, Value.int 0 0, Value.int 0 0, Value.int 3 0, Value.ref 115, Value.bool true, Value.int 181 0, Value.ref 116, Value.none, Value.ref 117, Value.ref 118, Value.ref 119, Value.int 350 0, Value.int 40 0, Value.str (Str.ofString "/claim/cut.py") 351] }
noncomputable def v2o121 (P : Params) : Obj := { cls := Value.type "function", data := Data.func { name := Str.ofString "__init__", qualname := Str.ofString "Delayed.__init__", params := F121a, body := FuncBody.stmts F121b, scope := F121s, globals := 3, closure := [], defaults := Value.none, kwdefaults := Value.none, pyModule := Value.str (Str.ofString "snobol.values") 248, code := Value.ref 120 } }
noncomputable def v2o122 (P : Params) : Obj := { cls := Value.type "tuple", data := Data.seq #[Value.str (Str.ofString "tree") 353] }
noncomputable def v2o123 (P : Params) : Obj := { cls := Value.type "dict", data := Data.dict #[{ hash := PyData.keyHash P (Str.ofString "__module__"), key := Value.str (Str.ofString "__module__") 340, val := Value.str (Str.ofString "snobol.values") 248 }, { hash := PyData.keyHash P (Str.ofString "__firstlineno__"), key := Value.str (Str.ofString "__firstlineno__") 344, val := Value.int 38 343 }, { hash := PyData.keyHash P (Str.ofString "__init__"), key := Value.str (Str.ofString "__init__") 352, val := Value.ref 121 }, { hash := PyData.keyHash P (Str.ofString "__static_attributes__"), key := Value.str (Str.ofString "__static_attributes__") 354, val := Value.ref 122 }, { hash := PyData.keyHash P (Str.ofString "__dict__"), key := Value.str (Str.ofString "__dict__") 356, val := Value.ref 125 }, { hash := PyData.keyHash P (Str.ofString "__weakref__"), key := Value.str (Str.ofString "__weakref__") 358, val := Value.ref 126 }, { hash := PyData.keyHash P (Str.ofString "__doc__"), key := Value.str (Str.ofString "__doc__") 359, val := Value.none }] 4 }
noncomputable def v2o124 (P : Params) : Obj := { cls := Value.type "type", data := Data.cls { name := Str.ofString "Delayed", bases := [Value.type "object"], mro := [Value.ref 124, Value.type "object"], ns := 123, qualname := Str.ofString "Delayed" }, slots := #[none, none, some (Value.str (Str.ofString "Delayed") 333), some (Value.str (Str.ofString "Delayed") 341), some (Value.builtin "object.__new__"), some (Value.bool true)] }
noncomputable def v2o125 (P : Params) : Obj := { cls := Value.type "getset_descriptor", data := Data.fields #[Value.str (Str.ofString "__dict__") 355, Value.ref 124, Value.builtin "function.__dict__", Value.builtin "function.__dict__#set"] }
noncomputable def v2o126 (P : Params) : Obj := { cls := Value.type "getset_descriptor", data := Data.fields #[Value.str (Str.ofString "__weakref__") 357, Value.ref 124, Value.builtin "ExceptionGroup.__weakref__", Value.none] }
noncomputable def v2o127 (P : Params) : Obj := { cls := Value.type "super", data := Data.fields #[Value.ref 124, Value.ref 124, Value.ref 124] }
noncomputable def v2o128 (P : Params) : Obj := { cls := Value.type "builtin_function_or_method", data := Data.fields #[Value.builtin "object.__init_subclass__", Value.ref 124] }
noncomputable def v2o129 (P : Params) : Obj := { cls := Value.type "tuple", data := Data.seq #[] }
noncomputable def v2o130 (P : Params) : Obj := { cls := Value.none, data := Data.fields #[] }
noncomputable def v2o131 (P : Params) : Obj := { cls := Value.type "tuple", data := Data.seq #[Value.str (Str.ofString "value") 365] }
noncomputable def v2o132 (P : Params) : Obj := { cls := Value.type "tuple", data := Data.seq #[] }
noncomputable def v2o133 (P : Params) : Obj := { cls := Value.none, data := Data.func { name := Str.ofString "is_fail", qualname := Str.ofString "is_fail", params := F133a, body := FuncBody.stmts F133b, scope := F133s, globals := 0, closure := [], defaults := Value.none, kwdefaults := Value.none } }
noncomputable def v2o134 (P : Params) : Obj := { cls := Value.type "code", data := Data.fields #[Value.str (Str.ofString "is_fail") 362, Value.str (Str.ofString "is_fail") 363, Value.str (Str.ofString "/claim/cut.py") 364, Value.int 42 0, Value.int 1 0, Value.int 0 0, Value.int 0 0, Value.int 3 0, Value.ref 129, Value.bool true, Value.int 181 0, Value.ref 130, Value.none, Value.ref 131, Value.ref 132, Value.ref 133, Value.int 366 0, Value.int 42 0, Value.str (Str.ofString "/claim/cut.py") 367] }
noncomputable def v2o135 (P : Params) : Obj := { cls := Value.type "function", data := Data.func { name := Str.ofString "is_fail", qualname := Str.ofString "is_fail", params := F135a, body := FuncBody.stmts F135b, scope := F135s, globals := 3, closure := [], defaults := Value.none, kwdefaults := Value.none, pyModule := Value.str (Str.ofString "snobol.values") 248, code := Value.ref 134 } }
noncomputable def v2o136 (P : Params) : Obj := { cls := Value.type "tuple", data := Data.seq #[] }
noncomputable def v2o137 (P : Params) : Obj := { cls := Value.none, data := Data.fields #[] }
noncomputable def v2o138 (P : Params) : Obj := { cls := Value.type "tuple", data := Data.seq #[Value.str (Str.ofString "number") 372, Value.str (Str.ofString "width") 373] }
noncomputable def v2o139 (P : Params) : Obj := { cls := Value.type "tuple", data := Data.seq #[] }
noncomputable def v2o140 (P : Params) : Obj := { cls := Value.none, data := Data.func { name := Str.ofString "fits", qualname := Str.ofString "fits", params := F140a, body := FuncBody.stmts F140b, scope := F140s, globals := 0, closure := [], defaults := Value.none, kwdefaults := Value.none } }
noncomputable def v2o141 (P : Params) : Obj := { cls := Value.type "code", data := Data.fields #[Value.str (Str.ofString "fits") 369, Value.str (Str.ofString "fits") 370, Value.str (Str.ofString "/claim/cut.py") 371, Value.int 44 0, Value.int 2 0, Value.int 0 0, Value.int 0 0, Value.int 3 0, Value.ref 136, Value.bool true, Value.int 181 0, Value.ref 137, Value.none, Value.ref 138, Value.ref 139, Value.ref 140, Value.int 374 0, Value.int 44 0, Value.str (Str.ofString "/claim/cut.py") 375] }
noncomputable def v2o142 (P : Params) : Obj := { cls := Value.type "function", data := Data.func { name := Str.ofString "fits", qualname := Str.ofString "fits", params := F142a, body := FuncBody.stmts F142b, scope := F142s, globals := 3, closure := [], defaults := Value.none, kwdefaults := Value.none, pyModule := Value.str (Str.ofString "snobol.values") 248, code := Value.ref 141 } }
noncomputable def v2o143 (P : Params) : Obj := { cls := Value.type "tuple", data := Data.seq #[] }
noncomputable def v2o144 (P : Params) : Obj := { cls := Value.none, data := Data.fields #[] }
noncomputable def v2o145 (P : Params) : Obj := { cls := Value.type "tuple", data := Data.seq #[Value.str (Str.ofString "text") 380, Value.str (Str.ofString "width") 381, Value.str (Str.ofString "digits") 382, Value.str (Str.ofString "number") 383, Value.str (Str.ofString "sign") 384] }
noncomputable def v2o146 (P : Params) : Obj := { cls := Value.type "tuple", data := Data.seq #[] }
noncomputable def v2o147 (P : Params) : Obj := { cls := Value.none, data := Data.func { name := Str.ofString "whole_of_text", qualname := Str.ofString "whole_of_text", params := F147a, body := FuncBody.stmts F147b, scope := F147s, globals := 0, closure := [], defaults := Value.none, kwdefaults := Value.none } }
noncomputable def v2o148 (P : Params) : Obj := { cls := Value.type "code", data := Data.fields #[Value.str (Str.ofString "whole_of_text") 377, Value.str (Str.ofString "whole_of_text") 378, Value.str (Str.ofString "/claim/cut.py") 379, Value.int 46 0, Value.int 2 0, Value.int 0 0, Value.int 0 0, Value.int 3 0, Value.ref 143, Value.bool true, Value.int 181 0, Value.ref 144, Value.none, Value.ref 145, Value.ref 146, Value.ref 147, Value.int 385 0, Value.int 46 0, Value.str (Str.ofString "/claim/cut.py") 386] }
noncomputable def v2o149 (P : Params) : Obj := { cls := Value.type "function", data := Data.func { name := Str.ofString "whole_of_text", qualname := Str.ofString "whole_of_text", params := F149a, body := FuncBody.stmts F149b, scope := F149s, globals := 3, closure := [], defaults := Value.none, kwdefaults := Value.none, pyModule := Value.str (Str.ofString "snobol.values") 248, code := Value.ref 148 } }
noncomputable def v2o150 (P : Params) : Obj := { cls := Value.type "tuple", data := Data.seq #[] }
noncomputable def v2o151 (P : Params) : Obj := { cls := Value.none, data := Data.fields #[] }
noncomputable def v2o152 (P : Params) : Obj := { cls := Value.type "tuple", data := Data.seq #[Value.str (Str.ofString "number") 391, Value.str (Str.ofString "left") 392, Value.str (Str.ofString "found") 393] }
noncomputable def v2o153 (P : Params) : Obj := { cls := Value.type "tuple", data := Data.seq #[] }
noncomputable def v2o154 (P : Params) : Obj := { cls := Value.none, data := Data.func { name := Str.ofString "text_of_whole", qualname := Str.ofString "text_of_whole", params := F154a, body := FuncBody.stmts F154b, scope := F154s, globals := 0, closure := [], defaults := Value.none, kwdefaults := Value.none } }
noncomputable def v2o155 (P : Params) : Obj := { cls := Value.type "code", data := Data.fields #[Value.str (Str.ofString "text_of_whole") 388, Value.str (Str.ofString "text_of_whole") 389, Value.str (Str.ofString "/claim/cut.py") 390, Value.int 59 0, Value.int 1 0, Value.int 0 0, Value.int 0 0, Value.int 3 0, Value.ref 150, Value.bool true, Value.int 181 0, Value.ref 151, Value.none, Value.ref 152, Value.ref 153, Value.ref 154, Value.int 394 0, Value.int 59 0, Value.str (Str.ofString "/claim/cut.py") 395] }
noncomputable def v2o156 (P : Params) : Obj := { cls := Value.type "function", data := Data.func { name := Str.ofString "text_of_whole", qualname := Str.ofString "text_of_whole", params := F156a, body := FuncBody.stmts F156b, scope := F156s, globals := 3, closure := [], defaults := Value.none, kwdefaults := Value.none, pyModule := Value.str (Str.ofString "snobol.values") 248, code := Value.ref 155 } }
noncomputable def v2o157 (P : Params) : Obj := { cls := Value.type "tuple", data := Data.seq #[] }
noncomputable def v2o158 (P : Params) : Obj := { cls := Value.none, data := Data.fields #[] }
noncomputable def v2o159 (P : Params) : Obj := { cls := Value.type "tuple", data := Data.seq #[Value.str (Str.ofString "value") 400, Value.str (Str.ofString "width") 401] }
noncomputable def v2o160 (P : Params) : Obj := { cls := Value.type "tuple", data := Data.seq #[] }
noncomputable def v2o161 (P : Params) : Obj := { cls := Value.none, data := Data.func { name := Str.ofString "to_whole", qualname := Str.ofString "to_whole", params := F161a, body := FuncBody.stmts F161b, scope := F161s, globals := 0, closure := [], defaults := Value.none, kwdefaults := Value.none } }
noncomputable def v2o162 (P : Params) : Obj := { cls := Value.type "code", data := Data.fields #[Value.str (Str.ofString "to_whole") 397, Value.str (Str.ofString "to_whole") 398, Value.str (Str.ofString "/claim/cut.py") 399, Value.int 65 0, Value.int 2 0, Value.int 0 0, Value.int 0 0, Value.int 3 0, Value.ref 157, Value.bool true, Value.int 181 0, Value.ref 158, Value.none, Value.ref 159, Value.ref 160, Value.ref 161, Value.int 402 0, Value.int 65 0, Value.str (Str.ofString "/claim/cut.py") 403] }
noncomputable def v2o163 (P : Params) : Obj := { cls := Value.type "function", data := Data.func { name := Str.ofString "to_whole", qualname := Str.ofString "to_whole", params := F163a, body := FuncBody.stmts F163b, scope := F163s, globals := 3, closure := [], defaults := Value.none, kwdefaults := Value.none, pyModule := Value.str (Str.ofString "snobol.values") 248, code := Value.ref 162 } }
noncomputable def v2o164 (P : Params) : Obj := { cls := Value.type "tuple", data := Data.seq #[] }
noncomputable def v2o165 (P : Params) : Obj := { cls := Value.none, data := Data.fields #[] }
noncomputable def v2o166 (P : Params) : Obj := { cls := Value.type "tuple", data := Data.seq #[Value.str (Str.ofString "value") 408] }
noncomputable def v2o167 (P : Params) : Obj := { cls := Value.type "tuple", data := Data.seq #[] }
noncomputable def v2o168 (P : Params) : Obj := { cls := Value.none, data := Data.func { name := Str.ofString "to_text", qualname := Str.ofString "to_text", params := F168a, body := FuncBody.stmts F168b, scope := F168s, globals := 0, closure := [], defaults := Value.none, kwdefaults := Value.none } }
noncomputable def v2o169 (P : Params) : Obj := { cls := Value.type "code", data := Data.fields #[Value.str (Str.ofString "to_text") 405, Value.str (Str.ofString "to_text") 406, Value.str (Str.ofString "/claim/cut.py") 407, Value.int 69 0, Value.int 1 0, Value.int 0 0, Value.int 0 0, Value.int 3 0, Value.ref 164, Value.bool true, Value.int 181 0, Value.ref 165, Value.none, Value.ref 166, Value.ref 167, Value.ref 168, Value.int 409 0, Value.int 69 0, Value.str (Str.ofString "/claim/cut.py") 410] }
noncomputable def v2o170 (P : Params) : Obj := { cls := Value.type "function", data := Data.func { name := Str.ofString "to_text", qualname := Str.ofString "to_text", params := F170a, body := FuncBody.stmts F170b, scope := F170s, globals := 3, closure := [], defaults := Value.none, kwdefaults := Value.none, pyModule := Value.str (Str.ofString "snobol.values") 248, code := Value.ref 169 } }
noncomputable def v2o171 (P : Params) : Obj := { cls := Value.type "tuple", data := Data.seq #[] }
noncomputable def v2o172 (P : Params) : Obj := { cls := Value.none, data := Data.fields #[] }
noncomputable def v2o173 (P : Params) : Obj := { cls := Value.type "tuple", data := Data.seq #[Value.str (Str.ofString "value") 415, Value.str (Str.ofString "text") 416] }
noncomputable def v2o174 (P : Params) : Obj := { cls := Value.type "tuple", data := Data.seq #[] }
noncomputable def v2o175 (P : Params) : Obj := { cls := Value.none, data := Data.func { name := Str.ofString "need_text", qualname := Str.ofString "need_text", params := F175a, body := FuncBody.stmts F175b, scope := F175s, globals := 0, closure := [], defaults := Value.none, kwdefaults := Value.none } }
noncomputable def v2o176 (P : Params) : Obj := { cls := Value.type "code", data := Data.fields #[Value.str (Str.ofString "need_text") 412, Value.str (Str.ofString "need_text") 413, Value.str (Str.ofString "/claim/cut.py") 414, Value.int 73 0, Value.int 1 0, Value.int 0 0, Value.int 0 0, Value.int 3 0, Value.ref 171, Value.bool true, Value.int 181 0, Value.ref 172, Value.none, Value.ref 173, Value.ref 174, Value.ref 175, Value.int 417 0, Value.int 73 0, Value.str (Str.ofString "/claim/cut.py") 418] }
noncomputable def v2o177 (P : Params) : Obj := { cls := Value.type "function", data := Data.func { name := Str.ofString "need_text", qualname := Str.ofString "need_text", params := F177a, body := FuncBody.stmts F177b, scope := F177s, globals := 3, closure := [], defaults := Value.none, kwdefaults := Value.none, pyModule := Value.str (Str.ofString "snobol.values") 248, code := Value.ref 176 } }
set_option maxRecDepth 100000 in
noncomputable def tree2 (P : Params) : BT := (.node (boot_o_0 P) (.node (boot_o_1 P) (.node (v2o3 P) (.node (boot_o_7 P) (.node (v1o15 P) (.node (v1o31 P) (.node (v1o63 P) (.node (v2o127 P) .nil .nil) .nil) (.node (v2o95 P) (.node (v2o159 P) .nil .nil) .nil)) (.node (v1o47 P) (.node (v1o79 P) (.node (v2o143 P) .nil .nil) .nil) (.node (v2o111 P) (.node (v2o175 P) .nil .nil) .nil))) (.node (v1o23 P) (.node (v1o39 P) (.node (v1o71 P) (.node (v2o135 P) .nil .nil) .nil) (.node (v2o103 P) (.node (v2o167 P) .nil .nil) .nil)) (.node (v1o55 P) (.node (v2o87 P) (.node (v2o151 P) .nil .nil) .nil) (.node (v2o119 P) .nil .nil)))) (.node (o11) (.node (v1o19 P) (.node (v1o35 P) (.node (v1o67 P) (.node (v2o131 P) .nil .nil) .nil) (.node (v2o99 P) (.node (v2o163 P) .nil .nil) .nil)) (.node (v1o51 P) (.node (v1o83 P) (.node (v2o147 P) .nil .nil) .nil) (.node (v2o115 P) .nil .nil))) (.node (v1o27 P) (.node (v1o43 P) (.node (v1o75 P) (.node (v2o139 P) .nil .nil) .nil) (.node (v2o107 P) (.node (v2o171 P) .nil .nil) .nil)) (.node (v1o59 P) (.node (v2o91 P) (.node (v2o155 P) .nil .nil) .nil) (.node (v2o123 P) .nil .nil))))) (.node (boot_o_5 P) (.node (boot_o_9 P) (.node (v1o17 P) (.node (v1o33 P) (.node (v1o65 P) (.node (v2o129 P) .nil .nil) .nil) (.node (v2o97 P) (.node (v2o161 P) .nil .nil) .nil)) (.node (v1o49 P) (.node (v1o81 P) (.node (v2o145 P) .nil .nil) .nil) (.node (v2o113 P) (.node (v2o177 P) .nil .nil) .nil))) (.node (v1o25 P) (.node (v1o41 P) (.node (v1o73 P) (.node (v2o137 P) .nil .nil) .nil) (.node (v2o105 P) (.node (v2o169 P) .nil .nil) .nil)) (.node (v1o57 P) (.node (v2o89 P) (.node (v2o153 P) .nil .nil) .nil) (.node (v2o121 P) .nil .nil)))) (.node (o13) (.node (v1o21 P) (.node (v1o37 P) (.node (v1o69 P) (.node (v2o133 P) .nil .nil) .nil) (.node (v2o101 P) (.node (v2o165 P) .nil .nil) .nil)) (.node (v1o53 P) (.node (v1o85 P) (.node (v2o149 P) .nil .nil) .nil) (.node (v2o117 P) .nil .nil))) (.node (v1o29 P) (.node (v1o45 P) (.node (v1o77 P) (.node (v2o141 P) .nil .nil) .nil) (.node (v2o109 P) (.node (v2o173 P) .nil .nil) .nil)) (.node (v1o61 P) (.node (v2o93 P) (.node (v2o157 P) .nil .nil) .nil) (.node (v2o125 P) .nil .nil)))))) (.node (v1o2 P) (.node (boot_o_4 P) (.node (boot_o_8 P) (.node (v1o16 P) (.node (v1o32 P) (.node (v1o64 P) (.node (v2o128 P) .nil .nil) .nil) (.node (v2o96 P) (.node (v2o160 P) .nil .nil) .nil)) (.node (v1o48 P) (.node (v1o80 P) (.node (v2o144 P) .nil .nil) .nil) (.node (v2o112 P) (.node (v2o176 P) .nil .nil) .nil))) (.node (v1o24 P) (.node (v1o40 P) (.node (v1o72 P) (.node (v2o136 P) .nil .nil) .nil) (.node (v2o104 P) (.node (v2o168 P) .nil .nil) .nil)) (.node (v1o56 P) (.node (v2o88 P) (.node (v2o152 P) .nil .nil) .nil) (.node (v2o120 P) .nil .nil)))) (.node (v2o12 P) (.node (v1o20 P) (.node (v1o36 P) (.node (v1o68 P) (.node (v2o132 P) .nil .nil) .nil) (.node (v2o100 P) (.node (v2o164 P) .nil .nil) .nil)) (.node (v1o52 P) (.node (v1o84 P) (.node (v2o148 P) .nil .nil) .nil) (.node (v2o116 P) .nil .nil))) (.node (v1o28 P) (.node (v1o44 P) (.node (v1o76 P) (.node (v2o140 P) .nil .nil) .nil) (.node (v2o108 P) (.node (v2o172 P) .nil .nil) .nil)) (.node (v1o60 P) (.node (v2o92 P) (.node (v2o156 P) .nil .nil) .nil) (.node (v2o124 P) .nil .nil))))) (.node (boot_o_6 P) (.node (boot_o_10 P) (.node (v1o18 P) (.node (v1o34 P) (.node (v1o66 P) (.node (v2o130 P) .nil .nil) .nil) (.node (v2o98 P) (.node (v2o162 P) .nil .nil) .nil)) (.node (v1o50 P) (.node (v1o82 P) (.node (v2o146 P) .nil .nil) .nil) (.node (v2o114 P) .nil .nil))) (.node (v1o26 P) (.node (v1o42 P) (.node (v1o74 P) (.node (v2o138 P) .nil .nil) .nil) (.node (v2o106 P) (.node (v2o170 P) .nil .nil) .nil)) (.node (v1o58 P) (.node (v2o90 P) (.node (v2o154 P) .nil .nil) .nil) (.node (v2o122 P) .nil .nil)))) (.node (o14) (.node (v1o22 P) (.node (v1o38 P) (.node (v1o70 P) (.node (v2o134 P) .nil .nil) .nil) (.node (v2o102 P) (.node (v2o166 P) .nil .nil) .nil)) (.node (v1o54 P) (.node (v1o86 P) (.node (v2o150 P) .nil .nil) .nil) (.node (v2o118 P) .nil .nil))) (.node (v1o30 P) (.node (v1o46 P) (.node (v1o78 P) (.node (v2o142 P) .nil .nil) .nil) (.node (v2o110 P) (.node (v2o174 P) .nil .nil) .nil)) (.node (v1o62 P) (.node (v2o94 P) (.node (v2o158 P) .nil .nil) .nil) (.node (v2o126 P) .nil .nil)))))))
noncomputable def v3o3 (P : Params) : Obj := { cls := Value.type "dict", data := Data.dict #[{ hash := PyData.keyHash P (Str.ofString "__name__"), key := Value.str (Str.ofString "__name__") 165, val := Value.str (Str.ofString "snobol.primitives") 565 }, { hash := PyData.keyHash P (Str.ofString "__doc__"), key := Value.str (Str.ofString "__doc__") 166, val := Value.none }, { hash := PyData.keyHash P (Str.ofString "__package__"), key := Value.str (Str.ofString "__package__") 167, val := Value.none }, { hash := PyData.keyHash P (Str.ofString "__loader__"), key := Value.str (Str.ofString "__loader__") 168, val := Value.builtin "__main__.__loader__#opaque" }, { hash := PyData.keyHash P (Str.ofString "__spec__"), key := Value.str (Str.ofString "__spec__") 169, val := Value.none }, { hash := PyData.keyHash P (Str.ofString "__annotations__"), key := Value.str (Str.ofString "__annotations__") 170, val := Value.ref 6 }, { hash := PyData.keyHash P (Str.ofString "__builtins__"), key := Value.str (Str.ofString "__builtins__") 171, val := Value.ref 4 }, { hash := PyData.keyHash P (Str.ofString "__file__"), key := Value.str (Str.ofString "__file__") 173, val := Value.str (Str.ofString "/claim/cut.py") 172 }, { hash := PyData.keyHash P (Str.ofString "__cached__"), key := Value.str (Str.ofString "__cached__") 174, val := Value.none }, { hash := PyData.keyHash P (Str.ofString "give_names"), key := Value.str (Str.ofString "give_names") 198, val := Value.ref 21 }, { hash := PyData.keyHash P (Str.ofString "three_pieces"), key := Value.str (Str.ofString "three_pieces") 206, val := Value.ref 28 }, { hash := PyData.keyHash P (Str.ofString "spliced"), key := Value.str (Str.ofString "spliced") 218, val := Value.ref 35 }, { hash := PyData.keyHash P (Str.ofString "replace_once"), key := Value.str (Str.ofString "replace_once") 232, val := Value.ref 42 }, { hash := PyData.keyHash P (Str.ofString "replace_often"), key := Value.str (Str.ofString "replace_often") 247, val := Value.ref 49 }, { hash := PyData.keyHash P (Str.ofString "SnobolError"), key := Value.str (Str.ofString "SnobolError") 283, val := Value.ref 69 }, { hash := PyData.keyHash P (Str.ofString "Failure"), key := Value.str (Str.ofString "Failure") 303, val := Value.ref 82 }, { hash := PyData.keyHash P (Str.ofString "Pattern"), key := Value.str (Str.ofString "Pattern") 332, val := Value.ref 103 }, { hash := PyData.keyHash P (Str.ofString "Delayed"), key := Value.str (Str.ofString "Delayed") 361, val := Value.ref 124 }, { hash := PyData.keyHash P (Str.ofString "is_fail"), key := Value.str (Str.ofString "is_fail") 368, val := Value.ref 135 }, { hash := PyData.keyHash P (Str.ofString "fits"), key := Value.str (Str.ofString "fits") 376, val := Value.ref 142 }, { hash := PyData.keyHash P (Str.ofString "whole_of_text"), key := Value.str (Str.ofString "whole_of_text") 387, val := Value.ref 149 }, { hash := PyData.keyHash P (Str.ofString "text_of_whole"), key := Value.str (Str.ofString "text_of_whole") 396, val := Value.ref 156 }, { hash := PyData.keyHash P (Str.ofString "to_whole"), key := Value.str (Str.ofString "to_whole") 404, val := Value.ref 163 }, { hash := PyData.keyHash P (Str.ofString "to_text"), key := Value.str (Str.ofString "to_text") 411, val := Value.ref 170 }, { hash := PyData.keyHash P (Str.ofString "need_text"), key := Value.str (Str.ofString "need_text") 419, val := Value.ref 177 }, { hash := PyData.keyHash P (Str.ofString "PlainHost"), key := Value.str (Str.ofString "PlainHost") 481, val := Value.ref 215 }, { hash := PyData.keyHash P (Str.ofString "replaced_signs"), key := Value.str (Str.ofString "replaced_signs") 489, val := Value.ref 224 }, { hash := PyData.keyHash P (Str.ofString "told_or_fail"), key := Value.str (Str.ofString "told_or_fail") 496, val := Value.ref 231 }, { hash := PyData.keyHash P (Str.ofString "text_replace"), key := Value.str (Str.ofString "text_replace") 506, val := Value.ref 238 }, { hash := PyData.keyHash P (Str.ofString "COUNTED"), key := Value.str (Str.ofString "COUNTED") 514, val := Value.ref 239 }, { hash := PyData.keyHash P (Str.ofString "SIGNED"), key := Value.str (Str.ofString "SIGNED") 519, val := Value.ref 240 }, { hash := PyData.keyHash P (Str.ofString "WIDTH_OF_COUNT"), key := Value.str (Str.ofString "WIDTH_OF_COUNT") 521, val := Value.int 64 520 }, { hash := PyData.keyHash P (Str.ofString "plain_count"), key := Value.str (Str.ofString "plain_count") 531, val := Value.ref 248 }, { hash := PyData.keyHash P (Str.ofString "plain_signs"), key := Value.str (Str.ofString "plain_signs") 540, val := Value.ref 255 }, { hash := PyData.keyHash P (Str.ofString "pattern_of"), key := Value.str (Str.ofString "pattern_of") 548, val := Value.ref 262 }, { hash := PyData.keyHash P (Str.ofString "is_delayed"), key := Value.str (Str.ofString "is_delayed") 555, val := Value.ref 269 }, { hash := PyData.keyHash P (Str.ofString "settled"), key := Value.str (Str.ofString "settled") 564, val := Value.ref 276 }, { hash := PyData.keyHash P (Str.ofString "OPENING"), key := Value.str (Str.ofString "OPENING") 568, val := Value.str (Str.ofString "(") 567 }, { hash := PyData.keyHash P (Str.ofString "CLOSING"), key := Value.str (Str.ofString "CLOSING") 570, val := Value.str (Str.ofString ")") 569 }, { hash := PyData.keyHash P (Str.ofString "chars_end"), key := Value.str (Str.ofString "chars_end") 580, val := Value.ref 283 }, { hash := PyData.keyHash P (Str.ofString "len_end"), key := Value.str (Str.ofString "len_end") 589, val := Value.ref 290 }, { hash := PyData.keyHash P (Str.ofString "pos_end"), key := Value.str (Str.ofString "pos_end") 597, val := Value.ref 297 }, { hash := PyData.keyHash P (Str.ofString "rpos_end"), key := Value.str (Str.ofString "rpos_end") 606, val := Value.ref 304 }] 43 }
noncomputable def v3o12 (P : Params) : Obj := { cls := Value.none, data := Data.fields #[Value.int 2 0, Value.int 0 0, Value.ref 20, Value.int 5 0, Value.int 0 0, Value.ref 27, Value.int 7 0, Value.int 0 0, Value.ref 34, Value.int 10 0, Value.int 0 0, Value.ref 41, Value.int 17 0, Value.int 0 0, Value.ref 48, Value.int 26 0, Value.int 0 0, Value.ref 56, Value.int 32 0, Value.int 0 0, Value.ref 78, Value.int 34 0, Value.int 0 0, Value.ref 92, Value.int 38 0, Value.int 0 0, Value.ref 113, Value.int 42 0, Value.int 0 0, Value.ref 134, Value.int 44 0, Value.int 0 0, Value.ref 141, Value.int 46 0, Value.int 0 0, Value.ref 148, Value.int 59 0, Value.int 0 0, Value.ref 155, Value.int 65 0, Value.int 0 0, Value.ref 162, Value.int 69 0, Value.int 0 0, Value.ref 169, Value.int 73 0, Value.int 0 0, Value.ref 176, Value.int 79 0, Value.int 0 0, Value.ref 183, Value.int 106 0, Value.int 0 0, Value.ref 223, Value.int 113 0, Value.int 0 0, Value.ref 230, Value.int 115 0, Value.int 0 0, Value.ref 237, Value.int 122 0, Value.int 0 0, Value.ref 247, Value.int 129 0, Value.int 0 0, Value.ref 254, Value.int 134 0, Value.int 0 0, Value.ref 261, Value.int 143 0, Value.int 0 0, Value.ref 268, Value.int 145 0, Value.int 0 0, Value.ref 275, Value.int 157 0, Value.int 0 0, Value.ref 282, Value.int 160 0, Value.int 0 0, Value.ref 289, Value.int 162 0, Value.int 0 0, Value.ref 296, Value.int 164 0, Value.int 0 0, Value.ref 303] }
noncomputable def v3o178 (P : Params) : Obj := { cls := Value.type "tuple", data := Data.seq #[] }
noncomputable def v3o179 (P : Params) : Obj := { cls := Value.type "builtin_function_or_method", data := Data.fields #[Value.builtin "type.__prepare__", Value.type "type"] }
noncomputable def v3o180 (P : Params) : Obj := { cls := Value.type "dict", data := Data.dict #[{ hash := PyData.keyHash P (Str.ofString "__module__"), key := Value.str (Str.ofString "__module__") 429, val := Value.str (Str.ofString "snobol.hosts") 420 }, { hash := PyData.keyHash P (Str.ofString "__qualname__"), key := Value.str (Str.ofString "__qualname__") 431, val := Value.str (Str.ofString "PlainHost") 430 }, { hash := PyData.keyHash P (Str.ofString "__firstlineno__"), key := Value.str (Str.ofString "__firstlineno__") 433, val := Value.int 79 432 }, { hash := PyData.keyHash P (Str.ofString "__init__"), key := Value.str (Str.ofString "__init__") 443, val := Value.ref 191 }, { hash := PyData.keyHash P (Str.ofString "value_of"), key := Value.str (Str.ofString "value_of") 451, val := Value.ref 198 }, { hash := PyData.keyHash P (Str.ofString "assign"), key := Value.str (Str.ofString "assign") 460, val := Value.ref 205 }, { hash := PyData.keyHash P (Str.ofString "step"), key := Value.str (Str.ofString "step") 467, val := Value.ref 212 }, { hash := PyData.keyHash P (Str.ofString "__static_attributes__"), key := Value.str (Str.ofString "__static_attributes__") 474, val := Value.ref 213 }] 8 }
noncomputable def v3o181 (P : Params) : Obj := { cls := Value.type "tuple", data := Data.seq #[] }
noncomputable def v3o182 (P : Params) : Obj := { cls := Value.none, data := Data.fields #[Value.int 81 0, Value.int 4 0, Value.ref 190, Value.int 89 0, Value.int 4 0, Value.ref 197, Value.int 94 0, Value.int 4 0, Value.ref 204, Value.int 101 0, Value.int 4 0, Value.ref 211] }
noncomputable def v3o183 (P : Params) : Obj := { cls := Value.type "code", data := Data.fields #[Value.str (Str.ofString "PlainHost") 424, Value.str (Str.ofString "PlainHost") 425, Value.str (Str.ofString "/claim/cut.py") 426, Value.int 79 0, Value.int 0 0, Value.int 0 0, Value.int 0 0, Value.int 0 0, Value.ref 181, Value.bool false, Value.int 181 0, Value.ref 182, Value.none, Value.none, Value.none, Value.none, Value.int 427 0, Value.int 79 0, Value.str (Str.ofString "/claim/cut.py") 428] }
noncomputable def v3o184 (P : Params) : Obj := { cls := Value.type "frame", slots := #[some (Value.ref 183), some (Value.ref 3), some (Value.ref 180), none, some (Value.str (Str.ofString "snobol.hosts") 420), none, some (Value.ref 0)] }
noncomputable def v3o185 (P : Params) : Obj := { cls := Value.type "tuple", data := Data.seq #[] }
noncomputable def v3o186 (P : Params) : Obj := { cls := Value.none, data := Data.fields #[] }
noncomputable def v3o187 (P : Params) : Obj := { cls := Value.type "tuple", data := Data.seq #[Value.str (Str.ofString "self") 437, Value.str (Str.ofString "values") 438, Value.str (Str.ofString "limit") 439, Value.str (Str.ofString "refused") 440] }
noncomputable def v3o188 (P : Params) : Obj := { cls := Value.type "tuple", data := Data.seq #[] }
noncomputable def v3o189 (P : Params) : Obj := { cls := Value.none, data := Data.func { name := Str.ofString "__init__", qualname := Str.ofString "PlainHost.__init__", params := F189a, body := FuncBody.stmts F189b, scope := F189s, globals := 0, closure := [], defaults := Value.none, kwdefaults := Value.none } }
noncomputable def v3o190 (P : Params) : Obj := { cls := Value.type "code", data := Data.fields #[Value.str (Str.ofString "__init__") 434, Value.str (Str.ofString "PlainHost.__init__") 435, Value.str (Str.ofString "/claim/cut.py") 436, Value.int 81 0, Value.int 4 0, Value.int 0 0, Value.int 0 0, Value.int 3 0, Value.ref 185, Value.bool true, Value.int 181 0, Value.ref 186, Value.none, Value.ref 187, Value.ref 188, Value.ref 189, Value.int 441 0, Value.int 81 0, Value.str (Str.ofString "/claim/cut.py") 442] }
noncomputable def v3o191 (P : Params) : Obj := { cls := Value.type "function", data := Data.func { name := Str.ofString "__init__", qualname := Str.ofString "PlainHost.__init__", params := F191a, body := FuncBody.stmts F191b, scope := F191s, globals := 3, closure := [], defaults := Value.none, kwdefaults := Value.none, pyModule := Value.str (Str.ofString "snobol.hosts") 420, code := Value.ref 190 } }
noncomputable def v3o192 (P : Params) : Obj := { cls := Value.type "tuple", data := Data.seq #[] }
noncomputable def v3o193 (P : Params) : Obj := { cls := Value.none, data := Data.fields #[] }
noncomputable def v3o194 (P : Params) : Obj := { cls := Value.type "tuple", data := Data.seq #[Value.str (Str.ofString "self") 447, Value.str (Str.ofString "tree") 448] }
noncomputable def v3o195 (P : Params) : Obj := { cls := Value.type "tuple", data := Data.seq #[] }
noncomputable def v3o196 (P : Params) : Obj := { cls := Value.none, data := Data.func { name := Str.ofString "value_of", qualname := Str.ofString "PlainHost.value_of", params := F196a, body := FuncBody.stmts F196b, scope := F196s, globals := 0, closure := [], defaults := Value.none, kwdefaults := Value.none } }
noncomputable def v3o197 (P : Params) : Obj := { cls := Value.type "code", data := Data.fields #[Value.str (Str.ofString "value_of") 444, Value.str (Str.ofString "PlainHost.value_of") 445, Value.str (Str.ofString "/claim/cut.py") 446, Value.int 89 0, Value.int 2 0, Value.int 0 0, Value.int 0 0, Value.int 3 0, Value.ref 192, Value.bool true, Value.int 181 0, Value.ref 193, Value.none, Value.ref 194, Value.ref 195, Value.ref 196, Value.int 449 0, Value.int 89 0, Value.str (Str.ofString "/claim/cut.py") 450] }
noncomputable def v3o198 (P : Params) : Obj := { cls := Value.type "function", data := Data.func { name := Str.ofString "value_of", qualname := Str.ofString "PlainHost.value_of", params := F198a, body := FuncBody.stmts F198b, scope := F198s, globals := 3, closure := [], defaults := Value.none, kwdefaults := Value.none, pyModule := Value.str (Str.ofString "snobol.hosts") 420, code := Value.ref 197 } }
noncomputable def v3o199 (P : Params) : Obj := { cls := Value.type "tuple", data := Data.seq #[] }
noncomputable def v3o200 (P : Params) : Obj := { cls := Value.none, data := Data.fields #[] }
noncomputable def v3o201 (P : Params) : Obj := { cls := Value.type "tuple", data := Data.seq #[Value.str (Str.ofString "self") 455, Value.str (Str.ofString "ref") 456, Value.str (Str.ofString "value") 457] }
noncomputable def v3o202 (P : Params) : Obj := { cls := Value.type "tuple", data := Data.seq #[] }
noncomputable def v3o203 (P : Params) : Obj := { cls := Value.none, data := Data.func { name := Str.ofString "assign", qualname := Str.ofString "PlainHost.assign", params := F203a, body := FuncBody.stmts F203b, scope := F203s, globals := 0, closure := [], defaults := Value.none, kwdefaults := Value.none } }
noncomputable def v3o204 (P : Params) : Obj := { cls := Value.type "code", data := Data.fields #[Value.str (Str.ofString "assign") 452, Value.str (Str.ofString "PlainHost.assign") 453, Value.str (Str.ofString "/claim/cut.py") 454, Value.int 94 0, Value.int 3 0, Value.int 0 0, Value.int 0 0, Value.int 3 0, Value.ref 199, Value.bool true, Value.int 181 0, Value.ref 200, Value.none, Value.ref 201, Value.ref 202, Value.ref 203, Value.int 458 0, Value.int 94 0, Value.str (Str.ofString "/claim/cut.py") 459] }
noncomputable def v3o205 (P : Params) : Obj := { cls := Value.type "function", data := Data.func { name := Str.ofString "assign", qualname := Str.ofString "PlainHost.assign", params := F205a, body := FuncBody.stmts F205b, scope := F205s, globals := 3, closure := [], defaults := Value.none, kwdefaults := Value.none, pyModule := Value.str (Str.ofString "snobol.hosts") 420, code := Value.ref 204 } }
noncomputable def v3o206 (P : Params) : Obj := { cls := Value.type "tuple", data := Data.seq #[] }
noncomputable def v3o207 (P : Params) : Obj := { cls := Value.none, data := Data.fields #[] }
noncomputable def v3o208 (P : Params) : Obj := { cls := Value.type "tuple", data := Data.seq #[Value.str (Str.ofString "self") 464] }
noncomputable def v3o209 (P : Params) : Obj := { cls := Value.type "tuple", data := Data.seq #[] }
noncomputable def v3o210 (P : Params) : Obj := { cls := Value.none, data := Data.func { name := Str.ofString "step", qualname := Str.ofString "PlainHost.step", params := F210a, body := FuncBody.stmts F210b, scope := F210s, globals := 0, closure := [], defaults := Value.none, kwdefaults := Value.none } }
noncomputable def v3o211 (P : Params) : Obj := { cls := Value.type "code", data := Data.fields #[Value.str (Str.ofString "step") 461, Value.str (Str.ofString "PlainHost.step") 462, Value.str (Str.ofString "/claim/cut.py") 463, Value.int 101 0, Value.int 1 0, Value.int 0 0, Value.int 0 0, Value.int 3 0, Value.ref 206, Value.bool true, Value.int 181 0, Value.ref 207, Value.none, Value.ref 208, Value.ref 209, Value.ref 210, Value.int 465 0, Value.int 101 0, Value.str (Str.ofString "/claim/cut.py") 466] }
noncomputable def v3o212 (P : Params) : Obj := { cls := Value.type "function", data := Data.func { name := Str.ofString "step", qualname := Str.ofString "PlainHost.step", params := F212a, body := FuncBody.stmts F212b, scope := F212s, globals := 3, closure := [], defaults := Value.none, kwdefaults := Value.none, pyModule := Value.str (Str.ofString "snobol.hosts") 420, code := Value.ref 211 } }
noncomputable def v3o213 (P : Params) : Obj := { cls := Value.type "tuple", data := Data.seq #[Value.str (Str.ofString "limit") 468, Value.str (Str.ofString "log") 469, Value.str (Str.ofString "refused") 470, Value.str (Str.ofString "steps") 471, Value.str (Str.ofString "values") 472, Value.str (Str.ofString "width") 473] }
noncomputable def v3o214 (P : Params) : Obj := { cls := Value.type "dict", data := Data.dict #[{ hash := PyData.keyHash P (Str.ofString "__module__"), key := Value.str (Str.ofString "__module__") 429, val := Value.str (Str.ofString "snobol.hosts") 420 }, { hash := PyData.keyHash P (Str.ofString "__firstlineno__"), key := Value.str (Str.ofString "__firstlineno__") 433, val := Value.int 79 432 }, { hash := PyData.keyHash P (Str.ofString "__init__"), key := Value.str (Str.ofString "__init__") 443, val := Value.ref 191 }, { hash := PyData.keyHash P (Str.ofString "value_of"), key := Value.str (Str.ofString "value_of") 451, val := Value.ref 198 }, { hash := PyData.keyHash P (Str.ofString "assign"), key := Value.str (Str.ofString "assign") 460, val := Value.ref 205 }, { hash := PyData.keyHash P (Str.ofString "step"), key := Value.str (Str.ofString "step") 467, val := Value.ref 212 }, { hash := PyData.keyHash P (Str.ofString "__static_attributes__"), key := Value.str (Str.ofString "__static_attributes__") 474, val := Value.ref 213 }, { hash := PyData.keyHash P (Str.ofString "__dict__"), key := Value.str (Str.ofString "__dict__") 476, val := Value.ref 216 }, { hash := PyData.keyHash P (Str.ofString "__weakref__"), key := Value.str (Str.ofString "__weakref__") 478, val := Value.ref 217 }, { hash := PyData.keyHash P (Str.ofString "__doc__"), key := Value.str (Str.ofString "__doc__") 479, val := Value.none }] 4 }
noncomputable def v3o215 (P : Params) : Obj := { cls := Value.type "type", data := Data.cls { name := Str.ofString "PlainHost", bases := [Value.type "object"], mro := [Value.ref 215, Value.type "object"], ns := 214, qualname := Str.ofString "PlainHost" }, slots := #[none, none, some (Value.str (Str.ofString "PlainHost") 422), some (Value.str (Str.ofString "PlainHost") 430), some (Value.builtin "object.__new__"), some (Value.bool true)] }
noncomputable def v3o216 (P : Params) : Obj := { cls := Value.type "getset_descriptor", data := Data.fields #[Value.str (Str.ofString "__dict__") 475, Value.ref 215, Value.builtin "function.__dict__", Value.builtin "function.__dict__#set"] }
noncomputable def v3o217 (P : Params) : Obj := { cls := Value.type "getset_descriptor", data := Data.fields #[Value.str (Str.ofString "__weakref__") 477, Value.ref 215, Value.builtin "ExceptionGroup.__weakref__", Value.none] }
noncomputable def v3o218 (P : Params) : Obj := { cls := Value.type "super", data := Data.fields #[Value.ref 215, Value.ref 215, Value.ref 215] }
noncomputable def v3o219 (P : Params) : Obj := { cls := Value.type "builtin_function_or_method", data := Data.fields #[Value.builtin "object.__init_subclass__", Value.ref 215] }
noncomputable def v3o220 (P : Params) : Obj := { cls := Value.type "tuple", data := Data.seq #[] }
noncomputable def v3o221 (P : Params) : Obj := { cls := Value.none, data := Data.fields #[] }
noncomputable def v3o222 (P : Params) : Obj := { cls := Value.none, data := Data.func { name := Str.ofString "replaced_signs", qualname := Str.ofString "replaced_signs", params := F222a, body := FuncBody.stmts F222b, scope := F222s, globals := 0, closure := [], defaults := Value.none, kwdefaults := Value.none } }
noncomputable def v3o223 (P : Params) : Obj := { cls := Value.type "code", data := Data.fields #[Value.str (Str.ofString "replaced_signs") 484, Value.str (Str.ofString "replaced_signs") 485, Value.str (Str.ofString "/claim/cut.py") 486, Value.int 106 0, Value.int 3 0, Value.int 0 0, Value.int 0 0, Value.int 3 0, Value.ref 220, Value.bool true, Value.int 181 0, Value.ref 221, Value.none, Value.none, Value.none, Value.ref 222, Value.int 487 0, Value.int 106 0, Value.str (Str.ofString "/claim/cut.py") 488] }
noncomputable def v3o224 (P : Params) : Obj := { cls := Value.type "function", data := Data.func { name := Str.ofString "replaced_signs", qualname := Str.ofString "replaced_signs", params := F224a, body := FuncBody.stmts F224b, scope := F224s, globals := 3, closure := [], defaults := Value.none, kwdefaults := Value.none, pyModule := Value.str (Str.ofString "snobol.strings") 482, code := Value.ref 223 } }
noncomputable def v3o225 (P : Params) : Obj := { cls := Value.type "tuple", data := Data.seq #[] }
noncomputable def v3o226 (P : Params) : Obj := { cls := Value.none, data := Data.fields #[] }
noncomputable def v3o227 (P : Params) : Obj := { cls := Value.type "tuple", data := Data.seq #[Value.str (Str.ofString "value") 493] }
noncomputable def v3o228 (P : Params) : Obj := { cls := Value.type "tuple", data := Data.seq #[] }
noncomputable def v3o229 (P : Params) : Obj := { cls := Value.none, data := Data.func { name := Str.ofString "told_or_fail", qualname := Str.ofString "told_or_fail", params := F229a, body := FuncBody.stmts F229b, scope := F229s, globals := 0, closure := [], defaults := Value.none, kwdefaults := Value.none } }
noncomputable def v3o230 (P : Params) : Obj := { cls := Value.type "code", data := Data.fields #[Value.str (Str.ofString "told_or_fail") 490, Value.str (Str.ofString "told_or_fail") 491, Value.str (Str.ofString "/claim/cut.py") 492, Value.int 113 0, Value.int 1 0, Value.int 0 0, Value.int 0 0, Value.int 3 0, Value.ref 225, Value.bool true, Value.int 181 0, Value.ref 226, Value.none, Value.ref 227, Value.ref 228, Value.ref 229, Value.int 494 0, Value.int 113 0, Value.str (Str.ofString "/claim/cut.py") 495] }
noncomputable def v3o231 (P : Params) : Obj := { cls := Value.type "function", data := Data.func { name := Str.ofString "told_or_fail", qualname := Str.ofString "told_or_fail", params := F231a, body := FuncBody.stmts F231b, scope := F231s, globals := 3, closure := [], defaults := Value.none, kwdefaults := Value.none, pyModule := Value.str (Str.ofString "snobol.strings") 482, code := Value.ref 230 } }
noncomputable def v3o232 (P : Params) : Obj := { cls := Value.type "tuple", data := Data.seq #[] }
noncomputable def v3o233 (P : Params) : Obj := { cls := Value.none, data := Data.fields #[] }
noncomputable def v3o234 (P : Params) : Obj := { cls := Value.type "tuple", data := Data.seq #[Value.str (Str.ofString "world") 500, Value.str (Str.ofString "args") 501, Value.str (Str.ofString "text") 502, Value.str (Str.ofString "olds") 503] }
noncomputable def v3o235 (P : Params) : Obj := { cls := Value.type "tuple", data := Data.seq #[] }
noncomputable def v3o236 (P : Params) : Obj := { cls := Value.none, data := Data.func { name := Str.ofString "text_replace", qualname := Str.ofString "text_replace", params := F236a, body := FuncBody.stmts F236b, scope := F236s, globals := 0, closure := [], defaults := Value.none, kwdefaults := Value.none } }
noncomputable def v3o237 (P : Params) : Obj := { cls := Value.type "code", data := Data.fields #[Value.str (Str.ofString "text_replace") 497, Value.str (Str.ofString "text_replace") 498, Value.str (Str.ofString "/claim/cut.py") 499, Value.int 115 0, Value.int 2 0, Value.int 0 0, Value.int 0 0, Value.int 3 0, Value.ref 232, Value.bool true, Value.int 181 0, Value.ref 233, Value.none, Value.ref 234, Value.ref 235, Value.ref 236, Value.int 504 0, Value.int 115 0, Value.str (Str.ofString "/claim/cut.py") 505] }
noncomputable def v3o238 (P : Params) : Obj := { cls := Value.type "function", data := Data.func { name := Str.ofString "text_replace", qualname := Str.ofString "text_replace", params := F238a, body := FuncBody.stmts F238b, scope := F238s, globals := 3, closure := [], defaults := Value.none, kwdefaults := Value.none, pyModule := Value.str (Str.ofString "snobol.strings") 482, code := Value.ref 237 } }
noncomputable def v3o239 (P : Params) : Obj := { cls := Value.type "tuple", data := Data.seq #[Value.str (Str.ofString "len") 509, Value.str (Str.ofString "pos") 510, Value.str (Str.ofString "rpos") 511, Value.str (Str.ofString "tab") 512, Value.str (Str.ofString "rtab") 513] }
noncomputable def v3o240 (P : Params) : Obj := { cls := Value.type "tuple", data := Data.seq #[Value.str (Str.ofString "any") 515, Value.str (Str.ofString "notany") 516, Value.str (Str.ofString "span") 517, Value.str (Str.ofString "break") 518] }
noncomputable def v3o241 (P : Params) : Obj := { cls := Value.type "tuple", data := Data.seq #[Value.int 64 520] }
noncomputable def v3o242 (P : Params) : Obj := { cls := Value.type "tuple", data := Data.seq #[] }
noncomputable def v3o243 (P : Params) : Obj := { cls := Value.none, data := Data.fields #[] }
noncomputable def v3o244 (P : Params) : Obj := { cls := Value.type "tuple", data := Data.seq #[Value.str (Str.ofString "value") 525, Value.str (Str.ofString "kind") 526, Value.str (Str.ofString "width") 527, Value.str (Str.ofString "count") 528] }
noncomputable def v3o245 (P : Params) : Obj := { cls := Value.type "tuple", data := Data.seq #[] }
noncomputable def v3o246 (P : Params) : Obj := { cls := Value.none, data := Data.func { name := Str.ofString "plain_count", qualname := Str.ofString "plain_count", params := F246a, body := FuncBody.stmts F246b, scope := F246s, globals := 0, closure := [], defaults := Value.none, kwdefaults := Value.none } }
noncomputable def v3o247 (P : Params) : Obj := { cls := Value.type "code", data := Data.fields #[Value.str (Str.ofString "plain_count") 522, Value.str (Str.ofString "plain_count") 523, Value.str (Str.ofString "/claim/cut.py") 524, Value.int 122 0, Value.int 3 0, Value.int 0 0, Value.int 0 0, Value.int 3 0, Value.ref 242, Value.bool true, Value.int 181 0, Value.ref 243, Value.none, Value.ref 244, Value.ref 245, Value.ref 246, Value.int 529 0, Value.int 122 0, Value.str (Str.ofString "/claim/cut.py") 530] }
noncomputable def v3o248 (P : Params) : Obj := { cls := Value.type "function", data := Data.func { name := Str.ofString "plain_count", qualname := Str.ofString "plain_count", params := F248a, body := FuncBody.stmts F248b, scope := F248s, globals := 3, closure := [], defaults := Value.ref 241, kwdefaults := Value.none, pyModule := Value.str (Str.ofString "snobol.nodes") 507, code := Value.ref 247 } }
noncomputable def v3o249 (P : Params) : Obj := { cls := Value.type "tuple", data := Data.seq #[] }
noncomputable def v3o250 (P : Params) : Obj := { cls := Value.none, data := Data.fields #[] }
noncomputable def v3o251 (P : Params) : Obj := { cls := Value.type "tuple", data := Data.seq #[Value.str (Str.ofString "value") 535, Value.str (Str.ofString "kind") 536, Value.str (Str.ofString "text") 537] }
noncomputable def v3o252 (P : Params) : Obj := { cls := Value.type "tuple", data := Data.seq #[] }
noncomputable def v3o253 (P : Params) : Obj := { cls := Value.none, data := Data.func { name := Str.ofString "plain_signs", qualname := Str.ofString "plain_signs", params := F253a, body := FuncBody.stmts F253b, scope := F253s, globals := 0, closure := [], defaults := Value.none, kwdefaults := Value.none } }
noncomputable def v3o254 (P : Params) : Obj := { cls := Value.type "code", data := Data.fields #[Value.str (Str.ofString "plain_signs") 532, Value.str (Str.ofString "plain_signs") 533, Value.str (Str.ofString "/claim/cut.py") 534, Value.int 129 0, Value.int 2 0, Value.int 0 0, Value.int 0 0, Value.int 3 0, Value.ref 249, Value.bool true, Value.int 181 0, Value.ref 250, Value.none, Value.ref 251, Value.ref 252, Value.ref 253, Value.int 538 0, Value.int 129 0, Value.str (Str.ofString "/claim/cut.py") 539] }
noncomputable def v3o255 (P : Params) : Obj := { cls := Value.type "function", data := Data.func { name := Str.ofString "plain_signs", qualname := Str.ofString "plain_signs", params := F255a, body := FuncBody.stmts F255b, scope := F255s, globals := 3, closure := [], defaults := Value.none, kwdefaults := Value.none, pyModule := Value.str (Str.ofString "snobol.nodes") 507, code := Value.ref 254 } }
noncomputable def v3o256 (P : Params) : Obj := { cls := Value.type "tuple", data := Data.seq #[] }
noncomputable def v3o257 (P : Params) : Obj := { cls := Value.none, data := Data.fields #[] }
noncomputable def v3o258 (P : Params) : Obj := { cls := Value.type "tuple", data := Data.seq #[Value.str (Str.ofString "value") 544, Value.str (Str.ofString "text") 545] }
noncomputable def v3o259 (P : Params) : Obj := { cls := Value.type "tuple", data := Data.seq #[] }
noncomputable def v3o260 (P : Params) : Obj := { cls := Value.none, data := Data.func { name := Str.ofString "pattern_of", qualname := Str.ofString "pattern_of", params := F260a, body := FuncBody.stmts F260b, scope := F260s, globals := 0, closure := [], defaults := Value.none, kwdefaults := Value.none } }
noncomputable def v3o261 (P : Params) : Obj := { cls := Value.type "code", data := Data.fields #[Value.str (Str.ofString "pattern_of") 541, Value.str (Str.ofString "pattern_of") 542, Value.str (Str.ofString "/claim/cut.py") 543, Value.int 134 0, Value.int 1 0, Value.int 0 0, Value.int 0 0, Value.int 3 0, Value.ref 256, Value.bool true, Value.int 181 0, Value.ref 257, Value.none, Value.ref 258, Value.ref 259, Value.ref 260, Value.int 546 0, Value.int 134 0, Value.str (Str.ofString "/claim/cut.py") 547] }
noncomputable def v3o262 (P : Params) : Obj := { cls := Value.type "function", data := Data.func { name := Str.ofString "pattern_of", qualname := Str.ofString "pattern_of", params := F262a, body := FuncBody.stmts F262b, scope := F262s, globals := 3, closure := [], defaults := Value.none, kwdefaults := Value.none, pyModule := Value.str (Str.ofString "snobol.nodes") 507, code := Value.ref 261 } }
noncomputable def v3o263 (P : Params) : Obj := { cls := Value.type "tuple", data := Data.seq #[] }
noncomputable def v3o264 (P : Params) : Obj := { cls := Value.none, data := Data.fields #[] }
noncomputable def v3o265 (P : Params) : Obj := { cls := Value.type "tuple", data := Data.seq #[Value.str (Str.ofString "told") 552] }
noncomputable def v3o266 (P : Params) : Obj := { cls := Value.type "tuple", data := Data.seq #[] }
noncomputable def v3o267 (P : Params) : Obj := { cls := Value.none, data := Data.func { name := Str.ofString "is_delayed", qualname := Str.ofString "is_delayed", params := F267a, body := FuncBody.stmts F267b, scope := F267s, globals := 0, closure := [], defaults := Value.none, kwdefaults := Value.none } }
noncomputable def v3o268 (P : Params) : Obj := { cls := Value.type "code", data := Data.fields #[Value.str (Str.ofString "is_delayed") 549, Value.str (Str.ofString "is_delayed") 550, Value.str (Str.ofString "/claim/cut.py") 551, Value.int 143 0, Value.int 1 0, Value.int 0 0, Value.int 0 0, Value.int 3 0, Value.ref 263, Value.bool true, Value.int 181 0, Value.ref 264, Value.none, Value.ref 265, Value.ref 266, Value.ref 267, Value.int 553 0, Value.int 143 0, Value.str (Str.ofString "/claim/cut.py") 554] }
noncomputable def v3o269 (P : Params) : Obj := { cls := Value.type "function", data := Data.func { name := Str.ofString "is_delayed", qualname := Str.ofString "is_delayed", params := F269a, body := FuncBody.stmts F269b, scope := F269s, globals := 3, closure := [], defaults := Value.none, kwdefaults := Value.none, pyModule := Value.str (Str.ofString "snobol.nodes") 507, code := Value.ref 268 } }
noncomputable def v3o270 (P : Params) : Obj := { cls := Value.type "tuple", data := Data.seq #[] }
noncomputable def v3o271 (P : Params) : Obj := { cls := Value.none, data := Data.fields #[] }
noncomputable def v3o272 (P : Params) : Obj := { cls := Value.type "tuple", data := Data.seq #[Value.str (Str.ofString "node") 559, Value.str (Str.ofString "host") 560, Value.str (Str.ofString "value") 561] }
noncomputable def v3o273 (P : Params) : Obj := { cls := Value.type "tuple", data := Data.seq #[] }
noncomputable def v3o274 (P : Params) : Obj := { cls := Value.none, data := Data.func { name := Str.ofString "settled", qualname := Str.ofString "settled", params := F274a, body := FuncBody.stmts F274b, scope := F274s, globals := 0, closure := [], defaults := Value.none, kwdefaults := Value.none } }
noncomputable def v3o275 (P : Params) : Obj := { cls := Value.type "code", data := Data.fields #[Value.str (Str.ofString "settled") 556, Value.str (Str.ofString "settled") 557, Value.str (Str.ofString "/claim/cut.py") 558, Value.int 145 0, Value.int 2 0, Value.int 0 0, Value.int 0 0, Value.int 3 0, Value.ref 270, Value.bool true, Value.int 181 0, Value.ref 271, Value.none, Value.ref 272, Value.ref 273, Value.ref 274, Value.int 562 0, Value.int 145 0, Value.str (Str.ofString "/claim/cut.py") 563] }
noncomputable def v3o276 (P : Params) : Obj := { cls := Value.type "function", data := Data.func { name := Str.ofString "settled", qualname := Str.ofString "settled", params := F276a, body := FuncBody.stmts F276b, scope := F276s, globals := 3, closure := [], defaults := Value.none, kwdefaults := Value.none, pyModule := Value.str (Str.ofString "snobol.nodes") 507, code := Value.ref 275 } }
noncomputable def v3o277 (P : Params) : Obj := { cls := Value.type "tuple", data := Data.seq #[] }
noncomputable def v3o278 (P : Params) : Obj := { cls := Value.none, data := Data.fields #[] }
noncomputable def v3o279 (P : Params) : Obj := { cls := Value.type "tuple", data := Data.seq #[Value.str (Str.ofString "subject") 574, Value.str (Str.ofString "at") 575, Value.str (Str.ofString "text") 576, Value.str (Str.ofString "end") 577] }
noncomputable def v3o280 (P : Params) : Obj := { cls := Value.type "tuple", data := Data.seq #[] }
noncomputable def v3o281 (P : Params) : Obj := { cls := Value.none, data := Data.func { name := Str.ofString "chars_end", qualname := Str.ofString "chars_end", params := F281a, body := FuncBody.stmts F281b, scope := F281s, globals := 0, closure := [], defaults := Value.none, kwdefaults := Value.none } }
noncomputable def v3o282 (P : Params) : Obj := { cls := Value.type "code", data := Data.fields #[Value.str (Str.ofString "chars_end") 571, Value.str (Str.ofString "chars_end") 572, Value.str (Str.ofString "/claim/cut.py") 573, Value.int 157 0, Value.int 3 0, Value.int 0 0, Value.int 0 0, Value.int 3 0, Value.ref 277, Value.bool true, Value.int 181 0, Value.ref 278, Value.none, Value.ref 279, Value.ref 280, Value.ref 281, Value.int 578 0, Value.int 157 0, Value.str (Str.ofString "/claim/cut.py") 579] }
noncomputable def v3o283 (P : Params) : Obj := { cls := Value.type "function", data := Data.func { name := Str.ofString "chars_end", qualname := Str.ofString "chars_end", params := F283a, body := FuncBody.stmts F283b, scope := F283s, globals := 3, closure := [], defaults := Value.none, kwdefaults := Value.none, pyModule := Value.str (Str.ofString "snobol.primitives") 565, code := Value.ref 282 } }
noncomputable def v3o284 (P : Params) : Obj := { cls := Value.type "tuple", data := Data.seq #[] }
noncomputable def v3o285 (P : Params) : Obj := { cls := Value.none, data := Data.fields #[] }
noncomputable def v3o286 (P : Params) : Obj := { cls := Value.type "tuple", data := Data.seq #[Value.str (Str.ofString "subject") 584, Value.str (Str.ofString "at") 585, Value.str (Str.ofString "many") 586] }
noncomputable def v3o287 (P : Params) : Obj := { cls := Value.type "tuple", data := Data.seq #[] }
noncomputable def v3o288 (P : Params) : Obj := { cls := Value.none, data := Data.func { name := Str.ofString "len_end", qualname := Str.ofString "len_end", params := F288a, body := FuncBody.stmts F288b, scope := F288s, globals := 0, closure := [], defaults := Value.none, kwdefaults := Value.none } }
noncomputable def v3o289 (P : Params) : Obj := { cls := Value.type "code", data := Data.fields #[Value.str (Str.ofString "len_end") 581, Value.str (Str.ofString "len_end") 582, Value.str (Str.ofString "/claim/cut.py") 583, Value.int 160 0, Value.int 3 0, Value.int 0 0, Value.int 0 0, Value.int 3 0, Value.ref 284, Value.bool true, Value.int 181 0, Value.ref 285, Value.none, Value.ref 286, Value.ref 287, Value.ref 288, Value.int 587 0, Value.int 160 0, Value.str (Str.ofString "/claim/cut.py") 588] }
noncomputable def v3o290 (P : Params) : Obj := { cls := Value.type "function", data := Data.func { name := Str.ofString "len_end", qualname := Str.ofString "len_end", params := F290a, body := FuncBody.stmts F290b, scope := F290s, globals := 3, closure := [], defaults := Value.none, kwdefaults := Value.none, pyModule := Value.str (Str.ofString "snobol.primitives") 565, code := Value.ref 289 } }
noncomputable def v3o291 (P : Params) : Obj := { cls := Value.type "tuple", data := Data.seq #[] }
noncomputable def v3o292 (P : Params) : Obj := { cls := Value.none, data := Data.fields #[] }
noncomputable def v3o293 (P : Params) : Obj := { cls := Value.type "tuple", data := Data.seq #[Value.str (Str.ofString "at") 593, Value.str (Str.ofString "place") 594] }
noncomputable def v3o294 (P : Params) : Obj := { cls := Value.type "tuple", data := Data.seq #[] }
noncomputable def v3o295 (P : Params) : Obj := { cls := Value.none, data := Data.func { name := Str.ofString "pos_end", qualname := Str.ofString "pos_end", params := F295a, body := FuncBody.stmts F295b, scope := F295s, globals := 0, closure := [], defaults := Value.none, kwdefaults := Value.none } }
noncomputable def v3o296 (P : Params) : Obj := { cls := Value.type "code", data := Data.fields #[Value.str (Str.ofString "pos_end") 590, Value.str (Str.ofString "pos_end") 591, Value.str (Str.ofString "/claim/cut.py") 592, Value.int 162 0, Value.int 2 0, Value.int 0 0, Value.int 0 0, Value.int 3 0, Value.ref 291, Value.bool true, Value.int 181 0, Value.ref 292, Value.none, Value.ref 293, Value.ref 294, Value.ref 295, Value.int 595 0, Value.int 162 0, Value.str (Str.ofString "/claim/cut.py") 596] }
noncomputable def v3o297 (P : Params) : Obj := { cls := Value.type "function", data := Data.func { name := Str.ofString "pos_end", qualname := Str.ofString "pos_end", params := F297a, body := FuncBody.stmts F297b, scope := F297s, globals := 3, closure := [], defaults := Value.none, kwdefaults := Value.none, pyModule := Value.str (Str.ofString "snobol.primitives") 565, code := Value.ref 296 } }
noncomputable def v3o298 (P : Params) : Obj := { cls := Value.type "tuple", data := Data.seq #[] }
noncomputable def v3o299 (P : Params) : Obj := { cls := Value.none, data := Data.fields #[] }
noncomputable def v3o300 (P : Params) : Obj := { cls := Value.type "tuple", data := Data.seq #[Value.str (Str.ofString "subject") 601, Value.str (Str.ofString "at") 602, Value.str (Str.ofString "place") 603] }
noncomputable def v3o301 (P : Params) : Obj := { cls := Value.type "tuple", data := Data.seq #[] }
noncomputable def v3o302 (P : Params) : Obj := { cls := Value.none, data := Data.func { name := Str.ofString "rpos_end", qualname := Str.ofString "rpos_end", params := F302a, body := FuncBody.stmts F302b, scope := F302s, globals := 0, closure := [], defaults := Value.none, kwdefaults := Value.none } }
noncomputable def v3o303 (P : Params) : Obj := { cls := Value.type "code", data := Data.fields #[Value.str (Str.ofString "rpos_end") 598, Value.str (Str.ofString "rpos_end") 599, Value.str (Str.ofString "/claim/cut.py") 600, Value.int 164 0, Value.int 3 0, Value.int 0 0, Value.int 0 0, Value.int 3 0, Value.ref 298, Value.bool true, Value.int 181 0, Value.ref 299, Value.none, Value.ref 300, Value.ref 301, Value.ref 302, Value.int 604 0, Value.int 164 0, Value.str (Str.ofString "/claim/cut.py") 605] }
noncomputable def v3o304 (P : Params) : Obj := { cls := Value.type "function", data := Data.func { name := Str.ofString "rpos_end", qualname := Str.ofString "rpos_end", params := F304a, body := FuncBody.stmts F304b, scope := F304s, globals := 3, closure := [], defaults := Value.none, kwdefaults := Value.none, pyModule := Value.str (Str.ofString "snobol.primitives") 565, code := Value.ref 303 } }
set_option maxRecDepth 100000 in
noncomputable def tree3 (P : Params) : BT := (.node (boot_o_0 P) (.node (boot_o_1 P) (.node (v3o3 P) (.node (boot_o_7 P) (.node (v1o15 P) (.node (v1o31 P) (.node (v1o63 P) (.node (v2o127 P) (.node (v3o255 P) .nil .nil) .nil) (.node (v3o191 P) .nil .nil)) (.node (v2o95 P) (.node (v2o159 P) (.node (v3o287 P) .nil .nil) .nil) (.node (v3o223 P) .nil .nil))) (.node (v1o47 P) (.node (v1o79 P) (.node (v2o143 P) (.node (v3o271 P) .nil .nil) .nil) (.node (v3o207 P) .nil .nil)) (.node (v2o111 P) (.node (v2o175 P) (.node (v3o303 P) .nil .nil) .nil) (.node (v3o239 P) .nil .nil)))) (.node (v1o23 P) (.node (v1o39 P) (.node (v1o71 P) (.node (v2o135 P) (.node (v3o263 P) .nil .nil) .nil) (.node (v3o199 P) .nil .nil)) (.node (v2o103 P) (.node (v2o167 P) (.node (v3o295 P) .nil .nil) .nil) (.node (v3o231 P) .nil .nil))) (.node (v1o55 P) (.node (v2o87 P) (.node (v2o151 P) (.node (v3o279 P) .nil .nil) .nil) (.node (v3o215 P) .nil .nil)) (.node (v2o119 P) (.node (v3o183 P) .nil .nil) (.node (v3o247 P) .nil .nil))))) (.node (o11) (.node (v1o19 P) (.node (v1o35 P) (.node (v1o67 P) (.node (v2o131 P) (.node (v3o259 P) .nil .nil) .nil) (.node (v3o195 P) .nil .nil)) (.node (v2o99 P) (.node (v2o163 P) (.node (v3o291 P) .nil .nil) .nil) (.node (v3o227 P) .nil .nil))) (.node (v1o51 P) (.node (v1o83 P) (.node (v2o147 P) (.node (v3o275 P) .nil .nil) .nil) (.node (v3o211 P) .nil .nil)) (.node (v2o115 P) (.node (v3o179 P) .nil .nil) (.node (v3o243 P) .nil .nil)))) (.node (v1o27 P) (.node (v1o43 P) (.node (v1o75 P) (.node (v2o139 P) (.node (v3o267 P) .nil .nil) .nil) (.node (v3o203 P) .nil .nil)) (.node (v2o107 P) (.node (v2o171 P) (.node (v3o299 P) .nil .nil) .nil) (.node (v3o235 P) .nil .nil))) (.node (v1o59 P) (.node (v2o91 P) (.node (v2o155 P) (.node (v3o283 P) .nil .nil) .nil) (.node (v3o219 P) .nil .nil)) (.node (v2o123 P) (.node (v3o187 P) .nil .nil) (.node (v3o251 P) .nil .nil)))))) (.node (boot_o_5 P) (.node (boot_o_9 P) (.node (v1o17 P) (.node (v1o33 P) (.node (v1o65 P) (.node (v2o129 P) (.node (v3o257 P) .nil .nil) .nil) (.node (v3o193 P) .nil .nil)) (.node (v2o97 P) (.node (v2o161 P) (.node (v3o289 P) .nil .nil) .nil) (.node (v3o225 P) .nil .nil))) (.node (v1o49 P) (.node (v1o81 P) (.node (v2o145 P) (.node (v3o273 P) .nil .nil) .nil) (.node (v3o209 P) .nil .nil)) (.node (v2o113 P) (.node (v2o177 P) .nil .nil) (.node (v3o241 P) .nil .nil)))) (.node (v1o25 P) (.node (v1o41 P) (.node (v1o73 P) (.node (v2o137 P) (.node (v3o265 P) .nil .nil) .nil) (.node (v3o201 P) .nil .nil)) (.node (v2o105 P) (.node (v2o169 P) (.node (v3o297 P) .nil .nil) .nil) (.node (v3o233 P) .nil .nil))) (.node (v1o57 P) (.node (v2o89 P) (.node (v2o153 P) (.node (v3o281 P) .nil .nil) .nil) (.node (v3o217 P) .nil .nil)) (.node (v2o121 P) (.node (v3o185 P) .nil .nil) (.node (v3o249 P) .nil .nil))))) (.node (o13) (.node (v1o21 P) (.node (v1o37 P) (.node (v1o69 P) (.node (v2o133 P) (.node (v3o261 P) .nil .nil) .nil) (.node (v3o197 P) .nil .nil)) (.node (v2o101 P) (.node (v2o165 P) (.node (v3o293 P) .nil .nil) .nil) (.node (v3o229 P) .nil .nil))) (.node (v1o53 P) (.node (v1o85 P) (.node (v2o149 P) (.node (v3o277 P) .nil .nil) .nil) (.node (v3o213 P) .nil .nil)) (.node (v2o117 P) (.node (v3o181 P) .nil .nil) (.node (v3o245 P) .nil .nil)))) (.node (v1o29 P) (.node (v1o45 P) (.node (v1o77 P) (.node (v2o141 P) (.node (v3o269 P) .nil .nil) .nil) (.node (v3o205 P) .nil .nil)) (.node (v2o109 P) (.node (v2o173 P) (.node (v3o301 P) .nil .nil) .nil) (.node (v3o237 P) .nil .nil))) (.node (v1o61 P) (.node (v2o93 P) (.node (v2o157 P) (.node (v3o285 P) .nil .nil) .nil) (.node (v3o221 P) .nil .nil)) (.node (v2o125 P) (.node (v3o189 P) .nil .nil) (.node (v3o253 P) .nil .nil))))))) (.node (v1o2 P) (.node (boot_o_4 P) (.node (boot_o_8 P) (.node (v1o16 P) (.node (v1o32 P) (.node (v1o64 P) (.node (v2o128 P) (.node (v3o256 P) .nil .nil) .nil) (.node (v3o192 P) .nil .nil)) (.node (v2o96 P) (.node (v2o160 P) (.node (v3o288 P) .nil .nil) .nil) (.node (v3o224 P) .nil .nil))) (.node (v1o48 P) (.node (v1o80 P) (.node (v2o144 P) (.node (v3o272 P) .nil .nil) .nil) (.node (v3o208 P) .nil .nil)) (.node (v2o112 P) (.node (v2o176 P) (.node (v3o304 P) .nil .nil) .nil) (.node (v3o240 P) .nil .nil)))) (.node (v1o24 P) (.node (v1o40 P) (.node (v1o72 P) (.node (v2o136 P) (.node (v3o264 P) .nil .nil) .nil) (.node (v3o200 P) .nil .nil)) (.node (v2o104 P) (.node (v2o168 P) (.node (v3o296 P) .nil .nil) .nil) (.node (v3o232 P) .nil .nil))) (.node (v1o56 P) (.node (v2o88 P) (.node (v2o152 P) (.node (v3o280 P) .nil .nil) .nil) (.node (v3o216 P) .nil .nil)) (.node (v2o120 P) (.node (v3o184 P) .nil .nil) (.node (v3o248 P) .nil .nil))))) (.node (v3o12 P) (.node (v1o20 P) (.node (v1o36 P) (.node (v1o68 P) (.node (v2o132 P) (.node (v3o260 P) .nil .nil) .nil) (.node (v3o196 P) .nil .nil)) (.node (v2o100 P) (.node (v2o164 P) (.node (v3o292 P) .nil .nil) .nil) (.node (v3o228 P) .nil .nil))) (.node (v1o52 P) (.node (v1o84 P) (.node (v2o148 P) (.node (v3o276 P) .nil .nil) .nil) (.node (v3o212 P) .nil .nil)) (.node (v2o116 P) (.node (v3o180 P) .nil .nil) (.node (v3o244 P) .nil .nil)))) (.node (v1o28 P) (.node (v1o44 P) (.node (v1o76 P) (.node (v2o140 P) (.node (v3o268 P) .nil .nil) .nil) (.node (v3o204 P) .nil .nil)) (.node (v2o108 P) (.node (v2o172 P) (.node (v3o300 P) .nil .nil) .nil) (.node (v3o236 P) .nil .nil))) (.node (v1o60 P) (.node (v2o92 P) (.node (v2o156 P) (.node (v3o284 P) .nil .nil) .nil) (.node (v3o220 P) .nil .nil)) (.node (v2o124 P) (.node (v3o188 P) .nil .nil) (.node (v3o252 P) .nil .nil)))))) (.node (boot_o_6 P) (.node (boot_o_10 P) (.node (v1o18 P) (.node (v1o34 P) (.node (v1o66 P) (.node (v2o130 P) (.node (v3o258 P) .nil .nil) .nil) (.node (v3o194 P) .nil .nil)) (.node (v2o98 P) (.node (v2o162 P) (.node (v3o290 P) .nil .nil) .nil) (.node (v3o226 P) .nil .nil))) (.node (v1o50 P) (.node (v1o82 P) (.node (v2o146 P) (.node (v3o274 P) .nil .nil) .nil) (.node (v3o210 P) .nil .nil)) (.node (v2o114 P) (.node (v3o178 P) .nil .nil) (.node (v3o242 P) .nil .nil)))) (.node (v1o26 P) (.node (v1o42 P) (.node (v1o74 P) (.node (v2o138 P) (.node (v3o266 P) .nil .nil) .nil) (.node (v3o202 P) .nil .nil)) (.node (v2o106 P) (.node (v2o170 P) (.node (v3o298 P) .nil .nil) .nil) (.node (v3o234 P) .nil .nil))) (.node (v1o58 P) (.node (v2o90 P) (.node (v2o154 P) (.node (v3o282 P) .nil .nil) .nil) (.node (v3o218 P) .nil .nil)) (.node (v2o122 P) (.node (v3o186 P) .nil .nil) (.node (v3o250 P) .nil .nil))))) (.node (o14) (.node (v1o22 P) (.node (v1o38 P) (.node (v1o70 P) (.node (v2o134 P) (.node (v3o262 P) .nil .nil) .nil) (.node (v3o198 P) .nil .nil)) (.node (v2o102 P) (.node (v2o166 P) (.node (v3o294 P) .nil .nil) .nil) (.node (v3o230 P) .nil .nil))) (.node (v1o54 P) (.node (v1o86 P) (.node (v2o150 P) (.node (v3o278 P) .nil .nil) .nil) (.node (v3o214 P) .nil .nil)) (.node (v2o118 P) (.node (v3o182 P) .nil .nil) (.node (v3o246 P) .nil .nil)))) (.node (v1o30 P) (.node (v1o46 P) (.node (v1o78 P) (.node (v2o142 P) (.node (v3o270 P) .nil .nil) .nil) (.node (v3o206 P) .nil .nil)) (.node (v2o110 P) (.node (v2o174 P) (.node (v3o302 P) .nil .nil) .nil) (.node (v3o238 P) .nil .nil))) (.node (v1o62 P) (.node (v2o94 P) (.node (v2o158 P) (.node (v3o286 P) .nil .nil) .nil) (.node (v3o222 P) .nil .nil)) (.node (v2o126 P) (.node (v3o190 P) .nil .nil) (.node (v3o254 P) .nil .nil))))))))
noncomputable def v4o3 (P : Params) : Obj := { cls := Value.type "dict", data := Data.dict #[{ hash := PyData.keyHash P (Str.ofString "__name__"), key := Value.str (Str.ofString "__name__") 165, val := Value.str (Str.ofString "snobol.world") 834 }, { hash := PyData.keyHash P (Str.ofString "__doc__"), key := Value.str (Str.ofString "__doc__") 166, val := Value.none }, { hash := PyData.keyHash P (Str.ofString "__package__"), key := Value.str (Str.ofString "__package__") 167, val := Value.none }, { hash := PyData.keyHash P (Str.ofString "__loader__"), key := Value.str (Str.ofString "__loader__") 168, val := Value.builtin "__main__.__loader__#opaque" }, { hash := PyData.keyHash P (Str.ofString "__spec__"), key := Value.str (Str.ofString "__spec__") 169, val := Value.none }, { hash := PyData.keyHash P (Str.ofString "__annotations__"), key := Value.str (Str.ofString "__annotations__") 170, val := Value.ref 6 }, { hash := PyData.keyHash P (Str.ofString "__builtins__"), key := Value.str (Str.ofString "__builtins__") 171, val := Value.ref 4 }, { hash := PyData.keyHash P (Str.ofString "__file__"), key := Value.str (Str.ofString "__file__") 173, val := Value.str (Str.ofString "/claim/cut.py") 172 }, { hash := PyData.keyHash P (Str.ofString "__cached__"), key := Value.str (Str.ofString "__cached__") 174, val := Value.none }, { hash := PyData.keyHash P (Str.ofString "give_names"), key := Value.str (Str.ofString "give_names") 198, val := Value.ref 21 }, { hash := PyData.keyHash P (Str.ofString "three_pieces"), key := Value.str (Str.ofString "three_pieces") 206, val := Value.ref 28 }, { hash := PyData.keyHash P (Str.ofString "spliced"), key := Value.str (Str.ofString "spliced") 218, val := Value.ref 35 }, { hash := PyData.keyHash P (Str.ofString "replace_once"), key := Value.str (Str.ofString "replace_once") 232, val := Value.ref 42 }, { hash := PyData.keyHash P (Str.ofString "replace_often"), key := Value.str (Str.ofString "replace_often") 247, val := Value.ref 49 }, { hash := PyData.keyHash P (Str.ofString "SnobolError"), key := Value.str (Str.ofString "SnobolError") 283, val := Value.ref 69 }, { hash := PyData.keyHash P (Str.ofString "Failure"), key := Value.str (Str.ofString "Failure") 303, val := Value.ref 82 }, { hash := PyData.keyHash P (Str.ofString "Pattern"), key := Value.str (Str.ofString "Pattern") 332, val := Value.ref 103 }, { hash := PyData.keyHash P (Str.ofString "Delayed"), key := Value.str (Str.ofString "Delayed") 361, val := Value.ref 124 }, { hash := PyData.keyHash P (Str.ofString "is_fail"), key := Value.str (Str.ofString "is_fail") 368, val := Value.ref 135 }, { hash := PyData.keyHash P (Str.ofString "fits"), key := Value.str (Str.ofString "fits") 376, val := Value.ref 142 }, { hash := PyData.keyHash P (Str.ofString "whole_of_text"), key := Value.str (Str.ofString "whole_of_text") 387, val := Value.ref 149 }, { hash := PyData.keyHash P (Str.ofString "text_of_whole"), key := Value.str (Str.ofString "text_of_whole") 396, val := Value.ref 156 }, { hash := PyData.keyHash P (Str.ofString "to_whole"), key := Value.str (Str.ofString "to_whole") 404, val := Value.ref 163 }, { hash := PyData.keyHash P (Str.ofString "to_text"), key := Value.str (Str.ofString "to_text") 411, val := Value.ref 170 }, { hash := PyData.keyHash P (Str.ofString "need_text"), key := Value.str (Str.ofString "need_text") 419, val := Value.ref 177 }, { hash := PyData.keyHash P (Str.ofString "PlainHost"), key := Value.str (Str.ofString "PlainHost") 481, val := Value.ref 215 }, { hash := PyData.keyHash P (Str.ofString "replaced_signs"), key := Value.str (Str.ofString "replaced_signs") 489, val := Value.ref 224 }, { hash := PyData.keyHash P (Str.ofString "told_or_fail"), key := Value.str (Str.ofString "told_or_fail") 496, val := Value.ref 231 }, { hash := PyData.keyHash P (Str.ofString "text_replace"), key := Value.str (Str.ofString "text_replace") 506, val := Value.ref 238 }, { hash := PyData.keyHash P (Str.ofString "COUNTED"), key := Value.str (Str.ofString "COUNTED") 514, val := Value.ref 239 }, { hash := PyData.keyHash P (Str.ofString "SIGNED"), key := Value.str (Str.ofString "SIGNED") 519, val := Value.ref 240 }, { hash := PyData.keyHash P (Str.ofString "WIDTH_OF_COUNT"), key := Value.str (Str.ofString "WIDTH_OF_COUNT") 521, val := Value.int 64 520 }, { hash := PyData.keyHash P (Str.ofString "plain_count"), key := Value.str (Str.ofString "plain_count") 531, val := Value.ref 248 }, { hash := PyData.keyHash P (Str.ofString "plain_signs"), key := Value.str (Str.ofString "plain_signs") 540, val := Value.ref 255 }, { hash := PyData.keyHash P (Str.ofString "pattern_of"), key := Value.str (Str.ofString "pattern_of") 548, val := Value.ref 262 }, { hash := PyData.keyHash P (Str.ofString "is_delayed"), key := Value.str (Str.ofString "is_delayed") 555, val := Value.ref 269 }, { hash := PyData.keyHash P (Str.ofString "settled"), key := Value.str (Str.ofString "settled") 564, val := Value.ref 276 }, { hash := PyData.keyHash P (Str.ofString "OPENING"), key := Value.str (Str.ofString "OPENING") 568, val := Value.str (Str.ofString "(") 567 }, { hash := PyData.keyHash P (Str.ofString "CLOSING"), key := Value.str (Str.ofString "CLOSING") 570, val := Value.str (Str.ofString ")") 569 }, { hash := PyData.keyHash P (Str.ofString "chars_end"), key := Value.str (Str.ofString "chars_end") 580, val := Value.ref 283 }, { hash := PyData.keyHash P (Str.ofString "len_end"), key := Value.str (Str.ofString "len_end") 589, val := Value.ref 290 }, { hash := PyData.keyHash P (Str.ofString "pos_end"), key := Value.str (Str.ofString "pos_end") 597, val := Value.ref 297 }, { hash := PyData.keyHash P (Str.ofString "rpos_end"), key := Value.str (Str.ofString "rpos_end") 606, val := Value.ref 304 }, { hash := PyData.keyHash P (Str.ofString "tab_end"), key := Value.str (Str.ofString "tab_end") 615, val := Value.ref 311 }, { hash := PyData.keyHash P (Str.ofString "rtab_end"), key := Value.str (Str.ofString "rtab_end") 625, val := Value.ref 318 }, { hash := PyData.keyHash P (Str.ofString "rem_end"), key := Value.str (Str.ofString "rem_end") 632, val := Value.ref 325 }, { hash := PyData.keyHash P (Str.ofString "any_at"), key := Value.str (Str.ofString "any_at") 641, val := Value.ref 332 }, { hash := PyData.keyHash P (Str.ofString "notany_at"), key := Value.str (Str.ofString "notany_at") 650, val := Value.ref 339 }, { hash := PyData.keyHash P (Str.ofString "run_end"), key := Value.str (Str.ofString "run_end") 660, val := Value.ref 346 }, { hash := PyData.keyHash P (Str.ofString "span_end"), key := Value.str (Str.ofString "span_end") 670, val := Value.ref 353 }, { hash := PyData.keyHash P (Str.ofString "break_end"), key := Value.str (Str.ofString "break_end") 680, val := Value.ref 360 }, { hash := PyData.keyHash P (Str.ofString "bal_end"), key := Value.str (Str.ofString "bal_end") 689, val := Value.ref 367 }, { hash := PyData.keyHash P (Str.ofString "bal_ends"), key := Value.str (Str.ofString "bal_ends") 699, val := Value.ref 374 }, { hash := PyData.keyHash P (Str.ofString "one_end"), key := Value.str (Str.ofString "one_end") 709, val := Value.ref 381 }, { hash := PyData.keyHash P (Str.ofString "plain_end"), key := Value.str (Str.ofString "plain_end") 718, val := Value.ref 388 }, { hash := PyData.keyHash P (Str.ofString "LOST"), key := Value.str (Str.ofString "LOST") 722, val := Value.str (Str.ofString "lost") 721 }, { hash := PyData.keyHash P (Str.ofString "match_plain"), key := Value.str (Str.ofString "match_plain") 734, val := Value.ref 395 }, { hash := PyData.keyHash P (Str.ofString "match_at"), key := Value.str (Str.ofString "match_at") 745, val := Value.ref 402 }, { hash := PyData.keyHash P (Str.ofString "tried"), key := Value.str (Str.ofString "tried") 760, val := Value.ref 409 }, { hash := PyData.keyHash P (Str.ofString "advanced"), key := Value.str (Str.ofString "advanced") 776, val := Value.ref 416 }, { hash := PyData.keyHash P (Str.ofString "led_in"), key := Value.str (Str.ofString "led_in") 788, val := Value.ref 423 }, { hash := PyData.keyHash P (Str.ofString "led_out"), key := Value.str (Str.ofString "led_out") 804, val := Value.ref 430 }, { hash := PyData.keyHash P (Str.ofString "steered"), key := Value.str (Str.ofString "steered") 816, val := Value.ref 437 }, { hash := PyData.keyHash P (Str.ofString "taken"), key := Value.str (Str.ofString "taken") 833, val := Value.ref 444 }] 64 }
noncomputable def v4o12 (P : Params) : Obj := { cls := Value.none, data := Data.fields #[Value.int 2 0, Value.int 0 0, Value.ref 20, Value.int 5 0, Value.int 0 0, Value.ref 27, Value.int 7 0, Value.int 0 0, Value.ref 34, Value.int 10 0, Value.int 0 0, Value.ref 41, Value.int 17 0, Value.int 0 0, Value.ref 48, Value.int 26 0, Value.int 0 0, Value.ref 56, Value.int 32 0, Value.int 0 0, Value.ref 78, Value.int 34 0, Value.int 0 0, Value.ref 92, Value.int 38 0, Value.int 0 0, Value.ref 113, Value.int 42 0, Value.int 0 0, Value.ref 134, Value.int 44 0, Value.int 0 0, Value.ref 141, Value.int 46 0, Value.int 0 0, Value.ref 148, Value.int 59 0, Value.int 0 0, Value.ref 155, Value.int 65 0, Value.int 0 0, Value.ref 162, Value.int 69 0, Value.int 0 0, Value.ref 169, Value.int 73 0, Value.int 0 0, Value.ref 176, Value.int 79 0, Value.int 0 0, Value.ref 183, Value.int 106 0, Value.int 0 0, Value.ref 223, Value.int 113 0, Value.int 0 0, Value.ref 230, Value.int 115 0, Value.int 0 0, Value.ref 237, Value.int 122 0, Value.int 0 0, Value.ref 247, Value.int 129 0, Value.int 0 0, Value.ref 254, Value.int 134 0, Value.int 0 0, Value.ref 261, Value.int 143 0, Value.int 0 0, Value.ref 268, Value.int 145 0, Value.int 0 0, Value.ref 275, Value.int 157 0, Value.int 0 0, Value.ref 282, Value.int 160 0, Value.int 0 0, Value.ref 289, Value.int 162 0, Value.int 0 0, Value.ref 296, Value.int 164 0, Value.int 0 0, Value.ref 303, Value.int 166 0, Value.int 0 0, Value.ref 310, Value.int 168 0, Value.int 0 0, Value.ref 317, Value.int 171 0, Value.int 0 0, Value.ref 324, Value.int 173 0, Value.int 0 0, Value.ref 331, Value.int 175 0, Value.int 0 0, Value.ref 338, Value.int 177 0, Value.int 0 0, Value.ref 345, Value.int 181 0, Value.int 0 0, Value.ref 352, Value.int 184 0, Value.int 0 0, Value.ref 359, Value.int 187 0, Value.int 0 0, Value.ref 366, Value.int 200 0, Value.int 0 0, Value.ref 373, Value.int 206 0, Value.int 0 0, Value.ref 380, Value.int 226 0, Value.int 0 0, Value.ref 387, Value.int 230 0, Value.int 0 0, Value.ref 394, Value.int 236 0, Value.int 0 0, Value.ref 401, Value.int 239 0, Value.int 0 0, Value.ref 408, Value.int 257 0, Value.int 0 0, Value.ref 415, Value.int 272 0, Value.int 0 0, Value.ref 422, Value.int 283 0, Value.int 0 0, Value.ref 429, Value.int 290 0, Value.int 0 0, Value.ref 436, Value.int 298 0, Value.int 0 0, Value.ref 443] }
noncomputable def v4o305 (P : Params) : Obj := { cls := Value.type "tuple", data := Data.seq #[] }
noncomputable def v4o306 (P : Params) : Obj := { cls := Value.none, data := Data.fields #[] }
noncomputable def v4o307 (P : Params) : Obj := { cls := Value.type "tuple", data := Data.seq #[Value.str (Str.ofString "subject") 610, Value.str (Str.ofString "at") 611, Value.str (Str.ofString "place") 612] }
noncomputable def v4o308 (P : Params) : Obj := { cls := Value.type "tuple", data := Data.seq #[] }
noncomputable def v4o309 (P : Params) : Obj := { cls := Value.none, data := Data.func { name := Str.ofString "tab_end", qualname := Str.ofString "tab_end", params := F309a, body := FuncBody.stmts F309b, scope := F309s, globals := 0, closure := [], defaults := Value.none, kwdefaults := Value.none } }
noncomputable def v4o310 (P : Params) : Obj := { cls := Value.type "code", data := Data.fields #[Value.str (Str.ofString "tab_end") 607, Value.str (Str.ofString "tab_end") 608, Value.str (Str.ofString "/claim/cut.py") 609, Value.int 166 0, Value.int 3 0, Value.int 0 0, Value.int 0 0, Value.int 3 0, Value.ref 305, Value.bool true, Value.int 181 0, Value.ref 306, Value.none, Value.ref 307, Value.ref 308, Value.ref 309, Value.int 613 0, Value.int 166 0, Value.str (Str.ofString "/claim/cut.py") 614] }
noncomputable def v4o311 (P : Params) : Obj := { cls := Value.type "function", data := Data.func { name := Str.ofString "tab_end", qualname := Str.ofString "tab_end", params := F311a, body := FuncBody.stmts F311b, scope := F311s, globals := 3, closure := [], defaults := Value.none, kwdefaults := Value.none, pyModule := Value.str (Str.ofString "snobol.primitives") 565, code := Value.ref 310 } }
noncomputable def v4o312 (P : Params) : Obj := { cls := Value.type "tuple", data := Data.seq #[] }
noncomputable def v4o313 (P : Params) : Obj := { cls := Value.none, data := Data.fields #[] }
noncomputable def v4o314 (P : Params) : Obj := { cls := Value.type "tuple", data := Data.seq #[Value.str (Str.ofString "subject") 619, Value.str (Str.ofString "at") 620, Value.str (Str.ofString "place") 621, Value.str (Str.ofString "goal") 622] }
noncomputable def v4o315 (P : Params) : Obj := { cls := Value.type "tuple", data := Data.seq #[] }
noncomputable def v4o316 (P : Params) : Obj := { cls := Value.none, data := Data.func { name := Str.ofString "rtab_end", qualname := Str.ofString "rtab_end", params := F316a, body := FuncBody.stmts F316b, scope := F316s, globals := 0, closure := [], defaults := Value.none, kwdefaults := Value.none } }
noncomputable def v4o317 (P : Params) : Obj := { cls := Value.type "code", data := Data.fields #[Value.str (Str.ofString "rtab_end") 616, Value.str (Str.ofString "rtab_end") 617, Value.str (Str.ofString "/claim/cut.py") 618, Value.int 168 0, Value.int 3 0, Value.int 0 0, Value.int 0 0, Value.int 3 0, Value.ref 312, Value.bool true, Value.int 181 0, Value.ref 313, Value.none, Value.ref 314, Value.ref 315, Value.ref 316, Value.int 623 0, Value.int 168 0, Value.str (Str.ofString "/claim/cut.py") 624] }
noncomputable def v4o318 (P : Params) : Obj := { cls := Value.type "function", data := Data.func { name := Str.ofString "rtab_end", qualname := Str.ofString "rtab_end", params := F318a, body := FuncBody.stmts F318b, scope := F318s, globals := 3, closure := [], defaults := Value.none, kwdefaults := Value.none, pyModule := Value.str (Str.ofString "snobol.primitives") 565, code := Value.ref 317 } }
noncomputable def v4o319 (P : Params) : Obj := { cls := Value.type "tuple", data := Data.seq #[] }
noncomputable def v4o320 (P : Params) : Obj := { cls := Value.none, data := Data.fields #[] }
noncomputable def v4o321 (P : Params) : Obj := { cls := Value.type "tuple", data := Data.seq #[Value.str (Str.ofString "subject") 629] }
noncomputable def v4o322 (P : Params) : Obj := { cls := Value.type "tuple", data := Data.seq #[] }
noncomputable def v4o323 (P : Params) : Obj := { cls := Value.none, data := Data.func { name := Str.ofString "rem_end", qualname := Str.ofString "rem_end", params := F323a, body := FuncBody.stmts F323b, scope := F323s, globals := 0, closure := [], defaults := Value.none, kwdefaults := Value.none } }
noncomputable def v4o324 (P : Params) : Obj := { cls := Value.type "code", data := Data.fields #[Value.str (Str.ofString "rem_end") 626, Value.str (Str.ofString "rem_end") 627, Value.str (Str.ofString "/claim/cut.py") 628, Value.int 171 0, Value.int 1 0, Value.int 0 0, Value.int 0 0, Value.int 3 0, Value.ref 319, Value.bool true, Value.int 181 0, Value.ref 320, Value.none, Value.ref 321, Value.ref 322, Value.ref 323, Value.int 630 0, Value.int 171 0, Value.str (Str.ofString "/claim/cut.py") 631] }
noncomputable def v4o325 (P : Params) : Obj := { cls := Value.type "function", data := Data.func { name := Str.ofString "rem_end", qualname := Str.ofString "rem_end", params := F325a, body := FuncBody.stmts F325b, scope := F325s, globals := 3, closure := [], defaults := Value.none, kwdefaults := Value.none, pyModule := Value.str (Str.ofString "snobol.primitives") 565, code := Value.ref 324 } }
noncomputable def v4o326 (P : Params) : Obj := { cls := Value.type "tuple", data := Data.seq #[] }
noncomputable def v4o327 (P : Params) : Obj := { cls := Value.none, data := Data.fields #[] }
noncomputable def v4o328 (P : Params) : Obj := { cls := Value.type "tuple", data := Data.seq #[Value.str (Str.ofString "subject") 636, Value.str (Str.ofString "at") 637, Value.str (Str.ofString "signs") 638] }
noncomputable def v4o329 (P : Params) : Obj := { cls := Value.type "tuple", data := Data.seq #[] }
noncomputable def v4o330 (P : Params) : Obj := { cls := Value.none, data := Data.func { name := Str.ofString "any_at", qualname := Str.ofString "any_at", params := F330a, body := FuncBody.stmts F330b, scope := F330s, globals := 0, closure := [], defaults := Value.none, kwdefaults := Value.none } }
noncomputable def v4o331 (P : Params) : Obj := { cls := Value.type "code", data := Data.fields #[Value.str (Str.ofString "any_at") 633, Value.str (Str.ofString "any_at") 634, Value.str (Str.ofString "/claim/cut.py") 635, Value.int 173 0, Value.int 3 0, Value.int 0 0, Value.int 0 0, Value.int 3 0, Value.ref 326, Value.bool true, Value.int 181 0, Value.ref 327, Value.none, Value.ref 328, Value.ref 329, Value.ref 330, Value.int 639 0, Value.int 173 0, Value.str (Str.ofString "/claim/cut.py") 640] }
noncomputable def v4o332 (P : Params) : Obj := { cls := Value.type "function", data := Data.func { name := Str.ofString "any_at", qualname := Str.ofString "any_at", params := F332a, body := FuncBody.stmts F332b, scope := F332s, globals := 3, closure := [], defaults := Value.none, kwdefaults := Value.none, pyModule := Value.str (Str.ofString "snobol.primitives") 565, code := Value.ref 331 } }
noncomputable def v4o333 (P : Params) : Obj := { cls := Value.type "tuple", data := Data.seq #[] }
noncomputable def v4o334 (P : Params) : Obj := { cls := Value.none, data := Data.fields #[] }
noncomputable def v4o335 (P : Params) : Obj := { cls := Value.type "tuple", data := Data.seq #[Value.str (Str.ofString "subject") 645, Value.str (Str.ofString "at") 646, Value.str (Str.ofString "signs") 647] }
noncomputable def v4o336 (P : Params) : Obj := { cls := Value.type "tuple", data := Data.seq #[] }
noncomputable def v4o337 (P : Params) : Obj := { cls := Value.none, data := Data.func { name := Str.ofString "notany_at", qualname := Str.ofString "notany_at", params := F337a, body := FuncBody.stmts F337b, scope := F337s, globals := 0, closure := [], defaults := Value.none, kwdefaults := Value.none } }
noncomputable def v4o338 (P : Params) : Obj := { cls := Value.type "code", data := Data.fields #[Value.str (Str.ofString "notany_at") 642, Value.str (Str.ofString "notany_at") 643, Value.str (Str.ofString "/claim/cut.py") 644, Value.int 175 0, Value.int 3 0, Value.int 0 0, Value.int 0 0, Value.int 3 0, Value.ref 333, Value.bool true, Value.int 181 0, Value.ref 334, Value.none, Value.ref 335, Value.ref 336, Value.ref 337, Value.int 648 0, Value.int 175 0, Value.str (Str.ofString "/claim/cut.py") 649] }
noncomputable def v4o339 (P : Params) : Obj := { cls := Value.type "function", data := Data.func { name := Str.ofString "notany_at", qualname := Str.ofString "notany_at", params := F339a, body := FuncBody.stmts F339b, scope := F339s, globals := 3, closure := [], defaults := Value.none, kwdefaults := Value.none, pyModule := Value.str (Str.ofString "snobol.primitives") 565, code := Value.ref 338 } }
noncomputable def v4o340 (P : Params) : Obj := { cls := Value.type "tuple", data := Data.seq #[] }
noncomputable def v4o341 (P : Params) : Obj := { cls := Value.none, data := Data.fields #[] }
noncomputable def v4o342 (P : Params) : Obj := { cls := Value.type "tuple", data := Data.seq #[Value.str (Str.ofString "subject") 654, Value.str (Str.ofString "at") 655, Value.str (Str.ofString "signs") 656, Value.str (Str.ofString "is_in") 657] }
noncomputable def v4o343 (P : Params) : Obj := { cls := Value.type "tuple", data := Data.seq #[] }
noncomputable def v4o344 (P : Params) : Obj := { cls := Value.none, data := Data.func { name := Str.ofString "run_end", qualname := Str.ofString "run_end", params := F344a, body := FuncBody.stmts F344b, scope := F344s, globals := 0, closure := [], defaults := Value.none, kwdefaults := Value.none } }
noncomputable def v4o345 (P : Params) : Obj := { cls := Value.type "code", data := Data.fields #[Value.str (Str.ofString "run_end") 651, Value.str (Str.ofString "run_end") 652, Value.str (Str.ofString "/claim/cut.py") 653, Value.int 177 0, Value.int 4 0, Value.int 0 0, Value.int 0 0, Value.int 3 0, Value.ref 340, Value.bool true, Value.int 181 0, Value.ref 341, Value.none, Value.ref 342, Value.ref 343, Value.ref 344, Value.int 658 0, Value.int 177 0, Value.str (Str.ofString "/claim/cut.py") 659] }
noncomputable def v4o346 (P : Params) : Obj := { cls := Value.type "function", data := Data.func { name := Str.ofString "run_end", qualname := Str.ofString "run_end", params := F346a, body := FuncBody.stmts F346b, scope := F346s, globals := 3, closure := [], defaults := Value.none, kwdefaults := Value.none, pyModule := Value.str (Str.ofString "snobol.primitives") 565, code := Value.ref 345 } }
noncomputable def v4o347 (P : Params) : Obj := { cls := Value.type "tuple", data := Data.seq #[] }
noncomputable def v4o348 (P : Params) : Obj := { cls := Value.none, data := Data.fields #[] }
noncomputable def v4o349 (P : Params) : Obj := { cls := Value.type "tuple", data := Data.seq #[Value.str (Str.ofString "subject") 664, Value.str (Str.ofString "at") 665, Value.str (Str.ofString "signs") 666, Value.str (Str.ofString "end") 667] }
noncomputable def v4o350 (P : Params) : Obj := { cls := Value.type "tuple", data := Data.seq #[] }
noncomputable def v4o351 (P : Params) : Obj := { cls := Value.none, data := Data.func { name := Str.ofString "span_end", qualname := Str.ofString "span_end", params := F351a, body := FuncBody.stmts F351b, scope := F351s, globals := 0, closure := [], defaults := Value.none, kwdefaults := Value.none } }
noncomputable def v4o352 (P : Params) : Obj := { cls := Value.type "code", data := Data.fields #[Value.str (Str.ofString "span_end") 661, Value.str (Str.ofString "span_end") 662, Value.str (Str.ofString "/claim/cut.py") 663, Value.int 181 0, Value.int 3 0, Value.int 0 0, Value.int 0 0, Value.int 3 0, Value.ref 347, Value.bool true, Value.int 181 0, Value.ref 348, Value.none, Value.ref 349, Value.ref 350, Value.ref 351, Value.int 668 0, Value.int 181 0, Value.str (Str.ofString "/claim/cut.py") 669] }
noncomputable def v4o353 (P : Params) : Obj := { cls := Value.type "function", data := Data.func { name := Str.ofString "span_end", qualname := Str.ofString "span_end", params := F353a, body := FuncBody.stmts F353b, scope := F353s, globals := 3, closure := [], defaults := Value.none, kwdefaults := Value.none, pyModule := Value.str (Str.ofString "snobol.primitives") 565, code := Value.ref 352 } }
noncomputable def v4o354 (P : Params) : Obj := { cls := Value.type "tuple", data := Data.seq #[] }
noncomputable def v4o355 (P : Params) : Obj := { cls := Value.none, data := Data.fields #[] }
noncomputable def v4o356 (P : Params) : Obj := { cls := Value.type "tuple", data := Data.seq #[Value.str (Str.ofString "subject") 674, Value.str (Str.ofString "at") 675, Value.str (Str.ofString "signs") 676, Value.str (Str.ofString "end") 677] }
noncomputable def v4o357 (P : Params) : Obj := { cls := Value.type "tuple", data := Data.seq #[] }
noncomputable def v4o358 (P : Params) : Obj := { cls := Value.none, data := Data.func { name := Str.ofString "break_end", qualname := Str.ofString "break_end", params := F358a, body := FuncBody.stmts F358b, scope := F358s, globals := 0, closure := [], defaults := Value.none, kwdefaults := Value.none } }
noncomputable def v4o359 (P : Params) : Obj := { cls := Value.type "code", data := Data.fields #[Value.str (Str.ofString "break_end") 671, Value.str (Str.ofString "break_end") 672, Value.str (Str.ofString "/claim/cut.py") 673, Value.int 184 0, Value.int 3 0, Value.int 0 0, Value.int 0 0, Value.int 3 0, Value.ref 354, Value.bool true, Value.int 181 0, Value.ref 355, Value.none, Value.ref 356, Value.ref 357, Value.ref 358, Value.int 678 0, Value.int 184 0, Value.str (Str.ofString "/claim/cut.py") 679] }
noncomputable def v4o360 (P : Params) : Obj := { cls := Value.type "function", data := Data.func { name := Str.ofString "break_end", qualname := Str.ofString "break_end", params := F360a, body := FuncBody.stmts F360b, scope := F360s, globals := 3, closure := [], defaults := Value.none, kwdefaults := Value.none, pyModule := Value.str (Str.ofString "snobol.primitives") 565, code := Value.ref 359 } }
noncomputable def v4o361 (P : Params) : Obj := { cls := Value.type "tuple", data := Data.seq #[] }
noncomputable def v4o362 (P : Params) : Obj := { cls := Value.none, data := Data.fields #[] }
noncomputable def v4o363 (P : Params) : Obj := { cls := Value.type "tuple", data := Data.seq #[Value.str (Str.ofString "subject") 684, Value.str (Str.ofString "at") 685, Value.str (Str.ofString "level") 686] }
noncomputable def v4o364 (P : Params) : Obj := { cls := Value.type "tuple", data := Data.seq #[] }
noncomputable def v4o365 (P : Params) : Obj := { cls := Value.none, data := Data.func { name := Str.ofString "bal_end", qualname := Str.ofString "bal_end", params := F365a, body := FuncBody.stmts F365b, scope := F365s, globals := 0, closure := [], defaults := Value.none, kwdefaults := Value.none } }
noncomputable def v4o366 (P : Params) : Obj := { cls := Value.type "code", data := Data.fields #[Value.str (Str.ofString "bal_end") 681, Value.str (Str.ofString "bal_end") 682, Value.str (Str.ofString "/claim/cut.py") 683, Value.int 187 0, Value.int 2 0, Value.int 0 0, Value.int 0 0, Value.int 3 0, Value.ref 361, Value.bool true, Value.int 181 0, Value.ref 362, Value.none, Value.ref 363, Value.ref 364, Value.ref 365, Value.int 687 0, Value.int 187 0, Value.str (Str.ofString "/claim/cut.py") 688] }
noncomputable def v4o367 (P : Params) : Obj := { cls := Value.type "function", data := Data.func { name := Str.ofString "bal_end", qualname := Str.ofString "bal_end", params := F367a, body := FuncBody.stmts F367b, scope := F367s, globals := 3, closure := [], defaults := Value.none, kwdefaults := Value.none, pyModule := Value.str (Str.ofString "snobol.primitives") 565, code := Value.ref 366 } }
noncomputable def v4o368 (P : Params) : Obj := { cls := Value.type "tuple", data := Data.seq #[] }
noncomputable def v4o369 (P : Params) : Obj := { cls := Value.none, data := Data.fields #[] }
noncomputable def v4o370 (P : Params) : Obj := { cls := Value.type "tuple", data := Data.seq #[Value.str (Str.ofString "subject") 693, Value.str (Str.ofString "at") 694, Value.str (Str.ofString "found") 695, Value.str (Str.ofString "end") 696] }
noncomputable def v4o371 (P : Params) : Obj := { cls := Value.type "tuple", data := Data.seq #[] }
noncomputable def v4o372 (P : Params) : Obj := { cls := Value.none, data := Data.func { name := Str.ofString "bal_ends", qualname := Str.ofString "bal_ends", params := F372a, body := FuncBody.stmts F372b, scope := F372s, globals := 0, closure := [], defaults := Value.none, kwdefaults := Value.none } }
noncomputable def v4o373 (P : Params) : Obj := { cls := Value.type "code", data := Data.fields #[Value.str (Str.ofString "bal_ends") 690, Value.str (Str.ofString "bal_ends") 691, Value.str (Str.ofString "/claim/cut.py") 692, Value.int 200 0, Value.int 2 0, Value.int 0 0, Value.int 0 0, Value.int 3 0, Value.ref 368, Value.bool true, Value.int 181 0, Value.ref 369, Value.none, Value.ref 370, Value.ref 371, Value.ref 372, Value.int 697 0, Value.int 200 0, Value.str (Str.ofString "/claim/cut.py") 698] }
noncomputable def v4o374 (P : Params) : Obj := { cls := Value.type "function", data := Data.func { name := Str.ofString "bal_ends", qualname := Str.ofString "bal_ends", params := F374a, body := FuncBody.stmts F374b, scope := F374s, globals := 3, closure := [], defaults := Value.none, kwdefaults := Value.none, pyModule := Value.str (Str.ofString "snobol.primitives") 565, code := Value.ref 373 } }
noncomputable def v4o375 (P : Params) : Obj := { cls := Value.type "tuple", data := Data.seq #[] }
noncomputable def v4o376 (P : Params) : Obj := { cls := Value.none, data := Data.fields #[] }
noncomputable def v4o377 (P : Params) : Obj := { cls := Value.type "tuple", data := Data.seq #[Value.str (Str.ofString "kind") 703, Value.str (Str.ofString "subject") 704, Value.str (Str.ofString "at") 705, Value.str (Str.ofString "told") 706] }
noncomputable def v4o378 (P : Params) : Obj := { cls := Value.type "tuple", data := Data.seq #[] }
noncomputable def v4o379 (P : Params) : Obj := { cls := Value.none, data := Data.func { name := Str.ofString "one_end", qualname := Str.ofString "one_end", params := F379a, body := FuncBody.stmts F379b, scope := F379s, globals := 0, closure := [], defaults := Value.none, kwdefaults := Value.none } }
noncomputable def v4o380 (P : Params) : Obj := { cls := Value.type "code", data := Data.fields #[Value.str (Str.ofString "one_end") 700, Value.str (Str.ofString "one_end") 701, Value.str (Str.ofString "/claim/cut.py") 702, Value.int 206 0, Value.int 4 0, Value.int 0 0, Value.int 0 0, Value.int 3 0, Value.ref 375, Value.bool true, Value.int 181 0, Value.ref 376, Value.none, Value.ref 377, Value.ref 378, Value.ref 379, Value.int 707 0, Value.int 206 0, Value.str (Str.ofString "/claim/cut.py") 708] }
noncomputable def v4o381 (P : Params) : Obj := { cls := Value.type "function", data := Data.func { name := Str.ofString "one_end", qualname := Str.ofString "one_end", params := F381a, body := FuncBody.stmts F381b, scope := F381s, globals := 3, closure := [], defaults := Value.none, kwdefaults := Value.none, pyModule := Value.str (Str.ofString "snobol.primitives") 565, code := Value.ref 380 } }
noncomputable def v4o382 (P : Params) : Obj := { cls := Value.type "tuple", data := Data.seq #[] }
noncomputable def v4o383 (P : Params) : Obj := { cls := Value.none, data := Data.fields #[] }
noncomputable def v4o384 (P : Params) : Obj := { cls := Value.type "tuple", data := Data.seq #[Value.str (Str.ofString "node") 713, Value.str (Str.ofString "subject") 714, Value.str (Str.ofString "at") 715] }
noncomputable def v4o385 (P : Params) : Obj := { cls := Value.type "tuple", data := Data.seq #[] }
noncomputable def v4o386 (P : Params) : Obj := { cls := Value.none, data := Data.func { name := Str.ofString "plain_end", qualname := Str.ofString "plain_end", params := F386a, body := FuncBody.stmts F386b, scope := F386s, globals := 0, closure := [], defaults := Value.none, kwdefaults := Value.none } }
noncomputable def v4o387 (P : Params) : Obj := { cls := Value.type "code", data := Data.fields #[Value.str (Str.ofString "plain_end") 710, Value.str (Str.ofString "plain_end") 711, Value.str (Str.ofString "/claim/cut.py") 712, Value.int 226 0, Value.int 3 0, Value.int 0 0, Value.int 0 0, Value.int 3 0, Value.ref 382, Value.bool true, Value.int 181 0, Value.ref 383, Value.none, Value.ref 384, Value.ref 385, Value.ref 386, Value.int 716 0, Value.int 226 0, Value.str (Str.ofString "/claim/cut.py") 717] }
noncomputable def v4o388 (P : Params) : Obj := { cls := Value.type "function", data := Data.func { name := Str.ofString "plain_end", qualname := Str.ofString "plain_end", params := F388a, body := FuncBody.stmts F388b, scope := F388s, globals := 3, closure := [], defaults := Value.none, kwdefaults := Value.none, pyModule := Value.str (Str.ofString "snobol.primitives") 565, code := Value.ref 387 } }
noncomputable def v4o389 (P : Params) : Obj := { cls := Value.type "tuple", data := Data.seq #[] }
noncomputable def v4o390 (P : Params) : Obj := { cls := Value.none, data := Data.fields #[] }
noncomputable def v4o391 (P : Params) : Obj := { cls := Value.type "tuple", data := Data.seq #[Value.str (Str.ofString "node") 726, Value.str (Str.ofString "subject") 727, Value.str (Str.ofString "is_anchored") 728, Value.str (Str.ofString "host") 729, Value.str (Str.ofString "begin") 730, Value.str (Str.ofString "found") 731] }
noncomputable def v4o392 (P : Params) : Obj := { cls := Value.type "tuple", data := Data.seq #[] }
noncomputable def v4o393 (P : Params) : Obj := { cls := Value.none, data := Data.func { name := Str.ofString "match_plain", qualname := Str.ofString "match_plain", params := F393a, body := FuncBody.stmts F393b, scope := F393s, globals := 0, closure := [], defaults := Value.none, kwdefaults := Value.none } }
noncomputable def v4o394 (P : Params) : Obj := { cls := Value.type "code", data := Data.fields #[Value.str (Str.ofString "match_plain") 723, Value.str (Str.ofString "match_plain") 724, Value.str (Str.ofString "/claim/cut.py") 725, Value.int 230 0, Value.int 4 0, Value.int 0 0, Value.int 0 0, Value.int 3 0, Value.ref 389, Value.bool true, Value.int 181 0, Value.ref 390, Value.none, Value.ref 391, Value.ref 392, Value.ref 393, Value.int 732 0, Value.int 230 0, Value.str (Str.ofString "/claim/cut.py") 733] }
noncomputable def v4o395 (P : Params) : Obj := { cls := Value.type "function", data := Data.func { name := Str.ofString "match_plain", qualname := Str.ofString "match_plain", params := F395a, body := FuncBody.stmts F395b, scope := F395s, globals := 3, closure := [], defaults := Value.none, kwdefaults := Value.none, pyModule := Value.str (Str.ofString "snobol.trial") 719, code := Value.ref 394 } }
noncomputable def v4o396 (P : Params) : Obj := { cls := Value.type "tuple", data := Data.seq #[] }
noncomputable def v4o397 (P : Params) : Obj := { cls := Value.none, data := Data.fields #[] }
noncomputable def v4o398 (P : Params) : Obj := { cls := Value.type "tuple", data := Data.seq #[Value.str (Str.ofString "node") 738, Value.str (Str.ofString "subject") 739, Value.str (Str.ofString "begin") 740, Value.str (Str.ofString "host") 741, Value.str (Str.ofString "found") 742] }
noncomputable def v4o399 (P : Params) : Obj := { cls := Value.type "tuple", data := Data.seq #[] }
noncomputable def v4o400 (P : Params) : Obj := { cls := Value.none, data := Data.func { name := Str.ofString "match_at", qualname := Str.ofString "match_at", params := F400a, body := FuncBody.stmts F400b, scope := F400s, globals := 0, closure := [], defaults := Value.none, kwdefaults := Value.none } }
noncomputable def v4o401 (P : Params) : Obj := { cls := Value.type "code", data := Data.fields #[Value.str (Str.ofString "match_at") 735, Value.str (Str.ofString "match_at") 736, Value.str (Str.ofString "/claim/cut.py") 737, Value.int 236 0, Value.int 4 0, Value.int 0 0, Value.int 0 0, Value.int 3 0, Value.ref 396, Value.bool true, Value.int 181 0, Value.ref 397, Value.none, Value.ref 398, Value.ref 399, Value.ref 400, Value.int 743 0, Value.int 236 0, Value.str (Str.ofString "/claim/cut.py") 744] }
noncomputable def v4o402 (P : Params) : Obj := { cls := Value.type "function", data := Data.func { name := Str.ofString "match_at", qualname := Str.ofString "match_at", params := F402a, body := FuncBody.stmts F402b, scope := F402s, globals := 3, closure := [], defaults := Value.none, kwdefaults := Value.none, pyModule := Value.str (Str.ofString "snobol.trial") 719, code := Value.ref 401 } }
noncomputable def v4o403 (P : Params) : Obj := { cls := Value.type "tuple", data := Data.seq #[] }
noncomputable def v4o404 (P : Params) : Obj := { cls := Value.none, data := Data.fields #[] }
noncomputable def v4o405 (P : Params) : Obj := { cls := Value.type "tuple", data := Data.seq #[Value.str (Str.ofString "node") 749, Value.str (Str.ofString "subject") 750, Value.str (Str.ofString "begin") 751, Value.str (Str.ofString "host") 752, Value.str (Str.ofString "pile") 753, Value.str (Str.ofString "way") 754, Value.str (Str.ofString "chain") 755, Value.str (Str.ofString "at") 756, Value.str (Str.ofString "named") 757] }
noncomputable def v4o406 (P : Params) : Obj := { cls := Value.type "tuple", data := Data.seq #[] }
noncomputable def v4o407 (P : Params) : Obj := { cls := Value.none, data := Data.func { name := Str.ofString "tried", qualname := Str.ofString "tried", params := F407a, body := FuncBody.stmts F407b, scope := F407s, globals := 0, closure := [], defaults := Value.none, kwdefaults := Value.none } }
noncomputable def v4o408 (P : Params) : Obj := { cls := Value.type "code", data := Data.fields #[Value.str (Str.ofString "tried") 746, Value.str (Str.ofString "tried") 747, Value.str (Str.ofString "/claim/cut.py") 748, Value.int 239 0, Value.int 4 0, Value.int 0 0, Value.int 0 0, Value.int 3 0, Value.ref 403, Value.bool true, Value.int 181 0, Value.ref 404, Value.none, Value.ref 405, Value.ref 406, Value.ref 407, Value.int 758 0, Value.int 239 0, Value.str (Str.ofString "/claim/cut.py") 759] }
noncomputable def v4o409 (P : Params) : Obj := { cls := Value.type "function", data := Data.func { name := Str.ofString "tried", qualname := Str.ofString "tried", params := F409a, body := FuncBody.stmts F409b, scope := F409s, globals := 3, closure := [], defaults := Value.none, kwdefaults := Value.none, pyModule := Value.str (Str.ofString "snobol.trial") 719, code := Value.ref 408 } }
noncomputable def v4o410 (P : Params) : Obj := { cls := Value.type "tuple", data := Data.seq #[] }
noncomputable def v4o411 (P : Params) : Obj := { cls := Value.none, data := Data.fields #[] }
noncomputable def v4o412 (P : Params) : Obj := { cls := Value.type "tuple", data := Data.seq #[Value.str (Str.ofString "chain") 764, Value.str (Str.ofString "at") 765, Value.str (Str.ofString "named") 766, Value.str (Str.ofString "subject") 767, Value.str (Str.ofString "pile") 768, Value.str (Str.ofString "host") 769, Value.str (Str.ofString "here") 770, Value.str (Str.ofString "rest") 771, Value.str (Str.ofString "kind") 772, Value.str (Str.ofString "value") 773] }
noncomputable def v4o413 (P : Params) : Obj := { cls := Value.type "tuple", data := Data.seq #[] }
noncomputable def v4o414 (P : Params) : Obj := { cls := Value.none, data := Data.func { name := Str.ofString "advanced", qualname := Str.ofString "advanced", params := F414a, body := FuncBody.stmts F414b, scope := F414s, globals := 0, closure := [], defaults := Value.none, kwdefaults := Value.none } }
noncomputable def v4o415 (P : Params) : Obj := { cls := Value.type "code", data := Data.fields #[Value.str (Str.ofString "advanced") 761, Value.str (Str.ofString "advanced") 762, Value.str (Str.ofString "/claim/cut.py") 763, Value.int 257 0, Value.int 6 0, Value.int 0 0, Value.int 0 0, Value.int 3 0, Value.ref 410, Value.bool true, Value.int 181 0, Value.ref 411, Value.none, Value.ref 412, Value.ref 413, Value.ref 414, Value.int 774 0, Value.int 257 0, Value.str (Str.ofString "/claim/cut.py") 775] }
noncomputable def v4o416 (P : Params) : Obj := { cls := Value.type "function", data := Data.func { name := Str.ofString "advanced", qualname := Str.ofString "advanced", params := F416a, body := FuncBody.stmts F416b, scope := F416s, globals := 3, closure := [], defaults := Value.none, kwdefaults := Value.none, pyModule := Value.str (Str.ofString "snobol.trial") 719, code := Value.ref 415 } }
noncomputable def v4o417 (P : Params) : Obj := { cls := Value.type "tuple", data := Data.seq #[] }
noncomputable def v4o418 (P : Params) : Obj := { cls := Value.none, data := Data.fields #[] }
noncomputable def v4o419 (P : Params) : Obj := { cls := Value.type "tuple", data := Data.seq #[Value.str (Str.ofString "here") 780, Value.str (Str.ofString "rest") 781, Value.str (Str.ofString "at") 782, Value.str (Str.ofString "named") 783, Value.str (Str.ofString "pile") 784, Value.str (Str.ofString "kind") 785] }
noncomputable def v4o420 (P : Params) : Obj := { cls := Value.type "tuple", data := Data.seq #[] }
noncomputable def v4o421 (P : Params) : Obj := { cls := Value.none, data := Data.func { name := Str.ofString "led_in", qualname := Str.ofString "led_in", params := F421a, body := FuncBody.stmts F421b, scope := F421s, globals := 0, closure := [], defaults := Value.none, kwdefaults := Value.none } }
noncomputable def v4o422 (P : Params) : Obj := { cls := Value.type "code", data := Data.fields #[Value.str (Str.ofString "led_in") 777, Value.str (Str.ofString "led_in") 778, Value.str (Str.ofString "/claim/cut.py") 779, Value.int 272 0, Value.int 5 0, Value.int 0 0, Value.int 0 0, Value.int 3 0, Value.ref 417, Value.bool true, Value.int 181 0, Value.ref 418, Value.none, Value.ref 419, Value.ref 420, Value.ref 421, Value.int 786 0, Value.int 272 0, Value.str (Str.ofString "/claim/cut.py") 787] }
noncomputable def v4o423 (P : Params) : Obj := { cls := Value.type "function", data := Data.func { name := Str.ofString "led_in", qualname := Str.ofString "led_in", params := F423a, body := FuncBody.stmts F423b, scope := F423s, globals := 3, closure := [], defaults := Value.none, kwdefaults := Value.none, pyModule := Value.str (Str.ofString "snobol.trial") 719, code := Value.ref 422 } }
noncomputable def v4o424 (P : Params) : Obj := { cls := Value.type "tuple", data := Data.seq #[] }
noncomputable def v4o425 (P : Params) : Obj := { cls := Value.none, data := Data.fields #[] }
noncomputable def v4o426 (P : Params) : Obj := { cls := Value.type "tuple", data := Data.seq #[Value.str (Str.ofString "here") 792, Value.str (Str.ofString "rest") 793, Value.str (Str.ofString "at") 794, Value.str (Str.ofString "named") 795, Value.str (Str.ofString "subject") 796, Value.str (Str.ofString "pile") 797, Value.str (Str.ofString "host") 798, Value.str (Str.ofString "kind") 799, Value.str (Str.ofString "told") 800, Value.str (Str.ofString "begin") 801] }
noncomputable def v4o427 (P : Params) : Obj := { cls := Value.type "tuple", data := Data.seq #[] }
noncomputable def v4o428 (P : Params) : Obj := { cls := Value.none, data := Data.func { name := Str.ofString "led_out", qualname := Str.ofString "led_out", params := F428a, body := FuncBody.stmts F428b, scope := F428s, globals := 0, closure := [], defaults := Value.none, kwdefaults := Value.none } }
noncomputable def v4o429 (P : Params) : Obj := { cls := Value.type "code", data := Data.fields #[Value.str (Str.ofString "led_out") 789, Value.str (Str.ofString "led_out") 790, Value.str (Str.ofString "/claim/cut.py") 791, Value.int 283 0, Value.int 7 0, Value.int 0 0, Value.int 0 0, Value.int 3 0, Value.ref 424, Value.bool true, Value.int 181 0, Value.ref 425, Value.none, Value.ref 426, Value.ref 427, Value.ref 428, Value.int 802 0, Value.int 283 0, Value.str (Str.ofString "/claim/cut.py") 803] }
noncomputable def v4o430 (P : Params) : Obj := { cls := Value.type "function", data := Data.func { name := Str.ofString "led_out", qualname := Str.ofString "led_out", params := F430a, body := FuncBody.stmts F430b, scope := F430s, globals := 3, closure := [], defaults := Value.none, kwdefaults := Value.none, pyModule := Value.str (Str.ofString "snobol.trial") 719, code := Value.ref 429 } }
noncomputable def v4o431 (P : Params) : Obj := { cls := Value.type "tuple", data := Data.seq #[] }
noncomputable def v4o432 (P : Params) : Obj := { cls := Value.none, data := Data.fields #[] }
noncomputable def v4o433 (P : Params) : Obj := { cls := Value.type "tuple", data := Data.seq #[Value.str (Str.ofString "chain") 808, Value.str (Str.ofString "at") 809, Value.str (Str.ofString "named") 810, Value.str (Str.ofString "pile") 811, Value.str (Str.ofString "kind") 812, Value.str (Str.ofString "rest") 813] }
noncomputable def v4o434 (P : Params) : Obj := { cls := Value.type "tuple", data := Data.seq #[] }
noncomputable def v4o435 (P : Params) : Obj := { cls := Value.none, data := Data.func { name := Str.ofString "steered", qualname := Str.ofString "steered", params := F435a, body := FuncBody.stmts F435b, scope := F435s, globals := 0, closure := [], defaults := Value.none, kwdefaults := Value.none } }
noncomputable def v4o436 (P : Params) : Obj := { cls := Value.type "code", data := Data.fields #[Value.str (Str.ofString "steered") 805, Value.str (Str.ofString "steered") 806, Value.str (Str.ofString "/claim/cut.py") 807, Value.int 290 0, Value.int 4 0, Value.int 0 0, Value.int 0 0, Value.int 3 0, Value.ref 431, Value.bool true, Value.int 181 0, Value.ref 432, Value.none, Value.ref 433, Value.ref 434, Value.ref 435, Value.int 814 0, Value.int 290 0, Value.str (Str.ofString "/claim/cut.py") 815] }
noncomputable def v4o437 (P : Params) : Obj := { cls := Value.type "function", data := Data.func { name := Str.ofString "steered", qualname := Str.ofString "steered", params := F437a, body := FuncBody.stmts F437b, scope := F437s, globals := 3, closure := [], defaults := Value.none, kwdefaults := Value.none, pyModule := Value.str (Str.ofString "snobol.trial") 719, code := Value.ref 436 } }
noncomputable def v4o438 (P : Params) : Obj := { cls := Value.type "tuple", data := Data.seq #[] }
noncomputable def v4o439 (P : Params) : Obj := { cls := Value.none, data := Data.fields #[] }
noncomputable def v4o440 (P : Params) : Obj := { cls := Value.type "tuple", data := Data.seq #[Value.str (Str.ofString "here") 820, Value.str (Str.ofString "rest") 821, Value.str (Str.ofString "at") 822, Value.str (Str.ofString "named") 823, Value.str (Str.ofString "subject") 824, Value.str (Str.ofString "pile") 825, Value.str (Str.ofString "host") 826, Value.str (Str.ofString "kind") 827, Value.str (Str.ofString "ends") 828, Value.str (Str.ofString "end") 829, Value.str (Str.ofString "plain") 830] }
noncomputable def v4o441 (P : Params) : Obj := { cls := Value.type "tuple", data := Data.seq #[] }
noncomputable def v4o442 (P : Params) : Obj := { cls := Value.none, data := Data.func { name := Str.ofString "taken", qualname := Str.ofString "taken", params := F442a, body := FuncBody.stmts F442b, scope := F442s, globals := 0, closure := [], defaults := Value.none, kwdefaults := Value.none } }
noncomputable def v4o443 (P : Params) : Obj := { cls := Value.type "code", data := Data.fields #[Value.str (Str.ofString "taken") 817, Value.str (Str.ofString "taken") 818, Value.str (Str.ofString "/claim/cut.py") 819, Value.int 298 0, Value.int 7 0, Value.int 0 0, Value.int 0 0, Value.int 3 0, Value.ref 438, Value.bool true, Value.int 181 0, Value.ref 439, Value.none, Value.ref 440, Value.ref 441, Value.ref 442, Value.int 831 0, Value.int 298 0, Value.str (Str.ofString "/claim/cut.py") 832] }
noncomputable def v4o444 (P : Params) : Obj := { cls := Value.type "function", data := Data.func { name := Str.ofString "taken", qualname := Str.ofString "taken", params := F444a, body := FuncBody.stmts F444b, scope := F444s, globals := 3, closure := [], defaults := Value.none, kwdefaults := Value.none, pyModule := Value.str (Str.ofString "snobol.trial") 719, code := Value.ref 443 } }
set_option maxRecDepth 100000 in
noncomputable def tree4 (P : Params) : BT := (.node (boot_o_0 P) (.node (boot_o_1 P) (.node (v4o3 P) (.node (boot_o_7 P) (.node (v1o15 P) (.node (v1o31 P) (.node (v1o63 P) (.node (v2o127 P) (.node (v3o255 P) .nil .nil) (.node (v4o383 P) .nil .nil)) (.node (v3o191 P) (.node (v4o319 P) .nil .nil) .nil)) (.node (v2o95 P) (.node (v2o159 P) (.node (v3o287 P) .nil .nil) (.node (v4o415 P) .nil .nil)) (.node (v3o223 P) (.node (v4o351 P) .nil .nil) .nil))) (.node (v1o47 P) (.node (v1o79 P) (.node (v2o143 P) (.node (v3o271 P) .nil .nil) (.node (v4o399 P) .nil .nil)) (.node (v3o207 P) (.node (v4o335 P) .nil .nil) .nil)) (.node (v2o111 P) (.node (v2o175 P) (.node (v3o303 P) .nil .nil) (.node (v4o431 P) .nil .nil)) (.node (v3o239 P) (.node (v4o367 P) .nil .nil) .nil)))) (.node (v1o23 P) (.node (v1o39 P) (.node (v1o71 P) (.node (v2o135 P) (.node (v3o263 P) .nil .nil) (.node (v4o391 P) .nil .nil)) (.node (v3o199 P) (.node (v4o327 P) .nil .nil) .nil)) (.node (v2o103 P) (.node (v2o167 P) (.node (v3o295 P) .nil .nil) (.node (v4o423 P) .nil .nil)) (.node (v3o231 P) (.node (v4o359 P) .nil .nil) .nil))) (.node (v1o55 P) (.node (v2o87 P) (.node (v2o151 P) (.node (v3o279 P) .nil .nil) (.node (v4o407 P) .nil .nil)) (.node (v3o215 P) (.node (v4o343 P) .nil .nil) .nil)) (.node (v2o119 P) (.node (v3o183 P) (.node (v4o311 P) .nil .nil) (.node (v4o439 P) .nil .nil)) (.node (v3o247 P) (.node (v4o375 P) .nil .nil) .nil))))) (.node (o11) (.node (v1o19 P) (.node (v1o35 P) (.node (v1o67 P) (.node (v2o131 P) (.node (v3o259 P) .nil .nil) (.node (v4o387 P) .nil .nil)) (.node (v3o195 P) (.node (v4o323 P) .nil .nil) .nil)) (.node (v2o99 P) (.node (v2o163 P) (.node (v3o291 P) .nil .nil) (.node (v4o419 P) .nil .nil)) (.node (v3o227 P) (.node (v4o355 P) .nil .nil) .nil))) (.node (v1o51 P) (.node (v1o83 P) (.node (v2o147 P) (.node (v3o275 P) .nil .nil) (.node (v4o403 P) .nil .nil)) (.node (v3o211 P) (.node (v4o339 P) .nil .nil) .nil)) (.node (v2o115 P) (.node (v3o179 P) (.node (v4o307 P) .nil .nil) (.node (v4o435 P) .nil .nil)) (.node (v3o243 P) (.node (v4o371 P) .nil .nil) .nil)))) (.node (v1o27 P) (.node (v1o43 P) (.node (v1o75 P) (.node (v2o139 P) (.node (v3o267 P) .nil .nil) (.node (v4o395 P) .nil .nil)) (.node (v3o203 P) (.node (v4o331 P) .nil .nil) .nil)) (.node (v2o107 P) (.node (v2o171 P) (.node (v3o299 P) .nil .nil) (.node (v4o427 P) .nil .nil)) (.node (v3o235 P) (.node (v4o363 P) .nil .nil) .nil))) (.node (v1o59 P) (.node (v2o91 P) (.node (v2o155 P) (.node (v3o283 P) .nil .nil) (.node (v4o411 P) .nil .nil)) (.node (v3o219 P) (.node (v4o347 P) .nil .nil) .nil)) (.node (v2o123 P) (.node (v3o187 P) (.node (v4o315 P) .nil .nil) (.node (v4o443 P) .nil .nil)) (.node (v3o251 P) (.node (v4o379 P) .nil .nil) .nil)))))) (.node (boot_o_5 P) (.node (boot_o_9 P) (.node (v1o17 P) (.node (v1o33 P) (.node (v1o65 P) (.node (v2o129 P) (.node (v3o257 P) .nil .nil) (.node (v4o385 P) .nil .nil)) (.node (v3o193 P) (.node (v4o321 P) .nil .nil) .nil)) (.node (v2o97 P) (.node (v2o161 P) (.node (v3o289 P) .nil .nil) (.node (v4o417 P) .nil .nil)) (.node (v3o225 P) (.node (v4o353 P) .nil .nil) .nil))) (.node (v1o49 P) (.node (v1o81 P) (.node (v2o145 P) (.node (v3o273 P) .nil .nil) (.node (v4o401 P) .nil .nil)) (.node (v3o209 P) (.node (v4o337 P) .nil .nil) .nil)) (.node (v2o113 P) (.node (v2o177 P) (.node (v4o305 P) .nil .nil) (.node (v4o433 P) .nil .nil)) (.node (v3o241 P) (.node (v4o369 P) .nil .nil) .nil)))) (.node (v1o25 P) (.node (v1o41 P) (.node (v1o73 P) (.node (v2o137 P) (.node (v3o265 P) .nil .nil) (.node (v4o393 P) .nil .nil)) (.node (v3o201 P) (.node (v4o329 P) .nil .nil) .nil)) (.node (v2o105 P) (.node (v2o169 P) (.node (v3o297 P) .nil .nil) (.node (v4o425 P) .nil .nil)) (.node (v3o233 P) (.node (v4o361 P) .nil .nil) .nil))) (.node (v1o57 P) (.node (v2o89 P) (.node (v2o153 P) (.node (v3o281 P) .nil .nil) (.node (v4o409 P) .nil .nil)) (.node (v3o217 P) (.node (v4o345 P) .nil .nil) .nil)) (.node (v2o121 P) (.node (v3o185 P) (.node (v4o313 P) .nil .nil) (.node (v4o441 P) .nil .nil)) (.node (v3o249 P) (.node (v4o377 P) .nil .nil) .nil))))) (.node (o13) (.node (v1o21 P) (.node (v1o37 P) (.node (v1o69 P) (.node (v2o133 P) (.node (v3o261 P) .nil .nil) (.node (v4o389 P) .nil .nil)) (.node (v3o197 P) (.node (v4o325 P) .nil .nil) .nil)) (.node (v2o101 P) (.node (v2o165 P) (.node (v3o293 P) .nil .nil) (.node (v4o421 P) .nil .nil)) (.node (v3o229 P) (.node (v4o357 P) .nil .nil) .nil))) (.node (v1o53 P) (.node (v1o85 P) (.node (v2o149 P) (.node (v3o277 P) .nil .nil) (.node (v4o405 P) .nil .nil)) (.node (v3o213 P) (.node (v4o341 P) .nil .nil) .nil)) (.node (v2o117 P) (.node (v3o181 P) (.node (v4o309 P) .nil .nil) (.node (v4o437 P) .nil .nil)) (.node (v3o245 P) (.node (v4o373 P) .nil .nil) .nil)))) (.node (v1o29 P) (.node (v1o45 P) (.node (v1o77 P) (.node (v2o141 P) (.node (v3o269 P) .nil .nil) (.node (v4o397 P) .nil .nil)) (.node (v3o205 P) (.node (v4o333 P) .nil .nil) .nil)) (.node (v2o109 P) (.node (v2o173 P) (.node (v3o301 P) .nil .nil) (.node (v4o429 P) .nil .nil)) (.node (v3o237 P) (.node (v4o365 P) .nil .nil) .nil))) (.node (v1o61 P) (.node (v2o93 P) (.node (v2o157 P) (.node (v3o285 P) .nil .nil) (.node (v4o413 P) .nil .nil)) (.node (v3o221 P) (.node (v4o349 P) .nil .nil) .nil)) (.node (v2o125 P) (.node (v3o189 P) (.node (v4o317 P) .nil .nil) .nil) (.node (v3o253 P) (.node (v4o381 P) .nil .nil) .nil))))))) (.node (v1o2 P) (.node (boot_o_4 P) (.node (boot_o_8 P) (.node (v1o16 P) (.node (v1o32 P) (.node (v1o64 P) (.node (v2o128 P) (.node (v3o256 P) .nil .nil) (.node (v4o384 P) .nil .nil)) (.node (v3o192 P) (.node (v4o320 P) .nil .nil) .nil)) (.node (v2o96 P) (.node (v2o160 P) (.node (v3o288 P) .nil .nil) (.node (v4o416 P) .nil .nil)) (.node (v3o224 P) (.node (v4o352 P) .nil .nil) .nil))) (.node (v1o48 P) (.node (v1o80 P) (.node (v2o144 P) (.node (v3o272 P) .nil .nil) (.node (v4o400 P) .nil .nil)) (.node (v3o208 P) (.node (v4o336 P) .nil .nil) .nil)) (.node (v2o112 P) (.node (v2o176 P) (.node (v3o304 P) .nil .nil) (.node (v4o432 P) .nil .nil)) (.node (v3o240 P) (.node (v4o368 P) .nil .nil) .nil)))) (.node (v1o24 P) (.node (v1o40 P) (.node (v1o72 P) (.node (v2o136 P) (.node (v3o264 P) .nil .nil) (.node (v4o392 P) .nil .nil)) (.node (v3o200 P) (.node (v4o328 P) .nil .nil) .nil)) (.node (v2o104 P) (.node (v2o168 P) (.node (v3o296 P) .nil .nil) (.node (v4o424 P) .nil .nil)) (.node (v3o232 P) (.node (v4o360 P) .nil .nil) .nil))) (.node (v1o56 P) (.node (v2o88 P) (.node (v2o152 P) (.node (v3o280 P) .nil .nil) (.node (v4o408 P) .nil .nil)) (.node (v3o216 P) (.node (v4o344 P) .nil .nil) .nil)) (.node (v2o120 P) (.node (v3o184 P) (.node (v4o312 P) .nil .nil) (.node (v4o440 P) .nil .nil)) (.node (v3o248 P) (.node (v4o376 P) .nil .nil) .nil))))) (.node (v4o12 P) (.node (v1o20 P) (.node (v1o36 P) (.node (v1o68 P) (.node (v2o132 P) (.node (v3o260 P) .nil .nil) (.node (v4o388 P) .nil .nil)) (.node (v3o196 P) (.node (v4o324 P) .nil .nil) .nil)) (.node (v2o100 P) (.node (v2o164 P) (.node (v3o292 P) .nil .nil) (.node (v4o420 P) .nil .nil)) (.node (v3o228 P) (.node (v4o356 P) .nil .nil) .nil))) (.node (v1o52 P) (.node (v1o84 P) (.node (v2o148 P) (.node (v3o276 P) .nil .nil) (.node (v4o404 P) .nil .nil)) (.node (v3o212 P) (.node (v4o340 P) .nil .nil) .nil)) (.node (v2o116 P) (.node (v3o180 P) (.node (v4o308 P) .nil .nil) (.node (v4o436 P) .nil .nil)) (.node (v3o244 P) (.node (v4o372 P) .nil .nil) .nil)))) (.node (v1o28 P) (.node (v1o44 P) (.node (v1o76 P) (.node (v2o140 P) (.node (v3o268 P) .nil .nil) (.node (v4o396 P) .nil .nil)) (.node (v3o204 P) (.node (v4o332 P) .nil .nil) .nil)) (.node (v2o108 P) (.node (v2o172 P) (.node (v3o300 P) .nil .nil) (.node (v4o428 P) .nil .nil)) (.node (v3o236 P) (.node (v4o364 P) .nil .nil) .nil))) (.node (v1o60 P) (.node (v2o92 P) (.node (v2o156 P) (.node (v3o284 P) .nil .nil) (.node (v4o412 P) .nil .nil)) (.node (v3o220 P) (.node (v4o348 P) .nil .nil) .nil)) (.node (v2o124 P) (.node (v3o188 P) (.node (v4o316 P) .nil .nil) (.node (v4o444 P) .nil .nil)) (.node (v3o252 P) (.node (v4o380 P) .nil .nil) .nil)))))) (.node (boot_o_6 P) (.node (boot_o_10 P) (.node (v1o18 P) (.node (v1o34 P) (.node (v1o66 P) (.node (v2o130 P) (.node (v3o258 P) .nil .nil) (.node (v4o386 P) .nil .nil)) (.node (v3o194 P) (.node (v4o322 P) .nil .nil) .nil)) (.node (v2o98 P) (.node (v2o162 P) (.node (v3o290 P) .nil .nil) (.node (v4o418 P) .nil .nil)) (.node (v3o226 P) (.node (v4o354 P) .nil .nil) .nil))) (.node (v1o50 P) (.node (v1o82 P) (.node (v2o146 P) (.node (v3o274 P) .nil .nil) (.node (v4o402 P) .nil .nil)) (.node (v3o210 P) (.node (v4o338 P) .nil .nil) .nil)) (.node (v2o114 P) (.node (v3o178 P) (.node (v4o306 P) .nil .nil) (.node (v4o434 P) .nil .nil)) (.node (v3o242 P) (.node (v4o370 P) .nil .nil) .nil)))) (.node (v1o26 P) (.node (v1o42 P) (.node (v1o74 P) (.node (v2o138 P) (.node (v3o266 P) .nil .nil) (.node (v4o394 P) .nil .nil)) (.node (v3o202 P) (.node (v4o330 P) .nil .nil) .nil)) (.node (v2o106 P) (.node (v2o170 P) (.node (v3o298 P) .nil .nil) (.node (v4o426 P) .nil .nil)) (.node (v3o234 P) (.node (v4o362 P) .nil .nil) .nil))) (.node (v1o58 P) (.node (v2o90 P) (.node (v2o154 P) (.node (v3o282 P) .nil .nil) (.node (v4o410 P) .nil .nil)) (.node (v3o218 P) (.node (v4o346 P) .nil .nil) .nil)) (.node (v2o122 P) (.node (v3o186 P) (.node (v4o314 P) .nil .nil) (.node (v4o442 P) .nil .nil)) (.node (v3o250 P) (.node (v4o378 P) .nil .nil) .nil))))) (.node (o14) (.node (v1o22 P) (.node (v1o38 P) (.node (v1o70 P) (.node (v2o134 P) (.node (v3o262 P) .nil .nil) (.node (v4o390 P) .nil .nil)) (.node (v3o198 P) (.node (v4o326 P) .nil .nil) .nil)) (.node (v2o102 P) (.node (v2o166 P) (.node (v3o294 P) .nil .nil) (.node (v4o422 P) .nil .nil)) (.node (v3o230 P) (.node (v4o358 P) .nil .nil) .nil))) (.node (v1o54 P) (.node (v1o86 P) (.node (v2o150 P) (.node (v3o278 P) .nil .nil) (.node (v4o406 P) .nil .nil)) (.node (v3o214 P) (.node (v4o342 P) .nil .nil) .nil)) (.node (v2o118 P) (.node (v3o182 P) (.node (v4o310 P) .nil .nil) (.node (v4o438 P) .nil .nil)) (.node (v3o246 P) (.node (v4o374 P) .nil .nil) .nil)))) (.node (v1o30 P) (.node (v1o46 P) (.node (v1o78 P) (.node (v2o142 P) (.node (v3o270 P) .nil .nil) (.node (v4o398 P) .nil .nil)) (.node (v3o206 P) (.node (v4o334 P) .nil .nil) .nil)) (.node (v2o110 P) (.node (v2o174 P) (.node (v3o302 P) .nil .nil) (.node (v4o430 P) .nil .nil)) (.node (v3o238 P) (.node (v4o366 P) .nil .nil) .nil))) (.node (v1o62 P) (.node (v2o94 P) (.node (v2o158 P) (.node (v3o286 P) .nil .nil) (.node (v4o414 P) .nil .nil)) (.node (v3o222 P) (.node (v4o350 P) .nil .nil) .nil)) (.node (v2o126 P) (.node (v3o190 P) (.node (v4o318 P) .nil .nil) .nil) (.node (v3o254 P) (.node (v4o382 P) .nil .nil) .nil))))))))
noncomputable def v5o3 (P : Params) : Obj := { cls := Value.type "dict", data := Data.dict #[{ hash := PyData.keyHash P (Str.ofString "__name__"), key := Value.str (Str.ofString "__name__") 165, val := Value.str (Str.ofString "law_xw0308_01") 897 }, { hash := PyData.keyHash P (Str.ofString "__doc__"), key := Value.str (Str.ofString "__doc__") 166, val := Value.none }, { hash := PyData.keyHash P (Str.ofString "__package__"), key := Value.str (Str.ofString "__package__") 167, val := Value.none }, { hash := PyData.keyHash P (Str.ofString "__loader__"), key := Value.str (Str.ofString "__loader__") 168, val := Value.builtin "__main__.__loader__#opaque" }, { hash := PyData.keyHash P (Str.ofString "__spec__"), key := Value.str (Str.ofString "__spec__") 169, val := Value.none }, { hash := PyData.keyHash P (Str.ofString "__annotations__"), key := Value.str (Str.ofString "__annotations__") 170, val := Value.ref 6 }, { hash := PyData.keyHash P (Str.ofString "__builtins__"), key := Value.str (Str.ofString "__builtins__") 171, val := Value.ref 4 }, { hash := PyData.keyHash P (Str.ofString "__file__"), key := Value.str (Str.ofString "__file__") 173, val := Value.str (Str.ofString "/claim/cut.py") 172 }, { hash := PyData.keyHash P (Str.ofString "__cached__"), key := Value.str (Str.ofString "__cached__") 174, val := Value.none }, { hash := PyData.keyHash P (Str.ofString "give_names"), key := Value.str (Str.ofString "give_names") 198, val := Value.ref 21 }, { hash := PyData.keyHash P (Str.ofString "three_pieces"), key := Value.str (Str.ofString "three_pieces") 206, val := Value.ref 28 }, { hash := PyData.keyHash P (Str.ofString "spliced"), key := Value.str (Str.ofString "spliced") 218, val := Value.ref 35 }, { hash := PyData.keyHash P (Str.ofString "replace_once"), key := Value.str (Str.ofString "replace_once") 232, val := Value.ref 42 }, { hash := PyData.keyHash P (Str.ofString "replace_often"), key := Value.str (Str.ofString "replace_often") 247, val := Value.ref 49 }, { hash := PyData.keyHash P (Str.ofString "SnobolError"), key := Value.str (Str.ofString "SnobolError") 283, val := Value.ref 69 }, { hash := PyData.keyHash P (Str.ofString "Failure"), key := Value.str (Str.ofString "Failure") 303, val := Value.ref 82 }, { hash := PyData.keyHash P (Str.ofString "Pattern"), key := Value.str (Str.ofString "Pattern") 332, val := Value.ref 103 }, { hash := PyData.keyHash P (Str.ofString "Delayed"), key := Value.str (Str.ofString "Delayed") 361, val := Value.ref 124 }, { hash := PyData.keyHash P (Str.ofString "is_fail"), key := Value.str (Str.ofString "is_fail") 368, val := Value.ref 135 }, { hash := PyData.keyHash P (Str.ofString "fits"), key := Value.str (Str.ofString "fits") 376, val := Value.ref 142 }, { hash := PyData.keyHash P (Str.ofString "whole_of_text"), key := Value.str (Str.ofString "whole_of_text") 387, val := Value.ref 149 }, { hash := PyData.keyHash P (Str.ofString "text_of_whole"), key := Value.str (Str.ofString "text_of_whole") 396, val := Value.ref 156 }, { hash := PyData.keyHash P (Str.ofString "to_whole"), key := Value.str (Str.ofString "to_whole") 404, val := Value.ref 163 }, { hash := PyData.keyHash P (Str.ofString "to_text"), key := Value.str (Str.ofString "to_text") 411, val := Value.ref 170 }, { hash := PyData.keyHash P (Str.ofString "need_text"), key := Value.str (Str.ofString "need_text") 419, val := Value.ref 177 }, { hash := PyData.keyHash P (Str.ofString "PlainHost"), key := Value.str (Str.ofString "PlainHost") 481, val := Value.ref 215 }, { hash := PyData.keyHash P (Str.ofString "replaced_signs"), key := Value.str (Str.ofString "replaced_signs") 489, val := Value.ref 224 }, { hash := PyData.keyHash P (Str.ofString "told_or_fail"), key := Value.str (Str.ofString "told_or_fail") 496, val := Value.ref 231 }, { hash := PyData.keyHash P (Str.ofString "text_replace"), key := Value.str (Str.ofString "text_replace") 506, val := Value.ref 238 }, { hash := PyData.keyHash P (Str.ofString "COUNTED"), key := Value.str (Str.ofString "COUNTED") 514, val := Value.ref 239 }, { hash := PyData.keyHash P (Str.ofString "SIGNED"), key := Value.str (Str.ofString "SIGNED") 519, val := Value.ref 240 }, { hash := PyData.keyHash P (Str.ofString "WIDTH_OF_COUNT"), key := Value.str (Str.ofString "WIDTH_OF_COUNT") 521, val := Value.int 64 520 }, { hash := PyData.keyHash P (Str.ofString "plain_count"), key := Value.str (Str.ofString "plain_count") 531, val := Value.ref 248 }, { hash := PyData.keyHash P (Str.ofString "plain_signs"), key := Value.str (Str.ofString "plain_signs") 540, val := Value.ref 255 }, { hash := PyData.keyHash P (Str.ofString "pattern_of"), key := Value.str (Str.ofString "pattern_of") 548, val := Value.ref 262 }, { hash := PyData.keyHash P (Str.ofString "is_delayed"), key := Value.str (Str.ofString "is_delayed") 555, val := Value.ref 269 }, { hash := PyData.keyHash P (Str.ofString "settled"), key := Value.str (Str.ofString "settled") 564, val := Value.ref 276 }, { hash := PyData.keyHash P (Str.ofString "OPENING"), key := Value.str (Str.ofString "OPENING") 568, val := Value.str (Str.ofString "(") 567 }, { hash := PyData.keyHash P (Str.ofString "CLOSING"), key := Value.str (Str.ofString "CLOSING") 570, val := Value.str (Str.ofString ")") 569 }, { hash := PyData.keyHash P (Str.ofString "chars_end"), key := Value.str (Str.ofString "chars_end") 580, val := Value.ref 283 }, { hash := PyData.keyHash P (Str.ofString "len_end"), key := Value.str (Str.ofString "len_end") 589, val := Value.ref 290 }, { hash := PyData.keyHash P (Str.ofString "pos_end"), key := Value.str (Str.ofString "pos_end") 597, val := Value.ref 297 }, { hash := PyData.keyHash P (Str.ofString "rpos_end"), key := Value.str (Str.ofString "rpos_end") 606, val := Value.ref 304 }, { hash := PyData.keyHash P (Str.ofString "tab_end"), key := Value.str (Str.ofString "tab_end") 615, val := Value.ref 311 }, { hash := PyData.keyHash P (Str.ofString "rtab_end"), key := Value.str (Str.ofString "rtab_end") 625, val := Value.ref 318 }, { hash := PyData.keyHash P (Str.ofString "rem_end"), key := Value.str (Str.ofString "rem_end") 632, val := Value.ref 325 }, { hash := PyData.keyHash P (Str.ofString "any_at"), key := Value.str (Str.ofString "any_at") 641, val := Value.ref 332 }, { hash := PyData.keyHash P (Str.ofString "notany_at"), key := Value.str (Str.ofString "notany_at") 650, val := Value.ref 339 }, { hash := PyData.keyHash P (Str.ofString "run_end"), key := Value.str (Str.ofString "run_end") 660, val := Value.ref 346 }, { hash := PyData.keyHash P (Str.ofString "span_end"), key := Value.str (Str.ofString "span_end") 670, val := Value.ref 353 }, { hash := PyData.keyHash P (Str.ofString "break_end"), key := Value.str (Str.ofString "break_end") 680, val := Value.ref 360 }, { hash := PyData.keyHash P (Str.ofString "bal_end"), key := Value.str (Str.ofString "bal_end") 689, val := Value.ref 367 }, { hash := PyData.keyHash P (Str.ofString "bal_ends"), key := Value.str (Str.ofString "bal_ends") 699, val := Value.ref 374 }, { hash := PyData.keyHash P (Str.ofString "one_end"), key := Value.str (Str.ofString "one_end") 709, val := Value.ref 381 }, { hash := PyData.keyHash P (Str.ofString "plain_end"), key := Value.str (Str.ofString "plain_end") 718, val := Value.ref 388 }, { hash := PyData.keyHash P (Str.ofString "LOST"), key := Value.str (Str.ofString "LOST") 722, val := Value.str (Str.ofString "lost") 721 }, { hash := PyData.keyHash P (Str.ofString "match_plain"), key := Value.str (Str.ofString "match_plain") 734, val := Value.ref 395 }, { hash := PyData.keyHash P (Str.ofString "match_at"), key := Value.str (Str.ofString "match_at") 745, val := Value.ref 402 }, { hash := PyData.keyHash P (Str.ofString "tried"), key := Value.str (Str.ofString "tried") 760, val := Value.ref 409 }, { hash := PyData.keyHash P (Str.ofString "advanced"), key := Value.str (Str.ofString "advanced") 776, val := Value.ref 416 }, { hash := PyData.keyHash P (Str.ofString "led_in"), key := Value.str (Str.ofString "led_in") 788, val := Value.ref 423 }, { hash := PyData.keyHash P (Str.ofString "led_out"), key := Value.str (Str.ofString "led_out") 804, val := Value.ref 430 }, { hash := PyData.keyHash P (Str.ofString "steered"), key := Value.str (Str.ofString "steered") 816, val := Value.ref 437 }, { hash := PyData.keyHash P (Str.ofString "taken"), key := Value.str (Str.ofString "taken") 833, val := Value.ref 444 }, { hash := PyData.keyHash P (Str.ofString "World"), key := Value.str (Str.ofString "World") 896, val := Value.ref 462 }, { hash := PyData.keyHash P (Str.ofString "_law_due"), key := Value.str (Str.ofString "_law_due") 910, val := Value.ref 473 }, { hash := PyData.keyHash P (Str.ofString "law"), key := Value.str (Str.ofString "law") 916, val := Value.ref 478 }] 67 }
noncomputable def v5o12 (P : Params) : Obj := { cls := Value.none, data := Data.fields #[Value.int 2 0, Value.int 0 0, Value.ref 20, Value.int 5 0, Value.int 0 0, Value.ref 27, Value.int 7 0, Value.int 0 0, Value.ref 34, Value.int 10 0, Value.int 0 0, Value.ref 41, Value.int 17 0, Value.int 0 0, Value.ref 48, Value.int 26 0, Value.int 0 0, Value.ref 56, Value.int 32 0, Value.int 0 0, Value.ref 78, Value.int 34 0, Value.int 0 0, Value.ref 92, Value.int 38 0, Value.int 0 0, Value.ref 113, Value.int 42 0, Value.int 0 0, Value.ref 134, Value.int 44 0, Value.int 0 0, Value.ref 141, Value.int 46 0, Value.int 0 0, Value.ref 148, Value.int 59 0, Value.int 0 0, Value.ref 155, Value.int 65 0, Value.int 0 0, Value.ref 162, Value.int 69 0, Value.int 0 0, Value.ref 169, Value.int 73 0, Value.int 0 0, Value.ref 176, Value.int 79 0, Value.int 0 0, Value.ref 183, Value.int 106 0, Value.int 0 0, Value.ref 223, Value.int 113 0, Value.int 0 0, Value.ref 230, Value.int 115 0, Value.int 0 0, Value.ref 237, Value.int 122 0, Value.int 0 0, Value.ref 247, Value.int 129 0, Value.int 0 0, Value.ref 254, Value.int 134 0, Value.int 0 0, Value.ref 261, Value.int 143 0, Value.int 0 0, Value.ref 268, Value.int 145 0, Value.int 0 0, Value.ref 275, Value.int 157 0, Value.int 0 0, Value.ref 282, Value.int 160 0, Value.int 0 0, Value.ref 289, Value.int 162 0, Value.int 0 0, Value.ref 296, Value.int 164 0, Value.int 0 0, Value.ref 303, Value.int 166 0, Value.int 0 0, Value.ref 310, Value.int 168 0, Value.int 0 0, Value.ref 317, Value.int 171 0, Value.int 0 0, Value.ref 324, Value.int 173 0, Value.int 0 0, Value.ref 331, Value.int 175 0, Value.int 0 0, Value.ref 338, Value.int 177 0, Value.int 0 0, Value.ref 345, Value.int 181 0, Value.int 0 0, Value.ref 352, Value.int 184 0, Value.int 0 0, Value.ref 359, Value.int 187 0, Value.int 0 0, Value.ref 366, Value.int 200 0, Value.int 0 0, Value.ref 373, Value.int 206 0, Value.int 0 0, Value.ref 380, Value.int 226 0, Value.int 0 0, Value.ref 387, Value.int 230 0, Value.int 0 0, Value.ref 394, Value.int 236 0, Value.int 0 0, Value.ref 401, Value.int 239 0, Value.int 0 0, Value.ref 408, Value.int 257 0, Value.int 0 0, Value.ref 415, Value.int 272 0, Value.int 0 0, Value.ref 422, Value.int 283 0, Value.int 0 0, Value.ref 429, Value.int 290 0, Value.int 0 0, Value.ref 436, Value.int 298 0, Value.int 0 0, Value.ref 443, Value.int 315 0, Value.int 0 0, Value.ref 450, Value.int 345 0, Value.int 0 0, Value.ref 472, Value.int 351 0, Value.int 0 0, Value.ref 477] }
noncomputable def v5o445 (P : Params) : Obj := { cls := Value.type "tuple", data := Data.seq #[] }
noncomputable def v5o446 (P : Params) : Obj := { cls := Value.type "builtin_function_or_method", data := Data.fields #[Value.builtin "type.__prepare__", Value.type "type"] }
noncomputable def v5o447 (P : Params) : Obj := { cls := Value.type "dict", data := Data.dict #[{ hash := PyData.keyHash P (Str.ofString "__module__"), key := Value.str (Str.ofString "__module__") 843, val := Value.str (Str.ofString "snobol.world") 834 }, { hash := PyData.keyHash P (Str.ofString "__qualname__"), key := Value.str (Str.ofString "__qualname__") 845, val := Value.str (Str.ofString "World") 844 }, { hash := PyData.keyHash P (Str.ofString "__firstlineno__"), key := Value.str (Str.ofString "__firstlineno__") 847, val := Value.int 315 846 }, { hash := PyData.keyHash P (Str.ofString "__init__"), key := Value.str (Str.ofString "__init__") 862, val := Value.ref 459 }, { hash := PyData.keyHash P (Str.ofString "__static_attributes__"), key := Value.str (Str.ofString "__static_attributes__") 889, val := Value.ref 460 }] 5 }
noncomputable def v5o448 (P : Params) : Obj := { cls := Value.type "tuple", data := Data.seq #[] }
noncomputable def v5o449 (P : Params) : Obj := { cls := Value.none, data := Data.fields #[Value.int 317 0, Value.int 4 0, Value.ref 458] }
noncomputable def v5o450 (P : Params) : Obj := { cls := Value.type "code", data := Data.fields #[Value.str (Str.ofString "World") 838, Value.str (Str.ofString "World") 839, Value.str (Str.ofString "/claim/cut.py") 840, Value.int 315 0, Value.int 0 0, Value.int 0 0, Value.int 0 0, Value.int 0 0, Value.ref 448, Value.bool false, Value.int 181 0, Value.ref 449, Value.none, Value.none, Value.none, Value.none, Value.int 841 0, Value.int 315 0, Value.str (Str.ofString "/claim/cut.py") 842] }
noncomputable def v5o451 (P : Params) : Obj := { cls := Value.type "frame", slots := #[some (Value.ref 450), some (Value.ref 3), some (Value.ref 447), none, some (Value.str (Str.ofString "snobol.world") 834), none, some (Value.ref 0)] }
noncomputable def v5o452 (P : Params) : Obj := { cls := Value.type "tuple", data := Data.seq #[Value.int 32 848, Value.int 5000 849, Value.int 30 850, Value.int 5000 851] }
noncomputable def v5o453 (P : Params) : Obj := { cls := Value.type "tuple", data := Data.seq #[] }
noncomputable def v5o454 (P : Params) : Obj := { cls := Value.none, data := Data.fields #[] }
noncomputable def v5o455 (P : Params) : Obj := { cls := Value.type "tuple", data := Data.seq #[Value.str (Str.ofString "self") 855, Value.str (Str.ofString "width") 856, Value.str (Str.ofString "most_steps") 857, Value.str (Str.ofString "most_depth") 858, Value.str (Str.ofString "most_length") 859] }
noncomputable def v5o456 (P : Params) : Obj := { cls := Value.type "tuple", data := Data.seq #[] }
noncomputable def v5o457 (P : Params) : Obj := { cls := Value.none, data := Data.func { name := Str.ofString "__init__", qualname := Str.ofString "World.__init__", params := F457a, body := FuncBody.stmts F457b, scope := F457s, globals := 0, closure := [], defaults := Value.none, kwdefaults := Value.none } }
noncomputable def v5o458 (P : Params) : Obj := { cls := Value.type "code", data := Data.fields #[Value.str (Str.ofString "__init__") 852, Value.str (Str.ofString "World.__init__") 853, Value.str (Str.ofString "/claim/cut.py") 854, Value.int 317 0, Value.int 5 0, Value.int 0 0, Value.int 0 0, Value.int 3 0, Value.ref 453, Value.bool true, Value.int 181 0, Value.ref 454, Value.none, Value.ref 455, Value.ref 456, Value.ref 457, Value.int 860 0, Value.int 317 0, Value.str (Str.ofString "/claim/cut.py") 861] }
noncomputable def v5o459 (P : Params) : Obj := { cls := Value.type "function", data := Data.func { name := Str.ofString "__init__", qualname := Str.ofString "World.__init__", params := F459a, body := FuncBody.stmts F459b, scope := F459s, globals := 3, closure := [], defaults := Value.ref 452, kwdefaults := Value.none, pyModule := Value.str (Str.ofString "snobol.world") 834, code := Value.ref 458 } }
noncomputable def v5o460 (P : Params) : Obj := { cls := Value.type "tuple", data := Data.seq #[Value.str (Str.ofString "aside") 863, Value.str (Str.ofString "depth") 864, Value.str (Str.ofString "evaluate") 865, Value.str (Str.ofString "functions") 866, Value.str (Str.ofString "holders") 867, Value.str (Str.ofString "inputs") 868, Value.str (Str.ofString "kept_names") 869, Value.str (Str.ofString "keywords") 870, Value.str (Str.ofString "labels") 871, Value.str (Str.ofString "made") 872, Value.str (Str.ofString "make_code") 873, Value.str (Str.ofString "matcher") 874, Value.str (Str.ofString "most_depth") 875, Value.str (Str.ofString "most_items") 876, Value.str (Str.ofString "most_length") 877, Value.str (Str.ofString "most_steps") 878, Value.str (Str.ofString "nested") 879, Value.str (Str.ofString "opsyns") 880, Value.str (Str.ofString "outputs") 881, Value.str (Str.ofString "read_names") 882, Value.str (Str.ofString "steps") 883, Value.str (Str.ofString "store") 884, Value.str (Str.ofString "traced") 885, Value.str (Str.ofString "traces") 886, Value.str (Str.ofString "width") 887, Value.str (Str.ofString "write_names") 888] }
noncomputable def v5o461 (P : Params) : Obj := { cls := Value.type "dict", data := Data.dict #[{ hash := PyData.keyHash P (Str.ofString "__module__"), key := Value.str (Str.ofString "__module__") 843, val := Value.str (Str.ofString "snobol.world") 834 }, { hash := PyData.keyHash P (Str.ofString "__firstlineno__"), key := Value.str (Str.ofString "__firstlineno__") 847, val := Value.int 315 846 }, { hash := PyData.keyHash P (Str.ofString "__init__"), key := Value.str (Str.ofString "__init__") 862, val := Value.ref 459 }, { hash := PyData.keyHash P (Str.ofString "__static_attributes__"), key := Value.str (Str.ofString "__static_attributes__") 889, val := Value.ref 460 }, { hash := PyData.keyHash P (Str.ofString "__dict__"), key := Value.str (Str.ofString "__dict__") 891, val := Value.ref 463 }, { hash := PyData.keyHash P (Str.ofString "__weakref__"), key := Value.str (Str.ofString "__weakref__") 893, val := Value.ref 464 }, { hash := PyData.keyHash P (Str.ofString "__doc__"), key := Value.str (Str.ofString "__doc__") 894, val := Value.none }] 4 }
noncomputable def v5o462 (P : Params) : Obj := { cls := Value.type "type", data := Data.cls { name := Str.ofString "World", bases := [Value.type "object"], mro := [Value.ref 462, Value.type "object"], ns := 461, qualname := Str.ofString "World" }, slots := #[none, none, some (Value.str (Str.ofString "World") 836), some (Value.str (Str.ofString "World") 844), some (Value.builtin "object.__new__"), some (Value.bool true)] }
noncomputable def v5o463 (P : Params) : Obj := { cls := Value.type "getset_descriptor", data := Data.fields #[Value.str (Str.ofString "__dict__") 890, Value.ref 462, Value.builtin "function.__dict__", Value.builtin "function.__dict__#set"] }
noncomputable def v5o464 (P : Params) : Obj := { cls := Value.type "getset_descriptor", data := Data.fields #[Value.str (Str.ofString "__weakref__") 892, Value.ref 462, Value.builtin "ExceptionGroup.__weakref__", Value.none] }
noncomputable def v5o465 (P : Params) : Obj := { cls := Value.type "super", data := Data.fields #[Value.ref 462, Value.ref 462, Value.ref 462] }
noncomputable def v5o466 (P : Params) : Obj := { cls := Value.type "builtin_function_or_method", data := Data.fields #[Value.builtin "object.__init_subclass__", Value.ref 462] }
noncomputable def v5o467 (P : Params) : Obj := { cls := Value.type "tuple", data := Data.seq #[] }
noncomputable def v5o468 (P : Params) : Obj := { cls := Value.none, data := Data.fields #[] }
noncomputable def v5o469 (P : Params) : Obj := { cls := Value.type "tuple", data := Data.seq #[Value.str (Str.ofString "ring") 902, Value.str (Str.ofString "due") 903, Value.str (Str.ofString "at") 904, Value.str (Str.ofString "ahead") 905, Value.str (Str.ofString "here") 906, Value.str (Str.ofString "behind") 907] }
noncomputable def v5o470 (P : Params) : Obj := { cls := Value.type "tuple", data := Data.seq #[] }
noncomputable def v5o471 (P : Params) : Obj := { cls := Value.none, data := Data.func { name := Str.ofString "_law_due", qualname := Str.ofString "_law_due", params := F471a, body := FuncBody.stmts F471b, scope := F471s, globals := 0, closure := [], defaults := Value.none, kwdefaults := Value.none } }
noncomputable def v5o472 (P : Params) : Obj := { cls := Value.type "code", data := Data.fields #[Value.str (Str.ofString "_law_due") 899, Value.str (Str.ofString "_law_due") 900, Value.str (Str.ofString "/claim/cut.py") 901, Value.int 345 0, Value.int 1 0, Value.int 0 0, Value.int 0 0, Value.int 3 0, Value.ref 467, Value.bool true, Value.int 181 0, Value.ref 468, Value.none, Value.ref 469, Value.ref 470, Value.ref 471, Value.int 908 0, Value.int 345 0, Value.str (Str.ofString "/claim/cut.py") 909] }
noncomputable def v5o473 (P : Params) : Obj := { cls := Value.type "function", data := Data.func { name := Str.ofString "_law_due", qualname := Str.ofString "_law_due", params := F473a, body := FuncBody.stmts F473b, scope := F473s, globals := 3, closure := [], defaults := Value.none, kwdefaults := Value.none, pyModule := Value.str (Str.ofString "law_xw0308_01") 897, code := Value.ref 472 } }
noncomputable def v5o474 (P : Params) : Obj := { cls := Value.type "tuple", data := Data.seq #[] }
noncomputable def v5o475 (P : Params) : Obj := { cls := Value.none, data := Data.fields #[] }
noncomputable def v5o476 (P : Params) : Obj := { cls := Value.none, data := Data.func { name := Str.ofString "law", qualname := Str.ofString "law", params := F476a, body := FuncBody.stmts F476b, scope := F476s, globals := 0, closure := [], defaults := Value.none, kwdefaults := Value.none } }
noncomputable def v5o477 (P : Params) : Obj := { cls := Value.type "code", data := Data.fields #[Value.str (Str.ofString "law") 911, Value.str (Str.ofString "law") 912, Value.str (Str.ofString "/claim/cut.py") 913, Value.int 351 0, Value.int 1 0, Value.int 0 0, Value.int 0 0, Value.int 3 0, Value.ref 474, Value.bool true, Value.int 181 0, Value.ref 475, Value.none, Value.none, Value.none, Value.ref 476, Value.int 914 0, Value.int 351 0, Value.str (Str.ofString "/claim/cut.py") 915] }
noncomputable def v5o478 (P : Params) : Obj := { cls := Value.type "function", data := Data.func { name := Str.ofString "law", qualname := Str.ofString "law", params := F478a, body := FuncBody.stmts F478b, scope := F478s, globals := 3, closure := [], defaults := Value.none, kwdefaults := Value.none, pyModule := Value.str (Str.ofString "law_xw0308_01") 897, code := Value.ref 477 } }
set_option maxRecDepth 100000 in
noncomputable def tree5 (P : Params) : BT := (.node (boot_o_0 P) (.node (boot_o_1 P) (.node (v5o3 P) (.node (boot_o_7 P) (.node (v1o15 P) (.node (v1o31 P) (.node (v1o63 P) (.node (v2o127 P) (.node (v3o255 P) .nil .nil) (.node (v4o383 P) .nil .nil)) (.node (v3o191 P) (.node (v4o319 P) .nil .nil) (.node (v5o447 P) .nil .nil))) (.node (v2o95 P) (.node (v2o159 P) (.node (v3o287 P) .nil .nil) (.node (v4o415 P) .nil .nil)) (.node (v3o223 P) (.node (v4o351 P) .nil .nil) .nil))) (.node (v1o47 P) (.node (v1o79 P) (.node (v2o143 P) (.node (v3o271 P) .nil .nil) (.node (v4o399 P) .nil .nil)) (.node (v3o207 P) (.node (v4o335 P) .nil .nil) (.node (v5o463 P) .nil .nil))) (.node (v2o111 P) (.node (v2o175 P) (.node (v3o303 P) .nil .nil) (.node (v4o431 P) .nil .nil)) (.node (v3o239 P) (.node (v4o367 P) .nil .nil) .nil)))) (.node (v1o23 P) (.node (v1o39 P) (.node (v1o71 P) (.node (v2o135 P) (.node (v3o263 P) .nil .nil) (.node (v4o391 P) .nil .nil)) (.node (v3o199 P) (.node (v4o327 P) .nil .nil) (.node (v5o455 P) .nil .nil))) (.node (v2o103 P) (.node (v2o167 P) (.node (v3o295 P) .nil .nil) (.node (v4o423 P) .nil .nil)) (.node (v3o231 P) (.node (v4o359 P) .nil .nil) .nil))) (.node (v1o55 P) (.node (v2o87 P) (.node (v2o151 P) (.node (v3o279 P) .nil .nil) (.node (v4o407 P) .nil .nil)) (.node (v3o215 P) (.node (v4o343 P) .nil .nil) (.node (v5o471 P) .nil .nil))) (.node (v2o119 P) (.node (v3o183 P) (.node (v4o311 P) .nil .nil) (.node (v4o439 P) .nil .nil)) (.node (v3o247 P) (.node (v4o375 P) .nil .nil) .nil))))) (.node (o11) (.node (v1o19 P) (.node (v1o35 P) (.node (v1o67 P) (.node (v2o131 P) (.node (v3o259 P) .nil .nil) (.node (v4o387 P) .nil .nil)) (.node (v3o195 P) (.node (v4o323 P) .nil .nil) (.node (v5o451 P) .nil .nil))) (.node (v2o99 P) (.node (v2o163 P) (.node (v3o291 P) .nil .nil) (.node (v4o419 P) .nil .nil)) (.node (v3o227 P) (.node (v4o355 P) .nil .nil) .nil))) (.node (v1o51 P) (.node (v1o83 P) (.node (v2o147 P) (.node (v3o275 P) .nil .nil) (.node (v4o403 P) .nil .nil)) (.node (v3o211 P) (.node (v4o339 P) .nil .nil) (.node (v5o467 P) .nil .nil))) (.node (v2o115 P) (.node (v3o179 P) (.node (v4o307 P) .nil .nil) (.node (v4o435 P) .nil .nil)) (.node (v3o243 P) (.node (v4o371 P) .nil .nil) .nil)))) (.node (v1o27 P) (.node (v1o43 P) (.node (v1o75 P) (.node (v2o139 P) (.node (v3o267 P) .nil .nil) (.node (v4o395 P) .nil .nil)) (.node (v3o203 P) (.node (v4o331 P) .nil .nil) (.node (v5o459 P) .nil .nil))) (.node (v2o107 P) (.node (v2o171 P) (.node (v3o299 P) .nil .nil) (.node (v4o427 P) .nil .nil)) (.node (v3o235 P) (.node (v4o363 P) .nil .nil) .nil))) (.node (v1o59 P) (.node (v2o91 P) (.node (v2o155 P) (.node (v3o283 P) .nil .nil) (.node (v4o411 P) .nil .nil)) (.node (v3o219 P) (.node (v4o347 P) .nil .nil) (.node (v5o475 P) .nil .nil))) (.node (v2o123 P) (.node (v3o187 P) (.node (v4o315 P) .nil .nil) (.node (v4o443 P) .nil .nil)) (.node (v3o251 P) (.node (v4o379 P) .nil .nil) .nil)))))) (.node (boot_o_5 P) (.node (boot_o_9 P) (.node (v1o17 P) (.node (v1o33 P) (.node (v1o65 P) (.node (v2o129 P) (.node (v3o257 P) .nil .nil) (.node (v4o385 P) .nil .nil)) (.node (v3o193 P) (.node (v4o321 P) .nil .nil) (.node (v5o449 P) .nil .nil))) (.node (v2o97 P) (.node (v2o161 P) (.node (v3o289 P) .nil .nil) (.node (v4o417 P) .nil .nil)) (.node (v3o225 P) (.node (v4o353 P) .nil .nil) .nil))) (.node (v1o49 P) (.node (v1o81 P) (.node (v2o145 P) (.node (v3o273 P) .nil .nil) (.node (v4o401 P) .nil .nil)) (.node (v3o209 P) (.node (v4o337 P) .nil .nil) (.node (v5o465 P) .nil .nil))) (.node (v2o113 P) (.node (v2o177 P) (.node (v4o305 P) .nil .nil) (.node (v4o433 P) .nil .nil)) (.node (v3o241 P) (.node (v4o369 P) .nil .nil) .nil)))) (.node (v1o25 P) (.node (v1o41 P) (.node (v1o73 P) (.node (v2o137 P) (.node (v3o265 P) .nil .nil) (.node (v4o393 P) .nil .nil)) (.node (v3o201 P) (.node (v4o329 P) .nil .nil) (.node (v5o457 P) .nil .nil))) (.node (v2o105 P) (.node (v2o169 P) (.node (v3o297 P) .nil .nil) (.node (v4o425 P) .nil .nil)) (.node (v3o233 P) (.node (v4o361 P) .nil .nil) .nil))) (.node (v1o57 P) (.node (v2o89 P) (.node (v2o153 P) (.node (v3o281 P) .nil .nil) (.node (v4o409 P) .nil .nil)) (.node (v3o217 P) (.node (v4o345 P) .nil .nil) (.node (v5o473 P) .nil .nil))) (.node (v2o121 P) (.node (v3o185 P) (.node (v4o313 P) .nil .nil) (.node (v4o441 P) .nil .nil)) (.node (v3o249 P) (.node (v4o377 P) .nil .nil) .nil))))) (.node (o13) (.node (v1o21 P) (.node (v1o37 P) (.node (v1o69 P) (.node (v2o133 P) (.node (v3o261 P) .nil .nil) (.node (v4o389 P) .nil .nil)) (.node (v3o197 P) (.node (v4o325 P) .nil .nil) (.node (v5o453 P) .nil .nil))) (.node (v2o101 P) (.node (v2o165 P) (.node (v3o293 P) .nil .nil) (.node (v4o421 P) .nil .nil)) (.node (v3o229 P) (.node (v4o357 P) .nil .nil) .nil))) (.node (v1o53 P) (.node (v1o85 P) (.node (v2o149 P) (.node (v3o277 P) .nil .nil) (.node (v4o405 P) .nil .nil)) (.node (v3o213 P) (.node (v4o341 P) .nil .nil) (.node (v5o469 P) .nil .nil))) (.node (v2o117 P) (.node (v3o181 P) (.node (v4o309 P) .nil .nil) (.node (v4o437 P) .nil .nil)) (.node (v3o245 P) (.node (v4o373 P) .nil .nil) .nil)))) (.node (v1o29 P) (.node (v1o45 P) (.node (v1o77 P) (.node (v2o141 P) (.node (v3o269 P) .nil .nil) (.node (v4o397 P) .nil .nil)) (.node (v3o205 P) (.node (v4o333 P) .nil .nil) (.node (v5o461 P) .nil .nil))) (.node (v2o109 P) (.node (v2o173 P) (.node (v3o301 P) .nil .nil) (.node (v4o429 P) .nil .nil)) (.node (v3o237 P) (.node (v4o365 P) .nil .nil) .nil))) (.node (v1o61 P) (.node (v2o93 P) (.node (v2o157 P) (.node (v3o285 P) .nil .nil) (.node (v4o413 P) .nil .nil)) (.node (v3o221 P) (.node (v4o349 P) .nil .nil) (.node (v5o477 P) .nil .nil))) (.node (v2o125 P) (.node (v3o189 P) (.node (v4o317 P) .nil .nil) (.node (v5o445 P) .nil .nil)) (.node (v3o253 P) (.node (v4o381 P) .nil .nil) .nil))))))) (.node (v1o2 P) (.node (boot_o_4 P) (.node (boot_o_8 P) (.node (v1o16 P) (.node (v1o32 P) (.node (v1o64 P) (.node (v2o128 P) (.node (v3o256 P) .nil .nil) (.node (v4o384 P) .nil .nil)) (.node (v3o192 P) (.node (v4o320 P) .nil .nil) (.node (v5o448 P) .nil .nil))) (.node (v2o96 P) (.node (v2o160 P) (.node (v3o288 P) .nil .nil) (.node (v4o416 P) .nil .nil)) (.node (v3o224 P) (.node (v4o352 P) .nil .nil) .nil))) (.node (v1o48 P) (.node (v1o80 P) (.node (v2o144 P) (.node (v3o272 P) .nil .nil) (.node (v4o400 P) .nil .nil)) (.node (v3o208 P) (.node (v4o336 P) .nil .nil) (.node (v5o464 P) .nil .nil))) (.node (v2o112 P) (.node (v2o176 P) (.node (v3o304 P) .nil .nil) (.node (v4o432 P) .nil .nil)) (.node (v3o240 P) (.node (v4o368 P) .nil .nil) .nil)))) (.node (v1o24 P) (.node (v1o40 P) (.node (v1o72 P) (.node (v2o136 P) (.node (v3o264 P) .nil .nil) (.node (v4o392 P) .nil .nil)) (.node (v3o200 P) (.node (v4o328 P) .nil .nil) (.node (v5o456 P) .nil .nil))) (.node (v2o104 P) (.node (v2o168 P) (.node (v3o296 P) .nil .nil) (.node (v4o424 P) .nil .nil)) (.node (v3o232 P) (.node (v4o360 P) .nil .nil) .nil))) (.node (v1o56 P) (.node (v2o88 P) (.node (v2o152 P) (.node (v3o280 P) .nil .nil) (.node (v4o408 P) .nil .nil)) (.node (v3o216 P) (.node (v4o344 P) .nil .nil) (.node (v5o472 P) .nil .nil))) (.node (v2o120 P) (.node (v3o184 P) (.node (v4o312 P) .nil .nil) (.node (v4o440 P) .nil .nil)) (.node (v3o248 P) (.node (v4o376 P) .nil .nil) .nil))))) (.node (v5o12 P) (.node (v1o20 P) (.node (v1o36 P) (.node (v1o68 P) (.node (v2o132 P) (.node (v3o260 P) .nil .nil) (.node (v4o388 P) .nil .nil)) (.node (v3o196 P) (.node (v4o324 P) .nil .nil) (.node (v5o452 P) .nil .nil))) (.node (v2o100 P) (.node (v2o164 P) (.node (v3o292 P) .nil .nil) (.node (v4o420 P) .nil .nil)) (.node (v3o228 P) (.node (v4o356 P) .nil .nil) .nil))) (.node (v1o52 P) (.node (v1o84 P) (.node (v2o148 P) (.node (v3o276 P) .nil .nil) (.node (v4o404 P) .nil .nil)) (.node (v3o212 P) (.node (v4o340 P) .nil .nil) (.node (v5o468 P) .nil .nil))) (.node (v2o116 P) (.node (v3o180 P) (.node (v4o308 P) .nil .nil) (.node (v4o436 P) .nil .nil)) (.node (v3o244 P) (.node (v4o372 P) .nil .nil) .nil)))) (.node (v1o28 P) (.node (v1o44 P) (.node (v1o76 P) (.node (v2o140 P) (.node (v3o268 P) .nil .nil) (.node (v4o396 P) .nil .nil)) (.node (v3o204 P) (.node (v4o332 P) .nil .nil) (.node (v5o460 P) .nil .nil))) (.node (v2o108 P) (.node (v2o172 P) (.node (v3o300 P) .nil .nil) (.node (v4o428 P) .nil .nil)) (.node (v3o236 P) (.node (v4o364 P) .nil .nil) .nil))) (.node (v1o60 P) (.node (v2o92 P) (.node (v2o156 P) (.node (v3o284 P) .nil .nil) (.node (v4o412 P) .nil .nil)) (.node (v3o220 P) (.node (v4o348 P) .nil .nil) (.node (v5o476 P) .nil .nil))) (.node (v2o124 P) (.node (v3o188 P) (.node (v4o316 P) .nil .nil) (.node (v4o444 P) .nil .nil)) (.node (v3o252 P) (.node (v4o380 P) .nil .nil) .nil)))))) (.node (boot_o_6 P) (.node (boot_o_10 P) (.node (v1o18 P) (.node (v1o34 P) (.node (v1o66 P) (.node (v2o130 P) (.node (v3o258 P) .nil .nil) (.node (v4o386 P) .nil .nil)) (.node (v3o194 P) (.node (v4o322 P) .nil .nil) (.node (v5o450 P) .nil .nil))) (.node (v2o98 P) (.node (v2o162 P) (.node (v3o290 P) .nil .nil) (.node (v4o418 P) .nil .nil)) (.node (v3o226 P) (.node (v4o354 P) .nil .nil) .nil))) (.node (v1o50 P) (.node (v1o82 P) (.node (v2o146 P) (.node (v3o274 P) .nil .nil) (.node (v4o402 P) .nil .nil)) (.node (v3o210 P) (.node (v4o338 P) .nil .nil) (.node (v5o466 P) .nil .nil))) (.node (v2o114 P) (.node (v3o178 P) (.node (v4o306 P) .nil .nil) (.node (v4o434 P) .nil .nil)) (.node (v3o242 P) (.node (v4o370 P) .nil .nil) .nil)))) (.node (v1o26 P) (.node (v1o42 P) (.node (v1o74 P) (.node (v2o138 P) (.node (v3o266 P) .nil .nil) (.node (v4o394 P) .nil .nil)) (.node (v3o202 P) (.node (v4o330 P) .nil .nil) (.node (v5o458 P) .nil .nil))) (.node (v2o106 P) (.node (v2o170 P) (.node (v3o298 P) .nil .nil) (.node (v4o426 P) .nil .nil)) (.node (v3o234 P) (.node (v4o362 P) .nil .nil) .nil))) (.node (v1o58 P) (.node (v2o90 P) (.node (v2o154 P) (.node (v3o282 P) .nil .nil) (.node (v4o410 P) .nil .nil)) (.node (v3o218 P) (.node (v4o346 P) .nil .nil) (.node (v5o474 P) .nil .nil))) (.node (v2o122 P) (.node (v3o186 P) (.node (v4o314 P) .nil .nil) (.node (v4o442 P) .nil .nil)) (.node (v3o250 P) (.node (v4o378 P) .nil .nil) .nil))))) (.node (o14) (.node (v1o22 P) (.node (v1o38 P) (.node (v1o70 P) (.node (v2o134 P) (.node (v3o262 P) .nil .nil) (.node (v4o390 P) .nil .nil)) (.node (v3o198 P) (.node (v4o326 P) .nil .nil) (.node (v5o454 P) .nil .nil))) (.node (v2o102 P) (.node (v2o166 P) (.node (v3o294 P) .nil .nil) (.node (v4o422 P) .nil .nil)) (.node (v3o230 P) (.node (v4o358 P) .nil .nil) .nil))) (.node (v1o54 P) (.node (v1o86 P) (.node (v2o150 P) (.node (v3o278 P) .nil .nil) (.node (v4o406 P) .nil .nil)) (.node (v3o214 P) (.node (v4o342 P) .nil .nil) (.node (v5o470 P) .nil .nil))) (.node (v2o118 P) (.node (v3o182 P) (.node (v4o310 P) .nil .nil) (.node (v4o438 P) .nil .nil)) (.node (v3o246 P) (.node (v4o374 P) .nil .nil) .nil)))) (.node (v1o30 P) (.node (v1o46 P) (.node (v1o78 P) (.node (v2o142 P) (.node (v3o270 P) .nil .nil) (.node (v4o398 P) .nil .nil)) (.node (v3o206 P) (.node (v4o334 P) .nil .nil) (.node (v5o462 P) .nil .nil))) (.node (v2o110 P) (.node (v2o174 P) (.node (v3o302 P) .nil .nil) (.node (v4o430 P) .nil .nil)) (.node (v3o238 P) (.node (v4o366 P) .nil .nil) .nil))) (.node (v1o62 P) (.node (v2o94 P) (.node (v2o158 P) (.node (v3o286 P) .nil .nil) (.node (v4o414 P) .nil .nil)) (.node (v3o222 P) (.node (v4o350 P) .nil .nil) (.node (v5o478 P) .nil .nil))) (.node (v2o126 P) (.node (v3o190 P) (.node (v4o318 P) .nil .nil) (.node (v5o446 P) .nil .nil)) (.node (v3o254 P) (.node (v4o382 P) .nil .nil) .nil))))))))
noncomputable def heap0 (P : Params) : Heap := ⟨((boot_heap P).objs.push o11 |>.push o12 |>.push o13 |>.push o14), (boot_heap P).life⟩
abbrev env0 : Env := { scope := pw.main.scope, locals := mainNs, globals := mainNs, cells := [], code := .ref 13, frame := some 14 }
def zp : Pos := ⟨0, 0, 0, 0⟩
abbrev cd0 : Code := .body (behindTheImports pw) env0
noncomputable abbrev S0 (w : World) (os : OsState) : SharedT := ⟨tree0 w.params, 15, {}, #[], {}, 187, os⟩
noncomputable abbrev S1 (w : World) (os : OsState) : SharedT := ⟨tree1 w.params, 87, {}, #[], {}, 304, os⟩
noncomputable abbrev S2 (w : World) (os : OsState) : SharedT := ⟨tree2 w.params, 178, {}, #[], {}, 422, os⟩
noncomputable abbrev S3 (w : World) (os : OsState) : SharedT := ⟨tree3 w.params, 305, {}, #[], {}, 607, os⟩
noncomputable abbrev S4 (w : World) (os : OsState) : SharedT := ⟨tree4 w.params, 445, {}, #[], {}, 836, os⟩
noncomputable abbrev S5 (w : World) (os : OsState) : SharedT := ⟨tree5 w.params, 479, {}, #[], {}, 917, os⟩
theorem pre_eq (w : World) (os : OsState) : topGo treeTable pw w 11 (some (.ref 6)) 12 ⟨boot_heap w.params, #[], boot_drawn, boot_toks, os⟩ (topStub pw) =
   some (⟨heap0 w.params, #[], {}, 187, os⟩, ⟨denote treeTable cd0, cd0, zp, [topFrame zp]⟩) := by kernel_rfl
theorem block_eq (w : World) (os : OsState) : segRun treeTable pw w 11 (some (.ref 6)) 1 1 ⟨heap0 w.params, #[], {}, 187, os⟩ (blockOf (behindTheImports pw) env0 cd0 zp [topFrame zp]) =
   some (.next, (S0 w os).abs, cd0, zp) := by kernel_rfl
theorem fin_eq (w : World) (s : Shared) (pos : Pos) : topRun treeTable pw w 11 (some (.ref 6)) 2 s ⟨doneF .next, cd0, pos, [topFrame zp]⟩ = some s := by
  obtain ⟨h, g, d, t, os⟩ := s
  kernel_rfl
theorem size_eq (w : World) : ((boot_heap w.params).isNs mainGlobals && (#[] : Array GenState).size == 0, (boot_heap w.params).objs.size, (boot_heap w.params).nsMap mainGlobals "__annotations__") = (true, 11, some (.ref 6)) := by kernel_rfl
theorem open_eq : ∀ w : World, (fencedOpening treeTable pw w N).map (fun s => (s.heap, s.gens, s.drawn, s.toks)) = some (boot_heap w.params, Array.mk [], boot_drawn, boot_toks) := boot_open (p := pw) (N := N) (by kernel_rfl) (by decide) (fun s => by kernel_rfl)
def sts1 : List Stmt := (pw.main.body.drop 0).take 9
set_option maxRecDepth 100000 in
theorem seg_tw1 (w : World) (os : OsState) : PySem.W.Fast.tw10110043849684766642 PySem.W.Fast.tw14364793385576792824 pw w 11 (some (.ref 6)) 1 626 (S0 w os) (piecesOf sts1 env0 cd0 ⟨0, 0, 0, 0⟩ [topFrame zp]) =
    some (.next, S1 w os, cd0, ⟨32, 0, 33, 8⟩) := by kernel_rfl
theorem seg_eq1 (w : World) (os : OsState) : segRunT treeTable pw w 11 (some (.ref 6)) 1 626 (S0 w os) (piecesOf sts1 env0 cd0 ⟨0, 0, 0, 0⟩ [topFrame zp]) =
    some (.next, S1 w os, cd0, ⟨32, 0, 33, 8⟩) := by
  rw [PySem.W.Fast.te10110043849684766642, PySem.W.Fast.te14364793385576792824]
  exact seg_tw1 w os
def sts2 : List Stmt := (pw.main.body.drop 9).take 10
set_option maxRecDepth 100000 in
theorem seg_tw2 (w : World) (os : OsState) : PySem.W.Fast.tw10110043849684766642 PySem.W.Fast.tw14364793385576792824 pw w 11 (some (.ref 6)) 1 666 (S1 w os) (piecesOf sts2 env0 cd0 ⟨32, 0, 33, 8⟩ [topFrame zp]) =
    some (.next, S2 w os, cd0, ⟨78, 0, 78, 8⟩) := by kernel_rfl
theorem seg_eq2 (w : World) (os : OsState) : segRunT treeTable pw w 11 (some (.ref 6)) 1 666 (S1 w os) (piecesOf sts2 env0 cd0 ⟨32, 0, 33, 8⟩ [topFrame zp]) =
    some (.next, S2 w os, cd0, ⟨78, 0, 78, 8⟩) := by
  rw [PySem.W.Fast.te10110043849684766642, PySem.W.Fast.te14364793385576792824]
  exact seg_tw2 w os
def sts3 : List Stmt := (pw.main.body.drop 19).take 21
set_option maxRecDepth 100000 in
theorem seg_tw3 (w : World) (os : OsState) : PySem.W.Fast.tw10110043849684766642 PySem.W.Fast.tw14364793385576792824 pw w 11 (some (.ref 6)) 1 776 (S2 w os) (piecesOf sts3 env0 cd0 ⟨78, 0, 78, 8⟩ [topFrame zp]) =
    some (.next, S3 w os, cd0, ⟨164, 0, 165, 53⟩) := by kernel_rfl
theorem seg_eq3 (w : World) (os : OsState) : segRunT treeTable pw w 11 (some (.ref 6)) 1 776 (S2 w os) (piecesOf sts3 env0 cd0 ⟨78, 0, 78, 8⟩ [topFrame zp]) =
    some (.next, S3 w os, cd0, ⟨164, 0, 165, 53⟩) := by
  rw [PySem.W.Fast.te10110043849684766642, PySem.W.Fast.te14364793385576792824]
  exact seg_tw3 w os
def sts4 : List Stmt := (pw.main.body.drop 40).take 23
set_option maxRecDepth 100000 in
theorem seg_tw4 (w : World) (os : OsState) : PySem.W.Fast.tw10110043849684766642 PySem.W.Fast.tw14364793385576792824 pw w 11 (some (.ref 6)) 1 691 (S3 w os) (piecesOf sts4 env0 cd0 ⟨164, 0, 165, 53⟩ [topFrame zp]) =
    some (.next, S4 w os, cd0, ⟨314, 0, 314, 8⟩) := by kernel_rfl
theorem seg_eq4 (w : World) (os : OsState) : segRunT treeTable pw w 11 (some (.ref 6)) 1 691 (S3 w os) (piecesOf sts4 env0 cd0 ⟨164, 0, 165, 53⟩ [topFrame zp]) =
    some (.next, S4 w os, cd0, ⟨314, 0, 314, 8⟩) := by
  rw [PySem.W.Fast.te10110043849684766642, PySem.W.Fast.te14364793385576792824]
  exact seg_tw4 w os
def sts5 : List Stmt := (pw.main.body.drop 63).take 4
set_option maxRecDepth 100000 in
theorem seg_tw5 (w : World) (os : OsState) : PySem.W.Fast.tw10110043849684766642 PySem.W.Fast.tw14364793385576792824 pw w 11 (some (.ref 6)) 1 325 (S4 w os) (piecesOf sts5 env0 cd0 ⟨314, 0, 314, 8⟩ [topFrame zp]) =
    some (.next, S5 w os, cd0, ⟨351, 0, 366, 43⟩) := by kernel_rfl
theorem seg_eq5 (w : World) (os : OsState) : segRunT treeTable pw w 11 (some (.ref 6)) 1 325 (S4 w os) (piecesOf sts5 env0 cd0 ⟨314, 0, 314, 8⟩ [topFrame zp]) =
    some (.next, S5 w os, cd0, ⟨351, 0, 366, 43⟩) := by
  rw [PySem.W.Fast.te10110043849684766642, PySem.W.Fast.te14364793385576792824]
  exact seg_tw5 w os
theorem sts_all : behindTheImports pw = sts1 ++ (sts2 ++ (sts3 ++ (sts4 ++ (sts5 ++ [])))) := by kernel_rfl
theorem run_eq (w : World) (os : OsState) : topRun treeTable pw w 11 (some (.ref 6)) (12 + (1 + (626 + (666 + (776 + (691 + (325 + 2))))))) ⟨boot_heap w.params, #[], boot_drawn, boot_toks, os⟩ (topStub pw) = some (S5 w os).abs := by
  refine go_top (pre_eq w os) (piece_block (block_eq w os) ?_)
  have k := piece_app (q := zp) (segRun_of (seg_eq1 w os)) (piece_app (q := zp) (segRun_of (seg_eq2 w os)) (piece_app (q := zp) (segRun_of (seg_eq3 w os)) (piece_app (q := zp) (segRun_of (seg_eq4 w os)) (piece_app (q := zp) (segRun_of (seg_eq5 w os)) (piece_nil (env := env0) (q := zp) (fin_eq w (S5 w os).abs _))))))
  have e : restOf (sts1 ++ (sts2 ++ (sts3 ++ (sts4 ++ (sts5 ++ []))))) env0 cd0 zp [topFrame zp] = restOf (behindTheImports pw) env0 cd0 zp [topFrame zp] := by rw [← sts_all]
  rw [← e]
  exact k
abbrev Xt0 (s : Shared) : Bool := xlAt vw [] s && recOk (RowW.records (PySem.Challenge.rw_xw0308_01.row.toRowW)) s
set_option maxRecDepth 100000 in
theorem look1 (w : World) (os : OsState) : (staticsOk (importedModules pw.main.body) (boot_heap w.params) (S5 w os).abs.heap && namesBound pw (S5 w os).abs.heap && gensDone (S5 w os).abs && laidKept (boot_heap w.params) (S5 w os).abs.heap) = true := by kernel_rfl
set_option maxRecDepth 100000 in
theorem l2a (w : World) (os : OsState) : seen ((recsOf vw).map (·.name)) (ownsOf vw) [] { (S5 w os).abs with gens := #[] } = expectedOf vw := by kernel_rfl
set_option maxRecDepth 100000 in
theorem l2b (w : World) (os : OsState) : (S5 w os).abs.heap.bltView = bltViewBooted := by kernel_rfl
set_option maxRecDepth 100000 in
theorem l2c1 (w : World) (os : OsState) : (S5 w os).abs.heap.keysOk (looseW vw loose) ((recsOf vw).map (·.name)) ((litsOf vw).map (·.1)) ((clssOf vw (looseW vw loose)).map (·.name)) = true := by kernel_rfl
set_option maxRecDepth 100000 in
theorem l2c2 (w : World) (os : OsState) : (S5 w os).abs.heap.accountedOkI (importedModules pw.main.body) = true := by kernel_rfl
set_option maxRecDepth 100000 in
theorem l2c3 (w : World) (os : OsState) : ((S5 w os).abs.heap.isNs mainGlobals && (S5 w os).abs.heap.isNs builtinsNs && tablesOk vw (S5 w os).abs.heap) = true := by kernel_rfl
set_option maxRecDepth 100000 in
theorem l2c4 (w : World) (os : OsState) : Xt0 (S5 w os).abs = true := by kernel_rfl
set_option maxRecDepth 100000 in
theorem l2d (w : World) (os : OsState) : tabsOk vw (S5 w os).abs = true := by kernel_rfl
set_option maxRecDepth 100000 in
theorem l2e (w : World) (os : OsState) : pinSeenD vw (drecsOf vw) (S5 w os).abs = pinGoodD (drecsOf vw) := by kernel_rfl
set_option maxRecDepth 100000 in
theorem l2f (w : World) (os : OsState) : plainSeenE vw (looseW vw loose) (S5 w os).abs = plainGoodE vw (looseW vw loose) := by kernel_rfl
set_option maxRecDepth 100000 in
theorem l2g (w : World) (os : OsState) : plainSeenD vw loose (S5 w os).abs = plainGoodD vw loose := by kernel_rfl
set_option maxRecDepth 100000 in
theorem l2h (w : World) (os : OsState) : wideSeen vw (S5 w os).abs = wideGood vw := by kernel_rfl
set_option maxRecDepth 100000 in
theorem l2i (w : World) (os : OsState) : clsSeenW vw loose (S5 w os).abs = clsGoodW vw loose := by kernel_rfl
set_option maxRecDepth 100000 in
theorem look2 (w : World) (os : OsState) : openSeen vw loose (importedModules pw.main.body) Xt0 true (S5 w os).abs = openGood vw loose := by
  have c1 := l2c1 w os
  have c2 := l2c2 w os
  have c3 := l2c3 w os
  have c4 := l2c4 w os
  have c5 : ((S5 w os).abs.gens.size == 0) = true := rfl
  have a := l2a w os; have b := l2b w os; have d := l2d w os; have e := l2e w os; have f := l2f w os; have g := l2g w os; have h := l2h w os; have i := l2i w os
  generalize (S5 w os).abs = s at *
  have c : (s.heap.keysOk (looseW vw loose) ((recsOf vw).map (·.name)) ((litsOf vw).map (·.1)) ((clssOf vw (looseW vw loose)).map (·.name)) && s.heap.accountedOkI (importedModules pw.main.body) && s.heap.isNs mainGlobals && s.heap.isNs builtinsNs && tablesOk vw s.heap && Xt0 s && (if true then s.gens.size == 0 else !leftWithCleanup s.gens)) = true := by
    simp only [Bool.and_eq_true] at c3 ⊢
    exact ⟨⟨⟨⟨⟨⟨c1, c2⟩, c3.1.1⟩, c3.1.2⟩, c3.2⟩, Bool.and_eq_true_iff.mp c4⟩, c5⟩
  unfold openSeen openGood
  exact looks_pair a (looks_pair b (looks_pair c (looks_pair d (looks_pair e (looks_pair f (looks_pair g (looks_pair h i)))))))
set_option maxRecDepth 100000 in
theorem look3 (w : World) (os : OsState) : Hook.obs H (S5 w os).abs = Hook.val H w := by kernel_rfl
theorem left : LeftO pw vw loose (fun s => xlAt vw [] s && recOk (RowW.records (PySem.Challenge.rw_xw0308_01.row.toRowW)) s) (Hook.obs H) (Hook.val H) N := fun w => by
  obtain ⟨⟨h, gs, d, k, os⟩, e, e'⟩ := Option.map_eq_some_iff.mp (open_eq w)
  obtain ⟨rfl, rfl, rfl, rfl⟩ : h = boot_heap w.params ∧ gs = #[] ∧ d = boot_drawn ∧ k = boot_toks := by simpa using e'
  obtain ⟨z1, z2, z3⟩ : _ ∧ _ ∧ _ := by simpa only [Prod.mk.injEq] using size_eq w
  have r := run_eq w os
  have l1 := look1 w os
  have l2 : (openSeen vw loose (importedModules pw.main.body) Xt0 true (S5 w os).abs, Hook.obs H (S5 w os).abs) = (openGood vw loose, Hook.val H w) := Prod.ext (look2 w os) (look3 w os)
  generalize (S5 w os).abs = s₁ at r l1 l2
  have r := topRun_mono (N - (12 + (1 + (626 + (666 + (776 + (691 + (325 + 2)))))))) _ _ _ _ r
  rw [show (12 + (1 + (626 + (666 + (776 + (691 + (325 + 2))))))) + (N - (12 + (1 + (626 + (666 + (776 + (691 + (325 + 2)))))))) = N by unfold N; omega] at r
  have t : topFrom treeTable pw w N ⟨boot_heap w.params, #[], boot_drawn, boot_toks, os⟩ = some s₁ := by
    unfold topFrom
    dsimp only
    rw [z1, z2, z3, r]
    show (match staticsOk (importedModules pw.main.body) (boot_heap w.params) s₁.heap && namesBound pw s₁.heap && gensDone s₁ && laidKept (boot_heap w.params) s₁.heap with | true => _ | false => _) = _
    rw [l1]
  have ends : openEnds treeTable pw w N = some s₁ := Option.bind_eq_some_iff.mpr ⟨_, e, t⟩
  rw [ends]
  exact congrArg some l2
theorem said : PySem.Challenge.rw_xw0308_01.wellSaid = true := by
  rw [PySem.W.Fast.te9446332074065402090]
  exact (by kernel_rfl)
end Mine

namespace Mine
abbrev hostEs (hv hl hr hw hs hg : Int) (kv kl kr kw ks kg : Tok) (vA rA gA : Addr) (tl tw ts : Tok) (k : Int) : List DictEntry :=
  [⟨hv, .str (Str.ofString "values") kv, .ref vA⟩, ⟨hl, .str (Str.ofString "limit") kl, .int 9999 tl⟩, ⟨hr, .str (Str.ofString "refused") kr, .ref rA⟩,
   ⟨hw, .str (Str.ofString "width") kw, .int 64 tw⟩, ⟨hs, .str (Str.ofString "steps") ks, .int k ts⟩, ⟨hg, .str (Str.ofString "log") kg, .ref gA⟩]
theorem my_notin {prog : Program} {w : World} {A : Around} {E : Value → Shared → Prop} {s : Shared} {K : Frag} {h₀ : Heap} {L a : Addr} {m : Str → Option Value} {l : List Value} {n : Nat} {dd : Option Addr} {sl : Array (Option Value)} {ys : List Str} {x : Str} {u : Tok} {Q : Value → Shared → Prop}
    (F : Fr h₀ L s.heap m) (X₀ : K.In h₀) (hl : K.lookup a = some ⟨.type "tuple", dd, .seq l.toArray n, sl⟩) (hi : StrsAre l ys)
    (h : Q (.bool (!(ys.any (· == x)))) s) : wpAny (model prog w) A (compareOp .NotIn (.str x u) (.ref a)) Q E s :=
  notin_tuple_strs (tupK (X₀.keeps F.keep) hl) (by simpa using hi) h
theorem my_eq_tup_str {prog : Program} {w : World} {A : Around} {E : Value → Shared → Prop} {s : Shared} {a : Addr} {ds : List PyData} {as : List Addr} {x : Str} {u : Tok} {Q : Value → Shared → Prop}
    (ra : Reads s.heap (.ref a) (.tuple ds) as) (ha : SeqAt.shaped (.tuple ds) = true) (hb : SeqAt.shaped (.str x) = true) (hu : A.units + 64 < cLine) (h : Q (.bool false) s) : wpAny (model prog w) A (compareOp .Eq (.ref a) (.str x u)) Q E s :=
  eq_dataH ra (Reads.str _ _) ha hb hu h
inductive Pick (d : Addr) (o : Obj) : List (Addr × Obj) → List (Addr × Obj) → Prop
  | head {r} : Pick d o ((d, o) :: r) r
  | tail {p r r'} : Pick d o r r' → Pick d o (p :: r) (p :: r')
theorem Pick.mem {d : Addr} {o : Obj} {l r : List (Addr × Obj)} (P : Pick d o l r) : ∀ p ∈ (d, o) :: r, p ∈ l := by
  induction P with
  | head => exact fun _ h => h
  | tail _ ih =>
    intro p hp
    rcases List.mem_cons.mp hp with rfl | hp
    · exact .tail _ (ih _ (.head _))
    · rcases List.mem_cons.mp hp with rfl | hp
      · exact .head _
      · exact .tail _ (ih _ (.tail _ hp))
theorem pick3 {h₀ h : Heap} {L d1 d2 d3 : Addr} {o1 o2 o3 : Obj} {l l1 l2 l3 : List (Addr × Obj)} (N : News h₀ L h l) (P2 : Pick d2 o2 l l1) (P1 : Pick d1 o1 l1 l2) (P3 : Pick d3 o3 l2 l3) :
    News h₀ L h ((d1, o1) :: (d2, o2) :: (d3, o3) :: l3) := by
  intro p hp
  apply N
  rcases List.mem_cons.mp hp with rfl | hp
  · exact P2.mem _ (.tail _ (P1.mem _ (.head _)))
  · rcases List.mem_cons.mp hp with rfl | hp
    · exact P2.mem _ (.head _)
    · rcases List.mem_cons.mp hp with rfl | hp
      · exact P2.mem _ (.tail _ (P1.mem _ (.tail _ (P3.mem _ (.head _)))))
      · exact P2.mem _ (.tail _ (P1.mem _ (.tail _ (P3.mem _ (.tail _ hp)))))
theorem pick4 {h₀ h : Heap} {L d1 d2 d3 d4 : Addr} {o1 o2 o3 o4 : Obj} {l l1 l2 l3 l4 : List (Addr × Obj)} (N : News h₀ L h l) (P2 : Pick d2 o2 l l1) (P1 : Pick d1 o1 l1 l2) (P3 : Pick d3 o3 l2 l3) (P4 : Pick d4 o4 l3 l4) :
    News h₀ L h ((d1, o1) :: (d2, o2) :: (d3, o3) :: (d4, o4) :: l4) := by
  have N3 := pick3 N P2 P1 P3
  intro p hp
  apply N3
  rcases List.mem_cons.mp hp with rfl | hp
  · exact .head _
  · rcases List.mem_cons.mp hp with rfl | hp
    · exact .tail _ (.head _)
    · rcases List.mem_cons.mp hp with rfl | hp
      · exact .tail _ (.tail _ (.head _))
      · exact .tail _ (.tail _ (.tail _ (P4.mem _ hp)))
theorem mem_grow {ls r r' : List (Addr × Obj)} {a q : Addr × Obj} (hq : q ∈ ls) (hls : ∀ p ∈ ls, p ∈ a :: r) (hr : ∀ p ∈ r, p ∈ r') : q ∈ a :: r' := by
  rcases List.mem_cons.mp (hls q hq) with rfl | h
  · exact .head _
  · exact .tail _ (hr q h)
theorem allLt_app {d : Addr} {l r : List (Addr × Obj)} (h : AllLt d (l ++ r)) : AllLt d l := by
  induction l with
  | nil => trivial
  | cons q t ih => exact ⟨h.1, ih h.2⟩
theorem mem_app_left {p : Addr × Obj} {l r : List (Addr × Obj)} (h : p ∈ l) : List.Mem p (l ++ r) := List.mem_append_left r h
theorem allLt_rest {d : Addr} {l : List (Addr × Obj)} (h : AllLt d l) : ∀ p ∈ l, p.1 < d := by
  induction l with
  | nil => exact fun _ h => nomatch h
  | cons q r ih =>
    intro p hp
    rcases List.mem_cons.mp hp with rfl | hp
    · exact h.1
    · exact ih h.2 p hp
theorem sub_tail {ls led : List (Addr × Obj)} {a : Addr × Obj} (h : ∀ p ∈ ls, p ∈ led) : ∀ p ∈ ls, p ∈ a :: led := fun p hp => .tail _ (h p hp)
def LamOK (prog : Program) (w : World) (K : Frag) (p : Program) (loose : List Str) (mean : ExcName → Option Value) (mg mb : Str → Option Value) (lm : Addr) (ls : List (Addr × Obj)) (R : Str) : Prop :=
  ∀ (dp un : Nat) (gd : Option (List Code)) (cn : Str) (cs : Scope) (a : Addr) (ccd : Value) (cl : List (Str × Addr)) (outer : List Env) (A₀ : Around) (base h₀ : Heap) (L : Addr) (m : Str → Option Value) (rest : List (Addr × Obj)) (s : Shared) (Q E : Value → Shared → Prop) (v : Value),
    Below A₀ base outer h₀ → Fr h₀ L s.heap m → K.In h₀ → News h₀ L s.heap (ls ++ rest) → Top p loose mean mg mb h₀ → cs.kind = .function → dp + 5 < recursionLimit → un + 100 < cLine →
    (∀ t h' tk', Fr h₀ L h' m → News h₀ L h' (ls ++ rest) → Q (.str R t) { s with heap := h', toks := tk' }) →
    wpAny (model prog w) (ktrTop dp un gd cn cs L a ccd cl outer) (call (.ref lm) [v]) Q E s
theorem lam_use {prog : Program} {w : World} {K : Frag} {p : Program} {loose : List Str} {mean : ExcName → Option Value} {mg mb : Str → Option Value} {lm : Addr} {ls : List (Addr × Obj)} {R : Str}
    {dp un : Nat} {gd : Option (List Code)} {cn : Str} {cs : Scope} {a : Addr} {ccd : Value} {cl : List (Str × Addr)} {outer : List Env} {A₀ : Around} {base h₀ : Heap} {L : Addr} {m : Str → Option Value} {led : List (Addr × Obj)} {s : Shared} {Q E : Value → Shared → Prop} {v : Value}
    (hL : LamOK prog w K p loose mean mg mb lm ls R) (B : Below A₀ base outer h₀) (F : Fr h₀ L s.heap m) (X : K.In h₀) (N : News h₀ L s.heap led) (hs : ∀ p ∈ ls, p ∈ led) (T : Top p loose mean mg mb h₀) (hk : cs.kind = .function) (hd : dp + 5 < recursionLimit) (hu : un + 100 < cLine)
    (ret : ∀ t h' tk', Fr h₀ L h' m → News h₀ L h' led → Q (.str R t) { s with heap := h', toks := tk' }) :
    wpAny (model prog w) (ktrTop dp un gd cn cs L a ccd cl outer) (call (.ref lm) [v]) Q E s := by
  refine hL _ _ _ _ _ _ _ _ _ _ _ _ _ _ led _ _ _ _ B F X (fun q hq => ?_) T hk hd hu fun t h' tk' F' N' => ret t h' tk' F' fun q hq => N' q (List.mem_append_right _ hq)
  rcases List.mem_append.mp hq with h | h
  · exact N q (hs q h)
  · exact N q h
theorem my_iter_nil {prog : Program} {w : World} {A : Around} {E : Value → Shared → Prop} {s : Shared} {env : Env} {h₀ : Heap} {target : Expr} {body : List Stmt} {Q : Flow → Shared → Prop} {ax : Addr} {n : Nat} {m₀ : Str → Option Value} {news : List (Addr × Obj)}
    (hh : A.handled = none) (F : Fr h₀ env.locals s.heap m₀) (N : News h₀ env.locals s.heap news) (hm : (ax, W.listOf #[] n) ∈ news)
    (h : ∀ h' tk, Fr h₀ env.locals h' m₀ → News h₀ env.locals h' news → Q .next { s with heap := h', toks := tk }) :
    wpAny (model prog w) A (pyIter (.ref ax)) (fun it s₂ => TurnsAt prog w A h₀ env target body Q E it s₂) E s :=
  iter_listTurns (vs := []) hh F N hm rfl rfl fun _ _ => h
def onceAt (S T R : Str) (i : Nat) : Str := Txt.slice S none (some (i : Int)) ++ R ++ Txt.slice S (some ((i : Int) + (T.length : Int))) none
def hit (S T : Str) (i : Nat) : Bool := Txt.slice S (some (i : Int)) (some ((i : Int) + (T.length : Int))) == T
theorem hit_of {S T : Str} {kN : Int} {i : Nat} {b : Bool} (e : kN = 0 + (i : Int)) (hc : (Txt.slice S (some kN) (some (kN + (T.length : Int))) == T) = b) : hit S T i = b := by
  have e' : kN = (i : Int) := by omega
  subst e'; exact hc
theorem plain_state {S T : Str} {k n kN : Int} {pre : List Int} (h1 : n = k + (pre.length : Int)) (h2 : ∀ i : Nat, i < pre.length → hit S T i = false) (e : kN = 0 + (pre.length : Int))
    (hc : (Txt.slice S (some kN) (some (kN + (T.length : Int))) == T) = false) : n + 1 = k + ((pre ++ [kN]).length : Int) ∧ ∀ i : Nat, i < (pre ++ [kN]).length → hit S T i = false := by
  refine ⟨by rw [List.length_append]; simp; omega, fun i hi => ?_⟩
  rw [List.length_append] at hi
  simp at hi
  by_cases q : i < pre.length
  · exact h2 i q
  · have : i = pre.length := by omega
    subst this
    exact hit_of e hc
def firstHit (S T : Str) : Option Nat := (List.range (S.length + 1)).find? (hit S T)
def step1 (T R S : Str) : Option Str := (firstHit S T).map (onceAt S T R)
def steps (T R : Str) : Nat → Str → Option Str
  | 0, S => some S
  | n + 1, S => (step1 T R S).bind (steps T R n)
def often (T R : Str) : Nat → Str → Str × Nat
  | 0, S => (S, 0)
  | n + 1, S => match step1 T R S with
    | none => (S, 0)
    | some S1 => ((often T R n S1).1, (often T R n S1).2 + 1)
theorem firstHit_none {S T : Str} (h : ∀ i : Nat, i ≤ S.length → hit S T i = false) : firstHit S T = none := by
  unfold firstHit
  rw [List.find?_eq_none]
  intro i hi
  rw [h i (by have := List.mem_range.mp hi; omega)]
  simp
theorem firstHit_some {S T : Str} {i : Nat} (hi : i ≤ S.length) (h : hit S T i = true) (hp : ∀ j : Nat, j < i → hit S T j = false) : firstHit S T = some i := by
  unfold firstHit
  rw [List.find?_range_eq_some]
  exact ⟨h, List.mem_range.mpr (by omega), fun j hj => by rw [hp j hj]; rfl⟩
theorem steps_snoc {T R : Str} : ∀ (n : Nat) (S : Str), steps T R (n + 1) S = (steps T R n S).bind (step1 T R)
  | 0, S => by simp [steps]
  | n + 1, S => by
    rw [steps]
    cases h : step1 T R S with
    | none => simp [steps, h]
    | some S1 => simp only [Option.bind_some]; rw [steps_snoc n S1]; simp [steps, h]
theorem often_of {T R : Str} : ∀ (c n : Nat) (S S' : Str), steps T R c S = some S' → (c = n ∨ (c ≤ n ∧ step1 T R S' = none)) → often T R n S = (S', c)
  | 0, n, S, S', h, q => by
    simp only [steps, Option.some.injEq] at h
    subst h
    rcases q with rfl | ⟨_, q⟩
    · rfl
    · cases n with
      | zero => rfl
      | succ n => simp [often, q]
  | c + 1, n, S, S', h, q => by
    rw [steps] at h
    cases hs : step1 T R S with
    | none => rw [hs] at h; simp at h
    | some S1 =>
      rw [hs, Option.bind_some] at h
      cases n with
      | zero => rcases q with q | ⟨q, _⟩ <;> omega
      | succ n =>
        have := often_of c n S1 S' h (by rcases q with q | ⟨q, r⟩; exact .inl (by omega); exact .inr ⟨by omega, r⟩)
        simp [often, hs, this]
theorem length_slice_ns (S : Str) (i : Nat) : (Txt.slice S none (some (i : Int))).length ≤ i := by
  have h := fact_slice_ns S (i : Int)
  by_cases q : i ≤ S.length
  · have := h.1 (by omega) (by omega); omega
  · have := h.2 (by omega); omega
theorem length_slice_sn (S : Str) (i : Nat) : (Txt.slice S (some (i : Int)) none).length ≤ S.length - i := by
  have h := fact_slice_sn S (i : Int)
  by_cases q : i ≤ S.length
  · have := h.1 (by omega) (by omega); omega
  · have := h.2 (by omega); omega
theorem length_onceAt {S T R : Str} {i : Nat} (hi : i ≤ S.length) : (onceAt S T R i).length ≤ S.length + R.length := by
  have h1 := length_slice_ns S i
  have h2 := length_slice_sn S (i + T.length)
  unfold onceAt
  rw [show ((i : Int) + (T.length : Int)) = ((i + T.length : Nat) : Int) by omega]
  simp only [Str.length_append]
  omega
def OInv (T R S : Str) (most k : Int) (S1 : Str) (j n : Int) : Prop :=
  0 ≤ j ∧ j ≤ most ∧ steps T R j.toNat S = some S1 ∧ (S1.length : Int) ≤ S.length + 2 * j ∧ k ≤ n ∧ n ≤ k + 100 * j
theorem OInv.start {T R S : Str} {most k : Int} (h : 0 ≤ most) : OInv T R S most k S 0 k := ⟨by omega, h, rfl, by omega, by omega, by omega⟩
theorem OInv.next {T R S S1 : Str} {most k j n n' : Int} {i : Nat} (I : OInv T R S most k S1 j n) (hR : R.length ≤ 2) (hS : (S.length : Int) + 2 * most ≤ 99) (hj : j < most) (hi : i ≤ S1.length) (h : hit S1 T i = true) (hp : ∀ j : Nat, j < i → hit S1 T j = false)
    (hn : n ≤ n') (hn' : n' ≤ n + S1.length + 1) : OInv T R S most k (onceAt S1 T R i) (j + 1) n' := by
  obtain ⟨a, b, c, d, e, f⟩ := I
  refine ⟨by omega, by omega, ?_, ?_, by omega, by omega⟩
  · rw [show (j + 1).toNat = j.toNat + 1 by omega, steps_snoc, c, Option.bind_some, step1, firstHit_some hi h hp]; rfl
  · have := length_onceAt (S := S1) (T := T) (R := R) (i := i) hi
    omega
theorem OInv.stop {T R S S1 : Str} {most k j n : Int} (I : OInv T R S most k S1 j n) (h : ∀ i : Nat, i ≤ S1.length → hit S1 T i = false) : often T R most.toNat S = (S1, j.toNat) := by
  obtain ⟨a, b, c, d, e, f⟩ := I
  exact often_of _ _ _ _ c (.inr ⟨by omega, by rw [step1, firstHit_none h]; rfl⟩)
theorem OInv.full {T R S S1 : Str} {most k j n : Int} (I : OInv T R S most k S1 j n) (h : ¬ j < most) : often T R most.toNat S = (S1, j.toNat) := by
  obtain ⟨a, b, c, d, e, f⟩ := I
  exact often_of _ _ _ _ c (.inl (by omega))
theorem OInv.bounds {T R S S1 : Str} {most k j n : Int} (I : OInv T R S most k S1 j n) (hS : (S.length : Int) + 2 * most ≤ 99) : 0 ≤ j ∧ j ≤ most ∧ S1.length ≤ 99 ∧ k ≤ n ∧ n ≤ k + 100 * j := by
  obtain ⟨a, b, c, d, e, f⟩ := I
  exact ⟨a, b, by omega, e, f⟩
end Mine

namespace Mine
def PPost (h₀ : Heap) (L : Addr) (own news₁ : List (Addr × Obj)) (Rst : (Str → Option Value) → List (Addr × Obj) → Prop) (s₁ : Shared) (Q : Flow → Shared → Prop) (f : Flow) (s₂ : Shared) : Prop :=
  match f with
  | .ret v => Q (.ret v) s₂
  | .brk => Q .next s₂
  | _ => ∃ h' tk m' news', s₂ = { s₁ with heap := h', toks := tk } ∧ Fr h₀ L h' m' ∧ News h₀ L h' (news' ++ own) ∧ news'.map (·.1) = news₁.map (·.1) ∧ Rst m' news'
def PRest (prog : Program) (w : World) (A : Around) (E : Value → Shared → Prop) (h₀ : Heap) (env : Env) (xi xc : Str) (body : List Stmt) (Q : Flow → Shared → Prop) (s : Shared) : List Str → Nat → (Str → Option Value) → List (Addr × Obj) → Prop
  | [], _ => fun m₁ news₁ => ∀ h' tk, Fr h₀ env.locals h' m₁ → News h₀ env.locals h' news₁ → Q .next { s with heap := h', toks := tk }
  | a :: r, i => fun m₁ news₁ => ∀ t u h tk own, OwnOff own (news₁.map (·.1)) → Fr h₀ env.locals h (fun y => if y = xc then some (.str a u) else if y = xi then some (.int i t) else m₁ y) → News h₀ env.locals h (news₁ ++ own) →
      wpAny (model prog w) A (execs body env) (PPost h₀ env.locals own news₁ (PRest prog w A E h₀ env xi xc body Q s r (i + 1)) { s with heap := h, toks := tk } Q) E { s with heap := h, toks := tk }
theorem news_swap {h₀ h : Heap} {L : Addr} {a b : List (Addr × Obj)} (N : News h₀ L h (a ++ b)) : News h₀ L h (b ++ a) := fun p hp => N p (by
  rcases List.mem_append.mp hp with h | h
  · exact List.mem_append_right _ h
  · exact List.mem_append_left _ h)
theorem my_pair {prog : Program} {w : World} {A : Around} {E : Value → Shared → Prop} {s : Shared} {env : Env} {h₀ : Heap} {m : Str → Option Value} {news : List (Addr × Obj)} {as : List Str} {xv : Value} {xi xc : Str} {body : List Stmt} {Q : Flow → Shared → Prop}
    (S : PairSrcL prog w A E h₀ env.locals ItemKind.str as xv s m news) (h : PRest prog w A E h₀ env xi xc body Q s as 0 m news) :
    wpAny (model prog w) A (pyIter xv) (fun it s₂ => PairAt3 prog w A h₀ env xi xc body Q E it s₂) E s := by
  refine S env rfl xi xc body Q (fun i m₁ news₁ => news₁.map (·.1) = news.map (·.1) ∧ PRest prog w A E h₀ env xi xc body Q s (as.drop i) i m₁ news₁) ⟨rfl, h⟩ ?_ ?_
  · rintro i a t v m₁ news₁ _ own ⟨h, tk, rfl⟩ hget hK ⟨_, hJ⟩ ha hoff F₁ N₁
    obtain ⟨u, rfl⟩ := ItemKind.str_is hK
    have hd : as.drop i = a :: as.drop (i + 1) := by
      obtain ⟨hlt, e⟩ := List.getElem?_eq_some_iff.mp hget
      rw [← e, ← List.drop_eq_getElem_cons hlt]
    rw [hd] at hJ
    have off : OwnOff own (news₁.map (·.1)) := by
      intro p hp b hb
      rw [ha] at hb
      obtain ⟨q, hq, rfl⟩ := List.mem_map.mp hb
      exact hoff p hp q hq
    refine wpAny_mono (hJ t u h tk own off F₁ (news_swap N₁)) (fun f s₂ hp => ?_) fun _ _ e => e
    cases f with
    | ret v => exact hp
    | brk => exact hp
    | next =>
      obtain ⟨h', tk', m', news', rfl, F', N', ha', r⟩ := hp
      exact ⟨rfl, h', tk', m', news', rfl, F', news_swap N', ha', ha'.trans ha, r⟩
    | cont =>
      obtain ⟨h', tk', m', news', rfl, F', N', ha', r⟩ := hp
      exact ⟨rfl, h', tk', m', news', rfl, F', news_swap N', ha', ha'.trans ha, r⟩
  · rintro h' tk m' news' F' N' _ ⟨_, r⟩
    rw [List.drop_length] at r
    exact r h' tk F' N'
theorem my_pair2 {prog : Program} {w : World} {A : Around} {E : Value → Shared → Prop} {s : Shared} {env : Env} {h₀ : Heap} {m : Str → Option Value} {news : List (Addr × Obj)} {as : List Str} {a0 : Str} {r : List Str} {xv : Value} {xi xc : Str} {body : List Stmt} {Q : Flow → Shared → Prop}
    (S : PairSrcL prog w A E h₀ env.locals ItemKind.str as xv s m news) (hs : as = a0 :: r)
    (h : ∀ t u h tk own, OwnOff own (news.map (·.1)) → Fr h₀ env.locals h (fun y => if y = xc then some (.str a0 u) else if y = xi then some (.int 0 t) else m y) → News h₀ env.locals h (news ++ own) → KstMark →
      wpAny (model prog w) A (execs body env) (PPost h₀ env.locals own news (PRest prog w A E h₀ env xi xc body Q s r 1) { s with heap := h, toks := tk } Q) E { s with heap := h, toks := tk }) :
    wpAny (model prog w) A (pyIter xv) (fun it s₂ => PairAt3 prog w A h₀ env xi xc body Q E it s₂) E s := my_pair S (by rw [hs]; exact fun t u h' tk own a b c => h t u h' tk own a b c kstMark)
inductive Keep (own : List (Addr × Obj)) : List (Addr × Obj) → List (Addr × Obj) → List (Addr × Obj) → Prop
  | base {r} : Keep own (r ++ own) r r
  | keep {a o o' l n n'} : Keep own l n n' → Keep own ((a, o') :: l) ((a, o) :: n) ((a, o') :: n')
  | drop {p l n n'} : Keep own l n n' → Keep own (p :: l) n n'
theorem Keep.mem {own l n n' : List (Addr × Obj)} (K : Keep own l n n') : (∀ p ∈ n' ++ own, p ∈ l) ∧ n'.map (·.1) = n.map (·.1) := by
  induction K with
  | base => exact ⟨fun _ h => h, rfl⟩
  | keep _ ih =>
    refine ⟨fun p hp => ?_, by rw [List.map_cons, List.map_cons, ih.2]⟩
    rw [List.cons_append] at hp
    rcases List.mem_cons.mp hp with rfl | hp
    · exact .head _
    · exact .tail _ (ih.1 p hp)
  | drop _ ih => exact ⟨fun p hp => .tail _ (ih.1 p hp), ih.2⟩
theorem my_pnext {h₀ : Heap} {L : Addr} {own news₁ : List (Addr × Obj)} {Rst : (Str → Option Value) → List (Addr × Obj) → Prop} {s₁ : Shared} {Q : Flow → Shared → Prop} {h' : Heap} {tk : Nat} {m' : Str → Option Value} {news' led : List (Addr × Obj)}
    (F : Fr h₀ L h' m') (N : News h₀ L h' led) (K : Keep own led news₁ news') (r : Rst m' news') : PPost h₀ L own news₁ Rst s₁ Q .next { s₁ with heap := h', toks := tk } :=
  ⟨h', tk, m', news', rfl, F, fun p hp => N p (K.mem.1 p hp), K.mem.2, r⟩
theorem my_prest1 {prog : Program} {w : World} {A : Around} {E : Value → Shared → Prop} {s : Shared} {env : Env} {h₀ : Heap} {m : Str → Option Value} {news : List (Addr × Obj)} {a1 : Str} {r : List Str} {xi xc : Str} {body : List Stmt} {Q : Flow → Shared → Prop}
    (h : ∀ t u h tk own, OwnOff own (news.map (·.1)) → Fr h₀ env.locals h (fun y => if y = xc then some (.str a1 u) else if y = xi then some (.int 1 t) else m y) → News h₀ env.locals h (news ++ own) → KstMark →
      wpAny (model prog w) A (execs body env) (PPost h₀ env.locals own news (PRest prog w A E h₀ env xi xc body Q s r 2) { s with heap := h, toks := tk } Q) E { s with heap := h, toks := tk }) :
    PRest prog w A E h₀ env xi xc body Q s (a1 :: r) 1 m news := fun t u h' tk own a b c => h t u h' tk own a b c kstMark
theorem my_prest0 {prog : Program} {w : World} {A : Around} {E : Value → Shared → Prop} {s : Shared} {env : Env} {h₀ : Heap} {m : Str → Option Value} {news : List (Addr × Obj)} {xi xc : Str} {body : List Stmt} {Q : Flow → Shared → Prop} {i : Nat}
    (h : ∀ h' tk, Fr h₀ env.locals h' m → News h₀ env.locals h' news → Q .next { s with heap := h', toks := tk }) :
    PRest prog w A E h₀ env xi xc body Q s [] i m news := h
end Mine

namespace Mine
def swapSign (a c b d x : Str) : Str := if x = a then c else if x = b then d else x
section
variable {prog : Program} {w : World} {A : Around} {E : Value → Shared → Prop} {s : Shared} {h₀ : Heap} {L : Addr} {m : Str → Option Value} {env : Env}
/-- a comprehension over a text: what its turns owe -/
def CSrc (prog : Program) (w : World) (A : Around) (h₀ : Heap) (L : Addr) (m : Str → Option Value) (env : Env) (elt : Expr) (x : Str) (scope : Scope) (cl : List (Str × Addr)) (Q : Value → Shared → Prop) (xv : Value) (s₁ : Shared) : Prop :=
  ∃ S t news, xv = .str S t ∧ A.handled = none ∧ Fr h₀ L s₁.heap m ∧ News h₀ L s₁.heap news ∧ S.length ≤ sizeLine ∧
    ∀ g : Heap, LCg.CompRest prog w A h₀ L m env elt x scope cl { s₁ with heap := g } (fun _ => True) (SignAt S) (LCg.FinE h₀ L m { s₁ with heap := g } Q) S.cps.size 0 [] news
theorem strIter_at {h h' : Heap} {I : Addr} {n : String} {x : Str} {t : Tok} {i : Nat} {o : Obj} (st : h.IsStrIter I n x t i) (e : h.get? I = some o) (e' : h'.get? I = some o) : h'.IsStrIter I n x t i := by
  obtain ⟨o', q, r⟩ := st
  rw [e] at q
  cases q
  exact ⟨o, e', r⟩
theorem comp_str {elt iter : Expr} {x : Str} {px : Pos} {scope : Scope} {cl : List (Str × Addr)} {pos : Pos} {Q : Value → Shared → Prop} (_F₀ : Fr h₀ L s.heap m)
    (hclos : closureFor scope env = pure cl) (hcell : ∀ y ∈ scope.names, y.2 ≠ .cell) (hkind : scope.kind = .function)
    (hnames : ∀ y ∈ scope.names, y.2 = .local → scope.names.lookup y.1 = some .local) (hx : scope.names.lookup x = some .local)
    (h : wpAny (model prog w) A (eval iter env) (CSrc prog w A h₀ L m env elt x scope cl Q) E s)
    (hs : ∀ x, foldedSetIterable iter env x = pure x := by intro _; rfl) :
    wpAny (model prog w) A (eval (.ListComp elt [⟨.Name x px, iter, [], 0⟩] scope pos) env) Q E s := by
  rw [eval_ListComp]
  refine wpAny_comprehension_free (use := none) rfl hs hclos hkind hnames (wpAny_mono h (fun xv s₁ h₁ => ?_) fun _ _ e => e)
  obtain ⟨S, t, news, rfl, hh, F, N, hsz, R⟩ := h₁
  have key : ∀ (P : Value → Shared → Prop), (∀ (o : Obj) (St : Nat → Heap → Prop), Walks prog w A s₁.heap.objs.size [s₁.heap.objs.size] [s₁.heap.objs.size] S.cps.size (SignAt S) St → St 0 (s₁.heap.push o) →
      (∀ i h, St i h → ∃ o, h.get? s₁.heap.objs.size = some o) → (∀ i h h' o, St i h → h.get? s₁.heap.objs.size = some o → h'.get? s₁.heap.objs.size = some o → St i h') → P (.ref s₁.heap.objs.size) { s₁ with heap := s₁.heap.push o }) →
      wpAny (model prog w) A (pyIter (.str S t)) P E s₁ := by
    intro P hP
    cases ha : S.cps.all (· < 128)
    · exact wpAny_pyIter_wide ha (hP _ _ (Walks.strWide hh _ S t) ⟨_, Heap.get?_push_size _ rfl, rfl, rfl⟩ (fun i h st => let ⟨o, e, _⟩ := st; ⟨o, e⟩) fun i h h' o st e e' => strIter_at st e e')
    · exact wpAny_pyIter_ascii ha (hP _ _ (Walks.strAscii hh _ S t) ⟨_, Heap.get?_push_size _ rfl, rfl, rfl⟩ (fun i h st => let ⟨o, e, _⟩ := st; ⟨o, e⟩) fun i h h' o st e e' => strIter_at st e e')
  refine key _ fun o St W hst hIo hSt => ?_
  have up : ∀ b o', s₁.heap.get? b = some o' → (s₁.heap.push o).get? b = some o' := fun b o' e => Heap.get?_push_of_some _ e
  refine LCg.block_U W hsz hIo (fun i h h' o nw st e e' _ _ _ => hSt i h h' o st e e') hcell hkind hx hst (fun b hb => ?_) (F.keeps up) (N.grown up) (Nat.ne_of_lt F.ns.lt) (next_is_new F) (fun p hp => Nat.ne_of_lt (Heap.lt_size (N p hp).1)) trivial (R _) ?_
  · rw [List.mem_singleton.mp hb]
    show s₁.heap.objs.size < (s₁.heap.push _).objs.size
    rw [Heap.size_push]; exact Nat.lt_succ_self _
  · intro D C h tk m' ys news' F' N' o1 hn hC₀ hD₀ hCL hDL hCD offC fin
    refine ⟨m', hn, fun h'' hs'' => fin D h'' tk (F'.change hs'' hCL hC₀) (fun p hp => ?_) o1⟩
    refine ⟨hs''.extBut _ _ ?_ (N' p hp).1, (N' p hp).2⟩
    rcases List.mem_cons.mp hp with rfl | hp
    · exact Ne.symm hCD
    · exact offC p hp
/-- the turns of a text: each gives one text by a function of its sign -/
theorem csrc_map {elt : Expr} {x : Str} {scope : Scope} {cl : List (Str × Addr)} {Q : Value → Shared → Prop} {S : Str} {t : Tok} {news : List (Addr × Obj)} {s₁ : Shared} (g : Str → Str)
    (hh : A.handled = none) (F : Fr h₀ L s₁.heap m) (N : News h₀ L s₁.heap news) (hsz : S.length ≤ sizeLine)
    (turn : ∀ (c : Nat) u I oI C oC D m₂ ys h tk (E' : Value → Shared → Prop), c ∈ S.cps.toList → LCg.NsObj oC m₂ → m₂ x = some (.str ⟨#[c]⟩ u) → Fr h₀ L h m → News h₀ L h ((I, oI) :: (C, oC) :: (D, LCg.lst ys) :: news) → LCg.Off3 I C D news → ((@Ne Nat I C) ∧ (@Ne Nat I D) ∧ (@Ne Nat C D)) →
      wpAny (model prog w) A (eval elt (compEnvC scope cl C env)) (LCg.CompEnd h₀ L m { s₁ with heap := h, toks := tk } I oI C oC D (LCg.lst ys) (fun _ => True) (fun y news' => news' = news ∧ ∃ t', y = .str (g ⟨#[c]⟩) t')) E' { s₁ with heap := h, toks := tk })
    (fin : ∀ ys D h tk, StrsAre ys ((signs S).map g) → Fr h₀ L h m → News h₀ L h ((D, LCg.lst ys) :: news) → LCg.Off1 D news → Q (.ref D) { s₁ with heap := h, toks := tk }) :
    CSrc prog w A h₀ L m env elt x scope cl Q (.str S t) s₁ := by
  refine ⟨S, t, news, rfl, hh, F, N, hsz, fun g0 => ?_⟩
  have key : ∀ (j i : Nat) (ys : List Value), i + j = S.cps.size → StrsAre ys (((signs S).take i).map g) → LCg.CompRest prog w A h₀ L m env elt x scope cl { s₁ with heap := g0 } (fun _ => True) (SignAt S) (LCg.FinE h₀ L m { s₁ with heap := g0 } Q) j i ys news := by
    intro j
    induction j with
    | zero =>
      intro i ys hi hy
      have e : i = (signs S).length := by rw [signs_length]; show i = S.cps.size; omega
      rw [e, List.take_length] at hy
      exact LCg.CompRest.zero fun D h tk F' N' o1 => fin ys D h tk hy F' N' o1
    | succ j ih =>
      intro i ys hi hy
      refine LCg.CompRest.succ ?_
      intro v I oI C oC D m₂ h tk E' hv hC hx F N off ne
      obtain ⟨c, u, hc, rfl⟩ := hv
      have hcm : c ∈ S.cps.toList := by
        rw [← Array.getElem?_toList] at hc
        exact List.mem_of_getElem? hc
      refine wpAny_mono (turn c u I oI C oC D m₂ ys h tk E' hcm hC hx F N off ne) (fun y s₂ hq => ?_) fun _ _ e => e
      obtain ⟨h', tk', nw, e, F', N', off', hS, hn, t', rfl⟩ := hq
      subst hn
      refine ⟨h', tk', nw, e, F', N', off', hS, ih (i + 1) _ (by omega) ?_⟩
      have hg : (signs S)[i]? = some ⟨#[c]⟩ := signs_get hc
      rw [List.take_add_one, hg]
      simpa using kct_snoc hy
  exact key _ 0 [] (by omega) (by simp only [List.take_zero, List.map_nil]; exact .nil)
end
theorem same_str_dec (a b : Str) : PySem.Spec.same (.str a) (.str b) = decide (a = b) := by
  by_cases h : a = b
  · subst h; simp [PySem.Spec.same]
  · simp [PySem.Spec.same, h]
theorem flat_str {v : Value} {x : Str} (h : PyProof.V.Flat v (.str x)) : ∃ t, v = .str x t := by
  have r := h {}
  cases r
  exact ⟨_, rfl⟩
theorem repl_val {a b x y c : Str} {v : Value} (hab : a ≠ b)
    (h : PyProof.V.Flat v ((PySem.Spec.lookup (.str c) (PyProof.V.putD (.str b) (.str y) (PyProof.V.putD (.str a) (.str x) []))).getD (.str c))) : ∃ t, v = .str (swapSign a x b y c) t := by
  apply flat_str
  have e : PyProof.V.putD (.str b) (.str y) (PyProof.V.putD (.str a) (.str x) []) = [(.str a, .str x), (.str b, .str y)] := by
    simp [PyProof.V.putD, same_str_dec, hab]
  rw [e] at h
  simp only [PySem.Spec.lookup, same_str_dec] at h
  unfold swapSign
  by_cases h1 : c = a
  · subst h1; simpa using h
  · by_cases h2 : c = b
    · subst h2; simpa [h1, hab, Ne.symm h1] using h
    · simpa [h1, h2, Ne.symm h1, Ne.symm h2] using h
theorem repl_val' {a b x y x' y' c : Str} {v : Value} (hab : a ≠ b) (hx : x' = x) (hy : y' = y)
    (h : PyProof.V.Flat v ((PySem.Spec.lookup (.str c) (PyProof.V.putD (.str b) (.str y') (PyProof.V.putD (.str a) (.str x') []))).getD (.str c))) : ∃ t, v = .str (swapSign a x b y c) t := by
  subst hx; subst hy; exact repl_val hab h
theorem repl_val1 {a x x' c : Str} {v : Value} (hx : x' = x)
    (h : PyProof.V.Flat v ((PySem.Spec.lookup (.str c) (PyProof.V.putD (.str a) (.str x') [])).getD (.str c))) : ∃ t, v = .str (swapSign a x a x c) t := by
  subst hx
  apply flat_str
  have e : PyProof.V.putD (.str a) (.str x') [] = [(.str a, .str x')] := by simp [PyProof.V.putD]
  rw [e] at h
  simp only [PySem.Spec.lookup, same_str_dec] at h
  unfold swapSign
  by_cases h1 : c = a
  · subst h1; simpa using h
  · simpa [h1, Ne.symm h1] using h
theorem swap_len {a x b y : Str} {n : Nat} (hx : x.length = 1) (hy : y.length = 1) : (swapSign a x b y ⟨#[n]⟩).length = 1 := by
  unfold swapSign
  split
  · exact hx
  · split
    · exact hy
    · rfl
def replStr (a x b y M : Str) : Str := Txt.join (Str.ofString "") ((signs M).map (swapSign a x b y))
theorem my_join {prog : Program} {w : World} {A : Around} {E : Value → Shared → Prop} {s : Shared} {t : Tok} {Q : Value → Shared → Prop} {h₀ : Heap} {L D : Addr} {ys : List Value} {led : List (Addr × Obj)} {a x b y M : Str}
    (N : News h₀ L s.heap led) (hm : (D, LCg.lst ys) ∈ led) (hi : StrsAre ys ((signs M).map (swapSign a x b y))) (hx : x.length = 1) (hy : y.length = 1) (hM : M.length ≤ 1000)
    (h : ∀ t' k, Q (.str (replStr a x b y M) t') { s with toks := k }) : wpAny (model prog w) A (call (.builtin "str.join") [.str (Str.ofString "") t, .ref D]) Q E s := by
  have hl : s.heap.IsList D ys.toArray := ⟨_, (N _ hm).1, rfl, _, rfl⟩
  have e1 : (((signs M).map (swapSign a x b y)).map (·.length)).sum = M.length := by
    rw [List.map_map, ← signs_length]
    have : ∀ l : List Nat, ((l.map fun n => (⟨#[n]⟩ : Str)).map ((·.length) ∘ swapSign a x b y)).sum = (l.map fun n => (⟨#[n]⟩ : Str)).length := by
      intro l
      induction l with
      | nil => rfl
      | cons n r ih =>
        simp only [List.map_cons, List.sum_cons, List.length_cons, Function.comp_apply, swap_len hx hy, List.length_map] at ih ⊢
        omega
    exact this _
  refine join_listW hl (by simpa using hi) (by decide +kernel) ?_ h
  rw [e1, List.length_map, signs_length]
  omega
end Mine

namespace Mine
abbrev tk (S : Str) : List Nat := S.cps.toList
abbrev mk (l : List Nat) : Str := ⟨l.toArray⟩
theorem mk_tk (S : Str) : mk (tk S) = S := rfl
theorem tk_mk (l : List Nat) : tk (mk l) = l := rfl
theorem len_tk (S : Str) : (tk S).length = S.length := Array.length_toList
theorem slice_nat {x : Str} {l u : Option Int} {a b : Nat} (e : Builtin.Str.strSliceIndices l u 1 x.length = sliceRange a b 1) (hb : b ≤ x.length) : Txt.slice x l u = mk (((tk x).drop a).take (b - a)) := by
  unfold Txt.slice
  rw [e, sliceRange_one]
  split
  · rename_i h
    simp only [Bool.and_eq_true, beq_iff_eq, List.length_map, List.length_range] at h
    by_cases h0 : x.length = 0
    · have h1 : (tk x).length = 0 := by rw [len_tk, h0]
      have h2 : tk x = [] := List.length_eq_zero_iff.mp h1
      rw [h2, List.drop_nil, List.take_nil, ← mk_tk x, h2]
    · have ha : a = 0 := by omega
      have hb' : b = (tk x).length := by rw [len_tk]; omega
      rw [ha, hb', List.drop_zero, Nat.sub_zero, List.take_length, mk_tk]
  · rw [pick_run]
theorem slice_ns (x : Str) (i : Nat) : Txt.slice x none (some (i : Int)) = mk ((tk x).take i) := by
  rw [slice_nat (a := 0) (b := min i x.length) (by
    unfold Builtin.Str.strSliceIndices
    simp only [show (1 : Int) > 0 by decide, if_true, if_neg (show ¬ ((i : Int) < 0) by omega)]
    congr 1
    omega) (by omega), List.drop_zero, Nat.sub_zero, ← len_tk]
  have e : (tk x).take (min i (tk x).length) = (tk x).take i := by
    by_cases h : i ≤ (tk x).length
    · rw [Nat.min_eq_left h]
    · rw [Nat.min_eq_right (by omega), List.take_length, List.take_of_length_le (by omega)]
  rw [e]
theorem slice_sn (x : Str) (i : Nat) : Txt.slice x (some (i : Int)) none = mk ((tk x).drop i) := by
  rw [slice_nat (a := min i x.length) (b := x.length) (by
    unfold Builtin.Str.strSliceIndices
    simp only [show (1 : Int) > 0 by decide, if_true, if_neg (show ¬ ((i : Int) < 0) by omega)]
    congr 1
    omega) (by omega), ← len_tk]
  have e : ((tk x).drop (min i (tk x).length)).take ((tk x).length - min i (tk x).length) = (tk x).drop i := by
    by_cases h : i ≤ (tk x).length
    · rw [Nat.min_eq_left h, List.take_of_length_le (by rw [List.length_drop]; omega)]
    · rw [Nat.min_eq_right (by omega), List.drop_length, List.take_nil, List.drop_of_length_le (by omega)]
  rw [e]
theorem slice_ss (x : Str) (i k : Nat) : Txt.slice x (some (i : Int)) (some ((i : Int) + (k : Int))) = mk (((tk x).drop i).take k) := by
  rw [slice_nat (a := min i x.length) (b := min (i + k) x.length) (by
    unfold Builtin.Str.strSliceIndices
    simp only [show (1 : Int) > 0 by decide, if_true, if_neg (show ¬ ((i : Int) < 0) by omega), if_neg (show ¬ ((i : Int) + (k : Int) < 0) by omega)]
    congr 1 <;> omega) (by omega), ← len_tk]
  have e : ((tk x).drop (min i (tk x).length)).take (min (i + k) (tk x).length - min i (tk x).length) = ((tk x).drop i).take k := by
    by_cases h : i ≤ (tk x).length
    · rw [Nat.min_eq_left h]
      by_cases h2 : i + k ≤ (tk x).length
      · rw [Nat.min_eq_left h2, Nat.add_sub_cancel_left]
      · rw [Nat.min_eq_right (show (tk x).length ≤ i + k by omega), List.take_of_length_le (by rw [List.length_drop]; omega), List.take_of_length_le (by rw [List.length_drop]; omega)]
    · rw [Nat.min_eq_right (show (tk x).length ≤ i by omega), List.drop_length, List.take_nil, List.drop_of_length_le (by omega), List.take_nil]
  rw [e]
theorem slice_butlast (x : Str) (h : 1 ≤ x.length) : Txt.slice x none (some (-1)) = mk ((tk x).take (x.length - 1)) := by
  rw [slice_nat (a := 0) (b := x.length - 1) (by
    unfold Builtin.Str.strSliceIndices
    simp only [show (1 : Int) > 0 by decide, if_true, if_pos (show (-1 : Int) < 0 by decide)]
    congr 1
    omega) (by omega), List.drop_zero, Nat.sub_zero]
theorem item_nat (l : List Nat) (i : Nat) (h : i < l.length) : Txt.item (mk l) (i : Int) = mk [l.getD i 0] := by
  unfold Txt.item Txt.charAt seqIndex?
  have hl : (mk l).length = l.length := rfl
  simp only [hl, if_neg (show ¬ ((i : Int) < 0) by omega)]
  have h1 : (decide (0 ≤ (i : Int)) && decide ((i : Int) < (l.length : Int))) = true := by simp; omega
  rw [if_pos h1]
  simp [List.getD_eq_getElem?_getD]
theorem item_last (l : List Nat) (h : 1 ≤ l.length) : Txt.item (mk l) (-1) = mk [l.getD (l.length - 1) 0] := by
  unfold Txt.item Txt.charAt seqIndex?
  have hl : (mk l).length = l.length := rfl
  simp only [hl, if_pos (show (-1 : Int) < 0 by decide)]
  have h1 : (decide (0 ≤ -1 + (l.length : Int)) && decide (-1 + (l.length : Int) < (l.length : Int))) = true := by simp; omega
  rw [if_pos h1]
  have h2 : (-1 + (l.length : Int)).toNat = l.length - 1 := by omega
  simp [List.getD_eq_getElem?_getD, h2]
theorem mk_inj {l r : List Nat} : mk l = mk r ↔ l = r := ⟨fun h => congrArg tk h, fun h => congrArg mk h⟩
theorem mk1_beq (u v : Nat) : (mk [u] == mk [v]) = (u == v) := by
  rw [Bool.eq_iff_iff, beq_iff_eq, beq_iff_eq, mk_inj]
  simp
theorem app_mk (a b : List Nat) : mk a ++ mk b = mk (a ++ b) := by
  apply Str.ext'
  simp [Str.cps_append]
theorem hit_list (S T : Str) (i : Nat) : hit S T i = (((tk S).drop i).take (tk T).length == tk T) := by
  unfold hit
  rw [slice_ss, len_tk, Bool.eq_iff_iff, beq_iff_eq, beq_iff_eq]
  constructor
  · intro h; exact congrArg tk h
  · intro h; rw [h]
def stepL (t r : List Nat) : List Nat → Option (List Nat)
  | [] => if t = [] then some r else none
  | x :: xs => if ((x :: xs).take t.length == t) = true then some (r ++ (x :: xs).drop t.length) else (stepL t r xs).map (x :: ·)
theorem stepL_find (t r : List Nat) : ∀ l : List Nat, ((List.range (l.length + 1)).find? fun i => (l.drop i).take t.length == t).map (fun i => l.take i ++ r ++ l.drop (i + t.length)) = stepL t r l
  | [] => by
    by_cases h : t = []
    · subst h; simp [stepL]
    · have h' : ([] == t) = false := by cases t with | nil => exact absurd rfl h | cons _ _ => rfl
      simp [stepL, h, h']
  | x :: xs => by
    rw [List.range_succ_eq_map, List.find?_cons]
    by_cases h : ((x :: xs).take t.length == t) = true
    · rw [stepL, if_pos h]
      simp only [List.drop_zero, h, Option.map_some, List.take_zero, List.nil_append, Nat.zero_add]
    · rw [stepL, if_neg h, ← stepL_find t r xs]
      simp only [List.drop_zero, h, List.find?_map, Option.map_map]
      congr 1
      funext i
      simp [Function.comp, Nat.succ_eq_add_one, show i + 1 + t.length = (i + t.length) + 1 by omega]
theorem step1_list (T R S : Str) : step1 T R S = (stepL (tk T) (tk R) (tk S)).map mk := by
  unfold step1 firstHit
  rw [← stepL_find, Option.map_map, len_tk]
  have e : hit S T = fun i => ((tk S).drop i).take (tk T).length == tk T := funext fun i => hit_list S T i
  rw [e]
  congr 1
  funext i
  show onceAt S T R i = mk _
  unfold onceAt
  rw [show ((i : Int) + (T.length : Int)) = ((i + T.length : Nat) : Int) by omega, slice_ns, slice_sn, ← len_tk T]
  apply Str.ext'
  simp [Str.cps_append]
def oftenL (t r : List Nat) : Nat → List Nat → List Nat × Nat
  | 0, l => (l, 0)
  | n + 1, l => match stepL t r l with
    | none => (l, 0)
    | some l1 => ((oftenL t r n l1).1, (oftenL t r n l1).2 + 1)
theorem often_list (T R : Str) : ∀ (n : Nat) (S : Str), often T R n S = (mk (oftenL (tk T) (tk R) n (tk S)).1, (oftenL (tk T) (tk R) n (tk S)).2)
  | 0, S => rfl
  | n + 1, S => by
    rw [often, oftenL, step1_list]
    cases h : stepL (tk T) (tk R) (tk S) with
    | none => rfl
    | some l1 =>
      simp only [Option.map_some]
      rw [often_list T R n (mk l1), tk_mk]
theorem swap_list (a x b y n : Nat) : swapSign (mk [a]) (mk [x]) (mk [b]) (mk [y]) ⟨#[n]⟩ = mk [if n = a then x else if n = b then y else n] := by
  have key : ∀ u v : Nat, ((⟨#[u]⟩ : Str) = mk [v]) ↔ u = v := by
    intro u v
    constructor
    · intro h
      have := congrArg tk h
      simpa [tk] using this
    · rintro rfl; rfl
  unfold swapSign
  by_cases h1 : n = a
  · rw [if_pos ((key _ _).mpr h1), if_pos h1]
  · rw [if_neg (fun q => h1 ((key _ _).mp q)), if_neg h1]
    by_cases h2 : n = b
    · rw [if_pos ((key _ _).mpr h2), if_pos h2]
    · rw [if_neg (fun q => h2 ((key _ _).mp q)), if_neg h2]
theorem join_map {α : Type} {g : α → Str} {f : α → List Nat} (hg : ∀ a, g a = mk (f a)) : ∀ l : List α, Txt.join (Str.ofString "") (l.map g) = mk (l.flatMap f) := by
  have e0 : Str.ofString "" = (⟨#[]⟩ : Str) := by decide +kernel
  have j : ∀ l : List Str, Txt.join (Str.ofString "") l = Str.join ⟨#[]⟩ l := fun l => by rw [e0]; exact StrLaws.glued_eq_join _ _
  intro l
  rw [j]
  induction l with
  | nil => rfl
  | cons a r ih =>
    rw [List.map_cons, join_nil_cons, ih, hg, List.flatMap_cons]
    apply Str.ext'
    simp [Str.cps_append]
theorem repl_list (a x b y : Nat) (M : Str) : replStr (mk [a]) (mk [x]) (mk [b]) (mk [y]) M = mk ((tk M).map fun n => if n = a then x else if n = b then y else n) := by
  unfold replStr
  have e : (signs M).map (swapSign (mk [a]) (mk [x]) (mk [b]) (mk [y])) = (tk M).map fun n => mk [if n = a then x else if n = b then y else n] := by
    show ((tk M).map fun n => (⟨#[n]⟩ : Str)).map _ = _
    rw [List.map_map]
    apply List.map_congr_left
    intro n _
    exact swap_list a x b y n
  rw [e, join_map (f := fun n => [if n = a then x else if n = b then y else n]) (fun _ => rfl)]
  congr 1
  have : ∀ (f : Nat → Nat) (l : List Nat), l.flatMap (fun n => [f n]) = l.map f := by
    intro f l
    induction l with
    | nil => rfl
    | cons z r ih => rw [List.flatMap_cons, ih, List.map_cons]; rfl
  rw [this]
end Mine

namespace Mine
/-- the table of a def's codes: nothing made yet, or the one code that stands in the ledger -/
def TabOK (pos : Pos) (qual : Str) (I P : Addr) (ps : Array Value) (tl : List (Addr × Obj)) : Prop :=
  ps = #[] ∨ ∃ c' oc vs t, ps = #[rawInt pos.line, rawInt pos.col, .ref c'] ∧ (c', oc) ∈ tl ∧ oc.data = .fields vs ∧ vs[1]? = some (.str qual t) ∧ c' ≠ I ∧ c' ≠ P
theorem TabOK.mono {pos : Pos} {qual : Str} {I P : Addr} {ps : Array Value} {tl tl' : List (Addr × Obj)} (h : TabOK pos qual I P ps tl) (hs : ∀ p ∈ tl, p ∈ tl') : TabOK pos qual I P ps tl' := by
  rcases h with h | ⟨c', oc, vs, t, a, b, c⟩
  · exact .inl h
  · exact .inr ⟨c', oc, vs, t, a, hs _ b, c⟩
theorem pick1 {h₀ h : Heap} {L d : Addr} {o : Obj} {l l1 : List (Addr × Obj)} (N : News h₀ L h l) (P : Pick d o l l1) : News h₀ L h ((d, o) :: l1) := fun p hp => N p (P.mem p hp)
theorem my_lam {M : Model} {A : Around} {E : Value → Shared → Prop} {s : Shared} {h₀ : Heap} {L a c P : Addr} {m mg mb : Str → Option Value} {cn : Str} {cs : Scope} {ccd : Value} {cl : List (Str × Addr)} {led news' tl : List (Addr × Obj)}
    {p : Program} {loose : List Str} {mean : ExcName → Option Value} {name qual : Str} {params : Arguments} {body : Expr} {scope : Scope} {ps : Array Value} {pos : Pos} {firstLine : Nat} {clos : List (Str × Addr)} {I d : Addr} {Q : Value → Shared → Prop}
    (F : Fr h₀ L s.heap m) (N : News h₀ L s.heap led) (hpick : Pick P (tabObj ps) led news') (T : Top p loose mean mg mb h₀) (C : CodeHd h₀ c P) (hcd : ccd = .ref c)
    (hne : ∀ q ∈ news', q.1 ≠ P) (hT : TabOK pos qual I P ps tl) (htl : ∀ p ∈ tl, p ∈ news') (hI : ∃ o, (I, o) ∈ tl) {od : Obj} {news2 : List (Addr × Obj)} (hd : Pick d od news' news2) (hdt : ∀ p ∈ tl, p.1 ≠ d)
    (hcl : closureFor scope (envX cn cs L a ccd cl) = pure clos)
    (h : ∀ f c' oc vs t ctv h' tk, Fr h₀ L h' m →
      News h₀ L h' ((f, kla_obj name qual params body scope clos ((mg "__name__").getD .none) c' ctv) :: (c', oc) :: (P, tabObj #[rawInt pos.line, rawInt pos.col, .ref c']) :: news') →
      oc.data = .fields vs → vs[1]? = some (.str qual t) → c' ≠ d → c' ≠ I → c' ≠ P → (∀ q ∈ news', q.1 < f) → c' < f → P < f → Q (.ref f) { s with heap := h', toks := tk }) :
    wpAny M A (makeFunction name qual params (.expr body) scope (envX cn cs L a ccd cl) [] [] [] pos firstLine) Q E s := by
  have N1 : News h₀ L s.heap ((P, tabObj ps) :: news') := fun q hq => N q (hpick.mem q hq)
  rcases hT with rfl | ⟨c', oc, vs, t, rfl, hc, h1, h2, h3, h4⟩
  · refine kla_nest F N1 T C hcd (UpdF.head hne) True.intro rfl hcl fun f c' oc vs t ctv h' tk F' N' d1 d2 l1 l2 => ?_
    obtain ⟨oI, hI⟩ := hI
    have q1 : I < c' := l1 _ (List.Mem.tail _ (htl _ hI))
    have q2 : d < c' := l1 _ (List.Mem.tail _ (hd.mem _ (List.Mem.head _)))
    have q3 : P < c' := l1 _ (List.Mem.head _)
    refine h f c' oc vs t ctv h' tk F' N' d1 d2 (Nat.ne_of_gt q2) (Nat.ne_of_gt q1) (Nat.ne_of_gt q3) (fun q hq => Nat.lt_trans (l1 q (List.Mem.tail _ hq)) l2) l2 (Nat.lt_trans q3 l2)
  · refine kla_hit F N1 T C hcd (List.Mem.head _) (by simp [TriplesOk, rawInt]) (by show (if ((pos.line : Int) == (pos.line : Int) && (pos.col : Int) == (pos.col : Int)) = true then _ else _) = _; rw [if_pos (by simp)]) hcl fun f ctv h' tk F' N' l1 => ?_
    refine h f c' oc vs t ctv h' tk F' (fun q hq => ?_) h1 h2 (hdt _ hc) h3 h4 (fun q hq => l1 q (List.Mem.tail _ hq)) (l1 (c', oc) (List.Mem.tail _ (htl _ hc))) (l1 _ (List.Mem.head _))
    rcases List.mem_cons.mp hq with rfl | hq
    · exact N' _ (List.Mem.head _)
    · rcases List.mem_cons.mp hq with rfl | hq
      · exact N' _ (List.Mem.tail _ (List.Mem.tail _ (htl _ hc)))
      · rcases List.mem_cons.mp hq with rfl | hq
        · exact N' _ (List.Mem.tail _ (List.Mem.head _))
        · exact N' _ (List.Mem.tail _ (List.Mem.tail _ hq))
theorem tl_ne {pos : Pos} {qual : Str} {I P : Addr} {ps : Array Value} {tl rest : List (Addr × Obj)} {d : Addr} (_hT : TabOK pos qual I P ps tl) (h : ∀ p ∈ rest, p.1 < d) (hs : ∀ p ∈ tl, p ∈ rest) : ∀ p ∈ tl, p.1 ≠ d :=
  fun p hp => Nat.ne_of_lt (h p (hs p hp))
end Mine

namespace Mine
set_option pp.deepTerms false
set_option pp.deepTerms.threshold 4
set_option pp.maxSteps 3000
set_option maxRecDepth 100000 in
set_option maxHeartbeats 8000000 in
theorem lam_const {prog : Program} {w : World} {K : Frag} {p : Program} {loose : List Str} {mean : ExcName → Option Value} {mg mb : Str → Option Value} {f c' : Addr} {oc : Obj} {vs : Array Value} {t : Tok} {ctv pm : Value} {name qual x : Str} {params : Arguments} {scope : Scope} {R : Str} {k : Nat} {pos : Pos}
    (hoc : oc.data = .fields vs) (hvs : vs[1]? = some (.str qual t))
    (hbind : ∀ v, bindArgs (kla_fn name qual params (.Constant (.str R) k pos) scope [] pm (.ref c') ctv) ⟨[v], []⟩ = pure [(x, v)])
    (hx : scope.names.lookup x = some .local) (hco : scope.isCoroutine = false) (hgen : scope.isGenerator = false) (hkk : scope.kind = .function) (hcell : ∀ y ∈ scope.names, y.2 ≠ .cell) :
    LamOK prog w K p loose mean mg mb f [(f, kla_obj name qual params (.Constant (.str R) k pos) scope [] pm c' ctv), (c', oc)] R := by
  intro dp un gd cn cs a ccd cl outer A₀ base h₀ L m rest s Q E v B F X N T hk hd hu ret
  refine wpAny_call ?_
  refine kla_code B F X N T rfl rfl hk (List.mem_append_left _ (List.Mem.head _)) (codeRec_news N (List.mem_append_left _ (List.Mem.tail _ (List.Mem.head _))) hoc hvs) ?_ (hbind v) (fun y hy => by rw [List.mem_singleton.mp hy]; exact hx) (fun g L' h1 FG F' N' B' X' T' => ?_) hco hgen hkk hcell
  · show dp < recursionLimit
    omega
  (try dsimp only)
  (try k_fold)
  k_steps
  · exact ret _ _ _ (by with_reducible assumption) (by with_reducible assumption)
end Mine

theorem Mine.filled : PySem.Challenge.rw_xw0308_01 = PySem.Challenge.rw_xw0308_01 ∧ Mine.K = Mine.K := by
  k_fill
  exact ⟨rfl, rfl⟩
local macro_rules | `(tactic| k_all) => `(tactic| first | assumption | exact fun p9 h9 => Nat.ne_of_lt (Nat.lt_succ_of_lt (kst_ltOf (by simp only [*]) p9 h9)) | exact fun p9 h9 => Nat.ne_of_lt (kst_ltOf (by simp only [*]) p9 h9))
local macro_rules | `(tactic| k_room) => `(tactic| ((simp only [depth_under_make, depth_under_kw, depth_in1, depth_deeper]); (try dsimp only [ktrTop]); omega))
local macro_rules | `(tactic| k_units) => `(tactic| ((have hcL9 := cLine_is); (simp only [units_in1, units_deeper, Around.mark_units]); (try dsimp only [ktrTop]); omega))
local macro_rules | `(tactic| ke_room) => `(tactic| ((have hcL9 := cLine_is); (simp only [units_in1, units_deeper, Around.mark_units]); (try dsimp only [ktrTop]); omega))
local macro_rules | `(tactic| walk_at "compareOp NotIn str ref") => `(tactic| (k_here; (with_reducible show wpAny _ _ (compareOp CmpOp.NotIn (Value.str _ _) (Value.ref _)) _ _ _); k_dflt (refine' Mine.my_notin ?F ?X ?l ?k ?_; (case F => k_asm); (case X => k_asm); (case l => k_is); (case k => kde_strs); k_whole)))
local macro_rules | `(tactic| walk_at "compareOp Eq ref str") => `(tactic| (k_here; (with_reducible show wpAny _ _ (compareOp CmpOp.Eq (Value.ref _) (Value.str _ _)) _ _ _); k_dflt (refine Mine.my_eq_tup_str (by ke_read) (by ke_shaped) (by ke_shaped) (by ke_room) ?_)))
local macro_rules | `(tactic| ktr_rel) => `(tactic| first
  | exact fun _ h => h
  | (refine' List.forall_mem_cons.mpr ⟨?a, ?b⟩; (case a => k_mem); (case b => ktr_rel))
  | (intro p hp; repeat (first | exact hp | exact Mine.mem_app_left hp | refine List.Mem.tail _ ?_)))
local macro_rules | `(tactic| tb_start) => `(tactic| first | exact Mine.Pick.head | (apply Mine.Pick.tail; tb_start))

namespace Mine
section
variable {prog : Program} {w : World} {p : Program} {loose : List Str} {mean : ExcName → Option Value} {mg mb : Str → Option Value}
    {dp un : Nat} {gd : Option (List Code)} {cn : Str} {cs : Scope} {a : Addr} {ccd : Value} {cl : List (Str × Addr)} {outer : List Env} {A₀ : Around} {base h₀ : Heap} {L : Addr} {m : Str → Option Value} {s : Shared} {Q E : Value → Shared → Prop}
    {S T : Str} {at_ : Int} {tS tA t1 t2 : Tok} {c : Nat}
    {hv hl hr hw hs hg : Int} {kv kl kr kw ks kg : Tok} {vA rA gA : Addr} {tl tw ts : Tok} {k : Int} {dx x nd : Addr} {rest : List (Addr × Obj)}
abbrev nodeObj (T : Str) (t1 t2 : Tok) (c : Nat) : Obj := { cls := .type "tuple", data := .seq #[.str (Str.ofString "chars") t1, .str T t2] c }
set_option maxRecDepth 100000 in
set_option maxHeartbeats 8000000 in
theorem c_match_at
    (B : Below A₀ base outer h₀) (F : Fr h₀ L s.heap m) (X : (Mine.K w.params).In h₀)
    (N : News h₀ L s.heap ((dx, dictOf (hostEs hv hl hr hw hs hg kv kl kr kw ks kg vA rA gA tl tw ts k) 6) :: (x, instObj 215 dx) :: (nd, nodeObj T t1 t2 c) :: rest))
    (hx : x ≠ dx) (hnd : nd ≠ dx) (hrest : ∀ p ∈ rest, p.1 ≠ dx)
    (TT : Top p loose mean mg mb h₀) (hk : cs.kind = .function)
    (hd : dp + 10 < recursionLimit) (hu : un + 200 < cLine) (hS : S.length ≤ 100) (hT : T.length ≤ 100) (_h0 : 0 ≤ at_) (_h1 : at_ ≤ 100) (hk0 : 0 ≤ k) (hk1 : k < 9000)
    (ret0 : (Txt.slice S (some at_) (some (at_ + (T.length : Int))) == T) = false → ∀ ts' h' tk', Fr h₀ L h' m →
      News h₀ L h' ((dx, dictOf (hostEs hv hl hr hw hs hg kv kl kr kw ks kg vA rA gA tl tw ts' (k + 1)) 6) :: (x, instObj 215 dx) :: (nd, nodeObj T t1 t2 c) :: rest) →
      Q .none { s with heap := h', toks := tk' })
    (ret1 : (Txt.slice S (some at_) (some (at_ + (T.length : Int))) == T) = true → ∀ D l u1 u2 c1 c2 ts' h' tk', Fr h₀ L h' m →
      News h₀ L h' ((D, ({ cls := .type "tuple", data := .seq #[.int at_ u1, .int (at_ + (T.length : Int)) u2, .ref l] c1 } : Obj)) :: (l, W.listOf #[] c2) ::
        (dx, dictOf (hostEs hv hl hr hw hs hg kv kl kr kw ks kg vA rA gA tl tw ts' (k + 1)) 6) :: (x, instObj 215 dx) :: (nd, nodeObj T t1 t2 c) :: rest) →
      @LT.lt Nat _ l D → @LT.lt Nat _ dx l → @LT.lt Nat _ x l → @LT.lt Nat _ nd l → AllLt l rest →
      Q (.ref D) { s with heap := h', toks := tk' }) :
    wpAny (model prog w) (ktrTop dp un gd cn cs L a ccd cl outer) (call (.ref 402) [.ref nd, .str S tS, .int at_ tA, .ref x]) Q E s := by
  refine wpAny_call ?_
  k_dflt ktr_enter
  k_steps
  · refine' ret1 (by with_reducible assumption) _ _ _ _ _ _ _ _ _ ?F ?N ?a ?b ?c ?d ?e
    case F => with_reducible assumption
    case N => refine' cb_drop ?h ?i; (case h => with_reducible assumption); (case i => ktr_rel)
    case a => omega
    case b => omega
    case c => omega
    case d => omega
    case e => simp only [*]
  · refine' ret0 (by with_reducible assumption) _ _ _ ?F ?N
    case F => with_reducible assumption
    case N => refine' cb_drop ?h ?i; (case h => with_reducible assumption); (case i => ktr_rel)
end
end Mine

local macro_rules | `(tactic| walk_at "call ref") => `(tactic| (k_here; (with_reducible show wpAny _ _ (call (Value.ref 402) _) _ _ _); k_dflt (refine' Mine.c_match_at ?B ?F ?X (Mine.pick3 ?N ?P1 ?P2 ?P3) ?hx ?hnd ?hrest ?TT ?hk ?hd ?hu ?hS ?hT ?h0 ?h1 ?hk0 ?hk1 (fun hc' ts' h' tk' F' N' => ?_) (fun hc' D' l' u1' u2' c1' c2' ts' h' tk' F' N' l1 l2 l3 l4 l5 => ?_); (case B => k_asm); (case F => k_asm); (case X => k_asm); (case N => k_asm); (case P1 => tb_start); (case P2 => tb_start); (case P3 => tb_start); (case TT => k_asm); (case hk => first | exact rfl | assumption); (case hx => k_ne); (case hnd => k_ne); (case hrest => k_all); (case hd => k_room); (case hu => ke_room); (case hS => omega); (case hT => omega); (case h0 => omega); (case h1 => omega); (case hk0 => omega); (case hk1 => omega); all_goals ((try dsimp only); (try k_fold)))))

namespace Mine
section
variable {prog : Program} {w : World} {p : Program} {loose : List Str} {mean : ExcName → Option Value} {mg mb : Str → Option Value}
    {dp un : Nat} {gd : Option (List Code)} {cn : Str} {cs : Scope} {a : Addr} {ccd : Value} {cl : List (Str × Addr)} {outer : List Env} {A₀ : Around} {base h₀ : Heap} {L : Addr} {m : Str → Option Value} {s : Shared} {Q E : Value → Shared → Prop}
    {S T : Str} {tS t1 t2 : Tok} {c : Nat}
    {hv hl hr hw hs hg : Int} {kv kl kr kw ks kg : Tok} {vA rA gA : Addr} {tl tw ts : Tok} {k : Int} {dx x nd : Addr} {rest : List (Addr × Obj)}
set_option pp.deepTerms false
set_option pp.deepTerms.threshold 4
set_option pp.maxSteps 3000
set_option maxRecDepth 100000 in
set_option maxHeartbeats 8000000 in
theorem c_match_plain
    (B : Below A₀ base outer h₀) (F : Fr h₀ L s.heap m) (X : (Mine.K w.params).In h₀)
    (N : News h₀ L s.heap ((dx, dictOf (hostEs hv hl hr hw hs hg kv kl kr kw ks kg vA rA gA tl tw ts k) 6) :: (x, instObj 215 dx) :: (nd, nodeObj T t1 t2 c) :: rest))
    (hx : x ≠ dx) (hnd : nd ≠ dx) (hrest : ∀ p ∈ rest, p.1 ≠ dx)
    (TT : Top p loose mean mg mb h₀) (hk : cs.kind = .function)
    (hd : dp + 20 < recursionLimit) (hu : un + 300 < cLine) (hS : S.length ≤ 99) (hT : T.length ≤ 100) (hk0 : 0 ≤ k) (hk1 : k < 8000)
    (ret0 : (∀ i : Nat, i ≤ S.length → hit S T i = false) → ∀ k' ts' h' tk', k ≤ k' → k' ≤ k + S.length + 1 → Fr h₀ L h' m →
      News h₀ L h' ((dx, dictOf (hostEs hv hl hr hw hs hg kv kl kr kw ks kg vA rA gA tl tw ts' k') 6) :: (x, instObj 215 dx) :: (nd, nodeObj T t1 t2 c) :: rest) →
      Q .none { s with heap := h', toks := tk' })
    (ret1 : ∀ i : Nat, i ≤ S.length → hit S T i = true → (∀ j : Nat, j < i → hit S T j = false) → ∀ D l u1 u2 c1 c2 k' ts' h' tk', k ≤ k' → k' ≤ k + S.length + 1 → Fr h₀ L h' m →
      News h₀ L h' ((D, ({ cls := .type "tuple", data := .seq #[.int i u1, .int (i + (T.length : Int)) u2, .ref l] c1 } : Obj)) :: (l, W.listOf #[] c2) ::
        (dx, dictOf (hostEs hv hl hr hw hs hg kv kl kr kw ks kg vA rA gA tl tw ts' k') 6) :: (x, instObj 215 dx) :: (nd, nodeObj T t1 t2 c) :: rest) →
      @LT.lt Nat _ l D → @LT.lt Nat _ dx l → @LT.lt Nat _ x l → @LT.lt Nat _ nd l → AllLt l rest →
      Q (.ref D) { s with heap := h', toks := tk' }) :
    wpAny (model prog w) (ktrTop dp un gd cn cs L a ccd cl outer) (call (.ref 395) [.ref nd, .str S tS, .bool false, .ref x]) Q E s := by
  k_with "pyIter ref" => k_state (fun pre n => n = k + pre.length ∧ ∀ i : Nat, i < pre.length → hit S T i = false) "host.steps"
  k_with "state" => exact Mine.plain_state (by assumption) (by assumption) (by assumption) (by assumption)
  refine wpAny_call ?_
  k_dflt ktr_enter
  k_steps
  · obtain rfl : kN = (kPre.length : Int) := by omega
    refine' ret1 _ ?zi (hit_of (by with_reducible assumption) (by with_reducible assumption)) (by assumption) _ _ _ _ _ _ _ _ _ _ ?zp ?zq ?zF ?zN ?za ?zb ?zc ?zd ?ze
    case zF => with_reducible assumption
    case zN => refine' cb_drop ?zh ?zs; (case zh => with_reducible assumption); (case zs => ktr_rel)
    case zi => omega
    case zp => omega
    case zq => omega
    case za => assumption
    case zb => assumption
    case zc => assumption
    case zd => assumption
    case ze => exact allLt_app (by assumption)
  · simp only [rangeKs_length] at *
    refine' ret0 ?zi _ _ _ _ ?zp ?zq ?zF ?zN
    case zF => with_reducible assumption
    case zN => refine' cb_drop ?zh ?zs; (case zh => with_reducible assumption); (case zs => ktr_rel)
    case zi => intro i hi; apply (by assumption : ∀ i : Nat, i < _ → hit S T i = false); omega
    case zp => omega
    case zq => omega
end
end Mine

local macro_rules | `(tactic| walk_at "call ref") => `(tactic| (k_here; (with_reducible show wpAny _ _ (call (Value.ref 395) _) _ _ _); k_dflt (refine' Mine.c_match_plain ?B ?F ?X (Mine.pick3 ?N ?P1 ?P2 ?P3) ?hx ?hnd ?hrest ?TT ?hk ?hd ?hu ?hS ?hT ?hk0 ?hk1 (fun hz' k' ts' h' tk' kl1' kl2' F' N' => ?_) (fun i' hi' hh' hz' D' l' u1' u2' c1' c2' k' ts' h' tk' kl1' kl2' F' N' l1 l2 l3 l4 l5 => ?_); (case B => k_asm); (case F => k_asm); (case X => k_asm); (case N => k_asm); (case P1 => tb_start); (case P2 => tb_start); (case P3 => tb_start); (case TT => k_asm); (case hk => first | exact rfl | assumption); (case hx => k_ne); (case hnd => k_ne); (case hrest => k_all); (case hd => k_room); (case hu => ke_room); (case hS => omega); (case hT => omega); (case hk0 => omega); (case hk1 => omega); all_goals ((try dsimp only); (try k_fold)))))
local macro_rules | `(tactic| walk_at "callWith ref") => `(tactic| (k_here; k_dflt (refine' callWith_F ?k1 ?_; (case k1 => exact FnAt.of (by k_asm) (by k_mem)); k_whole)))
local macro_rules | `(tactic| walk_at "call ref") => `(tactic| (k_here; ((rename Mine.LamOK _ _ _ _ _ _ _ _ _ _ _ => hLam9); k_dflt (refine' Mine.lam_use hLam9 ?B ?F ?X ?N ?hs ?TT ?hk ?hd ?hu (fun t' h' tk' F' N' => ?_); (case B => k_asm); (case F => k_asm); (case X => k_asm); (case N => k_asm); (case hs => (repeat (first | with_reducible assumption | refine Mine.sub_tail ?_))); (case TT => k_asm); (case hk => first | exact rfl | assumption); (case hd => k_room); (case hu => ke_room); all_goals ((try dsimp only); (try k_fold))))))
local macro_rules | `(tactic| walk_at "exec For Tuple Subscript cons nil") => `(tactic| (k_here; (rename Fr _ _ _ _ => lF'); (with_unfolding_all refine' For_turns lF' ?_; k_whole)))
local macro_rules | `(tactic| walk_at "pyIter ref") => `(tactic| (k_here; (with_reducible show wpAny _ _ (pyIter (Value.ref _)) (fun it s₂ => TurnsAt _ _ _ _ _ _ _ _ _ it s₂) _ _); k_dflt (refine' Mine.my_iter_nil ?hh ?F ?N ?hm (fun h' tk' F' N' => ?_); (case hh => exact rfl); (case F => k_asm); (case N => k_asm); (case hm => k_mem); all_goals ((try dsimp only); (try k_fold)))))

namespace Mine
section
variable {prog : Program} {w : World} {p : Program} {loose : List Str} {mean : ExcName → Option Value} {mg mb : Str → Option Value}
    {dp un : Nat} {gd : Option (List Code)} {cn : Str} {cs : Scope} {a : Addr} {ccd : Value} {cl : List (Str × Addr)} {outer : List Env} {A₀ : Around} {base h₀ : Heap} {L : Addr} {m : Str → Option Value} {s : Shared} {Q E : Value → Shared → Prop}
    {S T R : Str} {tS t1 t2 : Tok} {c : Nat}
    {hv hl hr hw hs hg : Int} {kv kl kr kw ks kg : Tok} {vA rA gA : Addr} {tl tw ts : Tok} {k : Int} {dx x nd lm : Addr} {rest ls : List (Addr × Obj)} {oc : Value} {od : Option Addr} {fd : FuncData} {sl : Array (Option Value)}
set_option pp.deepTerms false
set_option pp.deepTerms.threshold 4
set_option pp.maxSteps 3000
set_option maxRecDepth 100000 in
set_option maxHeartbeats 8000000 in
theorem c_once
    (B : Below A₀ base outer h₀) (F : Fr h₀ L s.heap m) (X : (Mine.K w.params).In h₀)
    (N : News h₀ L s.heap ((dx, dictOf (hostEs hv hl hr hw hs hg kv kl kr kw ks kg vA rA gA tl tw ts k) 6) :: (x, instObj 215 dx) :: (nd, nodeObj T t1 t2 c) :: (lm, (⟨oc, od, .func fd, sl⟩ : Obj)) :: rest))
    (hx : x ≠ dx) (hnd : nd ≠ dx) (hlm : lm ≠ dx) (hrest : ∀ p ∈ rest, p.1 ≠ dx)
    (hL : LamOK prog w (Mine.K w.params) p loose mean mg mb lm ls R) (hls : ∀ p ∈ ls, p ∈ (lm, (⟨oc, od, .func fd, sl⟩ : Obj)) :: rest)
    (TT : Top p loose mean mg mb h₀) (hk : cs.kind = .function)
    (hd : dp + 30 < recursionLimit) (hu : un + 400 < cLine) (hS : S.length ≤ 99) (hT : T.length ≤ 100) (hR : R.length ≤ 100) (hk0 : 0 ≤ k) (hk1 : k < 8000)
    (ret0 : (∀ i : Nat, i ≤ S.length → hit S T i = false) → ∀ k' ts' h' tk', k ≤ k' → k' ≤ k + S.length + 1 → Fr h₀ L h' m →
      News h₀ L h' ((dx, dictOf (hostEs hv hl hr hw hs hg kv kl kr kw ks kg vA rA gA tl tw ts' k') 6) :: (x, instObj 215 dx) :: (nd, nodeObj T t1 t2 c) :: (lm, (⟨oc, od, .func fd, sl⟩ : Obj)) :: rest) →
      Q .none { s with heap := h', toks := tk' })
    (ret1 : ∀ i : Nat, i ≤ S.length → hit S T i = true → (∀ j : Nat, j < i → hit S T j = false) → ∀ u k' ts' h' tk', k ≤ k' → k' ≤ k + S.length + 1 → Fr h₀ L h' m →
      News h₀ L h' ((dx, dictOf (hostEs hv hl hr hw hs hg kv kl kr kw ks kg vA rA gA tl tw ts' k') 6) :: (x, instObj 215 dx) :: (nd, nodeObj T t1 t2 c) :: (lm, (⟨oc, od, .func fd, sl⟩ : Obj)) :: rest) →
      Q (.str (onceAt S T R i) u) { s with heap := h', toks := tk' }) :
    wpAny (model prog w) (ktrTop dp un gd cn cs L a ccd cl outer) (call (.ref 42) [.ref 395, .ref nd, .str S tS, .bool false, .ref x, .ref lm]) Q E s := by
  refine wpAny_call ?_
  k_dflt ktr_enter
  k_steps
  · refine' ret0 (by with_reducible assumption) _ _ _ _ (by with_reducible assumption) (by with_reducible assumption) ?zF ?zN
    case zF => with_reducible assumption
    case zN => refine' cb_drop ?zh ?zs; (case zh => with_reducible assumption); (case zs => ktr_rel)
  · refine' ret1 _ ?zi (by with_reducible assumption) (by with_reducible assumption) _ _ _ _ _ (by with_reducible assumption) (by with_reducible assumption) ?zF ?zN
    case zF => with_reducible assumption
    case zN => refine' cb_drop ?zh ?zs; (case zh => with_reducible assumption); (case zs => ktr_rel)
    case zi => with_reducible assumption
end
end Mine

local macro_rules | `(tactic| walk_at "call ref") => `(tactic| (k_here; (with_reducible show wpAny _ _ (call (Value.ref 42) _) _ _ _); (rename Mine.OInv _ _ _ _ _ _ _ _ => hI9); (have hB9 := Mine.OInv.bounds hI9 (by assumption)); k_dflt (refine' Mine.c_once ?B ?F ?X (Mine.pick4 ?N ?P1 ?P2 ?P3 ?P4) ?hx ?hnd ?hlm ?hrest ?hL ?hls ?TT ?hk ?hd ?hu ?hS ?hT ?hR ?hk0 ?hk1 (fun hz' k' ts' h' tk' kl1' kl2' F' N' => ?_) (fun i' hi' hh' hz' u' k' ts' h' tk' kl1' kl2' F' N' => ?_); (case B => k_asm); (case F => k_asm); (case X => k_asm); (case N => k_asm); (case P1 => tb_start); (case P2 => tb_start); (case P3 => tb_start); (case P4 => tb_start); (case TT => k_asm); (case hk => first | exact rfl | assumption); (case hx => k_ne); (case hnd => k_ne); (case hlm => k_ne); (case hL => with_reducible assumption); (case hls => (intro q9 hq9; tb_rel)); (case hrest => k_all); (case hd => k_room); (case hu => ke_room); (case hS => omega); (case hT => omega); (case hR => omega); (case hk0 => omega); (case hk1 => omega); all_goals ((try dsimp only); (try k_fold)))))
local macro_rules | `(tactic| tb_rel) => `(tactic| (refine Mine.mem_grow (by assumption) (by with_reducible assumption) ?_; intro p9 hp9; repeat (first | exact hp9 | exact Mine.mem_app_left hp9 | refine List.Mem.tail _ ?_)))

namespace Mine
section
variable {prog : Program} {w : World} {p : Program} {loose : List Str} {mean : ExcName → Option Value} {mg mb : Str → Option Value}
    {dp un : Nat} {gd : Option (List Code)} {cn : Str} {cs : Scope} {a : Addr} {ccd : Value} {cl : List (Str × Addr)} {outer : List Env} {A₀ : Around} {base h₀ : Heap} {L : Addr} {m : Str → Option Value} {s : Shared} {Q E : Value → Shared → Prop}
    {S T R : Str} {most : Int} {tS tm t1 t2 : Tok} {c : Nat}
    {hv hl hr hw hs hg : Int} {kv kl kr kw ks kg : Tok} {vA rA gA : Addr} {tl tw ts : Tok} {k : Int} {dx x nd lm : Addr} {rest ls : List (Addr × Obj)} {oc : Value} {od : Option Addr} {fd : FuncData} {sl : Array (Option Value)}
set_option pp.deepTerms false
set_option pp.deepTerms.threshold 4
set_option pp.maxSteps 3000
set_option maxRecDepth 100000 in
set_option maxHeartbeats 8000000 in
theorem c_often
    (B : Below A₀ base outer h₀) (F : Fr h₀ L s.heap m) (X : (Mine.K w.params).In h₀)
    (N : News h₀ L s.heap ((dx, dictOf (hostEs hv hl hr hw hs hg kv kl kr kw ks kg vA rA gA tl tw ts k) 6) :: (x, instObj 215 dx) :: (nd, nodeObj T t1 t2 c) :: (lm, (⟨oc, od, .func fd, sl⟩ : Obj)) :: rest))
    (hx : x ≠ dx) (hnd : nd ≠ dx) (hlm : lm ≠ dx) (hrest : ∀ p ∈ rest, p.1 ≠ dx)
    (hL : LamOK prog w (Mine.K w.params) p loose mean mg mb lm ls R) (hls : ∀ p ∈ ls, p ∈ (lm, (⟨oc, od, .func fd, sl⟩ : Obj)) :: rest)
    (TT : Top p loose mean mg mb h₀) (hk : cs.kind = .function)
    (hd : dp + 40 < recursionLimit) (hu : un + 500 < cLine) (hS : (S.length : Int) + 2 * most ≤ 99) (hT : T.length ≤ 100) (hR : R.length ≤ 2) (hm0 : 0 ≤ most) (hk0 : 0 ≤ k) (hk1 : k < 100)
    (ret : ∀ S' (j : Int), often T R most.toNat S = (S', j.toNat) → 0 ≤ j → j ≤ most → S'.length ≤ 99 → ∀ D u1 u2 c1 k' ts' h' tk', Fr h₀ L h' m →
      News h₀ L h' ((D, ({ cls := .type "tuple", data := .seq #[.str S' u1, .int j u2] c1 } : Obj)) :: (dx, dictOf (hostEs hv hl hr hw hs hg kv kl kr kw ks kg vA rA gA tl tw ts' k') 6) :: (x, instObj 215 dx) :: (nd, nodeObj T t1 t2 c) :: (lm, (⟨oc, od, .func fd, sl⟩ : Obj)) :: rest) →
      @LT.lt Nat _ dx D → @LT.lt Nat _ x D → @LT.lt Nat _ nd D → @LT.lt Nat _ lm D → AllLt D rest →
      Q (.ref D) { s with heap := h', toks := tk' }) :
    wpAny (model prog w) (ktrTop dp un gd cn cs L a ccd cl outer) (call (.ref 49) [.ref 395, .ref nd, .str S tS, .bool false, .ref x, .ref lm, .int most tm]) Q E s := by
  k_with "exec While Compare cons nil" => k_while_given [] (fun _ S1 j n => OInv T R S most k S1 j n) (fun _ S1 j n => (most - j).toNat) "subject" "many" "host.steps"
  k_with "state" => first | exact Mine.OInv.start (by assumption) | exact Mine.OInv.next (by with_reducible assumption) (by with_reducible assumption) (by with_reducible assumption) (by omega) (by with_reducible assumption) (by with_reducible assumption) (by with_reducible assumption) (by with_reducible assumption) (by with_reducible assumption)
  refine wpAny_call ?_
  k_dflt ktr_enter
  k_steps
  · rename OInv _ _ _ _ _ _ _ _ => hI
    have hB := hI.bounds hS
    refine' ret _ _ (hI.stop (by with_reducible assumption)) hB.1 hB.2.1 hB.2.2.1 _ _ _ _ _ _ _ _ ?zF ?zN ?za ?zb ?zc ?zd ?ze
    case zF => with_reducible assumption
    case zN => refine' cb_drop ?zh ?zs; (case zh => with_reducible assumption); (case zs => ktr_rel)
    case za => omega
    case zb => omega
    case zc => omega
    case zd => omega
    case ze => simp only [*]
  · rename OInv _ _ _ _ _ _ _ _ => hI
    have hB := hI.bounds hS
    refine' ret _ _ (hI.full (by omega)) hB.1 hB.2.1 hB.2.2.1 _ _ _ _ _ _ _ _ ?zF ?zN ?za ?zb ?zc ?zd ?ze
    case zF => with_reducible assumption
    case zN => refine' cb_drop ?zh ?zs; (case zh => with_reducible assumption); (case zs => ktr_rel)
    case za => omega
    case zb => omega
    case zc => omega
    case zd => omega
    case ze => simp only [*]
end
end Mine

local macro_rules | `(tactic| walk_at "pyIter ref") => `(tactic| (k_here; (with_reducible show wpAny _ _ _ (fun it s₂ => PairAt3 _ _ _ _ _ _ _ _ _ _ it s₂) _ _); (rename PairSrcL _ _ _ _ _ _ _ _ _ _ _ _ => hS9); k_dflt (refine' Mine.my_pair2 hS9 (a0 := Str.ofString "a") (r := [Str.ofString "b"]) ?hs (fun t' u' h' tk' own' off' F' N' mk' => ?_); (case hs => exact rfl)); (try simp only [List.cons_append] at N'); (try dsimp only); (try k_fold)))
local macro_rules | `(tactic| walk_at "PPost") => `(tactic| (k_dflt (refine' Mine.my_pnext ?F ?N ?K ?_; (case F => k_asm); (case N => k_asm); (case K => tb_rel)); first | (refine' Mine.my_prest1 (fun t' u' h' tk' own' off' F' N' mk' => ?_); (try simp only [List.cons_append] at N'); (try dsimp only); (try k_fold)) | (refine' Mine.my_prest0 (fun h' tk' F' N' => ?_); (try dsimp only); (try k_fold))))
local macro_rules | `(tactic| tb_rel) => `(tactic| first | exact Mine.Keep.base | (apply Mine.Keep.keep; tb_rel) | (apply Mine.Keep.drop; tb_rel))
local macro_rules | `(tactic| walk_at "eval ListComp") => `(tactic| (k_here; (with_reducible show wpAny _ _ (eval (Expr.ListComp (Expr.Call (Expr.Attribute (Expr.Name _ _) _ _) _ _ _) _ _ _) _) _ _ _); k_dflt (refine Mine.comp_str (_F₀ := by k_asm) (by with_unfolding_all rfl) (by decide) (by rfl) (by decide) (by rfl) ?_)))
local macro_rules | `(tactic| walk_at "CSrc") => `(tactic| (k_here; k_dflt (refine' Mine.csrc_map (Mine.swapSign (Str.ofString "a") (Str.ofString "0") (Str.ofString "b") (Str.ofString "1")) ?hh ?F ?N ?hz (fun c' u' I' oI' C' oC' D' m' ys' h' tk' E' hcm' hC' hx' F' N' off' ne' => ?_) (fun ys' D' h' tk' hys' F' N' o1' => ?_); (case hh => exact rfl); (case F => k_asm); (case N => k_asm); (case hz => size_fits)); all_goals ((try dsimp only); (try k_fold))))
local macro_rules | `(tactic| walk_at "call builtin:str.join") => `(tactic| (k_here; k_dflt (refine' Mine.my_join ?N ?hm ?hi ?hx ?hy ?hM (fun t' k' => ?_); (case N => k_asm); (case hm => k_mem); (case hi => with_reducible assumption); (case hx => decide +kernel); (case hy => decide +kernel); (case hM => omega)); (try dsimp only)))
local macro_rules | `(tactic| walk_at "CompEnd") => `(tactic| (k_dflt (refine' LCg.CompEnd.intro ?F ?N _ ?sub ?off trivial ⟨rfl, Mine.repl_val' ?ab ?xe ?ye ?v⟩; (case F => k_asm); (case N => k_asm); (case sub => ktr_rel); (case off => with_reducible assumption); (case v => with_reducible assumption); (case ab => decide +kernel); (case xe => decide +kernel); (case ye => decide +kernel))))
local macro_rules | `(tactic| walk_at "leaving") => `(tactic| (exfalso; (have hl9 : (Str.ofString "01").length = 2 := by decide +kernel); omega))

namespace Mine
section
variable {prog : Program} {w : World} {p : Program} {loose : List Str} {mean : ExcName → Option Value} {mg mb : Str → Option Value}
    {dp un : Nat} {gd : Option (List Code)} {cn : Str} {cs : Scope} {a : Addr} {ccd : Value} {cl : List (Str × Addr)} {outer : List Env} {A₀ : Around} {base h₀ : Heap} {L : Addr} {m : Str → Option Value} {s : Shared} {Q E : Value → Shared → Prop}
    {M : Str} {wd : Value} {tS t1 t2 : Tok} {c : Nat} {al : Addr} {rest : List (Addr × Obj)}
set_option pp.deepTerms false
set_option pp.deepTerms.threshold 4
set_option pp.maxSteps 3000
set_option maxRecDepth 100000 in
set_option maxHeartbeats 8000000 in
theorem c_repl
    (B : Below A₀ base outer h₀) (F : Fr h₀ L s.heap m) (X : (Mine.K w.params).In h₀)
    (N : News h₀ L s.heap ((al, W.listOf #[.str M tS, .str (Str.ofString "ab") t1, .str (Str.ofString "01") t2] c) :: rest))
    (TT : Top p loose mean mg mb h₀) (hk : cs.kind = .function)
    (hd : dp + 40 < recursionLimit) (hu : un + 500 < cLine) (hM : M.length ≤ 99)
    (ret : ∀ u h' tk', Fr h₀ L h' m → News h₀ L h' ((al, W.listOf #[.str M tS, .str (Str.ofString "ab") t1, .str (Str.ofString "01") t2] c) :: rest) → Q (.str (replStr (Str.ofString "a") (Str.ofString "0") (Str.ofString "b") (Str.ofString "1") M) u) { s with heap := h', toks := tk' }) :
    wpAny (model prog w) (ktrTop dp un gd cn cs L a ccd cl outer) (call (.ref 238) [wd, .ref al]) Q E s := by
  refine wpAny_call ?_
  k_dflt ktr_enter
  k_steps
  · refine' ret _ _ _ ?zF ?zN
    case zF => with_reducible assumption
    case zN => refine' cb_drop ?zh ?zs; (case zh => with_reducible assumption); (case zs => ktr_rel)
end
end Mine

local macro_rules | `(tactic| walk_at "subscriptTail Name BinOp str int") => `(tactic| ((with_reducible show wpAny _ _ (subscriptTail _ _ (Value.str _ _) (Value.int (Int.fmod _ _) _)) _ _ _); refine item_str_fmod (by omega) (by omega) (by omega) ?_; intro _))

namespace Mine
def isSign (R : Str) (i : Int) (c : Str) : Bool := Txt.item R i == c
def dueSign (R : Str) (i : Int) : Str :=
  if (isSign R i (Str.ofString "0") = true ∧ isSign R (i - 1) (Str.ofString "1") = true) ∨ (isSign R i (Str.ofString "1") = true ∧ isSign R (Int.fmod (i + 1) R.length) (Str.ofString "1") = true) then Str.ofString "1" else Str.ofString "0"
def dueUpTo (R : Str) : Nat → Str
  | 0 => Str.ofString ""
  | n + 1 => dueUpTo R n ++ dueSign R n
theorem due_len {R : Str} : ∀ n, (dueUpTo R n).length = n
  | 0 => by rw [dueUpTo]; decide +kernel
  | n + 1 => by
    have h1 : (Str.ofString "1").length = 1 := by decide +kernel
    have h0 : (Str.ofString "0").length = 1 := by decide +kernel
    rw [dueUpTo, Str.length_append, due_len n]
    unfold dueSign
    split <;> omega
theorem due_w1 {R : Str} {kN : Int} (h1 : (Txt.item R kN == Str.ofString "0") = true) (h2 : (Txt.item R (kN - 1) == Str.ofString "1") = true) : Str.ofString "1" = dueSign R kN := by
  unfold dueSign isSign
  simp only [h1, h2]
  simp
theorem due_w2 {R : Str} {kN : Int} (h1 : (Txt.item R kN == Str.ofString "0") = true) (h2 : (Txt.item R (kN - 1) == Str.ofString "1") = false) (h3 : (Txt.item R kN == Str.ofString "1") = true) (h4 : (Txt.item R (Int.fmod (kN + 1) (R.length : Int)) == Str.ofString "1") = true) : Str.ofString "1" = dueSign R kN := by
  unfold dueSign isSign
  simp only [h1, h2, h3, h4]
  simp
theorem due_w3 {R : Str} {kN : Int} (h1 : (Txt.item R kN == Str.ofString "0") = true) (h2 : (Txt.item R (kN - 1) == Str.ofString "1") = false) (h3 : (Txt.item R kN == Str.ofString "1") = true) (h4 : (Txt.item R (Int.fmod (kN + 1) (R.length : Int)) == Str.ofString "1") = false) : Str.ofString "0" = dueSign R kN := by
  unfold dueSign isSign
  simp only [h1, h2, h3, h4]
  simp
theorem due_w4 {R : Str} {kN : Int} (h1 : (Txt.item R kN == Str.ofString "0") = true) (h2 : (Txt.item R (kN - 1) == Str.ofString "1") = false) (h3 : (Txt.item R kN == Str.ofString "1") = false) : Str.ofString "0" = dueSign R kN := by
  unfold dueSign isSign
  simp only [h1, h2, h3]
  simp
theorem due_w5 {R : Str} {kN : Int} (h1 : (Txt.item R kN == Str.ofString "0") = false) (h2 : (Txt.item R kN == Str.ofString "1") = true) (h3 : (Txt.item R (Int.fmod (kN + 1) (R.length : Int)) == Str.ofString "1") = true) : Str.ofString "1" = dueSign R kN := by
  unfold dueSign isSign
  simp only [h1, h2, h3]
  simp
theorem due_w6 {R : Str} {kN : Int} (h1 : (Txt.item R kN == Str.ofString "0") = false) (h2 : (Txt.item R kN == Str.ofString "1") = true) (h3 : (Txt.item R (Int.fmod (kN + 1) (R.length : Int)) == Str.ofString "1") = false) : Str.ofString "0" = dueSign R kN := by
  unfold dueSign isSign
  simp only [h1, h2, h3]
  simp
theorem due_w7 {R : Str} {kN : Int} (h1 : (Txt.item R kN == Str.ofString "0") = false) (h2 : (Txt.item R kN == Str.ofString "1") = false) : Str.ofString "0" = dueSign R kN := by
  unfold dueSign isSign
  simp only [h1, h2]
  simp
theorem due_next {R due c : Str} {kN : Int} {pre : List Int} (h1 : due = dueUpTo R pre.length) (e : kN = 0 + (pre.length : Int)) (hc : c = dueSign R kN) :
    due ++ c = dueUpTo R (pre ++ [kN]).length ∧ (due ++ c).length = (pre ++ [kN]).length := by
  have e' : kN = (pre.length : Int) := by omega
  have : due ++ c = dueUpTo R (pre ++ [kN]).length := by
    rw [List.length_append, List.length_singleton, dueUpTo, h1, hc, e']
  exact ⟨this, by rw [this, due_len]⟩
section
variable {prog : Program} {w : World} {p : Program} {loose : List Str} {mean : ExcName → Option Value} {mg mb : Str → Option Value}
    {dp un : Nat} {gd : Option (List Code)} {cn : Str} {cs : Scope} {a : Addr} {ccd : Value} {cl : List (Str × Addr)} {outer : List Env} {A₀ : Around} {base h₀ : Heap} {L : Addr} {m : Str → Option Value} {s : Shared} {Q E : Value → Shared → Prop}
    {R : Str} {tS : Tok} {rest : List (Addr × Obj)}
set_option pp.deepTerms false
set_option pp.deepTerms.threshold 8
set_option pp.maxSteps 3000
set_option maxRecDepth 100000 in
set_option maxHeartbeats 8000000 in
theorem c_due
    (B : Below A₀ base outer h₀) (F : Fr h₀ L s.heap m) (X : (Mine.K w.params).In h₀)
    (N : News h₀ L s.heap rest)
    (TT : Top p loose mean mg mb h₀) (hk : cs.kind = .function)
    (hd : dp + 40 < recursionLimit) (hu : un + 500 < cLine) (h1 : 1 ≤ R.length) (hR : R.length ≤ 99)
    (ret : ∀ u h' tk', Fr h₀ L h' m → News h₀ L h' rest → Q (.str (dueUpTo R R.length) u) { s with heap := h', toks := tk' }) :
    wpAny (model prog w) (ktrTop dp un gd cn cs L a ccd cl outer) (call (.ref 473) [.str R tS]) Q E s := by
  refine wpAny_call ?_
  k_dflt ktr_enter
  k_with "state" => first | exact ⟨rfl, by decide +kernel⟩ | exact due_next (by with_reducible assumption) (by with_reducible assumption) (by first | exact due_w1 (by with_reducible assumption) (by with_reducible assumption) | exact due_w2 (by with_reducible assumption) (by with_reducible assumption) (by with_reducible assumption) (by with_reducible assumption) | exact due_w3 (by with_reducible assumption) (by with_reducible assumption) (by with_reducible assumption) (by with_reducible assumption) | exact due_w4 (by with_reducible assumption) (by with_reducible assumption) (by with_reducible assumption) | exact due_w5 (by with_reducible assumption) (by with_reducible assumption) (by with_reducible assumption) | exact due_w6 (by with_reducible assumption) (by with_reducible assumption) (by with_reducible assumption) | exact due_w7 (by with_reducible assumption) (by with_reducible assumption))
  iterate 30 (first | ((with_reducible show wpAny _ _ (pyIter (Value.ref _)) _ _ _)) | (k_unfold; (try dsimp only)) | (k_end; wrow_close) | walk1 | (dsimp only; walk1))
  k_state (fun pre due => due = dueUpTo R pre.length ∧ due.length = pre.length) "due"
  all_goals k_steps
  · rename _ = dueUpTo R _ => hD
    rw [rangeKs_length, show ((R.length : Int) - 0).toNat = R.length by omega] at hD
    rw [hD]
    exact ret _ _ _ (by with_reducible assumption) (by with_reducible assumption)
end
end Mine

namespace Mine
theorem two_cells {vs : List Value} {f : Int → Int} {xs : List Int} {a b : Int} (h : IntsAre vs ((xs.take 2).map f ++ [a, b].drop ((((xs.take 2).length : Nat) : Int).toNat))) : ∃ c0 c1 t0 t1, vs = [.int c0 t0, .int c1 t1] := by
  have key : ∀ {x y : Int}, IntsAre vs [x, y] → ∃ c0 c1 t0 t1, vs = [.int c0 t0, .int c1 t1] := by
    intro x y q
    obtain ⟨t, vs', rfl, q1⟩ := q.cons_inv
    obtain ⟨u, vs'', rfl, q2⟩ := q1.cons_inv
    obtain rfl := q2.nil_inv
    exact ⟨_, _, _, _, rfl⟩
  rcases xs with _ | ⟨x, _ | ⟨y, r⟩⟩
  · exact key h
  · exact key h
  · exact key h
section
variable {prog : Program} {w : World} {A : Around} {E : Value → Shared → Prop} {s : Shared}
theorem store_size {env : Env} {y : Str} {x : Int} {t : Tok} {Q : Unit → Shared → Prop}
    (h : ∀ n : Int, 2 ≤ n → n ≤ 7 → wpAny (model prog w) A (storeName env y (.int n t)) Q E s) : wpAny (model prog w) A (storeName env y (.int (2 + Int.fmod x 6) t)) Q E s := by
  have h0 := fmod_lo x (n := 6) (by decide)
  have h1 := fmod_hi x (n := 6) (by decide)
  exact h _ (by omega) (by omega)
theorem turn_hi {k n : Int} (hk : k < 0 + (((n - 0).toNat : Nat) : Int)) (hn : n ≤ 7) : k ≤ 6 := by omega
theorem pow_turn {k n : Int} {t u : Tok} {Q : Value → Shared → Prop} (h0 : 0 ≤ k) (hk : k < 0 + (((n - 0).toNat : Nat) : Int)) (hn : n ≤ 7) (h : k ≤ 6 → Q (.int (2 ^ k.toNat) s.toks) { s with toks := s.toks + 1 }) :
    wpAny (model prog w) A (binaryOp .Pow (.int 2 t) (.int k u)) Q E s := by
  have q := turn_hi hk hn
  exact pow_int_small h0 (by omega) (by decide) (h q)
theorem div_turn {a k : Int} {t u : Tok} {Q : Value → Shared → Prop} (h6 : k ≤ 6) (h : Q (.int (a.fdiv (2 ^ k.toNat)) s.toks) { s with toks := s.toks + 1 }) :
    wpAny (model prog w) A (binaryOp .FloorDiv (.int a t) (.int (2 ^ k.toNat) u)) Q E s :=
  floordiv_int (Int.ne_of_gt (pow_pos_of (by decide) _)) h (Or.inl (PyProof.noPylong_of_log2 (kbt_py (by omega))))
end
end Mine

namespace Mine
section
variable {prog : Program} {w : World} {p : Program} {loose : List Str} {mean : ExcName → Option Value} {mg mb : Str → Option Value}
    {dp un : Nat} {gd : Option (List Code)} {cn : Str} {cs : Scope} {a : Addr} {ccd : Value} {cl : List (Str × Addr)} {outer : List Env} {A₀ : Around} {base h₀ : Heap} {L : Addr} {m : Str → Option Value} {s : Shared} {Q E : Value → Shared → Prop}
    {rest : List (Addr × Obj)}
set_option pp.deepTerms false
set_option pp.deepTerms.threshold 4
set_option pp.maxSteps 3000
set_option maxRecDepth 100000 in
set_option maxHeartbeats 8000000 in
theorem c_world
    (B : Below A₀ base outer h₀) (F : Fr h₀ L s.heap m) (X : (Mine.K w.params).In h₀)
    (N : News h₀ L s.heap rest)
    (TT : Top p loose mean mg mb h₀) (hk : cs.kind = .function)
    (hd : dp + 40 < recursionLimit) (hu : un + 500 < cLine)
    (ret : ∀ x h' tk', Fr h₀ L h' m → News h₀ L h' rest → Q (.ref x) { s with heap := h', toks := tk' }) :
    wpAny (model prog w) (ktrTop dp un gd cn cs L a ccd cl outer) (call (.ref 462) []) Q E s := by
  k_dflt (refine' call_cls ?k1 ?k2 ?k3 ?k4 ?k5 ?k6 ?_; (case k1 => k_asm); (case k2 => k_asm); (case k3 => k_asm); (case k4 => k_is); (case k5 => k_is); (case k6 => k_is); k_whole; intro x' d' h' F' N' l1 l2; (try k_lt l1); (try k_lt2 l2); (try k_sweep))
  k_dflt (refine' code_def ?k1 ?k2 ?k3 ?k4 ?k5 ?kA ?kF ?kK ?k6 ?k7 ?k8 ?k9 ?kB ?_ ?c2 ?c3 ?c4 ?c5; (case kA => exact rfl); (case kF => exact rfl); (case kK => assumption); (case k1 => k_asm); (case k2 => k_asm); (case k3 => k_asm); (case k4 => k_asm); (case k5 => k_asm); (case k6 => k_is); (case k7 => k_is); (case k8 => k_room); (case k9 => exact binds_K (by k_in) rfl (by k_is) rfl rfl rfl); (case c5 => decide); (case kB => exact locs rfl); (case c2 => exact rfl); (case c3 => exact rfl); (case c4 => exact rfl); k_whole; intro g' L' h' FG' F' N' B' X' T'; (try dsimp only); (try k_fold))
  k_steps
  · refine' ret _ _ _ ?zF ?zN
    case zF => with_reducible assumption
    case zN => refine' cb_drop ?zh ?zs; (case zh => with_reducible assumption); (case zs => ktr_rel)
end
end Mine

namespace Mine
section
variable {prog : Program} {w : World} {p : Program} {loose : List Str} {mean : ExcName → Option Value} {mg mb : Str → Option Value}
    {dp un : Nat} {gd : Option (List Code)} {cn : Str} {cs : Scope} {a : Addr} {ccd : Value} {cl : List (Str × Addr)} {outer : List Env} {A₀ : Around} {base h₀ : Heap} {L : Addr} {m : Str → Option Value} {s : Shared} {Q E : Value → Shared → Prop}
    {rest : List (Addr × Obj)} {vA rA : Addr} {tl : Tok}
set_option pp.deepTerms false
set_option pp.deepTerms.threshold 4
set_option pp.maxSteps 3000
set_option maxRecDepth 100000 in
set_option maxHeartbeats 8000000 in
theorem c_host
    (B : Below A₀ base outer h₀) (F : Fr h₀ L s.heap m) (X : (Mine.K w.params).In h₀)
    (N : News h₀ L s.heap rest)
    (TT : Top p loose mean mg mb h₀) (hk : cs.kind = .function)
    (hd : dp + 40 < recursionLimit) (_hu : un + 500 < cLine)
    (ret : ∀ x dx gA hv hl hr hw hs hg kv kl kr kw ks kg tw ts h' tk', Fr h₀ L h' m → News h₀ L h' ((dx, dictOf (hostEs hv hl hr hw hs hg kv kl kr kw ks kg vA rA gA tl tw ts 0) 6) :: (x, instObj 215 dx) :: rest) →
      (∀ p ∈ rest, p.1 < dx) → @LT.lt Nat _ dx x → Q (.ref x) { s with heap := h', toks := tk' }) :
    wpAny (model prog w) (ktrTop dp un gd cn cs L a ccd cl outer) (call (.ref 215) [.ref vA, .int 9999 tl, .ref rA]) Q E s := by
  k_dflt (refine' call_cls ?k1 ?k2 ?k3 ?k4 ?k5 ?k6 ?_; (case k1 => k_asm); (case k2 => k_asm); (case k3 => k_asm); (case k4 => k_is); (case k5 => k_is); (case k6 => k_is); k_whole; intro x' d' h' F' N' l1 l2; (try k_lt l1); (try k_lt2 l2); (try k_sweep))
  k_dflt (refine' code_def ?k1 ?k2 ?k3 ?k4 ?k5 ?kA ?kF ?kK ?k6 ?k7 ?k8 ?k9 ?kB ?_ ?c2 ?c3 ?c4 ?c5; (case kA => exact rfl); (case kF => exact rfl); (case kK => assumption); (case k1 => k_asm); (case k2 => k_asm); (case k3 => k_asm); (case k4 => k_asm); (case k5 => k_asm); (case k6 => k_is); (case k7 => k_is); (case k8 => k_room); (case k9 => exact BindsTo.of_eq rfl); (case c5 => decide); (case kB => exact locs rfl); (case c2 => exact rfl); (case c3 => exact rfl); (case c4 => exact rfl); k_whole; intro g' L' h' FG' F' N' B' X' T'; (try dsimp only); (try k_fold))
  k_steps
  · refine' ret _ _ _ _ _ _ _ _ _ _ _ _ _ _ _ _ _ _ _ ?zF ?zN ?za ?zb
    case zF => with_reducible assumption
    case zN => refine' cb_drop ?zh ?zs; (case zh => with_reducible assumption); (case zs => ktr_rel)
    case za => assumption
    case zb => assumption
end
end Mine

namespace Mine
def bitsL (bs : List Bool) : List Nat := bs.map fun b => if b then 49 else 48
def allBits : Nat → List (List Bool)
  | 0 => [[]]
  | n + 1 => (allBits n).flatMap fun r => [true :: r, false :: r]
theorem mem_allBits : ∀ bs : List Bool, bs ∈ allBits bs.length
  | [] => List.mem_singleton.mpr rfl
  | b :: r => by
    rw [List.length_cons, allBits, List.mem_flatMap]
    exact ⟨r, mem_allBits r, by cases b <;> simp⟩
def rot (R : Str) : Str := if isSign R (-1) (Str.ofString "1") = true ∧ isSign R 0 (Str.ofString "0") = true then Txt.item R (-1) ++ Txt.slice R none (some (-1)) else R
def mv (n : Nat) (R : Str) : Str × Nat := often (Str.ofString "10") (Str.ofString "ab") n (rot R)
def nxt (n : Nat) (R : Str) : Str := replStr (Str.ofString "a") (Str.ofString "0") (Str.ofString "b") (Str.ofString "1") (mv n R).1
/-- the same on lists -/
def rotL (l : List Nat) : List Nat := if l.getD (l.length - 1) 0 = 49 ∧ l.getD 0 0 = 48 then 49 :: l.take (l.length - 1) else l
def mvL (n : Nat) (l : List Nat) : List Nat × Nat := oftenL [49, 48] [97, 98] n (rotL l)
def nxtL (n : Nat) (l : List Nat) : List Nat := (mvL n l).1.map fun c => if c = 97 then 48 else if c = 98 then 49 else c
def dueSignL (l : List Nat) (i : Nat) : Nat :=
  if (l.getD i 0 = 48 ∧ l.getD ((i + l.length - 1) % l.length) 0 = 49) ∨ (l.getD i 0 = 49 ∧ l.getD ((i + 1) % l.length) 0 = 49) then 49 else 48
def dueL (l : List Nat) : List Nat := (List.range l.length).map (dueSignL l)
def cntL (l : List Nat) : Nat := (l.filter (· == 49)).length
def turnL (n : Nat) (cars : Nat) (before : Nat) (l : List Nat) : Bool :=
  (nxtL n l == dueL (rotL l)) && (cntL (nxtL n l) == cars) && Nat.ble before (mvL n l).2 && ((rotL l).length == n) && ((nxtL n l).length == n)
def runL (cars : Nat) (n : Nat) : Nat → Nat → List Nat → Bool
  | 0, before, _ => before == min cars (n - cars)
  | k + 1, before, l => turnL n cars before l && runL cars n k (mvL n l).2 (nxtL n l)
def startL (n : Nat) (l : List Nat) : Bool := Nat.ble (cntL l) n && runL (cntL l) n (n / 2 + 1) 0 l
def allOK (n : Nat) : Bool := (allBits n).all fun bs => startL n (bitsL bs)
set_option maxRecDepth 100000 in
theorem ok2 : allOK 2 = true := by decide +kernel
set_option maxRecDepth 100000 in
theorem ok3 : allOK 3 = true := by decide +kernel
set_option maxRecDepth 100000 in
theorem ok4 : allOK 4 = true := by decide +kernel
set_option maxRecDepth 100000 in
theorem ok5 : allOK 5 = true := by decide +kernel
set_option maxRecDepth 100000 in
theorem ok6 : allOK 6 = true := by decide +kernel
set_option maxRecDepth 100000 in
theorem ok7 : allOK 7 = true := by decide +kernel
theorem start_ok {n : Int} {bs : List Bool} (h2 : 2 ≤ n) (h7 : n ≤ 7) (hb : bs.length = n.toNat) : startL n.toNat (bitsL bs) = true := by
  have key : ∀ k : Nat, allOK k = true → bs.length = k → startL k (bitsL bs) = true := by
    intro k hk e
    have := List.all_eq_true.mp hk bs (by rw [← e]; exact mem_allBits bs)
    exact this
  have hh : n = 2 ∨ n = 3 ∨ n = 4 ∨ n = 5 ∨ n = 6 ∨ n = 7 := by omega
  rcases hh with rfl | rfl | rfl | rfl | rfl | rfl
  · exact key 2 ok2 hb
  · exact key 3 ok3 hb
  · exact key 4 ok4 hb
  · exact key 5 ok5 hb
  · exact key 6 ok6 hb
  · exact key 7 ok7 hb
theorem e0 : Str.ofString "0" = mk [48] := by decide +kernel
theorem e1 : Str.ofString "1" = mk [49] := by decide +kernel
theorem ea : Str.ofString "a" = mk [97] := by decide +kernel
theorem eb : Str.ofString "b" = mk [98] := by decide +kernel
theorem e10 : Str.ofString "10" = mk [49, 48] := by decide +kernel
theorem eab : Str.ofString "ab" = mk [97, 98] := by decide +kernel
theorem rot_list (l : List Nat) (h : 1 ≤ l.length) : rot (mk l) = mk (rotL l) := by
  have hl : (mk l).length = l.length := rfl
  have i0 := item_nat l 0 (by omega)
  unfold rot rotL isSign
  rw [item_last l h, show (0 : Int) = ((0 : Nat) : Int) from rfl, i0, e0, e1, mk1_beq, mk1_beq, slice_butlast _ (by rw [hl]; exact h), app_mk, hl, tk_mk]
  by_cases q : l.getD (l.length - 1) 0 = 49 ∧ l.getD 0 0 = 48
  · rw [if_pos (by simpa using q), if_pos q, q.1]; rfl
  · rw [if_neg (by simpa using q), if_neg q]
theorem dueSign_list (l : List Nat) (i : Nat) (h : i < l.length) : dueSign (mk l) (i : Int) = mk [dueSignL l i] := by
  have hl : (mk l).length = l.length := rfl
  have ea : Txt.item (mk l) ((i : Int) - 1) = mk [l.getD ((i + l.length - 1) % l.length) 0] := by
    by_cases hi : i = 0
    · subst hi
      rw [show ((0 : Nat) : Int) - 1 = -1 from rfl, item_last l (by omega), show 0 + l.length - 1 = l.length - 1 by omega, Nat.mod_eq_of_lt (show l.length - 1 < l.length by omega)]
    · have e : (i + l.length - 1) % l.length = i - 1 := by
        rw [show i + l.length - 1 = (i - 1) + l.length by omega, Nat.add_mod_right, Nat.mod_eq_of_lt (by omega)]
      rw [show (i : Int) - 1 = ((i - 1 : Nat) : Int) by omega, item_nat l (i - 1) (by omega), e]
  have eb : Txt.item (mk l) (Int.fmod ((i : Int) + 1) ((mk l).length : Int)) = mk [l.getD ((i + 1) % l.length) 0] := by
    rw [hl, Int.fmod_eq_emod_of_nonneg _ (by omega), show (i : Int) + 1 = ((i + 1 : Nat) : Int) by omega, ← Int.natCast_emod]
    exact item_nat l _ (Nat.mod_lt _ (by omega))
  unfold dueSign isSign dueSignL
  rw [ea, eb, item_nat l i h, e0, e1, mk1_beq, mk1_beq, mk1_beq, mk1_beq]
  by_cases q : (l.getD i 0 = 48 ∧ l.getD ((i + l.length - 1) % l.length) 0 = 49) ∨ (l.getD i 0 = 49 ∧ l.getD ((i + 1) % l.length) 0 = 49)
  · rw [if_pos (by simpa using q), if_pos q]
  · rw [if_neg (by simpa using q), if_neg q]
theorem dueUp_list (l : List Nat) : ∀ n, n ≤ l.length → dueUpTo (mk l) n = mk ((List.range n).map (dueSignL l))
  | 0, _ => by rw [dueUpTo]; exact (by decide +kernel : Str.ofString "" = mk [])
  | n + 1, h => by
    rw [dueUpTo, dueUp_list l n (by omega), dueSign_list l n (by omega), app_mk, List.range_succ, List.map_append]
    rfl
theorem due_list (l : List Nat) : dueUpTo (mk l) (mk l).length = mk (dueL l) := dueUp_list l _ (Nat.le_refl _)
theorem mv_list (n : Nat) (l : List Nat) (h : 1 ≤ l.length) : mv n (mk l) = (mk (mvL n l).1, (mvL n l).2) := by
  unfold mv mvL
  rw [rot_list l h, often_list, e10, eab]
theorem nxt_list (n : Nat) (l : List Nat) (h : 1 ≤ l.length) : nxt n (mk l) = mk (nxtL n l) := by
  unfold nxt nxtL
  rw [mv_list n l h, ea, eb, e0, e1, repl_list]
theorem cnt_list (l : List Nat) : Txt.count (mk l) (Str.ofString "1") = (cntL l : Int) := by
  rw [e1]
  refine (count_is (mk l) 49).trans ?_
  show _root_.PyProof.Rows.cnt 49 l = _
  induction l with
  | nil => rfl
  | cons x r ih =>
    rw [cnt_cons, ih]
    unfold cntL
    by_cases h : x = 49
    · subst h; simp; omega
    · simp [h]
theorem join_bits {g : Int → Str} : ∀ (l : List Int), (∀ a ∈ l, ∃ b : Bool, g a = mk [if b then 49 else 48]) → ∃ bs : List Bool, bs.length = l.length ∧ Txt.join (Str.ofString "") (l.map g) = mk (bitsL bs)
  | [], _ => ⟨[], rfl, by rw [List.map_nil]; decide +kernel⟩
  | a :: r, h => by
    obtain ⟨bs, q1, q2⟩ := join_bits r fun x hx => h x (.tail _ hx)
    obtain ⟨b, hb⟩ := h a (.head _)
    refine ⟨b :: bs, by rw [List.length_cons, List.length_cons, q1], ?_⟩
    have e0 : Str.ofString "" = (⟨#[]⟩ : Str) := by decide +kernel
    have j : ∀ l : List Str, Txt.join (Str.ofString "") l = Str.join ⟨#[]⟩ l := fun l => by rw [e0]; exact StrLaws.glued_eq_join _ _
    rw [j] at q2 ⊢
    rw [List.map_cons, join_nil_cons, q2, hb, app_mk]
    rfl
theorem bit01 (x : Int) : ∃ b : Bool, Txt.item (Str.ofString "01") (Int.fmod x 2) = mk [if b then 49 else 48] := by
  have h0 := fmod_lo x (n := 2) (by decide)
  have h1 := fmod_hi x (n := 2) (by decide)
  have : Int.fmod x 2 = 0 ∨ Int.fmod x 2 = 1 := by omega
  rcases this with e | e
  · rw [e]; exact ⟨false, by decide +kernel⟩
  · rw [e]; exact ⟨true, by decide +kernel⟩
theorem ring_bits {n c : Int} (hn : n ≤ 7) : ∃ bs : List Bool, bs.length = n.toNat ∧ Txt.join (Str.ofString "") ((rangeKs 0 (n - 0).toNat).map fun a => if a ≤ 6 ∧ (Txt.item (Str.ofString "01") ((c.fdiv (2 ^ a.toNat)).fmod 2)).length = 1 then Txt.item (Str.ofString "01") ((c.fdiv (2 ^ a.toNat)).fmod 2) else Str.empty) = mk (bitsL bs) := by
  obtain ⟨bs, q1, q2⟩ := join_bits (g := fun a : Int => if a ≤ 6 ∧ (Txt.item (Str.ofString "01") ((c.fdiv (2 ^ a.toNat)).fmod 2)).length = 1 then Txt.item (Str.ofString "01") ((c.fdiv (2 ^ a.toNat)).fmod 2) else Str.empty) (rangeKs 0 (n - 0).toNat) (fun a ha => by
    have hm := mem_rangeKs ha
    have h1 : (Txt.item (Str.ofString "01") ((c.fdiv (2 ^ a.toNat)).fmod 2)).length = 1 := rfl
    rw [if_pos ⟨by omega, h1⟩]
    exact bit01 _)
  exact ⟨bs, by rw [q1, rangeKs_length]; omega, q2⟩
theorem store_ring {prog : Program} {w : World} {A : Around} {E : Value → Shared → Prop} {s : Shared} {env : Env} {y : Str} {n c : Int} {t : Tok} {Q : Unit → Shared → Prop} (hn : n ≤ 7)
    (h : ∀ bs : List Bool, bs.length = n.toNat → wpAny (model prog w) A (storeName env y (.str (mk (bitsL bs)) t)) Q E s) :
    wpAny (model prog w) A (storeName env y (.str (Txt.join (Str.ofString "") ((rangeKs 0 (n - 0).toNat).map fun a => if a ≤ 6 ∧ (Txt.item (Str.ofString "01") ((c.fdiv (2 ^ a.toNat)).fmod 2)).length = 1 then Txt.item (Str.ofString "01") ((c.fdiv (2 ^ a.toNat)).fmod 2) else Str.empty)) t)) Q E s := by
  obtain ⟨bs, hb, e⟩ := ring_bits (n := n) (c := c) hn
  rw [e]
  exact h bs hb
def LInv (n cars : Int) (j : Nat) (R : Str) (b : Int) : Prop :=
  2 ≤ n ∧ n ≤ 7 ∧ 0 ≤ b ∧ 0 ≤ cars ∧ cars ≤ n ∧ ∃ l : List Nat, R = mk l ∧ (l.length : Int) = n ∧ runL cars.toNat n.toNat (n.toNat / 2 + 1 - j) b.toNat l = true
theorem LInv.start {n : Int} {bs : List Bool} (h2 : 2 ≤ n) (h7 : n ≤ 7) (hb : bs.length = n.toNat) : LInv n (Txt.count (mk (bitsL bs)) (Str.ofString "1")) 0 (mk (bitsL bs)) 0 := by
  have q := start_ok h2 h7 hb
  unfold startL at q
  rw [Bool.and_eq_true, Nat.ble_eq] at q
  have hc := cnt_list (bitsL bs)
  refine ⟨h2, h7, by decide, by omega, by omega, bitsL bs, rfl, by unfold bitsL; rw [List.length_map]; omega, ?_⟩
  rw [hc]
  exact q.2
theorem LInv.len {n cars b : Int} {j : Nat} {R : Str} (I : LInv n cars j R b) : (R.length : Int) = n ∧ 2 ≤ n ∧ n ≤ 7 := by
  obtain ⟨h2, h7, _, _, _, l, rfl, hl, _⟩ := I
  exact ⟨hl, h2, h7⟩
theorem LInv.rlen {n cars b : Int} {j : Nat} {R : Str} (I : LInv n cars j R b) : ((rot R).length : Int) = n := by
  obtain ⟨h2, h7, _, _, _, l, rfl, hl, _⟩ := I
  rw [rot_list l (by omega)]
  show ((rotL l).length : Int) = n
  unfold rotL
  split
  · rw [List.length_cons, List.length_take]; omega
  · exact hl
structure Turn (n cars b : Int) (k : Nat) (RR M : Str) (j : Int) : Prop where
  due : replStr (Str.ofString "a") (Str.ofString "0") (Str.ofString "b") (Str.ofString "1") M = dueUpTo RR RR.length
  cnt : Txt.count (dueUpTo RR RR.length) (Str.ofString "1") = cars
  more : b ≤ j
  inv : LInv n cars (k + 1) (dueUpTo RR RR.length) j
theorem LInv.turn {n cars b j : Int} {k : Nat} {R RR M : Str} (I : LInv n cars k R b) (hk : k < (Int.fdiv n 2 + 1 - 0).toNat) (hR : RR = rot R) (ho : often (Str.ofString "10") (Str.ofString "ab") n.toNat RR = (M, j.toNat)) (hj : 0 ≤ j) :
    Turn n cars b k RR M j := by
  obtain ⟨h2, h7, hb, hc0, hc1, l, rfl, hl, hr⟩ := I
  rw [Int.fdiv_eq_ediv_of_nonneg _ (by decide)] at hk
  have h1 : 1 ≤ l.length := by omega
  subst hR
  rw [show n.toNat / 2 + 1 - k = (n.toNat / 2 + 1 - (k + 1)) + 1 by omega, runL] at hr
  simp only [turnL, Bool.and_eq_true, beq_iff_eq, Nat.ble_eq] at hr
  obtain ⟨⟨⟨⟨⟨a1, a2⟩, a3⟩, a4⟩, a5⟩, a6⟩ := hr
  have hm : (mk (mvL n.toNat l).1, (mvL n.toNat l).2) = (M, j.toNat) := (mv_list n.toNat l h1).symm.trans ho
  have hM : mk (mvL n.toNat l).1 = M := congrArg Prod.fst hm
  have hj' : (mvL n.toNat l).2 = j.toNat := congrArg Prod.snd hm
  have hd : dueUpTo (rot (mk l)) (rot (mk l)).length = mk (nxtL n.toNat l) := by rw [rot_list l h1, due_list, a1]
  rw [hj'] at a3 a6
  refine ⟨?_, ?_, by omega, h2, h7, hj, hc0, hc1, nxtL n.toNat l, hd, by omega, a6⟩
  · rw [hd, ← hM, ea, eb, e0, e1, repl_list, tk_mk]
    rfl
  · rw [hd, cnt_list, a2]; omega
theorem rot_t {R : Str} (h1 : (Txt.item R (-1) == Str.ofString "1") = true) (h2 : (Txt.item R 0 == Str.ofString "0") = true) : Txt.item R (-1) ++ Txt.slice R none (some (-1)) = rot R := by
  unfold rot isSign
  rw [if_pos ⟨h1, h2⟩]
theorem rot_f1 {R : Str} (h1 : (Txt.item R (-1) == Str.ofString "1") = false) : R = rot R := by
  unfold rot isSign
  rw [if_neg (fun q => by rw [h1] at q; exact absurd q.1 (by decide))]
theorem rot_f2 {R : Str} (h2 : (Txt.item R 0 == Str.ofString "0") = false) : R = rot R := by
  unfold rot isSign
  rw [if_neg (fun q => by rw [h2] at q; exact absurd q.2 (by decide))]
section
variable {prog : Program} {w : World} {A : Around} {E : Value → Shared → Prop} {s : Shared} {env : Env} {y : Str} {n cars b j : Int} {k : Nat} {R RR M : Str} {t : Tok} {Q : Unit → Shared → Prop}
theorem store_rot (h1 : (Txt.item R (-1) == Str.ofString "1") = true) (h2 : (Txt.item R 0 == Str.ofString "0") = true)
    (h : ∀ RR : Str, RR = rot R → wpAny (model prog w) A (storeName env y (.str RR t)) Q E s) : wpAny (model prog w) A (storeName env y (.str (Txt.item R (-1) ++ Txt.slice R none (some (-1))) t)) Q E s := by
  rw [rot_t h1 h2]
  exact h _ rfl
theorem store_turn (I : LInv n cars k R b) (hk : k < (Int.fdiv n 2 + 1 - 0).toNat) (hR : RR = rot R) (ho : often (Str.ofString "10") (Str.ofString "ab") n.toNat RR = (M, j.toNat)) (hj : 0 ≤ j)
    (h : Turn n cars b k RR M j → wpAny (model prog w) A (storeName env y (.str (dueUpTo RR RR.length) t)) Q E s) :
    wpAny (model prog w) A (storeName env y (.str (replStr (Str.ofString "a") (Str.ofString "0") (Str.ofString "b") (Str.ofString "1") M) t)) Q E s := by
  have T := I.turn hk hR ho hj
  rw [T.due]
  exact h T
end
theorem LInv.done {n cars b : Int} {R : Str} (I : LInv n cars (Int.fdiv n 2 + 1 - 0).toNat R b) : b = if n - cars < cars then n - cars else cars := by
  obtain ⟨h2, h7, hb, hc0, hc1, l, rfl, hl, hr⟩ := I
  rw [Int.fdiv_eq_ediv_of_nonneg _ (by decide)] at hr
  rw [show n.toNat / 2 + 1 - (n / 2 + 1 - 0).toNat = 0 by omega, runL, beq_iff_eq] at hr
  split <;> omega
theorem LInv.lenR {n cars b : Int} {k : Nat} {R RR : Str} (I : LInv n cars k R b) (hR : RR = rot R) : 1 ≤ RR.length ∧ RR.length ≤ 7 := by
  have q := I.rlen
  have q2 := I.len
  subst hR
  omega
section
variable {prog : Program} {w : World} {A : Around} {E : Value → Shared → Prop} {s : Shared} {value slice : Expr} {n cars b : Int} {k : Nat} {R : Str} {t u : Tok} {Q : Value → Shared → Prop}
theorem item_m1 (I : LInv n cars k R b) (h : R.length ≤ 7 → Q (.str (Txt.item R (-1)) s.toks) { s with toks := s.toks + 1 })
    (hs : subscripted slice false (.str R t) (.int (-1) u) = operate [.str R t, .int (-1) u] (getItem (.str R t) (.int (-1) u)))
    (ht : ∀ r, letTemporaryGo value (.str R t) r = pure ()) :
    wpAny (model prog w) A (subscriptTail value slice (.str R t) (.int (-1) u)) Q E s := by
  have q := I.len
  exact item_str (by decide) (by omega) (by omega) (fun _ => h (by omega)) hs ht
theorem item_z (I : LInv n cars k R b) (h : R.length ≤ 7 → Q (.str (Txt.item R 0) s.toks) { s with toks := s.toks + 1 })
    (hs : subscripted slice false (.str R t) (.int 0 u) = operate [.str R t, .int 0 u] (getItem (.str R t) (.int 0 u)))
    (ht : ∀ r, letTemporaryGo value (.str R t) r = pure ()) :
    wpAny (model prog w) A (subscriptTail value slice (.str R t) (.int 0 u)) Q E s := by
  have q := I.len
  exact item_str (by decide) (by omega) (by omega) (fun _ => h (by omega)) hs ht
theorem cmp_done (I : LInv n cars (Int.fdiv n 2 + 1 - 0).toNat R b) (h : Q (.bool true) s) :
    wpAny (model prog w) A (compareOp .Eq (.int b t) (.int (if n - cars < cars then n - cars else cars) u)) Q E s := by
  have e := I.done
  refine eq_int ?_
  rw [← e, beq_self_eq_true]
  exact h
theorem ne_same {x : Str} {t u : Tok} {Q : Value → Shared → Prop} (h : Q (.bool false) s) : wpAny (model prog w) A (compareOp .NotEq (.str x t) (.str x u)) Q E s := by
  refine ne_str ?_
  rw [show (x != x) = false by simp]
  exact h
theorem cmp_cnt {j : Int} {RR M : Str} (T : Turn n cars b k RR M j) (h : Q (.bool false) s) : wpAny (model prog w) A (compareOp .NotEq (.int (Txt.count (dueUpTo RR RR.length) (Str.ofString "1")) t) (.int cars u)) Q E s := by
  refine ne_int ?_
  rw [T.cnt, show (cars != cars) = false by simp]
  exact h
theorem cmp_more {j : Int} {RR M : Str} (T : Turn n cars b k RR M j) (h : Q (.bool false) s) : wpAny (model prog w) A (compareOp .Lt (.int j t) (.int b u)) Q E s := by
  have := T.more
  refine lt_int ?_
  rw [decide_eq_false (by omega)]
  exact h
end
theorem often_room {n : Int} {RR : Str} (h : RR.length ≤ 7) (hn : n ≤ 7) : (RR.length : Int) + 2 * n ≤ 99 := by omega
theorem small_half {n : Int} (h2 : 2 ≤ n) (h7 : n ≤ 7) : Builtin.Range.small 0 (Int.fdiv n 2 + 1) 1 = true := by
  have e := Int.fdiv_eq_ediv_of_nonneg n (show (0 : Int) ≤ 2 by decide)
  rw [e]
  exact small_one (by omega) (by omega) (by omega) (by omega)
theorem add_rot {prog : Program} {w : World} {A : Around} {E : Value → Shared → Prop} {s : Shared} {R : Str} {t u : Tok} {Q : Value → Shared → Prop} (hl : R.length ≤ 7)
    (h : ∀ t' k, Q (.str (Txt.item R (-1) ++ Txt.slice R none (some (-1))) t') { s with toks := k }) : wpAny (model prog w) A (binaryOp .Add (.str (Txt.item R (-1)) t) (.str (Txt.slice R none (some (-1))) u)) Q E s := by
  have q := Txt.slice_le R none (some (-1))
  have q2 : (Txt.item R (-1)).length = 1 := rfl
  exact PyProof.Rows.add_str h (by rw [sizeLine_eq]; omega)
end Mine

namespace Mine
section
variable {prog : Program} {w : World} {A : Around} {E : Value → Shared → Prop} {s : Shared} {env : Env} {h₀ : Heap} {x : Str} {body : List Stmt} {Q : Flow → Shared → Prop}
def MyEnd (h₀ : Heap) (L I Pt : Addr) (pos : Pos) (qual : Str) (x xr xb : Str) (stored : List Str) (m₀ : Str → Option Value) (P : Str → Int → Prop) (tl : List (Addr × Obj)) (s₁ s₂ : Shared) : Prop :=
  ∃ h' tk m' led' c' oc vs t R b tR tb, s₂ = { s₁ with heap := h', toks := tk } ∧ Fr h₀ L h' m' ∧ News h₀ L h' led' ∧ (∀ p ∈ (Pt, tabObj #[rawInt pos.line, rawInt pos.col, .ref c']) :: (c', oc) :: tl, p ∈ led') ∧
    oc.data = .fields vs ∧ vs[1]? = some (.str qual t) ∧ c' ≠ I ∧ c' ≠ Pt ∧ m' xr = some (.str R tR) ∧ m' xb = some (.int b tb) ∧ (∀ z, z ≠ x → z ≠ xr → z ≠ xb → stored.contains z = false → m' z = m₀ z) ∧ P R b
def MyPost (h₀ : Heap) (L I Pt : Addr) (pos : Pos) (qual : Str) (x xr xb : Str) (stored : List Str) (m₀ : Str → Option Value) (P : Str → Int → Prop) (tl : List (Addr × Obj)) (s₁ : Shared) (Q : Flow → Shared → Prop) (f : Flow) (s₂ : Shared) : Prop :=
  match f with
  | .ret v => Q (.ret v) s₂
  | .brk => Q .next s₂
  | _ => MyEnd h₀ L I Pt pos qual x xr xb stored m₀ P tl s₁ s₂
theorem my_loop {r Pt : Addr} {b₀ : Int} {t₀ u₀ v₀ : Tok} {n : Nat} {m₀ : Str → Option Value} {news : List (Addr × Obj)} (pos : Pos) (qual : Str) (P : Nat → Str → Int → Prop) (xr xb : Str) {R0 : Str} {bb : Int} {tr tb : Tok} (stored : List Str)
    (hh : A.handled = none) (hr : IsRange s.heap r 0 b₀ 1 t₀ u₀ v₀) (hsmall : Builtin.Range.small 0 b₀ 1 = true) (hn : Builtin.Range.rangeSize 0 b₀ 1 = (n : Int))
    (F : Fr h₀ env.locals s.heap m₀) (N : News h₀ env.locals s.heap news) (hP : (Pt, tabObj #[]) ∈ news) (h1 : m₀ xr = some (.str R0 tr)) (h2 : m₀ xb = some (.int bb tb)) (hp : P 0 R0 bb)
    (turn : ∀ (I : Addr) (i : Nat) R b tR tb ps t (u : Str → Option Value) h tk tl, i < n → P i R b → TabOK pos qual I Pt ps tl → (∃ o, (I, o) ∈ tl) → (∀ p ∈ tl, p.1 ≠ Pt) →
      Fr h₀ env.locals h (fun y => if y = x then some (.int (i : Int) t) else kstB (fun z => if stored.contains z then u z else m₀ z) [(xr, .str R tR), (xb, .int b tb)] y) → News h₀ env.locals h ((Pt, tabObj ps) :: tl) →
      wpAny (model prog w) A (execs body env) (MyPost h₀ env.locals I Pt pos qual x xr xb stored m₀ (P (i + 1)) tl { s with heap := h, toks := tk } Q) E { s with heap := h, toks := tk })
    (done : ∀ R b tR tb ps (u : Str → Option Value) h tk, P n R b → Fr h₀ env.locals h (fun y => if y = x then u y else kstB (fun z => if stored.contains z then u z else m₀ z) [(xr, .str R tR), (xb, .int b tb)] y) → News h₀ env.locals h [(Pt, tabObj ps)] → Q .next { s with heap := h, toks := tk }) :
    wpAny (model prog w) A (pyIter (.ref r)) (fun it s₂ => LoopAtV prog w A h₀ env x body Q E it s₂) E s := by
  refine wpAny_pyIter_range hr hsmall ?_
  have W : Walks prog w A s.heap.objs.size [s.heap.objs.size] [s.heap.objs.size] n (fun i v => i < n ∧ ∃ t, v = .int (0 + i * 1) t)
      (fun i h => IsRangeIter h s.heap.objs.size (0 + (i : Nat) * 1) ((n : Int) - (i : Nat)) 1) := (Walks.range hh _ 0 1 n).bound
  have hPlt : Pt < s.heap.objs.size := Heap.lt_size (N _ hP).1
  have hInone : h₀.get? s.heap.objs.size = none := next_is_new F
  let J : Nat → (Str → Option Value) → List (Addr × Obj) → Prop := fun i m nx =>
    ∃ R b tR tb ps ex, nx = (Pt, tabObj ps) :: ex ∧ TabOK pos qual s.heap.objs.size Pt ps ex ∧ (∀ p ∈ ex, p.1 ≠ Pt) ∧ (∀ p ∈ [(xr, Value.str R tR), (xb, Value.int b tb)], m p.1 = some p.2) ∧
      (∀ z, z ≠ x → (∀ p ∈ [(xr, Value.str R tR), (xb, Value.int b tb)], z ≠ p.1) → stored.contains z = false → m z = m₀ z) ∧ P i R b
  have two : ∀ {m : Str → Option Value} {R : Str} {b : Int} {tR tb : Tok}, m xr = some (.str R tR) → m xb = some (.int b tb) → ∀ p ∈ [(xr, Value.str R tR), (xb, Value.int b tb)], m p.1 = some p.2 := by
    intro m R b tR tb e1 e2 p hp
    rcases List.mem_cons.mp hp with rfl | hp
    · exact e1
    · rw [List.mem_singleton.mp hp]; exact e2
  refine ⟨s.heap.objs.size, [s.heap.objs.size], [s.heap.objs.size], n, _, _, m₀, [(Pt, tabObj #[])], J, rfl, W, ?_, ?_, ?_, (by show IsRangeIter _ _ _ _ _; rw [hn]; simpa using Heap.get?_push_size _ rfl), F.push _, ?_,
    ⟨R0, bb, tr, tb, #[], [], rfl, .inl rfl, (fun _ h => nomatch h), two h1 h2, (fun _ _ _ _ => rfl), hp⟩, ?_, ?_⟩
  · intro hm
    exact absurd F.ns.lt ((List.mem_singleton.mp hm) ▸ Nat.lt_irrefl _)
  · intro b hb
    rw [List.mem_singleton.mp hb]
    exact hInone
  · intro p hp hI
    rw [List.mem_singleton.mp hp] at hI
    exact absurd hPlt ((List.mem_singleton.mp hI) ▸ Nat.lt_irrefl _)
  · intro p hp
    rw [List.mem_singleton.mp hp]
    exact ⟨Heap.get?_push_of_some _ (N _ hP).1, (N _ hP).2⟩
  · rintro i v m₁ nx s₁ own ⟨hh', tk', rfl⟩ hi ⟨_, t, rfl⟩ ⟨R, b, tR, tb, ps, ex, rfl, hT, hex, k1, k2, hp'⟩ hoff hown _ hall hst F₁ N₁
    have e1 : (0 : Int) + (i : Int) * 1 = (i : Int) := by omega
    rw [e1] at F₁
    have hI : ∃ o, (s.heap.objs.size, o) ∈ ex ++ own := by
      exact ⟨_, List.mem_append_right _ (hall _ (List.mem_singleton.mpr rfl) hInone _ hst)⟩
    have hPt : ∀ p ∈ ex ++ own, p.1 ≠ Pt := by
      intro p hp
      rcases List.mem_append.mp hp with hp | hp
      · exact hex p hp
      · rw [List.mem_singleton.mp (hown p hp)]
        exact Nat.ne_of_gt hPlt
    have N₂ : News h₀ env.locals hh' ((Pt, tabObj ps) :: (ex ++ own)) := by
      intro p hp
      apply N₁
      rcases List.mem_cons.mp hp with rfl | hp
      · exact List.mem_append_right _ (.head _)
      · rcases List.mem_append.mp hp with hp | hp
        · exact List.mem_append_right _ (.tail _ hp)
        · exact List.mem_append_left _ hp
    refine wpAny_mono (turn s.heap.objs.size i R b tR tb ps t m₁ hh' tk' (ex ++ own) hi hp' (hT.mono fun p hp => List.mem_append_left _ hp) hI hPt (kst_fr k1 k2 F₁) N₂) (fun f s₂ p => ?_) fun _ _ e => e
    have fin : MyEnd h₀ env.locals s.heap.objs.size Pt pos qual x xr xb stored m₀ (P (i + 1)) (ex ++ own) { s with heap := hh', toks := tk' } s₂ → LoopStepU h₀ env.locals [s.heap.objs.size] own (J (i + 1)) { s with heap := hh', toks := tk' } .next s₂ := by
      rintro ⟨h', tk, m', led', c', oc, vs, t, R, b, tR, tb, e, F', N', hin, g1, g2, g3, g4, g5, g6, g7, g8⟩
      refine ⟨rfl, h', tk, m', [(Pt, tabObj #[rawInt pos.line, rawInt pos.col, .ref c']), (c', oc)], e, F', fun p hp => N' p ?_, fun p hp hq => ?_, R, b, tR, tb, _, [(c', oc)], rfl,
        .inr ⟨c', oc, vs, t, rfl, .head _, g1, g2, g3, g4⟩, (fun p hp => by rw [List.mem_singleton.mp hp]; exact g4), two g5 g6, (fun z z1 z2 z3 => g7 z z1 (z2 _ (.head _)) (z2 _ (.tail _ (.head _))) z3), g8⟩
      · apply hin
        rcases List.mem_append.mp hp with hp | hp
        · exact .tail _ (.tail _ (List.mem_append_right _ hp))
        · rcases List.mem_cons.mp hp with rfl | hp
          · exact .head _
          · rw [List.mem_singleton.mp hp]; exact .tail _ (.head _)
      · have hq' := List.mem_singleton.mp hq
        rcases List.mem_cons.mp hp with rfl | hp
        · exact absurd hPlt (hq' ▸ Nat.lt_irrefl _)
        · rw [List.mem_singleton.mp hp] at hq'
          exact g3 hq'
    cases f with
    | ret v => exact .ret p
    | brk => exact .brk p
    | next => exact .next (fin p)
    | cont => exact .cont (fin p)
  · rintro h' tk m' news' F' N' _ ⟨R, b, tR, tb, ps, ex, rfl, _, _, k1, k2, hp'⟩
    exact done R b tR tb ps m' h' tk hp' (kst_frOut k1 k2 F') (fun p hp => N' p (by rw [List.mem_singleton.mp hp]; exact .head _))
theorem my_next {I Pt : Addr} {pos : Pos} {qual xr xb : Str} {stored : List Str} {m₀ m' : Str → Option Value} {tl led' : List (Addr × Obj)} {s₁ : Shared} {h' : Heap} {tk : Nat} {L : Addr} {c' : Addr} {oc : Obj} {vs : Array Value} {t tR tb : Tok} {n cars b j : Int} {k : Nat} {RR M : Str}
    (F : Fr h₀ L h' m') (N : News h₀ L h' led') (T : Turn n cars b k RR M j) (hin : ∀ p ∈ (Pt, tabObj #[rawInt pos.line, rawInt pos.col, .ref c']) :: (c', oc) :: tl, p ∈ led') (g1 : oc.data = .fields vs) (g2 : vs[1]? = some (.str qual t)) (g3 : c' ≠ I) (g4 : c' ≠ Pt)
    (h5 : m' xr = some (.str (dueUpTo RR RR.length) tR)) (h6 : m' xb = some (.int j tb)) (h7 : ∀ z, z ≠ x → z ≠ xr → z ≠ xb → stored.contains z = false → m' z = m₀ z) :
    MyPost h₀ L I Pt pos qual x xr xb stored m₀ (fun R b => LInv n cars (k + 1) R b) tl s₁ Q .next { s₁ with heap := h', toks := tk } :=
  ⟨h', tk, m', led', c', oc, vs, t, _, _, tR, tb, rfl, F, N, hin, g1, g2, g3, g4, h5, h6, h7, T.inv⟩
end
end Mine

local macro_rules | `(tactic| walk_at "subscriptTail Name Slice ref ref") => `(tactic| (k_here; (with_reducible show wpAny _ _ (subscriptTail (Expr.Name _ _) (PySem.Expr.Slice (some (Expr.Call _ _ _ _)) none none _) (Value.ref _) (Value.ref _)) _ _ _); k_dflt (refine' kmk_slice_ints ?F ?N ?l ?p ?q ?i ?m ?c ?_ ?s ?t ?z; (case F => k_asm); (case N => k_asm); (case l => kmk_list); (case p => kmk_part); (case q => kmk_part); (case i => l_ints); (case m => exact kmk_from (by l_ints) (by omega)); (case c => exact List.length_drop ..); (case s => with_unfolding_all rfl); (case t => kmk_pure); (case z => kmk_size)); intro D' ws' h' F' N' l1 hI' hC' hL'; (try k_lt l1); (try k_sweep)))
local macro_rules | `(tactic| walk_at "eval ListComp") => `(tactic| (k_here; (with_reducible show wpAny _ _ (eval (Expr.ListComp (Expr.Subscript (Expr.Constant _ _ _) _ _) _ _ _) _) _ _ _); k_dflt (refine LCg.ListComp_U (F₀ := by k_asm) (by with_unfolding_all rfl) (by decide) (by rfl) (by decide) (by rfl) ?_)))
local macro_rules | `(tactic| walk_at "CompSrc") => `(tactic| (k_here; (with_reducible show LCg.CompSrc _ _ _ _ _ _ _ (Expr.Subscript (Expr.Constant _ _ _) _ _) _ _ _ _ _ _); (try k_fmods); k_dflt (refine LCg.CompSrc.range (by rfl) (by k_asm) (by k_asm) (by assumption) (by exact small_one (by omega) (by omega) (by omega) (by omega)) (by exact rangeSize_nat _ _) (by (rw [PySem.sizeLine_eq]; omega)) ?_; intro g'; (refine' kct_range _ (fun k' t' I' oI' C' oC' D' m' ys' h' tk' E' hlo' hhi' hC' hx' F' N' off' ne' => ?_) ?_); (all_goals (try (simp only [LCg.Off3, and_true] at off'))); (all_goals (try ((show KPfMark → _); intro hMark'))))))
local macro_rules | `(tactic| walk_at "storeName") => `(tactic| (k_here; (rename IntsAre _ (List.map _ _ ++ List.drop _ _) => hI9; obtain ⟨c0, c1, t0, t1, e9⟩ := Mine.two_cells hI9; clear hI9; subst e9); (repeat (rename (List.length _ = _) => hq; clear hq)); (repeat (rename (List.length _ ≤ _) => hq; clear hq)); (repeat (first | (rename IntsAre _ (List.take _ _) => hq; clear hq) | (rename IntsAre _ (List.drop _ _) => hq; clear hq) | (rename IntsAre _ (List.map _ _) => hq; clear hq)))))
local macro_rules | `(tactic| walk_at "storeName") => `(tactic| (k_here; (with_reducible refine Mine.store_size ?_); intro n9 hn9 hm9))
local macro_rules | `(tactic| walk_at "binaryOp Pow int int") => `(tactic| (k_here; (with_reducible refine Mine.pow_turn (by with_reducible assumption) (by with_reducible assumption) (by with_reducible assumption) ?_); intro hk6))
local macro_rules | `(tactic| walk_at "binaryOp FloorDiv int int") => `(tactic| (k_here; (with_reducible refine Mine.div_turn (by with_reducible assumption) ?_)))
local macro_rules | `(tactic| walk_at "storeName") => `(tactic| (k_here; (with_reducible refine Mine.store_ring (by with_reducible assumption) ?_); intro b9 hb9))
local macro_rules | `(tactic| walk_at "call ref") => `(tactic| (k_here; (with_reducible show wpAny _ _ (call (Value.ref 462) _) _ _ _); k_dflt (refine' Mine.c_world ?B ?F ?X ?N ?TT ?hk ?hd ?hu (fun x' h' tk' F' N' => ?_); (case B => k_asm); (case F => k_asm); (case X => k_asm); (case N => k_asm); (case TT => k_asm); (case hk => exact rfl); (case hd => decide); (case hu => exact (by decide +kernel)); all_goals ((try dsimp only); (try k_fold)))))
local macro_rules | `(tactic| walk_at "call ref") => `(tactic| (k_here; (with_reducible show wpAny _ _ (call (Value.ref 215) _) _ _ _); k_dflt (refine' Mine.c_host ?B ?F ?X ?N ?TT ?hk ?hd ?hu (fun x' d' g' hv' hl' hr' hw' hs' hg' kv' kl' kr' kw' ks' kg' tw' ts' h' tk' F' N' l1' l2' => ?_); (case B => k_asm); (case F => k_asm); (case X => k_asm); (case N => k_asm); (case TT => k_asm); (case hk => exact rfl); (case hd => decide); (case hu => exact (by decide +kernel)); all_goals ((try dsimp only); (try k_fold))); ((with_reducible rename Mine.TabOK _ _ _ _ _ _ => hT9); k_dflt (have ht9 := Mine.tl_ne hT9 l1' (by intro p9 hp9; repeat (first | exact hp9 | refine List.mem_cons_of_mem _ ?_)))); (try k_lt l1')))
local macro_rules | `(tactic| walk_at "call ref") => `(tactic| (k_here; (with_reducible show wpAny _ _ (call (Value.ref 473) _) _ _ _); (with_reducible rename Mine.LInv _ _ _ _ _ => hI9); k_dflt (refine' Mine.c_due ?B ?F ?X ?N ?TT ?hk ?hd ?hu ?h1 ?hR (fun u' h' tk' F' N' => ?_); (case h1 => exact (Mine.LInv.lenR hI9 (by (first | with_reducible assumption | exact Mine.rot_f1 (by with_reducible assumption) | exact Mine.rot_f2 (by with_reducible assumption)))).1); (case hR => exact Nat.le_trans (Mine.LInv.lenR hI9 (by (first | with_reducible assumption | exact Mine.rot_f1 (by with_reducible assumption) | exact Mine.rot_f2 (by with_reducible assumption)))).2 (by decide)); (case B => k_asm); (case F => k_asm); (case X => k_asm); (case N => k_asm); (case TT => k_asm); (case hk => exact rfl); (case hd => decide); (case hu => exact (by decide +kernel)); all_goals ((try dsimp only); (try k_fold)))))
local macro_rules | `(tactic| walk_at "subscriptTail") => `(tactic| (k_here; (with_reducible rename Mine.LInv _ _ _ _ _ => hI9); (first | with_reducible refine Mine.item_m1 hI9 ?_ (by with_unfolding_all rfl) (by intro _; with_unfolding_all rfl) | with_reducible refine Mine.item_z hI9 ?_ (by with_unfolding_all rfl) (by intro _; with_unfolding_all rfl)); intro hl9))
local macro_rules | `(tactic| walk_at "compareOp Eq int int") => `(tactic| (k_here; (with_reducible rename Mine.LInv _ _ _ _ _ => hI9); (with_reducible refine Mine.cmp_done hI9 ?_)))
local macro_rules | `(tactic| walk_at "storeName") => `(tactic| (k_here; (with_reducible refine Mine.store_rot (by with_reducible assumption) (by with_reducible assumption) ?_); intro rr9 hrr9))
local macro_rules | `(tactic| walk_at "storeName") => `(tactic| (k_here; (with_reducible rename Mine.LInv _ _ _ _ _ => hI9); (with_reducible refine Mine.store_turn hI9 ?hk ?hR (by with_reducible assumption) (by with_reducible assumption) ?_); (case hk => with_reducible assumption); (case hR => (first | with_reducible assumption | exact Mine.rot_f1 (by with_reducible assumption) | exact Mine.rot_f2 (by with_reducible assumption))); intro ht9))
local macro_rules | `(tactic| walk_at "pyIter ref") => `(tactic| (k_here; (with_reducible show wpAny _ _ (pyIter (Value.ref _)) (fun it s₂ => LoopAtV _ _ _ _ _ _ _ _ _ it s₂) _ _); k_dflt (refine' Mine.my_loop (Pt := 475) ⟨361, 86, 361, 103⟩ (Str.ofString "law" ++ ".<locals>." ++ "<lambda>") (fun i R b => Mine.LInv _ _ i R b) (Str.ofString "ring") (Str.ofString "before") [Str.ofString "due", Str.ofString "host", Str.ofString "marked", Str.ofString "many"] ?hh ?hr ?hs ?hn ?F ?N ?hP ?h1 ?h2 ?hp (fun I9 i9 R9 b9 tR9 tb9 ps9 t9 u9 h' tk9 tl9 hi9 hInv9 hT9 hI9 hne9 F' N' => ?_) (fun R9 b9 tR9 tb9 ps9 u9 h' tk9 hInv9 F' N' => ?_); (case hh => exact rfl); (case hr => assumption); (case hs => exact Mine.small_half (by with_reducible assumption) (by with_reducible assumption)); (case hn => exact rangeSize_nat _ _); (case F => k_asm); (case N => k_asm); (case hP => k_mem); (case h1 => exact rfl); (case h2 => exact rfl); (case hp => exact Mine.LInv.start (by with_reducible assumption) (by with_reducible assumption) (by with_reducible assumption))); (all_goals ((try dsimp only); (try k_fold)))))
local macro_rules | `(tactic| walk_at "eval Lambda") => `(tactic| (k_here; k_dflt (refine' kla_eval ?d0 ?_; (case d0 => exact rfl)); (with_reducible rename Mine.TabOK _ _ _ _ _ _ => hT9); k_dflt (refine' Mine.my_lam ?F ?N ?P ?T ?C ?cd ?ne hT9 ?tl ?hI ?hd ?dt ?cl (fun f' c' oc' vs' t' ct' h' tk' F' N' d1' d2' n1' n2' n3' l1' l2' l3' => ?_); (case F => k_asm); (case N => k_asm); (case P => tb_start); (case T => k_asm); (case C => kn_code); (case cd => exact rfl); (case ne => (repeat (refine List.forall_mem_cons.mpr ⟨by k_ne, ?_⟩)); with_reducible assumption); (case tl => (intro p9 hp9; repeat (first | exact hp9 | refine List.Mem.tail _ ?_))); (case hI => with_reducible assumption); (case hd => (repeat (first | (with_reducible exact (Mine.Pick.head : Mine.Pick _ (dictOf (Mine.hostEs _ _ _ _ _ _ _ _ _ _ _ _ _ _ _ _ _ _ _) 6) _ _)) | apply Mine.Pick.tail))); (case dt => with_reducible assumption); (case cl => exact rfl)); (try k_lt l1')))
local macro_rules | `(tactic| walk_at "call ref") => `(tactic| (k_here; (with_reducible show wpAny _ _ (call (Value.ref 49) _) _ _ _); (with_reducible rename Mine.LInv _ _ _ _ _ => hI9); k_dflt (refine' Mine.c_often ?B ?F ?X (Mine.pick4 ?N ?P1 ?P2 ?P3 ?P4) ?hx ?hnd ?hlm ?hrest ?hL ?hls ?TT ?hk ?hd ?hu ?hS ?hT ?hR ?hm0 ?hk0 ?hk1 (fun S' j' ho' hj0' hj1' hS' D' u1' u2' c1' k' ts' h' tk' F' N' l1 l2 l3 l4 l5 => ?_); (case B => k_asm); (case F => k_asm); (case X => k_asm); (case N => k_asm); (case P1 => tb_start); (case P2 => tb_start); (case P3 => tb_start); (case P4 => tb_start); (case TT => k_asm); (case hls => exact List.forall_mem_cons.mpr ⟨List.Mem.head _, List.forall_mem_cons.mpr ⟨List.Mem.tail _ (List.Mem.head _), List.forall_mem_nil _⟩⟩); (case hL => exact Mine.lam_const (by with_reducible assumption) (by with_reducible assumption) (by intro _; rfl) (by rfl) (by rfl) (by rfl) (by rfl) (by decide)); (case hx => k_ne); (case hnd => k_ne); (case hlm => k_ne); (case hrest => ((repeat (refine List.forall_mem_cons.mpr ⟨by first | with_reducible assumption | k_ne, ?_⟩)); with_reducible assumption)); (case hS => exact Mine.often_room (Mine.LInv.lenR hI9 (by (first | with_reducible assumption | exact Mine.rot_f1 (by with_reducible assumption) | exact Mine.rot_f2 (by with_reducible assumption)))).2 (by with_reducible assumption)); (case hT => decide +kernel); (case hR => decide +kernel); (case hm0 => exact Int.le_trans (by decide) (by with_reducible assumption : (2 : Int) ≤ _)); (case hk0 => decide); (case hk1 => decide); (case hk => exact rfl); (case hd => decide); (case hu => exact (by decide +kernel)); all_goals ((try dsimp only); (try k_fold)))))
local macro_rules | `(tactic| walk_at "call ref") => `(tactic| (k_here; (with_reducible show wpAny _ _ (call (Value.ref 238) _) _ _ _); k_dflt (refine' Mine.c_repl ?B ?F ?X (Mine.pick1 ?N ?P1) ?TT ?hk ?hd ?hu ?hM (fun u' h' tk' F' N' => ?_); (case B => k_asm); (case F => k_asm); (case X => k_asm); (case N => k_asm); (case P1 => tb_start); (case hM => with_reducible assumption); (case TT => k_asm); (case hk => exact rfl); (case hd => decide); (case hu => exact (by decide +kernel)); all_goals ((try dsimp only); (try k_fold)))))
local macro_rules | `(tactic| walk_at "compareOp NotEq str str") => `(tactic| (k_here; (with_reducible refine Mine.ne_same ?_)))
local macro_rules | `(tactic| walk_at "compareOp NotEq int int") => `(tactic| (k_here; (with_reducible refine Mine.cmp_cnt (by with_reducible assumption) ?_)))
local macro_rules | `(tactic| walk_at "compareOp Lt int int") => `(tactic| (k_here; (with_reducible refine Mine.cmp_more (by with_reducible assumption) ?_)))
local macro_rules | `(tactic| walk_at "MyPost") => `(tactic| (k_dflt (refine' Mine.my_next ?F ?N ?T ?hin ?g1 ?g2 ?g3 ?g4 ?h5 ?h6 ?h7; (case F => k_asm); (case N => k_asm); (case T => with_reducible assumption); (case hin => ktr_rel); (case g1 => with_reducible assumption); (case g2 => first | with_reducible assumption | assumption); (case g3 => with_reducible assumption); (case g4 => with_reducible assumption); (case h5 => exact rfl); (case h6 => exact rfl); (case h7 => (intro z z1 z2 z3 z4; (simp only [List.contains_cons, Bool.or_eq_false_iff, beq_eq_false_iff_ne, List.contains_nil, and_true] at z4); simp [kstB, z1, z2, z3, z4])))))
local macro_rules | `(tactic| walk_at "binaryOp Add str str") => `(tactic| (k_here; (with_reducible refine Mine.add_rot (by with_reducible assumption) ?_); intro t9 k9))
local macro_rules | `(tactic| walk_at "newTuple") => `(tactic| (k_here; k_dflt (refine' kup_newTuple ?F ?N ?_ ?z; (case F => k_asm); (case N => k_asm); (case z => kmk_size)); intro D' h' F' N' l1; (try k_lt l1); (try k_sweep)))

set_option maxRecDepth 100000 in
set_option maxHeartbeats 8000000 in
theorem PySem.Challenge.cw_xw0308_01_holds : PySem.Challenge.rw_xw0308_01.Holds := by
  refine holds_law Mine.said fun said => ?_
  refine holds_open (r := PySem.Challenge.rw_xw0308_01.row) (q := Mine.vw) (loose := Mine.loose) (Xt := fun s => xlAt Mine.vw [] s && recOk (RowW.records (PySem.Challenge.rw_xw0308_01.row.toRowW)) s) (XP := XL Mine.vw [])
    (Yf := Hook.obs (kHook Mine.K Mine.as (fun _ => by kernel_rfl))) (Ya := Hook.val (kHook Mine.K Mine.as (fun _ => by kernel_rfl))) (YP := Hook.says (kHook Mine.K Mine.as (fun _ => by kernel_rfl))) (N := Mine.N)
    Mine.left (Hook.of _) (Hook.keeps _) (fun s e => xl_of s (Bool.and_eq_true_iff.mp e).1) XL.keeps (by rfl) (by rfl) (by rfl) (fun s e => recFacts_of (Bool.and_eq_true_iff.mp e).2) (by rfl) said (by decide +kernel) ⟨rfl, rfl, rfl, rfl, rfl, by decide +kernel⟩ ?hw ?hc
  case hw => w_witness2
  clear said
  k_go0
  all_goals try k_fold
  k_steps
  all_goals exact Str.empty

