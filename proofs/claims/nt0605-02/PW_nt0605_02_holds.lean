import PyProof.Rows.All
import Wide.All
import OpenK.AllK
import Wide.FinOn
import Lean
import PySem.Challenge.RW_nt0605_02
set_option Elab.async false
set_option linter.unusedVariables false
set_option linter.unusedSimpArgs false
section
open PySem PySem.W PySem.Calls PyProof.Rows
namespace Mine
set_option maxRecDepth 1000000
set_option maxHeartbeats 0
noncomputable def nth : List Stmt → Nat → Stmt
  | [], _ => .Pass default
  | a :: _, 0 => a
  | _ :: l, n + 1 => nth l n
noncomputable def inCls : Stmt → List Stmt
  | .ClassDef _ _ _ b .. => b
  | _ => []
noncomputable def asDef : Stmt → PySem.Arguments × List Stmt × Scope
  | .FunctionDef _ a b _ _ _ sc .. => (a, b, sc)
  | _ => (default, [], default)
noncomputable def pf28 : PySem.Arguments := by
  refine' (?f : ∀ x : PySem.Arguments, (asDef (nth (PySem.Challenge.rw_nt0605_02.prog).main.body 2)).1 = x → PySem.Arguments) _ ?h
  case h => conv => lhs; whnf
  case f => exact fun x _ => x
noncomputable def bf28 : List Stmt := by
  refine' (?f : ∀ x : List Stmt, (asDef (nth (PySem.Challenge.rw_nt0605_02.prog).main.body 2)).2.1 = x → List Stmt) _ ?h
  case h => conv => lhs; whnf
  case f => exact fun x _ => x
noncomputable def sf28 : Scope := by
  refine' (?f : ∀ x : Scope, (asDef (nth (PySem.Challenge.rw_nt0605_02.prog).main.body 2)).2.2 = x → Scope) _ ?h
  case h => conv => lhs; whnf
  case f => exact fun x _ => x
noncomputable def pf35 : PySem.Arguments := by
  refine' (?f : ∀ x : PySem.Arguments, (asDef (nth (PySem.Challenge.rw_nt0605_02.prog).main.body 3)).1 = x → PySem.Arguments) _ ?h
  case h => conv => lhs; whnf
  case f => exact fun x _ => x
noncomputable def bf35 : List Stmt := by
  refine' (?f : ∀ x : List Stmt, (asDef (nth (PySem.Challenge.rw_nt0605_02.prog).main.body 3)).2.1 = x → List Stmt) _ ?h
  case h => conv => lhs; whnf
  case f => exact fun x _ => x
noncomputable def sf35 : Scope := by
  refine' (?f : ∀ x : Scope, (asDef (nth (PySem.Challenge.rw_nt0605_02.prog).main.body 3)).2.2 = x → Scope) _ ?h
  case h => conv => lhs; whnf
  case f => exact fun x _ => x
noncomputable def pf42 : PySem.Arguments := by
  refine' (?f : ∀ x : PySem.Arguments, (asDef (nth (PySem.Challenge.rw_nt0605_02.prog).main.body 4)).1 = x → PySem.Arguments) _ ?h
  case h => conv => lhs; whnf
  case f => exact fun x _ => x
noncomputable def bf42 : List Stmt := by
  refine' (?f : ∀ x : List Stmt, (asDef (nth (PySem.Challenge.rw_nt0605_02.prog).main.body 4)).2.1 = x → List Stmt) _ ?h
  case h => conv => lhs; whnf
  case f => exact fun x _ => x
noncomputable def sf42 : Scope := by
  refine' (?f : ∀ x : Scope, (asDef (nth (PySem.Challenge.rw_nt0605_02.prog).main.body 4)).2.2 = x → Scope) _ ?h
  case h => conv => lhs; whnf
  case f => exact fun x _ => x
noncomputable def pf49 : PySem.Arguments := by
  refine' (?f : ∀ x : PySem.Arguments, (asDef (nth (PySem.Challenge.rw_nt0605_02.prog).main.body 5)).1 = x → PySem.Arguments) _ ?h
  case h => conv => lhs; whnf
  case f => exact fun x _ => x
noncomputable def bf49 : List Stmt := by
  refine' (?f : ∀ x : List Stmt, (asDef (nth (PySem.Challenge.rw_nt0605_02.prog).main.body 5)).2.1 = x → List Stmt) _ ?h
  case h => conv => lhs; whnf
  case f => exact fun x _ => x
noncomputable def sf49 : Scope := by
  refine' (?f : ∀ x : Scope, (asDef (nth (PySem.Challenge.rw_nt0605_02.prog).main.body 5)).2.2 = x → Scope) _ ?h
  case h => conv => lhs; whnf
  case f => exact fun x _ => x
noncomputable def pf56 : PySem.Arguments := by
  refine' (?f : ∀ x : PySem.Arguments, (asDef (nth (PySem.Challenge.rw_nt0605_02.prog).main.body 6)).1 = x → PySem.Arguments) _ ?h
  case h => conv => lhs; whnf
  case f => exact fun x _ => x
noncomputable def bf56 : List Stmt := by
  refine' (?f : ∀ x : List Stmt, (asDef (nth (PySem.Challenge.rw_nt0605_02.prog).main.body 6)).2.1 = x → List Stmt) _ ?h
  case h => conv => lhs; whnf
  case f => exact fun x _ => x
noncomputable def sf56 : Scope := by
  refine' (?f : ∀ x : Scope, (asDef (nth (PySem.Challenge.rw_nt0605_02.prog).main.body 6)).2.2 = x → Scope) _ ?h
  case h => conv => lhs; whnf
  case f => exact fun x _ => x
noncomputable def pf63 : PySem.Arguments := by
  refine' (?f : ∀ x : PySem.Arguments, (asDef (nth (PySem.Challenge.rw_nt0605_02.prog).main.body 7)).1 = x → PySem.Arguments) _ ?h
  case h => conv => lhs; whnf
  case f => exact fun x _ => x
noncomputable def bf63 : List Stmt := by
  refine' (?f : ∀ x : List Stmt, (asDef (nth (PySem.Challenge.rw_nt0605_02.prog).main.body 7)).2.1 = x → List Stmt) _ ?h
  case h => conv => lhs; whnf
  case f => exact fun x _ => x
noncomputable def sf63 : Scope := by
  refine' (?f : ∀ x : Scope, (asDef (nth (PySem.Challenge.rw_nt0605_02.prog).main.body 7)).2.2 = x → Scope) _ ?h
  case h => conv => lhs; whnf
  case f => exact fun x _ => x
noncomputable def pf70 : PySem.Arguments := by
  refine' (?f : ∀ x : PySem.Arguments, (asDef (nth (PySem.Challenge.rw_nt0605_02.prog).main.body 8)).1 = x → PySem.Arguments) _ ?h
  case h => conv => lhs; whnf
  case f => exact fun x _ => x
noncomputable def bf70 : List Stmt := by
  refine' (?f : ∀ x : List Stmt, (asDef (nth (PySem.Challenge.rw_nt0605_02.prog).main.body 8)).2.1 = x → List Stmt) _ ?h
  case h => conv => lhs; whnf
  case f => exact fun x _ => x
noncomputable def sf70 : Scope := by
  refine' (?f : ∀ x : Scope, (asDef (nth (PySem.Challenge.rw_nt0605_02.prog).main.body 8)).2.2 = x → Scope) _ ?h
  case h => conv => lhs; whnf
  case f => exact fun x _ => x
noncomputable def pf77 : PySem.Arguments := by
  refine' (?f : ∀ x : PySem.Arguments, (asDef (nth (PySem.Challenge.rw_nt0605_02.prog).main.body 9)).1 = x → PySem.Arguments) _ ?h
  case h => conv => lhs; whnf
  case f => exact fun x _ => x
noncomputable def bf77 : List Stmt := by
  refine' (?f : ∀ x : List Stmt, (asDef (nth (PySem.Challenge.rw_nt0605_02.prog).main.body 9)).2.1 = x → List Stmt) _ ?h
  case h => conv => lhs; whnf
  case f => exact fun x _ => x
noncomputable def sf77 : Scope := by
  refine' (?f : ∀ x : Scope, (asDef (nth (PySem.Challenge.rw_nt0605_02.prog).main.body 9)).2.2 = x → Scope) _ ?h
  case h => conv => lhs; whnf
  case f => exact fun x _ => x
noncomputable def pf84 : PySem.Arguments := by
  refine' (?f : ∀ x : PySem.Arguments, (asDef (nth (PySem.Challenge.rw_nt0605_02.prog).main.body 10)).1 = x → PySem.Arguments) _ ?h
  case h => conv => lhs; whnf
  case f => exact fun x _ => x
noncomputable def bf84 : List Stmt := by
  refine' (?f : ∀ x : List Stmt, (asDef (nth (PySem.Challenge.rw_nt0605_02.prog).main.body 10)).2.1 = x → List Stmt) _ ?h
  case h => conv => lhs; whnf
  case f => exact fun x _ => x
noncomputable def sf84 : Scope := by
  refine' (?f : ∀ x : Scope, (asDef (nth (PySem.Challenge.rw_nt0605_02.prog).main.body 10)).2.2 = x → Scope) _ ?h
  case h => conv => lhs; whnf
  case f => exact fun x _ => x
noncomputable def pf91 : PySem.Arguments := by
  refine' (?f : ∀ x : PySem.Arguments, (asDef (nth (PySem.Challenge.rw_nt0605_02.prog).main.body 11)).1 = x → PySem.Arguments) _ ?h
  case h => conv => lhs; whnf
  case f => exact fun x _ => x
noncomputable def bf91 : List Stmt := by
  refine' (?f : ∀ x : List Stmt, (asDef (nth (PySem.Challenge.rw_nt0605_02.prog).main.body 11)).2.1 = x → List Stmt) _ ?h
  case h => conv => lhs; whnf
  case f => exact fun x _ => x
noncomputable def sf91 : Scope := by
  refine' (?f : ∀ x : Scope, (asDef (nth (PySem.Challenge.rw_nt0605_02.prog).main.body 11)).2.2 = x → Scope) _ ?h
  case h => conv => lhs; whnf
  case f => exact fun x _ => x
noncomputable def pf98 : PySem.Arguments := by
  refine' (?f : ∀ x : PySem.Arguments, (asDef (nth (PySem.Challenge.rw_nt0605_02.prog).main.body 12)).1 = x → PySem.Arguments) _ ?h
  case h => conv => lhs; whnf
  case f => exact fun x _ => x
noncomputable def bf98 : List Stmt := by
  refine' (?f : ∀ x : List Stmt, (asDef (nth (PySem.Challenge.rw_nt0605_02.prog).main.body 12)).2.1 = x → List Stmt) _ ?h
  case h => conv => lhs; whnf
  case f => exact fun x _ => x
noncomputable def sf98 : Scope := by
  refine' (?f : ∀ x : Scope, (asDef (nth (PySem.Challenge.rw_nt0605_02.prog).main.body 12)).2.2 = x → Scope) _ ?h
  case h => conv => lhs; whnf
  case f => exact fun x _ => x
noncomputable def pf105 : PySem.Arguments := by
  refine' (?f : ∀ x : PySem.Arguments, (asDef (nth (PySem.Challenge.rw_nt0605_02.prog).main.body 13)).1 = x → PySem.Arguments) _ ?h
  case h => conv => lhs; whnf
  case f => exact fun x _ => x
noncomputable def bf105 : List Stmt := by
  refine' (?f : ∀ x : List Stmt, (asDef (nth (PySem.Challenge.rw_nt0605_02.prog).main.body 13)).2.1 = x → List Stmt) _ ?h
  case h => conv => lhs; whnf
  case f => exact fun x _ => x
noncomputable def sf105 : Scope := by
  refine' (?f : ∀ x : Scope, (asDef (nth (PySem.Challenge.rw_nt0605_02.prog).main.body 13)).2.2 = x → Scope) _ ?h
  case h => conv => lhs; whnf
  case f => exact fun x _ => x
noncomputable def pf112 : PySem.Arguments := by
  refine' (?f : ∀ x : PySem.Arguments, (asDef (nth (PySem.Challenge.rw_nt0605_02.prog).main.body 14)).1 = x → PySem.Arguments) _ ?h
  case h => conv => lhs; whnf
  case f => exact fun x _ => x
noncomputable def bf112 : List Stmt := by
  refine' (?f : ∀ x : List Stmt, (asDef (nth (PySem.Challenge.rw_nt0605_02.prog).main.body 14)).2.1 = x → List Stmt) _ ?h
  case h => conv => lhs; whnf
  case f => exact fun x _ => x
noncomputable def sf112 : Scope := by
  refine' (?f : ∀ x : Scope, (asDef (nth (PySem.Challenge.rw_nt0605_02.prog).main.body 14)).2.2 = x → Scope) _ ?h
  case h => conv => lhs; whnf
  case f => exact fun x _ => x
noncomputable def pf119 : PySem.Arguments := by
  refine' (?f : ∀ x : PySem.Arguments, (asDef (nth (PySem.Challenge.rw_nt0605_02.prog).main.body 15)).1 = x → PySem.Arguments) _ ?h
  case h => conv => lhs; whnf
  case f => exact fun x _ => x
noncomputable def bf119 : List Stmt := by
  refine' (?f : ∀ x : List Stmt, (asDef (nth (PySem.Challenge.rw_nt0605_02.prog).main.body 15)).2.1 = x → List Stmt) _ ?h
  case h => conv => lhs; whnf
  case f => exact fun x _ => x
noncomputable def sf119 : Scope := by
  refine' (?f : ∀ x : Scope, (asDef (nth (PySem.Challenge.rw_nt0605_02.prog).main.body 15)).2.2 = x → Scope) _ ?h
  case h => conv => lhs; whnf
  case f => exact fun x _ => x
noncomputable def pf158 : PySem.Arguments := by
  refine' (?f : ∀ x : PySem.Arguments, (asDef (nth (PySem.Challenge.rw_nt0605_02.prog).main.body 20)).1 = x → PySem.Arguments) _ ?h
  case h => conv => lhs; whnf
  case f => exact fun x _ => x
noncomputable def bf158 : List Stmt := by
  refine' (?f : ∀ x : List Stmt, (asDef (nth (PySem.Challenge.rw_nt0605_02.prog).main.body 20)).2.1 = x → List Stmt) _ ?h
  case h => conv => lhs; whnf
  case f => exact fun x _ => x
noncomputable def sf158 : Scope := by
  refine' (?f : ∀ x : Scope, (asDef (nth (PySem.Challenge.rw_nt0605_02.prog).main.body 20)).2.2 = x → Scope) _ ?h
  case h => conv => lhs; whnf
  case f => exact fun x _ => x
noncomputable def pf165 : PySem.Arguments := by
  refine' (?f : ∀ x : PySem.Arguments, (asDef (nth (PySem.Challenge.rw_nt0605_02.prog).main.body 21)).1 = x → PySem.Arguments) _ ?h
  case h => conv => lhs; whnf
  case f => exact fun x _ => x
noncomputable def bf165 : List Stmt := by
  refine' (?f : ∀ x : List Stmt, (asDef (nth (PySem.Challenge.rw_nt0605_02.prog).main.body 21)).2.1 = x → List Stmt) _ ?h
  case h => conv => lhs; whnf
  case f => exact fun x _ => x
noncomputable def sf165 : Scope := by
  refine' (?f : ∀ x : Scope, (asDef (nth (PySem.Challenge.rw_nt0605_02.prog).main.body 21)).2.2 = x → Scope) _ ?h
  case h => conv => lhs; whnf
  case f => exact fun x _ => x
noncomputable def pf172 : PySem.Arguments := by
  refine' (?f : ∀ x : PySem.Arguments, (asDef (nth (PySem.Challenge.rw_nt0605_02.prog).main.body 22)).1 = x → PySem.Arguments) _ ?h
  case h => conv => lhs; whnf
  case f => exact fun x _ => x
noncomputable def bf172 : List Stmt := by
  refine' (?f : ∀ x : List Stmt, (asDef (nth (PySem.Challenge.rw_nt0605_02.prog).main.body 22)).2.1 = x → List Stmt) _ ?h
  case h => conv => lhs; whnf
  case f => exact fun x _ => x
noncomputable def sf172 : Scope := by
  refine' (?f : ∀ x : Scope, (asDef (nth (PySem.Challenge.rw_nt0605_02.prog).main.body 22)).2.2 = x → Scope) _ ?h
  case h => conv => lhs; whnf
  case f => exact fun x _ => x
noncomputable def pf179 : PySem.Arguments := by
  refine' (?f : ∀ x : PySem.Arguments, (asDef (nth (PySem.Challenge.rw_nt0605_02.prog).main.body 24)).1 = x → PySem.Arguments) _ ?h
  case h => conv => lhs; whnf
  case f => exact fun x _ => x
noncomputable def bf179 : List Stmt := by
  refine' (?f : ∀ x : List Stmt, (asDef (nth (PySem.Challenge.rw_nt0605_02.prog).main.body 24)).2.1 = x → List Stmt) _ ?h
  case h => conv => lhs; whnf
  case f => exact fun x _ => x
noncomputable def sf179 : Scope := by
  refine' (?f : ∀ x : Scope, (asDef (nth (PySem.Challenge.rw_nt0605_02.prog).main.body 24)).2.2 = x → Scope) _ ?h
  case h => conv => lhs; whnf
  case f => exact fun x _ => x
noncomputable def pf193 : PySem.Arguments := by
  refine' (?f : ∀ x : PySem.Arguments, (asDef (nth (inCls (nth (PySem.Challenge.rw_nt0605_02.prog).main.body 25)) 0)).1 = x → PySem.Arguments) _ ?h
  case h => conv => lhs; whnf
  case f => exact fun x _ => x
noncomputable def bf193 : List Stmt := by
  refine' (?f : ∀ x : List Stmt, (asDef (nth (inCls (nth (PySem.Challenge.rw_nt0605_02.prog).main.body 25)) 0)).2.1 = x → List Stmt) _ ?h
  case h => conv => lhs; whnf
  case f => exact fun x _ => x
noncomputable def sf193 : Scope := by
  refine' (?f : ∀ x : Scope, (asDef (nth (inCls (nth (PySem.Challenge.rw_nt0605_02.prog).main.body 25)) 0)).2.2 = x → Scope) _ ?h
  case h => conv => lhs; whnf
  case f => exact fun x _ => x
noncomputable def pf200 : PySem.Arguments := by
  refine' (?f : ∀ x : PySem.Arguments, (asDef (nth (inCls (nth (PySem.Challenge.rw_nt0605_02.prog).main.body 25)) 1)).1 = x → PySem.Arguments) _ ?h
  case h => conv => lhs; whnf
  case f => exact fun x _ => x
noncomputable def bf200 : List Stmt := by
  refine' (?f : ∀ x : List Stmt, (asDef (nth (inCls (nth (PySem.Challenge.rw_nt0605_02.prog).main.body 25)) 1)).2.1 = x → List Stmt) _ ?h
  case h => conv => lhs; whnf
  case f => exact fun x _ => x
noncomputable def sf200 : Scope := by
  refine' (?f : ∀ x : Scope, (asDef (nth (inCls (nth (PySem.Challenge.rw_nt0605_02.prog).main.body 25)) 1)).2.2 = x → Scope) _ ?h
  case h => conv => lhs; whnf
  case f => exact fun x _ => x
noncomputable def pf207 : PySem.Arguments := by
  refine' (?f : ∀ x : PySem.Arguments, (asDef (nth (inCls (nth (PySem.Challenge.rw_nt0605_02.prog).main.body 25)) 2)).1 = x → PySem.Arguments) _ ?h
  case h => conv => lhs; whnf
  case f => exact fun x _ => x
noncomputable def bf207 : List Stmt := by
  refine' (?f : ∀ x : List Stmt, (asDef (nth (inCls (nth (PySem.Challenge.rw_nt0605_02.prog).main.body 25)) 2)).2.1 = x → List Stmt) _ ?h
  case h => conv => lhs; whnf
  case f => exact fun x _ => x
noncomputable def sf207 : Scope := by
  refine' (?f : ∀ x : Scope, (asDef (nth (inCls (nth (PySem.Challenge.rw_nt0605_02.prog).main.body 25)) 2)).2.2 = x → Scope) _ ?h
  case h => conv => lhs; whnf
  case f => exact fun x _ => x
noncomputable def pf236 : PySem.Arguments := by
  refine' (?f : ∀ x : PySem.Arguments, (asDef (nth (inCls (nth (PySem.Challenge.rw_nt0605_02.prog).main.body 27)) 0)).1 = x → PySem.Arguments) _ ?h
  case h => conv => lhs; whnf
  case f => exact fun x _ => x
noncomputable def bf236 : List Stmt := by
  refine' (?f : ∀ x : List Stmt, (asDef (nth (inCls (nth (PySem.Challenge.rw_nt0605_02.prog).main.body 27)) 0)).2.1 = x → List Stmt) _ ?h
  case h => conv => lhs; whnf
  case f => exact fun x _ => x
noncomputable def sf236 : Scope := by
  refine' (?f : ∀ x : Scope, (asDef (nth (inCls (nth (PySem.Challenge.rw_nt0605_02.prog).main.body 27)) 0)).2.2 = x → Scope) _ ?h
  case h => conv => lhs; whnf
  case f => exact fun x _ => x
noncomputable def pf243 : PySem.Arguments := by
  refine' (?f : ∀ x : PySem.Arguments, (asDef (nth (inCls (nth (PySem.Challenge.rw_nt0605_02.prog).main.body 27)) 1)).1 = x → PySem.Arguments) _ ?h
  case h => conv => lhs; whnf
  case f => exact fun x _ => x
noncomputable def bf243 : List Stmt := by
  refine' (?f : ∀ x : List Stmt, (asDef (nth (inCls (nth (PySem.Challenge.rw_nt0605_02.prog).main.body 27)) 1)).2.1 = x → List Stmt) _ ?h
  case h => conv => lhs; whnf
  case f => exact fun x _ => x
noncomputable def sf243 : Scope := by
  refine' (?f : ∀ x : Scope, (asDef (nth (inCls (nth (PySem.Challenge.rw_nt0605_02.prog).main.body 27)) 1)).2.2 = x → Scope) _ ?h
  case h => conv => lhs; whnf
  case f => exact fun x _ => x
noncomputable def pf250 : PySem.Arguments := by
  refine' (?f : ∀ x : PySem.Arguments, (asDef (nth (inCls (nth (PySem.Challenge.rw_nt0605_02.prog).main.body 27)) 2)).1 = x → PySem.Arguments) _ ?h
  case h => conv => lhs; whnf
  case f => exact fun x _ => x
noncomputable def bf250 : List Stmt := by
  refine' (?f : ∀ x : List Stmt, (asDef (nth (inCls (nth (PySem.Challenge.rw_nt0605_02.prog).main.body 27)) 2)).2.1 = x → List Stmt) _ ?h
  case h => conv => lhs; whnf
  case f => exact fun x _ => x
noncomputable def sf250 : Scope := by
  refine' (?f : ∀ x : Scope, (asDef (nth (inCls (nth (PySem.Challenge.rw_nt0605_02.prog).main.body 27)) 2)).2.2 = x → Scope) _ ?h
  case h => conv => lhs; whnf
  case f => exact fun x _ => x
noncomputable def pf257 : PySem.Arguments := by
  refine' (?f : ∀ x : PySem.Arguments, (asDef (nth (inCls (nth (PySem.Challenge.rw_nt0605_02.prog).main.body 27)) 3)).1 = x → PySem.Arguments) _ ?h
  case h => conv => lhs; whnf
  case f => exact fun x _ => x
noncomputable def bf257 : List Stmt := by
  refine' (?f : ∀ x : List Stmt, (asDef (nth (inCls (nth (PySem.Challenge.rw_nt0605_02.prog).main.body 27)) 3)).2.1 = x → List Stmt) _ ?h
  case h => conv => lhs; whnf
  case f => exact fun x _ => x
noncomputable def sf257 : Scope := by
  refine' (?f : ∀ x : Scope, (asDef (nth (inCls (nth (PySem.Challenge.rw_nt0605_02.prog).main.body 27)) 3)).2.2 = x → Scope) _ ?h
  case h => conv => lhs; whnf
  case f => exact fun x _ => x
noncomputable def pf264 : PySem.Arguments := by
  refine' (?f : ∀ x : PySem.Arguments, (asDef (nth (inCls (nth (PySem.Challenge.rw_nt0605_02.prog).main.body 27)) 4)).1 = x → PySem.Arguments) _ ?h
  case h => conv => lhs; whnf
  case f => exact fun x _ => x
noncomputable def bf264 : List Stmt := by
  refine' (?f : ∀ x : List Stmt, (asDef (nth (inCls (nth (PySem.Challenge.rw_nt0605_02.prog).main.body 27)) 4)).2.1 = x → List Stmt) _ ?h
  case h => conv => lhs; whnf
  case f => exact fun x _ => x
noncomputable def sf264 : Scope := by
  refine' (?f : ∀ x : Scope, (asDef (nth (inCls (nth (PySem.Challenge.rw_nt0605_02.prog).main.body 27)) 4)).2.2 = x → Scope) _ ?h
  case h => conv => lhs; whnf
  case f => exact fun x _ => x
noncomputable def pf271 : PySem.Arguments := by
  refine' (?f : ∀ x : PySem.Arguments, (asDef (nth (inCls (nth (PySem.Challenge.rw_nt0605_02.prog).main.body 27)) 5)).1 = x → PySem.Arguments) _ ?h
  case h => conv => lhs; whnf
  case f => exact fun x _ => x
noncomputable def bf271 : List Stmt := by
  refine' (?f : ∀ x : List Stmt, (asDef (nth (inCls (nth (PySem.Challenge.rw_nt0605_02.prog).main.body 27)) 5)).2.1 = x → List Stmt) _ ?h
  case h => conv => lhs; whnf
  case f => exact fun x _ => x
noncomputable def sf271 : Scope := by
  refine' (?f : ∀ x : Scope, (asDef (nth (inCls (nth (PySem.Challenge.rw_nt0605_02.prog).main.body 27)) 5)).2.2 = x → Scope) _ ?h
  case h => conv => lhs; whnf
  case f => exact fun x _ => x
noncomputable def pf278 : PySem.Arguments := by
  refine' (?f : ∀ x : PySem.Arguments, (asDef (nth (inCls (nth (PySem.Challenge.rw_nt0605_02.prog).main.body 27)) 6)).1 = x → PySem.Arguments) _ ?h
  case h => conv => lhs; whnf
  case f => exact fun x _ => x
noncomputable def bf278 : List Stmt := by
  refine' (?f : ∀ x : List Stmt, (asDef (nth (inCls (nth (PySem.Challenge.rw_nt0605_02.prog).main.body 27)) 6)).2.1 = x → List Stmt) _ ?h
  case h => conv => lhs; whnf
  case f => exact fun x _ => x
noncomputable def sf278 : Scope := by
  refine' (?f : ∀ x : Scope, (asDef (nth (inCls (nth (PySem.Challenge.rw_nt0605_02.prog).main.body 27)) 6)).2.2 = x → Scope) _ ?h
  case h => conv => lhs; whnf
  case f => exact fun x _ => x
noncomputable def pf285 : PySem.Arguments := by
  refine' (?f : ∀ x : PySem.Arguments, (asDef (nth (inCls (nth (PySem.Challenge.rw_nt0605_02.prog).main.body 27)) 7)).1 = x → PySem.Arguments) _ ?h
  case h => conv => lhs; whnf
  case f => exact fun x _ => x
noncomputable def bf285 : List Stmt := by
  refine' (?f : ∀ x : List Stmt, (asDef (nth (inCls (nth (PySem.Challenge.rw_nt0605_02.prog).main.body 27)) 7)).2.1 = x → List Stmt) _ ?h
  case h => conv => lhs; whnf
  case f => exact fun x _ => x
noncomputable def sf285 : Scope := by
  refine' (?f : ∀ x : Scope, (asDef (nth (inCls (nth (PySem.Challenge.rw_nt0605_02.prog).main.body 27)) 7)).2.2 = x → Scope) _ ?h
  case h => conv => lhs; whnf
  case f => exact fun x _ => x
noncomputable def pf306 : PySem.Arguments := by
  refine' (?f : ∀ x : PySem.Arguments, (asDef (nth (inCls (nth (PySem.Challenge.rw_nt0605_02.prog).main.body 27)) 10)).1 = x → PySem.Arguments) _ ?h
  case h => conv => lhs; whnf
  case f => exact fun x _ => x
noncomputable def bf306 : List Stmt := by
  refine' (?f : ∀ x : List Stmt, (asDef (nth (inCls (nth (PySem.Challenge.rw_nt0605_02.prog).main.body 27)) 10)).2.1 = x → List Stmt) _ ?h
  case h => conv => lhs; whnf
  case f => exact fun x _ => x
noncomputable def sf306 : Scope := by
  refine' (?f : ∀ x : Scope, (asDef (nth (inCls (nth (PySem.Challenge.rw_nt0605_02.prog).main.body 27)) 10)).2.2 = x → Scope) _ ?h
  case h => conv => lhs; whnf
  case f => exact fun x _ => x
noncomputable def pf313 : PySem.Arguments := by
  refine' (?f : ∀ x : PySem.Arguments, (asDef (nth (inCls (nth (PySem.Challenge.rw_nt0605_02.prog).main.body 27)) 11)).1 = x → PySem.Arguments) _ ?h
  case h => conv => lhs; whnf
  case f => exact fun x _ => x
noncomputable def bf313 : List Stmt := by
  refine' (?f : ∀ x : List Stmt, (asDef (nth (inCls (nth (PySem.Challenge.rw_nt0605_02.prog).main.body 27)) 11)).2.1 = x → List Stmt) _ ?h
  case h => conv => lhs; whnf
  case f => exact fun x _ => x
noncomputable def sf313 : Scope := by
  refine' (?f : ∀ x : Scope, (asDef (nth (inCls (nth (PySem.Challenge.rw_nt0605_02.prog).main.body 27)) 11)).2.2 = x → Scope) _ ?h
  case h => conv => lhs; whnf
  case f => exact fun x _ => x
noncomputable def pf363 : PySem.Arguments := by
  refine' (?f : ∀ x : PySem.Arguments, (asDef (nth (inCls (nth (PySem.Challenge.rw_nt0605_02.prog).main.body 27)) 18)).1 = x → PySem.Arguments) _ ?h
  case h => conv => lhs; whnf
  case f => exact fun x _ => x
noncomputable def bf363 : List Stmt := by
  refine' (?f : ∀ x : List Stmt, (asDef (nth (inCls (nth (PySem.Challenge.rw_nt0605_02.prog).main.body 27)) 18)).2.1 = x → List Stmt) _ ?h
  case h => conv => lhs; whnf
  case f => exact fun x _ => x
noncomputable def sf363 : Scope := by
  refine' (?f : ∀ x : Scope, (asDef (nth (inCls (nth (PySem.Challenge.rw_nt0605_02.prog).main.body 27)) 18)).2.2 = x → Scope) _ ?h
  case h => conv => lhs; whnf
  case f => exact fun x _ => x
noncomputable def pf370 : PySem.Arguments := by
  refine' (?f : ∀ x : PySem.Arguments, (asDef (nth (inCls (nth (PySem.Challenge.rw_nt0605_02.prog).main.body 27)) 19)).1 = x → PySem.Arguments) _ ?h
  case h => conv => lhs; whnf
  case f => exact fun x _ => x
noncomputable def bf370 : List Stmt := by
  refine' (?f : ∀ x : List Stmt, (asDef (nth (inCls (nth (PySem.Challenge.rw_nt0605_02.prog).main.body 27)) 19)).2.1 = x → List Stmt) _ ?h
  case h => conv => lhs; whnf
  case f => exact fun x _ => x
noncomputable def sf370 : Scope := by
  refine' (?f : ∀ x : Scope, (asDef (nth (inCls (nth (PySem.Challenge.rw_nt0605_02.prog).main.body 27)) 19)).2.2 = x → Scope) _ ?h
  case h => conv => lhs; whnf
  case f => exact fun x _ => x
noncomputable def pf377 : PySem.Arguments := by
  refine' (?f : ∀ x : PySem.Arguments, (asDef (nth (inCls (nth (PySem.Challenge.rw_nt0605_02.prog).main.body 27)) 20)).1 = x → PySem.Arguments) _ ?h
  case h => conv => lhs; whnf
  case f => exact fun x _ => x
noncomputable def bf377 : List Stmt := by
  refine' (?f : ∀ x : List Stmt, (asDef (nth (inCls (nth (PySem.Challenge.rw_nt0605_02.prog).main.body 27)) 20)).2.1 = x → List Stmt) _ ?h
  case h => conv => lhs; whnf
  case f => exact fun x _ => x
noncomputable def sf377 : Scope := by
  refine' (?f : ∀ x : Scope, (asDef (nth (inCls (nth (PySem.Challenge.rw_nt0605_02.prog).main.body 27)) 20)).2.2 = x → Scope) _ ?h
  case h => conv => lhs; whnf
  case f => exact fun x _ => x
noncomputable def pf398 : PySem.Arguments := by
  refine' (?f : ∀ x : PySem.Arguments, (asDef (nth (inCls (nth (PySem.Challenge.rw_nt0605_02.prog).main.body 29)) 0)).1 = x → PySem.Arguments) _ ?h
  case h => conv => lhs; whnf
  case f => exact fun x _ => x
noncomputable def bf398 : List Stmt := by
  refine' (?f : ∀ x : List Stmt, (asDef (nth (inCls (nth (PySem.Challenge.rw_nt0605_02.prog).main.body 29)) 0)).2.1 = x → List Stmt) _ ?h
  case h => conv => lhs; whnf
  case f => exact fun x _ => x
noncomputable def sf398 : Scope := by
  refine' (?f : ∀ x : Scope, (asDef (nth (inCls (nth (PySem.Challenge.rw_nt0605_02.prog).main.body 29)) 0)).2.2 = x → Scope) _ ?h
  case h => conv => lhs; whnf
  case f => exact fun x _ => x
noncomputable def pf433 : PySem.Arguments := by
  refine' (?f : ∀ x : PySem.Arguments, (asDef (nth (inCls (nth (PySem.Challenge.rw_nt0605_02.prog).main.body 29)) 5)).1 = x → PySem.Arguments) _ ?h
  case h => conv => lhs; whnf
  case f => exact fun x _ => x
noncomputable def bf433 : List Stmt := by
  refine' (?f : ∀ x : List Stmt, (asDef (nth (inCls (nth (PySem.Challenge.rw_nt0605_02.prog).main.body 29)) 5)).2.1 = x → List Stmt) _ ?h
  case h => conv => lhs; whnf
  case f => exact fun x _ => x
noncomputable def sf433 : Scope := by
  refine' (?f : ∀ x : Scope, (asDef (nth (inCls (nth (PySem.Challenge.rw_nt0605_02.prog).main.body 29)) 5)).2.2 = x → Scope) _ ?h
  case h => conv => lhs; whnf
  case f => exact fun x _ => x
noncomputable def pf447 : PySem.Arguments := by
  refine' (?f : ∀ x : PySem.Arguments, (asDef (nth (PySem.Challenge.rw_nt0605_02.prog).main.body 31)).1 = x → PySem.Arguments) _ ?h
  case h => conv => lhs; whnf
  case f => exact fun x _ => x
noncomputable def bf447 : List Stmt := by
  refine' (?f : ∀ x : List Stmt, (asDef (nth (PySem.Challenge.rw_nt0605_02.prog).main.body 31)).2.1 = x → List Stmt) _ ?h
  case h => conv => lhs; whnf
  case f => exact fun x _ => x
noncomputable def sf447 : Scope := by
  refine' (?f : ∀ x : Scope, (asDef (nth (PySem.Challenge.rw_nt0605_02.prog).main.body 31)).2.2 = x → Scope) _ ?h
  case h => conv => lhs; whnf
  case f => exact fun x _ => x
noncomputable def pf454 : PySem.Arguments := by
  refine' (?f : ∀ x : PySem.Arguments, (asDef (nth (PySem.Challenge.rw_nt0605_02.prog).main.body 32)).1 = x → PySem.Arguments) _ ?h
  case h => conv => lhs; whnf
  case f => exact fun x _ => x
noncomputable def bf454 : List Stmt := by
  refine' (?f : ∀ x : List Stmt, (asDef (nth (PySem.Challenge.rw_nt0605_02.prog).main.body 32)).2.1 = x → List Stmt) _ ?h
  case h => conv => lhs; whnf
  case f => exact fun x _ => x
noncomputable def sf454 : Scope := by
  refine' (?f : ∀ x : Scope, (asDef (nth (PySem.Challenge.rw_nt0605_02.prog).main.body 32)).2.2 = x → Scope) _ ?h
  case h => conv => lhs; whnf
  case f => exact fun x _ => x
noncomputable def pf461 : PySem.Arguments := by
  refine' (?f : ∀ x : PySem.Arguments, (asDef (nth (PySem.Challenge.rw_nt0605_02.prog).main.body 33)).1 = x → PySem.Arguments) _ ?h
  case h => conv => lhs; whnf
  case f => exact fun x _ => x
noncomputable def bf461 : List Stmt := by
  refine' (?f : ∀ x : List Stmt, (asDef (nth (PySem.Challenge.rw_nt0605_02.prog).main.body 33)).2.1 = x → List Stmt) _ ?h
  case h => conv => lhs; whnf
  case f => exact fun x _ => x
noncomputable def sf461 : Scope := by
  refine' (?f : ∀ x : Scope, (asDef (nth (PySem.Challenge.rw_nt0605_02.prog).main.body 33)).2.2 = x → Scope) _ ?h
  case h => conv => lhs; whnf
  case f => exact fun x _ => x
noncomputable def pf468 : PySem.Arguments := by
  refine' (?f : ∀ x : PySem.Arguments, (asDef (nth (PySem.Challenge.rw_nt0605_02.prog).main.body 34)).1 = x → PySem.Arguments) _ ?h
  case h => conv => lhs; whnf
  case f => exact fun x _ => x
noncomputable def bf468 : List Stmt := by
  refine' (?f : ∀ x : List Stmt, (asDef (nth (PySem.Challenge.rw_nt0605_02.prog).main.body 34)).2.1 = x → List Stmt) _ ?h
  case h => conv => lhs; whnf
  case f => exact fun x _ => x
noncomputable def sf468 : Scope := by
  refine' (?f : ∀ x : Scope, (asDef (nth (PySem.Challenge.rw_nt0605_02.prog).main.body 34)).2.2 = x → Scope) _ ?h
  case h => conv => lhs; whnf
  case f => exact fun x _ => x
noncomputable def pf475 : PySem.Arguments := by
  refine' (?f : ∀ x : PySem.Arguments, (asDef (nth (PySem.Challenge.rw_nt0605_02.prog).main.body 35)).1 = x → PySem.Arguments) _ ?h
  case h => conv => lhs; whnf
  case f => exact fun x _ => x
noncomputable def bf475 : List Stmt := by
  refine' (?f : ∀ x : List Stmt, (asDef (nth (PySem.Challenge.rw_nt0605_02.prog).main.body 35)).2.1 = x → List Stmt) _ ?h
  case h => conv => lhs; whnf
  case f => exact fun x _ => x
noncomputable def sf475 : Scope := by
  refine' (?f : ∀ x : Scope, (asDef (nth (PySem.Challenge.rw_nt0605_02.prog).main.body 35)).2.2 = x → Scope) _ ?h
  case h => conv => lhs; whnf
  case f => exact fun x _ => x
noncomputable def pf480 : PySem.Arguments := by
  refine' (?f : ∀ x : PySem.Arguments, (asDef (nth (PySem.Challenge.rw_nt0605_02.prog).main.body 36)).1 = x → PySem.Arguments) _ ?h
  case h => conv => lhs; whnf
  case f => exact fun x _ => x
noncomputable def bf480 : List Stmt := by
  refine' (?f : ∀ x : List Stmt, (asDef (nth (PySem.Challenge.rw_nt0605_02.prog).main.body 36)).2.1 = x → List Stmt) _ ?h
  case h => conv => lhs; whnf
  case f => exact fun x _ => x
noncomputable def sf480 : Scope := by
  refine' (?f : ∀ x : Scope, (asDef (nth (PySem.Challenge.rw_nt0605_02.prog).main.body 36)).2.2 = x → Scope) _ ?h
  case h => conv => lhs; whnf
  case f => exact fun x _ => x
noncomputable def pf487 : PySem.Arguments := by
  refine' (?f : ∀ x : PySem.Arguments, (asDef (nth (PySem.Challenge.rw_nt0605_02.prog).main.body 37)).1 = x → PySem.Arguments) _ ?h
  case h => conv => lhs; whnf
  case f => exact fun x _ => x
noncomputable def bf487 : List Stmt := by
  refine' (?f : ∀ x : List Stmt, (asDef (nth (PySem.Challenge.rw_nt0605_02.prog).main.body 37)).2.1 = x → List Stmt) _ ?h
  case h => conv => lhs; whnf
  case f => exact fun x _ => x
noncomputable def sf487 : Scope := by
  refine' (?f : ∀ x : Scope, (asDef (nth (PySem.Challenge.rw_nt0605_02.prog).main.body 37)).2.2 = x → Scope) _ ?h
  case h => conv => lhs; whnf
  case f => exact fun x _ => x
noncomputable def Kof (P : Params) : Frag :=
  (nat_lit 3, ({ cls := Value.type "dict", data := Data.dict (Array.mk (({ hash := PyData.keyHash P (Str.ofString "__name__"), key := Value.str (Str.ofString "__name__") 165, val := Value.str (Str.ofString "law_nt0605_02") 719 } : DictEntry) :: ({ hash := PyData.keyHash P (Str.ofString "__doc__"), key := Value.str (Str.ofString "__doc__") 166, val := Value.none } : DictEntry) :: ({ hash := PyData.keyHash P (Str.ofString "__package__"), key := Value.str (Str.ofString "__package__") 167, val := Value.none } : DictEntry) :: ({ hash := PyData.keyHash P (Str.ofString "__loader__"), key := Value.str (Str.ofString "__loader__") 168, val := Value.builtin "__main__.__loader__#opaque" } : DictEntry) :: ({ hash := PyData.keyHash P (Str.ofString "__spec__"), key := Value.str (Str.ofString "__spec__") 169, val := Value.none } : DictEntry) :: ({ hash := PyData.keyHash P (Str.ofString "__annotations__"), key := Value.str (Str.ofString "__annotations__") 170, val := Value.ref 6 } : DictEntry) :: ({ hash := PyData.keyHash P (Str.ofString "__builtins__"), key := Value.str (Str.ofString "__builtins__") 171, val := Value.ref 4 } : DictEntry) :: ({ hash := PyData.keyHash P (Str.ofString "__file__"), key := Value.str (Str.ofString "__file__") 173, val := Value.str (Str.ofString "/claim/cut.py") 172 } : DictEntry) :: ({ hash := PyData.keyHash P (Str.ofString "__cached__"), key := Value.str (Str.ofString "__cached__") 174, val := Value.none } : DictEntry) :: ({ hash := PyData.keyHash P (Str.ofString "_wall"), key := Value.str (Str.ofString "_wall") 193, val := Value.ref 21 } : DictEntry) :: ({ hash := PyData.keyHash P (Str.ofString "close_comment"), key := Value.str (Str.ofString "close_comment") 202, val := Value.ref 28 } : DictEntry) :: ({ hash := PyData.keyHash P (Str.ofString "end_in_comment"), key := Value.str (Str.ofString "end_in_comment") 209, val := Value.ref 35 } : DictEntry) :: ({ hash := PyData.keyHash P (Str.ofString "null_in_comment"), key := Value.str (Str.ofString "null_in_comment") 216, val := Value.ref 42 } : DictEntry) :: ({ hash := PyData.keyHash P (Str.ofString "comment_start_state"), key := Value.str (Str.ofString "comment_start_state") 224, val := Value.ref 49 } : DictEntry) :: ({ hash := PyData.keyHash P (Str.ofString "comment_start_dash_state"), key := Value.str (Str.ofString "comment_start_dash_state") 232, val := Value.ref 56 } : DictEntry) :: ({ hash := PyData.keyHash P (Str.ofString "comment_state"), key := Value.str (Str.ofString "comment_state") 240, val := Value.ref 63 } : DictEntry) :: ({ hash := PyData.keyHash P (Str.ofString "comment_less_than_state"), key := Value.str (Str.ofString "comment_less_than_state") 248, val := Value.ref 70 } : DictEntry) :: ({ hash := PyData.keyHash P (Str.ofString "comment_bang_state"), key := Value.str (Str.ofString "comment_bang_state") 256, val := Value.ref 77 } : DictEntry) :: ({ hash := PyData.keyHash P (Str.ofString "comment_bang_dash_state"), key := Value.str (Str.ofString "comment_bang_dash_state") 264, val := Value.ref 84 } : DictEntry) :: ({ hash := PyData.keyHash P (Str.ofString "comment_bang_dash_dash_state"), key := Value.str (Str.ofString "comment_bang_dash_dash_state") 272, val := Value.ref 91 } : DictEntry) :: ({ hash := PyData.keyHash P (Str.ofString "comment_end_dash_state"), key := Value.str (Str.ofString "comment_end_dash_state") 280, val := Value.ref 98 } : DictEntry) :: ({ hash := PyData.keyHash P (Str.ofString "comment_end_state"), key := Value.str (Str.ofString "comment_end_state") 288, val := Value.ref 105 } : DictEntry) :: ({ hash := PyData.keyHash P (Str.ofString "comment_end_bang_state"), key := Value.str (Str.ofString "comment_end_bang_state") 296, val := Value.ref 112 } : DictEntry) :: ({ hash := PyData.keyHash P (Str.ofString "comment_states"), key := Value.str (Str.ofString "comment_states") 302, val := Value.ref 119 } : DictEntry) :: ({ hash := PyData.keyHash P (Str.ofString "HtmlFault"), key := Value.str (Str.ofString "HtmlFault") 333, val := Value.ref 136 } : DictEntry) :: ({ hash := PyData.keyHash P (Str.ofString "Misused"), key := Value.str (Str.ofString "Misused") 349, val := Value.ref 149 } : DictEntry) :: ({ hash := PyData.keyHash P (Str.ofString "is_surrogate"), key := Value.str (Str.ofString "is_surrogate") 358, val := Value.ref 158 } : DictEntry) :: ({ hash := PyData.keyHash P (Str.ofString "is_noncharacter"), key := Value.str (Str.ofString "is_noncharacter") 365, val := Value.ref 165 } : DictEntry) :: ({ hash := PyData.keyHash P (Str.ofString "is_control"), key := Value.str (Str.ofString "is_control") 372, val := Value.ref 172 } : DictEntry) :: ({ hash := PyData.keyHash P (Str.ofString "input_error"), key := Value.str (Str.ofString "input_error") 381, val := Value.ref 179 } : DictEntry) :: ({ hash := PyData.keyHash P (Str.ofString "Stream"), key := Value.str (Str.ofString "Stream") 436, val := Value.ref 217 } : DictEntry) :: ({ hash := PyData.keyHash P (Str.ofString "Tokenizer"), key := Value.str (Str.ofString "Tokenizer") 639, val := Value.ref 380 } : DictEntry) :: ({ hash := PyData.keyHash P (Str.ofString "Draft"), key := Value.str (Str.ofString "Draft") 718, val := Value.ref 436 } : DictEntry) :: ({ hash := PyData.keyHash P (Str.ofString "_law_digit"), key := Value.str (Str.ofString "_law_digit") 729, val := Value.ref 447 } : DictEntry) :: ({ hash := PyData.keyHash P (Str.ofString "_law_text"), key := Value.str (Str.ofString "_law_text") 739, val := Value.ref 454 } : DictEntry) :: ({ hash := PyData.keyHash P (Str.ofString "_law_pieces"), key := Value.str (Str.ofString "_law_pieces") 750, val := Value.ref 461 } : DictEntry) :: ({ hash := PyData.keyHash P (Str.ofString "_law_close"), key := Value.str (Str.ofString "_law_close") 760, val := Value.ref 468 } : DictEntry) :: ({ hash := PyData.keyHash P (Str.ofString "_law_state"), key := Value.str (Str.ofString "_law_state") 770, val := Value.ref 475 } : DictEntry) :: ({ hash := PyData.keyHash P (Str.ofString "_law_due"), key := Value.str (Str.ofString "_law_due") 776, val := Value.ref 480 } : DictEntry) :: ({ hash := PyData.keyHash P (Str.ofString "_law_told"), key := Value.str (Str.ofString "_law_told") 786, val := Value.ref 487 } : DictEntry) :: ({ hash := PyData.keyHash P (Str.ofString "law"), key := Value.str (Str.ofString "law") 798, val := Value.ref 494 } : DictEntry) :: [])) 41 } : Obj)) ::
  (nat_lit 27, ({ cls := Value.type "code", data := Data.fields #[Value.str (Str.ofString "close_comment") 196, Value.str (Str.ofString "close_comment") 197, Value.str (Str.ofString "/claim/cut.py") 198, Value.int 5 0, Value.int 1 0, Value.int 0 0, Value.int 0 0, Value.int 3 0, Value.ref 22, Value.bool true, Value.int 181 0, Value.ref 23, Value.none, Value.ref 24, Value.ref 25, Value.ref 26, Value.int 200 0, Value.int 5 0, Value.str (Str.ofString "/claim/cut.py") 201] } : Obj)) ::
  (nat_lit 28, ({ cls := Value.type "function", data := Data.func { name := Str.ofString "close_comment", qualname := Str.ofString "close_comment", params := pf28, body := FuncBody.stmts bf28, scope := sf28, globals := 3, closure := [], defaults := Value.none, kwdefaults := Value.none, pyModule := Value.str (Str.ofString "htmltree.markstates") 194, code := Value.ref 27 } } : Obj)) ::
  (nat_lit 34, ({ cls := Value.type "code", data := Data.fields #[Value.str (Str.ofString "end_in_comment") 203, Value.str (Str.ofString "end_in_comment") 204, Value.str (Str.ofString "/claim/cut.py") 205, Value.int 8 0, Value.int 1 0, Value.int 0 0, Value.int 0 0, Value.int 3 0, Value.ref 29, Value.bool true, Value.int 181 0, Value.ref 30, Value.none, Value.ref 31, Value.ref 32, Value.ref 33, Value.int 207 0, Value.int 8 0, Value.str (Str.ofString "/claim/cut.py") 208] } : Obj)) ::
  (nat_lit 35, ({ cls := Value.type "function", data := Data.func { name := Str.ofString "end_in_comment", qualname := Str.ofString "end_in_comment", params := pf35, body := FuncBody.stmts bf35, scope := sf35, globals := 3, closure := [], defaults := Value.none, kwdefaults := Value.none, pyModule := Value.str (Str.ofString "htmltree.markstates") 194, code := Value.ref 34 } } : Obj)) ::
  (nat_lit 41, ({ cls := Value.type "code", data := Data.fields #[Value.str (Str.ofString "null_in_comment") 210, Value.str (Str.ofString "null_in_comment") 211, Value.str (Str.ofString "/claim/cut.py") 212, Value.int 12 0, Value.int 1 0, Value.int 0 0, Value.int 0 0, Value.int 3 0, Value.ref 36, Value.bool true, Value.int 181 0, Value.ref 37, Value.none, Value.ref 38, Value.ref 39, Value.ref 40, Value.int 214 0, Value.int 12 0, Value.str (Str.ofString "/claim/cut.py") 215] } : Obj)) ::
  (nat_lit 42, ({ cls := Value.type "function", data := Data.func { name := Str.ofString "null_in_comment", qualname := Str.ofString "null_in_comment", params := pf42, body := FuncBody.stmts bf42, scope := sf42, globals := 3, closure := [], defaults := Value.none, kwdefaults := Value.none, pyModule := Value.str (Str.ofString "htmltree.markstates") 194, code := Value.ref 41 } } : Obj)) ::
  (nat_lit 48, ({ cls := Value.type "code", data := Data.fields #[Value.str (Str.ofString "comment_start_state") 217, Value.str (Str.ofString "comment_start_state") 218, Value.str (Str.ofString "/claim/cut.py") 219, Value.int 15 0, Value.int 1 0, Value.int 0 0, Value.int 0 0, Value.int 3 0, Value.ref 43, Value.bool true, Value.int 181 0, Value.ref 44, Value.none, Value.ref 45, Value.ref 46, Value.ref 47, Value.int 222 0, Value.int 15 0, Value.str (Str.ofString "/claim/cut.py") 223] } : Obj)) ::
  (nat_lit 49, ({ cls := Value.type "function", data := Data.func { name := Str.ofString "comment_start_state", qualname := Str.ofString "comment_start_state", params := pf49, body := FuncBody.stmts bf49, scope := sf49, globals := 3, closure := [], defaults := Value.none, kwdefaults := Value.none, pyModule := Value.str (Str.ofString "htmltree.markstates") 194, code := Value.ref 48 } } : Obj)) ::
  (nat_lit 55, ({ cls := Value.type "code", data := Data.fields #[Value.str (Str.ofString "comment_start_dash_state") 225, Value.str (Str.ofString "comment_start_dash_state") 226, Value.str (Str.ofString "/claim/cut.py") 227, Value.int 24 0, Value.int 1 0, Value.int 0 0, Value.int 0 0, Value.int 3 0, Value.ref 50, Value.bool true, Value.int 181 0, Value.ref 51, Value.none, Value.ref 52, Value.ref 53, Value.ref 54, Value.int 230 0, Value.int 24 0, Value.str (Str.ofString "/claim/cut.py") 231] } : Obj)) ::
  (nat_lit 56, ({ cls := Value.type "function", data := Data.func { name := Str.ofString "comment_start_dash_state", qualname := Str.ofString "comment_start_dash_state", params := pf56, body := FuncBody.stmts bf56, scope := sf56, globals := 3, closure := [], defaults := Value.none, kwdefaults := Value.none, pyModule := Value.str (Str.ofString "htmltree.markstates") 194, code := Value.ref 55 } } : Obj)) ::
  (nat_lit 62, ({ cls := Value.type "code", data := Data.fields #[Value.str (Str.ofString "comment_state") 233, Value.str (Str.ofString "comment_state") 234, Value.str (Str.ofString "/claim/cut.py") 235, Value.int 36 0, Value.int 1 0, Value.int 0 0, Value.int 0 0, Value.int 3 0, Value.ref 57, Value.bool true, Value.int 181 0, Value.ref 58, Value.none, Value.ref 59, Value.ref 60, Value.ref 61, Value.int 238 0, Value.int 36 0, Value.str (Str.ofString "/claim/cut.py") 239] } : Obj)) ::
  (nat_lit 63, ({ cls := Value.type "function", data := Data.func { name := Str.ofString "comment_state", qualname := Str.ofString "comment_state", params := pf63, body := FuncBody.stmts bf63, scope := sf63, globals := 3, closure := [], defaults := Value.none, kwdefaults := Value.none, pyModule := Value.str (Str.ofString "htmltree.markstates") 194, code := Value.ref 62 } } : Obj)) ::
  (nat_lit 69, ({ cls := Value.type "code", data := Data.fields #[Value.str (Str.ofString "comment_less_than_state") 241, Value.str (Str.ofString "comment_less_than_state") 242, Value.str (Str.ofString "/claim/cut.py") 243, Value.int 49 0, Value.int 1 0, Value.int 0 0, Value.int 0 0, Value.int 3 0, Value.ref 64, Value.bool true, Value.int 181 0, Value.ref 65, Value.none, Value.ref 66, Value.ref 67, Value.ref 68, Value.int 246 0, Value.int 49 0, Value.str (Str.ofString "/claim/cut.py") 247] } : Obj)) ::
  (nat_lit 70, ({ cls := Value.type "function", data := Data.func { name := Str.ofString "comment_less_than_state", qualname := Str.ofString "comment_less_than_state", params := pf70, body := FuncBody.stmts bf70, scope := sf70, globals := 3, closure := [], defaults := Value.none, kwdefaults := Value.none, pyModule := Value.str (Str.ofString "htmltree.markstates") 194, code := Value.ref 69 } } : Obj)) ::
  (nat_lit 76, ({ cls := Value.type "code", data := Data.fields #[Value.str (Str.ofString "comment_bang_state") 249, Value.str (Str.ofString "comment_bang_state") 250, Value.str (Str.ofString "/claim/cut.py") 251, Value.int 58 0, Value.int 1 0, Value.int 0 0, Value.int 0 0, Value.int 3 0, Value.ref 71, Value.bool true, Value.int 181 0, Value.ref 72, Value.none, Value.ref 73, Value.ref 74, Value.ref 75, Value.int 254 0, Value.int 58 0, Value.str (Str.ofString "/claim/cut.py") 255] } : Obj)) ::
  (nat_lit 77, ({ cls := Value.type "function", data := Data.func { name := Str.ofString "comment_bang_state", qualname := Str.ofString "comment_bang_state", params := pf77, body := FuncBody.stmts bf77, scope := sf77, globals := 3, closure := [], defaults := Value.none, kwdefaults := Value.none, pyModule := Value.str (Str.ofString "htmltree.markstates") 194, code := Value.ref 76 } } : Obj)) ::
  (nat_lit 83, ({ cls := Value.type "code", data := Data.fields #[Value.str (Str.ofString "comment_bang_dash_state") 257, Value.str (Str.ofString "comment_bang_dash_state") 258, Value.str (Str.ofString "/claim/cut.py") 259, Value.int 64 0, Value.int 1 0, Value.int 0 0, Value.int 0 0, Value.int 3 0, Value.ref 78, Value.bool true, Value.int 181 0, Value.ref 79, Value.none, Value.ref 80, Value.ref 81, Value.ref 82, Value.int 262 0, Value.int 64 0, Value.str (Str.ofString "/claim/cut.py") 263] } : Obj)) ::
  (nat_lit 84, ({ cls := Value.type "function", data := Data.func { name := Str.ofString "comment_bang_dash_state", qualname := Str.ofString "comment_bang_dash_state", params := pf84, body := FuncBody.stmts bf84, scope := sf84, globals := 3, closure := [], defaults := Value.none, kwdefaults := Value.none, pyModule := Value.str (Str.ofString "htmltree.markstates") 194, code := Value.ref 83 } } : Obj)) ::
  (nat_lit 90, ({ cls := Value.type "code", data := Data.fields #[Value.str (Str.ofString "comment_bang_dash_dash_state") 265, Value.str (Str.ofString "comment_bang_dash_dash_state") 266, Value.str (Str.ofString "/claim/cut.py") 267, Value.int 70 0, Value.int 1 0, Value.int 0 0, Value.int 0 0, Value.int 3 0, Value.ref 85, Value.bool true, Value.int 181 0, Value.ref 86, Value.none, Value.ref 87, Value.ref 88, Value.ref 89, Value.int 270 0, Value.int 70 0, Value.str (Str.ofString "/claim/cut.py") 271] } : Obj)) ::
  (nat_lit 91, ({ cls := Value.type "function", data := Data.func { name := Str.ofString "comment_bang_dash_dash_state", qualname := Str.ofString "comment_bang_dash_dash_state", params := pf91, body := FuncBody.stmts bf91, scope := sf91, globals := 3, closure := [], defaults := Value.none, kwdefaults := Value.none, pyModule := Value.str (Str.ofString "htmltree.markstates") 194, code := Value.ref 90 } } : Obj)) ::
  (nat_lit 97, ({ cls := Value.type "code", data := Data.fields #[Value.str (Str.ofString "comment_end_dash_state") 273, Value.str (Str.ofString "comment_end_dash_state") 274, Value.str (Str.ofString "/claim/cut.py") 275, Value.int 75 0, Value.int 1 0, Value.int 0 0, Value.int 0 0, Value.int 3 0, Value.ref 92, Value.bool true, Value.int 181 0, Value.ref 93, Value.none, Value.ref 94, Value.ref 95, Value.ref 96, Value.int 278 0, Value.int 75 0, Value.str (Str.ofString "/claim/cut.py") 279] } : Obj)) ::
  (nat_lit 98, ({ cls := Value.type "function", data := Data.func { name := Str.ofString "comment_end_dash_state", qualname := Str.ofString "comment_end_dash_state", params := pf98, body := FuncBody.stmts bf98, scope := sf98, globals := 3, closure := [], defaults := Value.none, kwdefaults := Value.none, pyModule := Value.str (Str.ofString "htmltree.markstates") 194, code := Value.ref 97 } } : Obj)) ::
  (nat_lit 104, ({ cls := Value.type "code", data := Data.fields #[Value.str (Str.ofString "comment_end_state") 281, Value.str (Str.ofString "comment_end_state") 282, Value.str (Str.ofString "/claim/cut.py") 283, Value.int 84 0, Value.int 1 0, Value.int 0 0, Value.int 0 0, Value.int 3 0, Value.ref 99, Value.bool true, Value.int 181 0, Value.ref 100, Value.none, Value.ref 101, Value.ref 102, Value.ref 103, Value.int 286 0, Value.int 84 0, Value.str (Str.ofString "/claim/cut.py") 287] } : Obj)) ::
  (nat_lit 105, ({ cls := Value.type "function", data := Data.func { name := Str.ofString "comment_end_state", qualname := Str.ofString "comment_end_state", params := pf105, body := FuncBody.stmts bf105, scope := sf105, globals := 3, closure := [], defaults := Value.none, kwdefaults := Value.none, pyModule := Value.str (Str.ofString "htmltree.markstates") 194, code := Value.ref 104 } } : Obj)) ::
  (nat_lit 111, ({ cls := Value.type "code", data := Data.fields #[Value.str (Str.ofString "comment_end_bang_state") 289, Value.str (Str.ofString "comment_end_bang_state") 290, Value.str (Str.ofString "/claim/cut.py") 291, Value.int 97 0, Value.int 1 0, Value.int 0 0, Value.int 0 0, Value.int 3 0, Value.ref 106, Value.bool true, Value.int 181 0, Value.ref 107, Value.none, Value.ref 108, Value.ref 109, Value.ref 110, Value.int 294 0, Value.int 97 0, Value.str (Str.ofString "/claim/cut.py") 295] } : Obj)) ::
  (nat_lit 112, ({ cls := Value.type "function", data := Data.func { name := Str.ofString "comment_end_bang_state", qualname := Str.ofString "comment_end_bang_state", params := pf112, body := FuncBody.stmts bf112, scope := sf112, globals := 3, closure := [], defaults := Value.none, kwdefaults := Value.none, pyModule := Value.str (Str.ofString "htmltree.markstates") 194, code := Value.ref 111 } } : Obj)) ::
  (nat_lit 118, ({ cls := Value.type "code", data := Data.fields #[Value.str (Str.ofString "comment_states") 297, Value.str (Str.ofString "comment_states") 298, Value.str (Str.ofString "/claim/cut.py") 299, Value.int 110 0, Value.int 0 0, Value.int 0 0, Value.int 0 0, Value.int 3 0, Value.ref 113, Value.bool true, Value.int 181 0, Value.ref 114, Value.none, Value.ref 115, Value.ref 116, Value.ref 117, Value.int 300 0, Value.int 110 0, Value.str (Str.ofString "/claim/cut.py") 301] } : Obj)) ::
  (nat_lit 119, ({ cls := Value.type "function", data := Data.func { name := Str.ofString "comment_states", qualname := Str.ofString "comment_states", params := pf119, body := FuncBody.stmts bf119, scope := sf119, globals := 3, closure := [], defaults := Value.none, kwdefaults := Value.none, pyModule := Value.str (Str.ofString "htmltree.markstates") 194, code := Value.ref 118 } } : Obj)) ::
  (nat_lit 135, ({ cls := Value.type "dict", data := Data.dict #[{ hash := PyData.keyHash P (Str.ofString "__module__"), key := Value.str (Str.ofString "__module__") 312, val := Value.str (Str.ofString "htmltree.faults") 303 }, { hash := PyData.keyHash P (Str.ofString "__firstlineno__"), key := Value.str (Str.ofString "__firstlineno__") 316, val := Value.int 113 315 }, { hash := PyData.keyHash P (Str.ofString "__init__"), key := Value.str (Str.ofString "__init__") 324, val := Value.ref 133 }, { hash := PyData.keyHash P (Str.ofString "__static_attributes__"), key := Value.str (Str.ofString "__static_attributes__") 326, val := Value.ref 134 }, { hash := PyData.keyHash P (Str.ofString "__weakref__"), key := Value.str (Str.ofString "__weakref__") 328, val := Value.ref 137 }, { hash := PyData.keyHash P (Str.ofString "__doc__"), key := Value.str (Str.ofString "__doc__") 329, val := Value.none }] 3 } : Obj)) ::
  (nat_lit 136, ({ cls := Value.type "type", data := Data.cls { name := Str.ofString "HtmlFault", bases := [Value.type "Exception"], mro := [Value.ref 136, Value.type "Exception", Value.type "BaseException", Value.type "object"], ns := 135, qualname := Str.ofString "HtmlFault", subclasses := [Value.ref 149] }, slots := #[some (Value.ref 120), none, some (Value.str (Str.ofString "HtmlFault") 305), some (Value.str (Str.ofString "HtmlFault") 313), some (Value.builtin "Exception.__new__"), some (Value.bool true)] } : Obj)) ::
  (nat_lit 148, ({ cls := Value.type "dict", data := Data.dict #[{ hash := PyData.keyHash P (Str.ofString "__module__"), key := Value.str (Str.ofString "__module__") 341, val := Value.str (Str.ofString "htmltree.faults") 303 }, { hash := PyData.keyHash P (Str.ofString "__firstlineno__"), key := Value.str (Str.ofString "__firstlineno__") 345, val := Value.int 118 344 }, { hash := PyData.keyHash P (Str.ofString "__static_attributes__"), key := Value.str (Str.ofString "__static_attributes__") 346, val := Value.ref 147 }, { hash := PyData.keyHash P (Str.ofString "__doc__"), key := Value.str (Str.ofString "__doc__") 347, val := Value.none }] 2 } : Obj)) ::
  (nat_lit 149, ({ cls := Value.type "type", data := Data.cls { name := Str.ofString "Misused", bases := [Value.ref 136], mro := [Value.ref 149, Value.ref 136, Value.type "Exception", Value.type "BaseException", Value.type "object"], ns := 148, qualname := Str.ofString "Misused" }, slots := #[some (Value.ref 140), none, some (Value.str (Str.ofString "Misused") 334), some (Value.str (Str.ofString "Misused") 342), some (Value.builtin "Exception.__new__"), some (Value.bool true)] } : Obj)) ::
  (nat_lit 157, ({ cls := Value.type "code", data := Data.fields #[Value.str (Str.ofString "is_surrogate") 352, Value.str (Str.ofString "is_surrogate") 353, Value.str (Str.ofString "/claim/cut.py") 354, Value.int 121 0, Value.int 1 0, Value.int 0 0, Value.int 0 0, Value.int 3 0, Value.ref 152, Value.bool true, Value.int 181 0, Value.ref 153, Value.none, Value.ref 154, Value.ref 155, Value.ref 156, Value.int 356 0, Value.int 121 0, Value.str (Str.ofString "/claim/cut.py") 357] } : Obj)) ::
  (nat_lit 158, ({ cls := Value.type "function", data := Data.func { name := Str.ofString "is_surrogate", qualname := Str.ofString "is_surrogate", params := pf158, body := FuncBody.stmts bf158, scope := sf158, globals := 3, closure := [], defaults := Value.none, kwdefaults := Value.none, pyModule := Value.str (Str.ofString "htmltree.signs") 350, code := Value.ref 157 } } : Obj)) ::
  (nat_lit 164, ({ cls := Value.type "code", data := Data.fields #[Value.str (Str.ofString "is_noncharacter") 359, Value.str (Str.ofString "is_noncharacter") 360, Value.str (Str.ofString "/claim/cut.py") 361, Value.int 123 0, Value.int 1 0, Value.int 0 0, Value.int 0 0, Value.int 3 0, Value.ref 159, Value.bool true, Value.int 181 0, Value.ref 160, Value.none, Value.ref 161, Value.ref 162, Value.ref 163, Value.int 363 0, Value.int 123 0, Value.str (Str.ofString "/claim/cut.py") 364] } : Obj)) ::
  (nat_lit 165, ({ cls := Value.type "function", data := Data.func { name := Str.ofString "is_noncharacter", qualname := Str.ofString "is_noncharacter", params := pf165, body := FuncBody.stmts bf165, scope := sf165, globals := 3, closure := [], defaults := Value.none, kwdefaults := Value.none, pyModule := Value.str (Str.ofString "htmltree.signs") 350, code := Value.ref 164 } } : Obj)) ::
  (nat_lit 171, ({ cls := Value.type "code", data := Data.fields #[Value.str (Str.ofString "is_control") 366, Value.str (Str.ofString "is_control") 367, Value.str (Str.ofString "/claim/cut.py") 368, Value.int 125 0, Value.int 1 0, Value.int 0 0, Value.int 0 0, Value.int 3 0, Value.ref 166, Value.bool true, Value.int 181 0, Value.ref 167, Value.none, Value.ref 168, Value.ref 169, Value.ref 170, Value.int 370 0, Value.int 125 0, Value.str (Str.ofString "/claim/cut.py") 371] } : Obj)) ::
  (nat_lit 172, ({ cls := Value.type "function", data := Data.func { name := Str.ofString "is_control", qualname := Str.ofString "is_control", params := pf172, body := FuncBody.stmts bf172, scope := sf172, globals := 3, closure := [], defaults := Value.none, kwdefaults := Value.none, pyModule := Value.str (Str.ofString "htmltree.signs") 350, code := Value.ref 171 } } : Obj)) ::
  (nat_lit 178, ({ cls := Value.type "code", data := Data.fields #[Value.str (Str.ofString "input_error") 375, Value.str (Str.ofString "input_error") 376, Value.str (Str.ofString "/claim/cut.py") 377, Value.int 128 0, Value.int 1 0, Value.int 0 0, Value.int 0 0, Value.int 3 0, Value.ref 173, Value.bool true, Value.int 181 0, Value.ref 174, Value.none, Value.ref 175, Value.ref 176, Value.ref 177, Value.int 379 0, Value.int 128 0, Value.str (Str.ofString "/claim/cut.py") 380] } : Obj)) ::
  (nat_lit 179, ({ cls := Value.type "function", data := Data.func { name := Str.ofString "input_error", qualname := Str.ofString "input_error", params := pf179, body := FuncBody.stmts bf179, scope := sf179, globals := 3, closure := [], defaults := Value.none, kwdefaults := Value.none, pyModule := Value.str (Str.ofString "htmltree.stream") 373, code := Value.ref 178 } } : Obj)) ::
  (nat_lit 192, ({ cls := Value.type "code", data := Data.fields #[Value.str (Str.ofString "__init__") 394, Value.str (Str.ofString "Stream.__init__") 395, Value.str (Str.ofString "/claim/cut.py") 396, Value.int 138 0, Value.int 1 0, Value.int 0 0, Value.int 0 0, Value.int 3 0, Value.ref 187, Value.bool true, Value.int 181 0, Value.ref 188, Value.none, Value.ref 189, Value.ref 190, Value.ref 191, Value.int 398 0, Value.int 138 0, Value.str (Str.ofString "/claim/cut.py") 399] } : Obj)) ::
  (nat_lit 193, ({ cls := Value.type "function", data := Data.func { name := Str.ofString "__init__", qualname := Str.ofString "Stream.__init__", params := pf193, body := FuncBody.stmts bf193, scope := sf193, globals := 3, closure := [], defaults := Value.none, kwdefaults := Value.none, pyModule := Value.str (Str.ofString "htmltree.stream") 373, code := Value.ref 192 } } : Obj)) ::
  (nat_lit 199, ({ cls := Value.type "code", data := Data.fields #[Value.str (Str.ofString "feed") 401, Value.str (Str.ofString "Stream.feed") 402, Value.str (Str.ofString "/claim/cut.py") 403, Value.int 144 0, Value.int 2 0, Value.int 0 0, Value.int 0 0, Value.int 3 0, Value.ref 194, Value.bool true, Value.int 181 0, Value.ref 195, Value.none, Value.ref 196, Value.ref 197, Value.ref 198, Value.int 408 0, Value.int 144 0, Value.str (Str.ofString "/claim/cut.py") 409] } : Obj)) ::
  (nat_lit 200, ({ cls := Value.type "function", data := Data.func { name := Str.ofString "feed", qualname := Str.ofString "Stream.feed", params := pf200, body := FuncBody.stmts bf200, scope := sf200, globals := 3, closure := [], defaults := Value.none, kwdefaults := Value.none, pyModule := Value.str (Str.ofString "htmltree.stream") 373, code := Value.ref 199 } } : Obj)) ::
  (nat_lit 206, ({ cls := Value.type "code", data := Data.fields #[Value.str (Str.ofString "end") 411, Value.str (Str.ofString "Stream.end") 412, Value.str (Str.ofString "/claim/cut.py") 413, Value.int 157 0, Value.int 1 0, Value.int 0 0, Value.int 0 0, Value.int 3 0, Value.ref 201, Value.bool true, Value.int 181 0, Value.ref 202, Value.none, Value.ref 203, Value.ref 204, Value.ref 205, Value.int 415 0, Value.int 157 0, Value.str (Str.ofString "/claim/cut.py") 416] } : Obj)) ::
  (nat_lit 207, ({ cls := Value.type "function", data := Data.func { name := Str.ofString "end", qualname := Str.ofString "Stream.end", params := pf207, body := FuncBody.stmts bf207, scope := sf207, globals := 3, closure := [], defaults := Value.none, kwdefaults := Value.none, pyModule := Value.str (Str.ofString "htmltree.stream") 373, code := Value.ref 206 } } : Obj)) ::
  (nat_lit 216, ({ cls := Value.type "dict", data := Data.dict #[{ hash := PyData.keyHash P (Str.ofString "__module__"), key := Value.str (Str.ofString "__module__") 389, val := Value.str (Str.ofString "htmltree.stream") 373 }, { hash := PyData.keyHash P (Str.ofString "__firstlineno__"), key := Value.str (Str.ofString "__firstlineno__") 393, val := Value.int 136 392 }, { hash := PyData.keyHash P (Str.ofString "__init__"), key := Value.str (Str.ofString "__init__") 400, val := Value.ref 193 }, { hash := PyData.keyHash P (Str.ofString "feed"), key := Value.str (Str.ofString "feed") 410, val := Value.ref 200 }, { hash := PyData.keyHash P (Str.ofString "end"), key := Value.str (Str.ofString "end") 417, val := Value.ref 207 }, { hash := PyData.keyHash P (Str.ofString "many"), key := Value.str (Str.ofString "many") 424, val := Value.ref 214 }, { hash := PyData.keyHash P (Str.ofString "__static_attributes__"), key := Value.str (Str.ofString "__static_attributes__") 429, val := Value.ref 215 }, { hash := PyData.keyHash P (Str.ofString "__dict__"), key := Value.str (Str.ofString "__dict__") 431, val := Value.ref 218 }, { hash := PyData.keyHash P (Str.ofString "__weakref__"), key := Value.str (Str.ofString "__weakref__") 433, val := Value.ref 219 }, { hash := PyData.keyHash P (Str.ofString "__doc__"), key := Value.str (Str.ofString "__doc__") 434, val := Value.none }] 4 } : Obj)) ::
  (nat_lit 217, ({ cls := Value.type "type", data := Data.cls { name := Str.ofString "Stream", bases := [Value.type "object"], mro := [Value.ref 217, Value.type "object"], ns := 216, qualname := Str.ofString "Stream" }, slots := #[none, none, some (Value.str (Str.ofString "Stream") 382), some (Value.str (Str.ofString "Stream") 390), some (Value.builtin "object.__new__"), some (Value.bool true)] } : Obj)) ::
  (nat_lit 229, ({ cls := Value.type "tuple", data := Data.seq #[Value.str (Str.ofString "data") 451, Value.str (Str.ofString "") 452] } : Obj)) ::
  (nat_lit 235, ({ cls := Value.type "code", data := Data.fields #[Value.str (Str.ofString "__init__") 453, Value.str (Str.ofString "Tokenizer.__init__") 454, Value.str (Str.ofString "/claim/cut.py") 455, Value.int 165 0, Value.int 4 0, Value.int 0 0, Value.int 0 0, Value.int 3 0, Value.ref 230, Value.bool true, Value.int 181 0, Value.ref 231, Value.none, Value.ref 232, Value.ref 233, Value.ref 234, Value.int 460 0, Value.int 165 0, Value.str (Str.ofString "/claim/cut.py") 461] } : Obj)) ::
  (nat_lit 236, ({ cls := Value.type "function", data := Data.func { name := Str.ofString "__init__", qualname := Str.ofString "Tokenizer.__init__", params := pf236, body := FuncBody.stmts bf236, scope := sf236, globals := 3, closure := [], defaults := Value.ref 229, kwdefaults := Value.none, pyModule := Value.str (Str.ofString "htmltree.tokenizer") 437, code := Value.ref 235 } } : Obj)) ::
  (nat_lit 242, ({ cls := Value.type "code", data := Data.fields #[Value.str (Str.ofString "feed") 463, Value.str (Str.ofString "Tokenizer.feed") 464, Value.str (Str.ofString "/claim/cut.py") 465, Value.int 181 0, Value.int 2 0, Value.int 0 0, Value.int 0 0, Value.int 3 0, Value.ref 237, Value.bool true, Value.int 181 0, Value.ref 238, Value.none, Value.ref 239, Value.ref 240, Value.ref 241, Value.int 468 0, Value.int 181 0, Value.str (Str.ofString "/claim/cut.py") 469] } : Obj)) ::
  (nat_lit 243, ({ cls := Value.type "function", data := Data.func { name := Str.ofString "feed", qualname := Str.ofString "Tokenizer.feed", params := pf243, body := FuncBody.stmts bf243, scope := sf243, globals := 3, closure := [], defaults := Value.none, kwdefaults := Value.none, pyModule := Value.str (Str.ofString "htmltree.tokenizer") 437, code := Value.ref 242 } } : Obj)) ::
  (nat_lit 249, ({ cls := Value.type "code", data := Data.fields #[Value.str (Str.ofString "end") 471, Value.str (Str.ofString "Tokenizer.end") 472, Value.str (Str.ofString "/claim/cut.py") 473, Value.int 185 0, Value.int 1 0, Value.int 0 0, Value.int 0 0, Value.int 3 0, Value.ref 244, Value.bool true, Value.int 181 0, Value.ref 245, Value.none, Value.ref 246, Value.ref 247, Value.ref 248, Value.int 475 0, Value.int 185 0, Value.str (Str.ofString "/claim/cut.py") 476] } : Obj)) ::
  (nat_lit 250, ({ cls := Value.type "function", data := Data.func { name := Str.ofString "end", qualname := Str.ofString "Tokenizer.end", params := pf250, body := FuncBody.stmts bf250, scope := sf250, globals := 3, closure := [], defaults := Value.none, kwdefaults := Value.none, pyModule := Value.str (Str.ofString "htmltree.tokenizer") 437, code := Value.ref 249 } } : Obj)) ::
  (nat_lit 256, ({ cls := Value.type "code", data := Data.fields #[Value.str (Str.ofString "next") 478, Value.str (Str.ofString "Tokenizer.next") 479, Value.str (Str.ofString "/claim/cut.py") 480, Value.int 189 0, Value.int 1 0, Value.int 0 0, Value.int 0 0, Value.int 3 0, Value.ref 251, Value.bool true, Value.int 181 0, Value.ref 252, Value.none, Value.ref 253, Value.ref 254, Value.ref 255, Value.int 483 0, Value.int 189 0, Value.str (Str.ofString "/claim/cut.py") 484] } : Obj)) ::
  (nat_lit 257, ({ cls := Value.type "function", data := Data.func { name := Str.ofString "next", qualname := Str.ofString "Tokenizer.next", params := pf257, body := FuncBody.stmts bf257, scope := sf257, globals := 3, closure := [], defaults := Value.none, kwdefaults := Value.none, pyModule := Value.str (Str.ofString "htmltree.tokenizer") 437, code := Value.ref 256 } } : Obj)) ::
  (nat_lit 263, ({ cls := Value.type "code", data := Data.fields #[Value.str (Str.ofString "to") 486, Value.str (Str.ofString "Tokenizer.to") 487, Value.str (Str.ofString "/claim/cut.py") 488, Value.int 196 0, Value.int 2 0, Value.int 0 0, Value.int 0 0, Value.int 3 0, Value.ref 258, Value.bool true, Value.int 181 0, Value.ref 259, Value.none, Value.ref 260, Value.ref 261, Value.ref 262, Value.int 491 0, Value.int 196 0, Value.str (Str.ofString "/claim/cut.py") 492] } : Obj)) ::
  (nat_lit 264, ({ cls := Value.type "function", data := Data.func { name := Str.ofString "to", qualname := Str.ofString "Tokenizer.to", params := pf264, body := FuncBody.stmts bf264, scope := sf264, globals := 3, closure := [], defaults := Value.none, kwdefaults := Value.none, pyModule := Value.str (Str.ofString "htmltree.tokenizer") 437, code := Value.ref 263 } } : Obj)) ::
  (nat_lit 270, ({ cls := Value.type "code", data := Data.fields #[Value.str (Str.ofString "again") 494, Value.str (Str.ofString "Tokenizer.again") 495, Value.str (Str.ofString "/claim/cut.py") 496, Value.int 199 0, Value.int 2 0, Value.int 0 0, Value.int 0 0, Value.int 3 0, Value.ref 265, Value.bool true, Value.int 181 0, Value.ref 266, Value.none, Value.ref 267, Value.ref 268, Value.ref 269, Value.int 499 0, Value.int 199 0, Value.str (Str.ofString "/claim/cut.py") 500] } : Obj)) ::
  (nat_lit 271, ({ cls := Value.type "function", data := Data.func { name := Str.ofString "again", qualname := Str.ofString "Tokenizer.again", params := pf271, body := FuncBody.stmts bf271, scope := sf271, globals := 3, closure := [], defaults := Value.none, kwdefaults := Value.none, pyModule := Value.str (Str.ofString "htmltree.tokenizer") 437, code := Value.ref 270 } } : Obj)) ::
  (nat_lit 277, ({ cls := Value.type "code", data := Data.fields #[Value.str (Str.ofString "error") 502, Value.str (Str.ofString "Tokenizer.error") 503, Value.str (Str.ofString "/claim/cut.py") 504, Value.int 203 0, Value.int 2 0, Value.int 0 0, Value.int 0 0, Value.int 3 0, Value.ref 272, Value.bool true, Value.int 181 0, Value.ref 273, Value.none, Value.ref 274, Value.ref 275, Value.ref 276, Value.int 507 0, Value.int 203 0, Value.str (Str.ofString "/claim/cut.py") 508] } : Obj)) ::
  (nat_lit 278, ({ cls := Value.type "function", data := Data.func { name := Str.ofString "error", qualname := Str.ofString "Tokenizer.error", params := pf278, body := FuncBody.stmts bf278, scope := sf278, globals := 3, closure := [], defaults := Value.none, kwdefaults := Value.none, pyModule := Value.str (Str.ofString "htmltree.tokenizer") 437, code := Value.ref 277 } } : Obj)) ::
  (nat_lit 284, ({ cls := Value.type "code", data := Data.fields #[Value.str (Str.ofString "emit") 510, Value.str (Str.ofString "Tokenizer.emit") 511, Value.str (Str.ofString "/claim/cut.py") 512, Value.int 206 0, Value.int 2 0, Value.int 0 0, Value.int 0 0, Value.int 3 0, Value.ref 279, Value.bool true, Value.int 181 0, Value.ref 280, Value.none, Value.ref 281, Value.ref 282, Value.ref 283, Value.int 515 0, Value.int 206 0, Value.str (Str.ofString "/claim/cut.py") 516] } : Obj)) ::
  (nat_lit 285, ({ cls := Value.type "function", data := Data.func { name := Str.ofString "emit", qualname := Str.ofString "Tokenizer.emit", params := pf285, body := FuncBody.stmts bf285, scope := sf285, globals := 3, closure := [], defaults := Value.none, kwdefaults := Value.none, pyModule := Value.str (Str.ofString "htmltree.tokenizer") 437, code := Value.ref 284 } } : Obj)) ::
  (nat_lit 305, ({ cls := Value.type "code", data := Data.fields #[Value.str (Str.ofString "emit_draft") 535, Value.str (Str.ofString "Tokenizer.emit_draft") 536, Value.str (Str.ofString "/claim/cut.py") 537, Value.int 218 0, Value.int 1 0, Value.int 0 0, Value.int 0 0, Value.int 3 0, Value.ref 300, Value.bool true, Value.int 181 0, Value.ref 301, Value.none, Value.ref 302, Value.ref 303, Value.ref 304, Value.int 540 0, Value.int 218 0, Value.str (Str.ofString "/claim/cut.py") 541] } : Obj)) ::
  (nat_lit 306, ({ cls := Value.type "function", data := Data.func { name := Str.ofString "emit_draft", qualname := Str.ofString "Tokenizer.emit_draft", params := pf306, body := FuncBody.stmts bf306, scope := sf306, globals := 3, closure := [], defaults := Value.none, kwdefaults := Value.none, pyModule := Value.str (Str.ofString "htmltree.tokenizer") 437, code := Value.ref 305 } } : Obj)) ::
  (nat_lit 312, ({ cls := Value.type "code", data := Data.fields #[Value.str (Str.ofString "emit_eof") 543, Value.str (Str.ofString "Tokenizer.emit_eof") 544, Value.str (Str.ofString "/claim/cut.py") 545, Value.int 228 0, Value.int 1 0, Value.int 0 0, Value.int 0 0, Value.int 3 0, Value.ref 307, Value.bool true, Value.int 181 0, Value.ref 308, Value.none, Value.ref 309, Value.ref 310, Value.ref 311, Value.int 547 0, Value.int 228 0, Value.str (Str.ofString "/claim/cut.py") 548] } : Obj)) ::
  (nat_lit 313, ({ cls := Value.type "function", data := Data.func { name := Str.ofString "emit_eof", qualname := Str.ofString "Tokenizer.emit_eof", params := pf313, body := FuncBody.stmts bf313, scope := sf313, globals := 3, closure := [], defaults := Value.none, kwdefaults := Value.none, pyModule := Value.str (Str.ofString "htmltree.tokenizer") 437, code := Value.ref 312 } } : Obj)) ::
  (nat_lit 321, ({ cls := Value.type "tuple", data := Data.seq #[Value.bool false] } : Obj)) ::
  (nat_lit 362, ({ cls := Value.type "code", data := Data.fields #[Value.str (Str.ofString "step") 595, Value.str (Str.ofString "Tokenizer.step") 596, Value.str (Str.ofString "/claim/cut.py") 597, Value.int 254 0, Value.int 1 0, Value.int 0 0, Value.int 0 0, Value.int 3 0, Value.ref 357, Value.bool true, Value.int 181 0, Value.ref 358, Value.none, Value.ref 359, Value.ref 360, Value.ref 361, Value.int 601 0, Value.int 254 0, Value.str (Str.ofString "/claim/cut.py") 602] } : Obj)) ::
  (nat_lit 363, ({ cls := Value.type "function", data := Data.func { name := Str.ofString "step", qualname := Str.ofString "Tokenizer.step", params := pf363, body := FuncBody.stmts bf363, scope := sf363, globals := 3, closure := [], defaults := Value.none, kwdefaults := Value.none, pyModule := Value.str (Str.ofString "htmltree.tokenizer") 437, code := Value.ref 362 } } : Obj)) ::
  (nat_lit 369, ({ cls := Value.type "code", data := Data.fields #[Value.str (Str.ofString "is_ready") 604, Value.str (Str.ofString "Tokenizer.is_ready") 605, Value.str (Str.ofString "/claim/cut.py") 606, Value.int 264 0, Value.int 1 0, Value.int 0 0, Value.int 0 0, Value.int 3 0, Value.ref 364, Value.bool true, Value.int 181 0, Value.ref 365, Value.none, Value.ref 366, Value.ref 367, Value.ref 368, Value.int 608 0, Value.int 264 0, Value.str (Str.ofString "/claim/cut.py") 609] } : Obj)) ::
  (nat_lit 370, ({ cls := Value.type "function", data := Data.func { name := Str.ofString "is_ready", qualname := Str.ofString "Tokenizer.is_ready", params := pf370, body := FuncBody.stmts bf370, scope := sf370, globals := 3, closure := [], defaults := Value.none, kwdefaults := Value.none, pyModule := Value.str (Str.ofString "htmltree.tokenizer") 437, code := Value.ref 369 } } : Obj)) ::
  (nat_lit 376, ({ cls := Value.type "code", data := Data.fields #[Value.str (Str.ofString "run") 611, Value.str (Str.ofString "Tokenizer.run") 612, Value.str (Str.ofString "/claim/cut.py") 613, Value.int 269 0, Value.int 1 0, Value.int 0 0, Value.int 0 0, Value.int 3 0, Value.ref 371, Value.bool true, Value.int 181 0, Value.ref 372, Value.none, Value.ref 373, Value.ref 374, Value.ref 375, Value.int 615 0, Value.int 269 0, Value.str (Str.ofString "/claim/cut.py") 616] } : Obj)) ::
  (nat_lit 377, ({ cls := Value.type "function", data := Data.func { name := Str.ofString "run", qualname := Str.ofString "Tokenizer.run", params := pf377, body := FuncBody.stmts bf377, scope := sf377, globals := 3, closure := [], defaults := Value.none, kwdefaults := Value.none, pyModule := Value.str (Str.ofString "htmltree.tokenizer") 437, code := Value.ref 376 } } : Obj)) ::
  (nat_lit 379, ({ cls := Value.type "dict", data := Data.dict (Array.mk (({ hash := PyData.keyHash P (Str.ofString "__module__"), key := Value.str (Str.ofString "__module__") 446, val := Value.str (Str.ofString "htmltree.tokenizer") 437 } : DictEntry) :: ({ hash := PyData.keyHash P (Str.ofString "__firstlineno__"), key := Value.str (Str.ofString "__firstlineno__") 450, val := Value.int 163 449 } : DictEntry) :: ({ hash := PyData.keyHash P (Str.ofString "__init__"), key := Value.str (Str.ofString "__init__") 462, val := Value.ref 236 } : DictEntry) :: ({ hash := PyData.keyHash P (Str.ofString "feed"), key := Value.str (Str.ofString "feed") 470, val := Value.ref 243 } : DictEntry) :: ({ hash := PyData.keyHash P (Str.ofString "end"), key := Value.str (Str.ofString "end") 477, val := Value.ref 250 } : DictEntry) :: ({ hash := PyData.keyHash P (Str.ofString "next"), key := Value.str (Str.ofString "next") 485, val := Value.ref 257 } : DictEntry) :: ({ hash := PyData.keyHash P (Str.ofString "to"), key := Value.str (Str.ofString "to") 493, val := Value.ref 264 } : DictEntry) :: ({ hash := PyData.keyHash P (Str.ofString "again"), key := Value.str (Str.ofString "again") 501, val := Value.ref 271 } : DictEntry) :: ({ hash := PyData.keyHash P (Str.ofString "error"), key := Value.str (Str.ofString "error") 509, val := Value.ref 278 } : DictEntry) :: ({ hash := PyData.keyHash P (Str.ofString "emit"), key := Value.str (Str.ofString "emit") 517, val := Value.ref 285 } : DictEntry) :: ({ hash := PyData.keyHash P (Str.ofString "emit_sign"), key := Value.str (Str.ofString "emit_sign") 525, val := Value.ref 292 } : DictEntry) :: ({ hash := PyData.keyHash P (Str.ofString "emit_text"), key := Value.str (Str.ofString "emit_text") 534, val := Value.ref 299 } : DictEntry) :: ({ hash := PyData.keyHash P (Str.ofString "emit_draft"), key := Value.str (Str.ofString "emit_draft") 542, val := Value.ref 306 } : DictEntry) :: ({ hash := PyData.keyHash P (Str.ofString "emit_eof"), key := Value.str (Str.ofString "emit_eof") 549, val := Value.ref 313 } : DictEntry) :: ({ hash := PyData.keyHash P (Str.ofString "is_apt"), key := Value.str (Str.ofString "is_apt") 556, val := Value.ref 320 } : DictEntry) :: ({ hash := PyData.keyHash P (Str.ofString "looks"), key := Value.str (Str.ofString "looks") 565, val := Value.ref 328 } : DictEntry) :: ({ hash := PyData.keyHash P (Str.ofString "take"), key := Value.str (Str.ofString "take") 573, val := Value.ref 335 } : DictEntry) :: ({ hash := PyData.keyHash P (Str.ofString "wait"), key := Value.str (Str.ofString "wait") 580, val := Value.ref 342 } : DictEntry) :: ({ hash := PyData.keyHash P (Str.ofString "in_value"), key := Value.str (Str.ofString "in_value") 587, val := Value.ref 349 } : DictEntry) :: ({ hash := PyData.keyHash P (Str.ofString "flush"), key := Value.str (Str.ofString "flush") 594, val := Value.ref 356 } : DictEntry) :: ({ hash := PyData.keyHash P (Str.ofString "step"), key := Value.str (Str.ofString "step") 603, val := Value.ref 363 } : DictEntry) :: ({ hash := PyData.keyHash P (Str.ofString "is_ready"), key := Value.str (Str.ofString "is_ready") 610, val := Value.ref 370 } : DictEntry) :: ({ hash := PyData.keyHash P (Str.ofString "run"), key := Value.str (Str.ofString "run") 617, val := Value.ref 377 } : DictEntry) :: ({ hash := PyData.keyHash P (Str.ofString "__static_attributes__"), key := Value.str (Str.ofString "__static_attributes__") 632, val := Value.ref 378 } : DictEntry) :: ({ hash := PyData.keyHash P (Str.ofString "__dict__"), key := Value.str (Str.ofString "__dict__") 634, val := Value.ref 381 } : DictEntry) :: ({ hash := PyData.keyHash P (Str.ofString "__weakref__"), key := Value.str (Str.ofString "__weakref__") 636, val := Value.ref 382 } : DictEntry) :: ({ hash := PyData.keyHash P (Str.ofString "__doc__"), key := Value.str (Str.ofString "__doc__") 637, val := Value.none } : DictEntry) :: [])) 4 } : Obj)) ::
  (nat_lit 380, ({ cls := Value.type "type", data := Data.cls { name := Str.ofString "Tokenizer", bases := [Value.type "object"], mro := [Value.ref 380, Value.type "object"], ns := 379, qualname := Str.ofString "Tokenizer" }, slots := #[none, none, some (Value.str (Str.ofString "Tokenizer") 439), some (Value.str (Str.ofString "Tokenizer") 447), some (Value.builtin "object.__new__"), some (Value.bool true)] } : Obj)) ::
  (nat_lit 397, ({ cls := Value.type "code", data := Data.fields #[Value.str (Str.ofString "__init__") 654, Value.str (Str.ofString "Draft.__init__") 655, Value.str (Str.ofString "/claim/cut.py") 656, Value.int 276 0, Value.int 3 0, Value.int 0 0, Value.int 0 0, Value.int 3 0, Value.ref 392, Value.bool true, Value.int 181 0, Value.ref 393, Value.none, Value.ref 394, Value.ref 395, Value.ref 396, Value.int 660 0, Value.int 276 0, Value.str (Str.ofString "/claim/cut.py") 661] } : Obj)) ::
  (nat_lit 398, ({ cls := Value.type "function", data := Data.func { name := Str.ofString "__init__", qualname := Str.ofString "Draft.__init__", params := pf398, body := FuncBody.stmts bf398, scope := sf398, globals := 3, closure := [], defaults := Value.none, kwdefaults := Value.none, pyModule := Value.str (Str.ofString "htmltree.tokens") 640, code := Value.ref 397 } } : Obj)) ::
  (nat_lit 432, ({ cls := Value.type "code", data := Data.fields #[Value.str (Str.ofString "token") 694, Value.str (Str.ofString "Draft.token") 695, Value.str (Str.ofString "/claim/cut.py") 696, Value.int 299 0, Value.int 1 0, Value.int 0 0, Value.int 0 0, Value.int 3 0, Value.ref 427, Value.bool true, Value.int 181 0, Value.ref 428, Value.none, Value.ref 429, Value.ref 430, Value.ref 431, Value.int 700 0, Value.int 299 0, Value.str (Str.ofString "/claim/cut.py") 701] } : Obj)) ::
  (nat_lit 433, ({ cls := Value.type "function", data := Data.func { name := Str.ofString "token", qualname := Str.ofString "Draft.token", params := pf433, body := FuncBody.stmts bf433, scope := sf433, globals := 3, closure := [], defaults := Value.none, kwdefaults := Value.none, pyModule := Value.str (Str.ofString "htmltree.tokens") 640, code := Value.ref 432 } } : Obj)) ::
  (nat_lit 435, ({ cls := Value.type "dict", data := Data.dict #[{ hash := PyData.keyHash P (Str.ofString "__module__"), key := Value.str (Str.ofString "__module__") 649, val := Value.str (Str.ofString "htmltree.tokens") 640 }, { hash := PyData.keyHash P (Str.ofString "__firstlineno__"), key := Value.str (Str.ofString "__firstlineno__") 653, val := Value.int 274 652 }, { hash := PyData.keyHash P (Str.ofString "__init__"), key := Value.str (Str.ofString "__init__") 662, val := Value.ref 398 }, { hash := PyData.keyHash P (Str.ofString "begin_attr"), key := Value.str (Str.ofString "begin_attr") 669, val := Value.ref 405 }, { hash := PyData.keyHash P (Str.ofString "add_name"), key := Value.str (Str.ofString "add_name") 677, val := Value.ref 412 }, { hash := PyData.keyHash P (Str.ofString "add_value"), key := Value.str (Str.ofString "add_value") 686, val := Value.ref 419 }, { hash := PyData.keyHash P (Str.ofString "check_attr"), key := Value.str (Str.ofString "check_attr") 693, val := Value.ref 426 }, { hash := PyData.keyHash P (Str.ofString "token"), key := Value.str (Str.ofString "token") 702, val := Value.ref 433 }, { hash := PyData.keyHash P (Str.ofString "__static_attributes__"), key := Value.str (Str.ofString "__static_attributes__") 711, val := Value.ref 434 }, { hash := PyData.keyHash P (Str.ofString "__dict__"), key := Value.str (Str.ofString "__dict__") 713, val := Value.ref 437 }, { hash := PyData.keyHash P (Str.ofString "__weakref__"), key := Value.str (Str.ofString "__weakref__") 715, val := Value.ref 438 }, { hash := PyData.keyHash P (Str.ofString "__doc__"), key := Value.str (Str.ofString "__doc__") 716, val := Value.none }] 4 } : Obj)) ::
  (nat_lit 436, ({ cls := Value.type "type", data := Data.cls { name := Str.ofString "Draft", bases := [Value.type "object"], mro := [Value.ref 436, Value.type "object"], ns := 435, qualname := Str.ofString "Draft" }, slots := #[none, none, some (Value.str (Str.ofString "Draft") 642), some (Value.str (Str.ofString "Draft") 650), some (Value.builtin "object.__new__"), some (Value.bool true)] } : Obj)) ::
  (nat_lit 446, ({ cls := Value.type "code", data := Data.fields #[Value.str (Str.ofString "_law_digit") 721, Value.str (Str.ofString "_law_digit") 722, Value.str (Str.ofString "/claim/cut.py") 723, Value.int 310 0, Value.int 2 0, Value.int 0 0, Value.int 0 0, Value.int 3 0, Value.ref 441, Value.bool true, Value.int 181 0, Value.ref 442, Value.none, Value.ref 443, Value.ref 444, Value.ref 445, Value.int 727 0, Value.int 310 0, Value.str (Str.ofString "/claim/cut.py") 728] } : Obj)) ::
  (nat_lit 447, ({ cls := Value.type "function", data := Data.func { name := Str.ofString "_law_digit", qualname := Str.ofString "_law_digit", params := pf447, body := FuncBody.stmts bf447, scope := sf447, globals := 3, closure := [], defaults := Value.none, kwdefaults := Value.none, pyModule := Value.str (Str.ofString "law_nt0605_02") 719, code := Value.ref 446 } } : Obj)) ::
  (nat_lit 453, ({ cls := Value.type "code", data := Data.fields #[Value.str (Str.ofString "_law_text") 730, Value.str (Str.ofString "_law_text") 731, Value.str (Str.ofString "/claim/cut.py") 732, Value.int 313 0, Value.int 1 0, Value.int 0 0, Value.int 0 0, Value.int 3 0, Value.ref 448, Value.bool true, Value.int 181 0, Value.ref 449, Value.none, Value.ref 450, Value.ref 451, Value.ref 452, Value.int 737 0, Value.int 313 0, Value.str (Str.ofString "/claim/cut.py") 738] } : Obj)) ::
  (nat_lit 454, ({ cls := Value.type "function", data := Data.func { name := Str.ofString "_law_text", qualname := Str.ofString "_law_text", params := pf454, body := FuncBody.stmts bf454, scope := sf454, globals := 3, closure := [], defaults := Value.none, kwdefaults := Value.none, pyModule := Value.str (Str.ofString "law_nt0605_02") 719, code := Value.ref 453 } } : Obj)) ::
  (nat_lit 460, ({ cls := Value.type "code", data := Data.fields #[Value.str (Str.ofString "_law_pieces") 740, Value.str (Str.ofString "_law_pieces") 741, Value.str (Str.ofString "/claim/cut.py") 742, Value.int 320 0, Value.int 2 0, Value.int 0 0, Value.int 0 0, Value.int 3 0, Value.ref 455, Value.bool true, Value.int 181 0, Value.ref 456, Value.none, Value.ref 457, Value.ref 458, Value.ref 459, Value.int 748 0, Value.int 320 0, Value.str (Str.ofString "/claim/cut.py") 749] } : Obj)) ::
  (nat_lit 461, ({ cls := Value.type "function", data := Data.func { name := Str.ofString "_law_pieces", qualname := Str.ofString "_law_pieces", params := pf461, body := FuncBody.stmts bf461, scope := sf461, globals := 3, closure := [], defaults := Value.none, kwdefaults := Value.none, pyModule := Value.str (Str.ofString "law_nt0605_02") 719, code := Value.ref 460 } } : Obj)) ::
  (nat_lit 467, ({ cls := Value.type "code", data := Data.fields #[Value.str (Str.ofString "_law_close") 751, Value.str (Str.ofString "_law_close") 752, Value.str (Str.ofString "/claim/cut.py") 753, Value.int 327 0, Value.int 1 0, Value.int 0 0, Value.int 0 0, Value.int 3 0, Value.ref 462, Value.bool true, Value.int 181 0, Value.ref 463, Value.none, Value.ref 464, Value.ref 465, Value.ref 466, Value.int 758 0, Value.int 327 0, Value.str (Str.ofString "/claim/cut.py") 759] } : Obj)) ::
  (nat_lit 468, ({ cls := Value.type "function", data := Data.func { name := Str.ofString "_law_close", qualname := Str.ofString "_law_close", params := pf468, body := FuncBody.stmts bf468, scope := sf468, globals := 3, closure := [], defaults := Value.none, kwdefaults := Value.none, pyModule := Value.str (Str.ofString "law_nt0605_02") 719, code := Value.ref 467 } } : Obj)) ::
  (nat_lit 474, ({ cls := Value.type "code", data := Data.fields #[Value.str (Str.ofString "_law_state") 761, Value.str (Str.ofString "_law_state") 762, Value.str (Str.ofString "/claim/cut.py") 763, Value.int 342 0, Value.int 1 0, Value.int 0 0, Value.int 0 0, Value.int 3 0, Value.ref 469, Value.bool true, Value.int 181 0, Value.ref 470, Value.none, Value.ref 471, Value.ref 472, Value.ref 473, Value.int 768 0, Value.int 342 0, Value.str (Str.ofString "/claim/cut.py") 769] } : Obj)) ::
  (nat_lit 475, ({ cls := Value.type "function", data := Data.func { name := Str.ofString "_law_state", qualname := Str.ofString "_law_state", params := pf475, body := FuncBody.stmts bf475, scope := sf475, globals := 3, closure := [], defaults := Value.none, kwdefaults := Value.none, pyModule := Value.str (Str.ofString "law_nt0605_02") 719, code := Value.ref 474 } } : Obj)) ::
  (nat_lit 479, ({ cls := Value.type "code", data := Data.fields #[Value.str (Str.ofString "_law_due") 771, Value.str (Str.ofString "_law_due") 772, Value.str (Str.ofString "/claim/cut.py") 773, Value.int 354 0, Value.int 2 0, Value.int 0 0, Value.int 0 0, Value.int 3 0, Value.ref 476, Value.bool true, Value.int 181 0, Value.ref 477, Value.none, Value.none, Value.none, Value.ref 478, Value.int 774 0, Value.int 354 0, Value.str (Str.ofString "/claim/cut.py") 775] } : Obj)) ::
  (nat_lit 480, ({ cls := Value.type "function", data := Data.func { name := Str.ofString "_law_due", qualname := Str.ofString "_law_due", params := pf480, body := FuncBody.stmts bf480, scope := sf480, globals := 3, closure := [], defaults := Value.none, kwdefaults := Value.none, pyModule := Value.str (Str.ofString "law_nt0605_02") 719, code := Value.ref 479 } } : Obj)) ::
  (nat_lit 486, ({ cls := Value.type "code", data := Data.fields #[Value.str (Str.ofString "_law_told") 777, Value.str (Str.ofString "_law_told") 778, Value.str (Str.ofString "/claim/cut.py") 779, Value.int 374 0, Value.int 1 0, Value.int 0 0, Value.int 0 0, Value.int 3 0, Value.ref 481, Value.bool true, Value.int 181 0, Value.ref 482, Value.none, Value.ref 483, Value.ref 484, Value.ref 485, Value.int 784 0, Value.int 374 0, Value.str (Str.ofString "/claim/cut.py") 785] } : Obj)) ::
  (nat_lit 487, ({ cls := Value.type "function", data := Data.func { name := Str.ofString "_law_told", qualname := Str.ofString "_law_told", params := pf487, body := FuncBody.stmts bf487, scope := sf487, globals := 3, closure := [], defaults := Value.none, kwdefaults := Value.none, pyModule := Value.str (Str.ofString "law_nt0605_02") 719, code := Value.ref 486 } } : Obj)) ::
  []
noncomputable def topK (P : Params) : Frag := by
  refine' (?f : ∀ x : Frag, Kof P = x → Frag) _ ?h
  case h => conv => lhs; delta Kof pf28 bf28 sf28 pf35 bf35 sf35 pf42 bf42 sf42 pf49 bf49 sf49 pf56 bf56 sf56 pf63 bf63 sf63 pf70 bf70 sf70 pf77 bf77 sf77 pf84 bf84 sf84 pf91 bf91 sf91 pf98 bf98 sf98 pf105 bf105 sf105 pf112 bf112 sf112 pf119 bf119 sf119 pf158 bf158 sf158 pf165 bf165 sf165 pf172 bf172 sf172 pf179 bf179 sf179 pf193 bf193 sf193 pf200 bf200 sf200 pf207 bf207 sf207 pf236 bf236 sf236 pf243 bf243 sf243 pf250 bf250 sf250 pf257 bf257 sf257 pf264 bf264 sf264 pf271 bf271 sf271 pf278 bf278 sf278 pf285 bf285 sf285 pf306 bf306 sf306 pf313 bf313 sf313 pf363 bf363 sf363 pf370 bf370 sf370 pf377 bf377 sf377 pf398 bf398 sf398 pf433 bf433 sf433 pf447 bf447 sf447 pf454 bf454 sf454 pf461 bf461 sf461 pf468 bf468 sf468 pf475 bf475 sf475 pf480 bf480 sf480 pf487 bf487 sf487
  case f => exact fun x _ => x
noncomputable def topV : Program := view PySem.Challenge.rw_nt0605_02.prog [0, 2, 3, 4, 5, 6, 7, 8, 9, 10, 11, 12, 13, 14, 15, 17, 18, 20, 21, 22, 24, 25, 27, 29, 31, 32, 33, 34, 35, 36, 37, 38]
noncomputable abbrev HK : Hook := kHook topK [3, 27, 28, 34, 35, 41, 42, 48, 49, 55, 56, 62, 63, 69, 70, 76, 77, 83, 84, 90, 91, 97, 98, 104, 105, 111, 112, 118, 119, 135, 136, 148, 149, 157, 158, 164, 165, 171, 172, 178, 179, 192, 193, 199, 200, 206, 207, 216, 217, 229, 235, 236, 242, 243, 249, 250, 256, 257, 263, 264, 270, 271, 277, 278, 284, 285, 305, 306, 312, 313, 321, 362, 363, 369, 370, 376, 377, 379, 380, 397, 398, 432, 433, 435, 436, 446, 447, 453, 454, 460, 461, 467, 468, 474, 475, 479, 480, 486, 487] (fun _ => by kernel_rfl)
noncomputable def goG (st : SharedT → Thread → Option (SharedT × Thread)) (thr ok : Thread → Bool) : Nat → SharedT → Thread → Option SharedT
  | 0, _, _ => none
  | n + 1, s, t => match thr t with
    | true => some s
    | false => match ok t with
      | false => none
      | true => match st s t with
        | some (s', t') => goG st thr ok n s' t'
        | none => none
theorem goG_of {tb : String → Option Builtin} {p : Program} {w : World} {n₀ : Nat} {ann : Option Value} : ∀ {n : Nat} {s s' : SharedT} {t : Thread}, goG (stepT (denote tb) p w) through (stepOk n₀ ann) n s t = some s' → topRun tb p w n₀ ann n s.abs t = some s'.abs
  | 0, _, _, _, h => by cases h
  | n + 1, s, s', t, h => by
    unfold goG at h
    unfold topRun
    cases he : through t with
    | true => rw [he] at h; cases h; rfl
    | false =>
      rw [he] at h
      cases hk : stepOk n₀ ann t with
      | false => rw [hk] at h; cases h
      | true =>
        rw [hk] at h
        cases hs : stepT (denote tb) p w s t with
        | none => rw [hs] at h; cases h
        | some r => obtain ⟨s₂, t₂⟩ := r; rw [hs] at h; rw [stepT_spec hs]; exact goG_of h
noncomputable abbrev topN : Nat := 5930
noncomputable def bT (h : Heap) : BT := (h.objs.toList.foldl (fun (a : BT × Nat) o => (a.1.ins a.2 o, a.2 + 1)) (BT.nil, 0)).1
noncomputable def s0T (w : World) (os : OsState) : SharedT := ⟨bT (boot_heap w.params), (boot_heap w.params).objs.size, (boot_heap w.params).life, Array.mk [], boot_drawn, boot_toks, os⟩
theorem bT_boot (w : World) (os : OsState) : (s0T w os).abs = ⟨boot_heap w.params, Array.mk [], boot_drawn, boot_toks, os⟩ := by kernel_rfl
theorem left_of_boot {p q : Program} {loose : List Str} {Xt : Shared → Bool} {α : Type} {Yf : Shared → α} {Ya : World → α} {N : Nat} {g0 : Bool}
    (e : opening p = plainProg p.main.scope.names) (hN : Nat.ble 600 N = true) (f : ∀ s, fenceModules? p s = some s)
    (z : ∀ w : World, ((boot_heap w.params).isNs mainGlobals && (Array.mk [] : Array GenState).size == 0) = true)
    (h : ∀ w os, (goG (stepT (denote treeTable) p w) through (stepOk (boot_heap w.params).objs.size ((boot_heap w.params).nsMap mainGlobals "__annotations__")) N (s0T w os) (topStub p)).map (fun s =>
      ((staticsOk (importedModules p.main.body) (boot_heap w.params) s.abs.heap && namesBound p s.abs.heap && gensDone s.abs && laidKept (boot_heap w.params) s.abs.heap), (openSeen q loose (importedModules p.main.body) Xt g0 s.abs, Yf s.abs))) = some (true, openGood q loose, Ya w)) :
    LeftO p q loose Xt Yf Ya N g0 := fun w => by
  obtain ⟨⟨h', gs, d, k, os⟩, e1, e2⟩ := Option.map_eq_some_iff.mp (boot_open (N := N) e hN f w)
  obtain ⟨rfl, rfl, rfl, rfl⟩ : h' = boot_heap w.params ∧ gs = Array.mk [] ∧ d = boot_drawn ∧ k = boot_toks := by simpa using e2
  obtain ⟨s, g1, g2⟩ := Option.map_eq_some_iff.mp (h w os)
  obtain ⟨l1, l2⟩ := Prod.mk.inj g2
  have r := goG_of g1
  rw [bT_boot] at r
  have t : topFrom treeTable p w N ⟨boot_heap w.params, Array.mk [], boot_drawn, boot_toks, os⟩ = some s.abs := by
    unfold topFrom
    dsimp only
    rw [z w, r]
    show (match staticsOk (importedModules p.main.body) (boot_heap w.params) s.abs.heap && namesBound p s.abs.heap && gensDone s.abs && laidKept (boot_heap w.params) s.abs.heap with | true => some s.abs | false => none) = some s.abs
    rw [l1]
  unfold openEnds
  rw [e1]
  show (topFrom treeTable p w N _).map _ = _
  rw [t]
  exact congrArg some l2
theorem openE : opening PySem.Challenge.rw_nt0605_02.prog = plainProg (PySem.Challenge.rw_nt0605_02.prog).main.scope.names := by kernel_rfl
theorem fenceE (s : Shared) : fenceModules? PySem.Challenge.rw_nt0605_02.prog s = some s := by kernel_rfl
theorem zE (w : World) : ((boot_heap w.params).isNs mainGlobals && (Array.mk [] : Array GenState).size == 0) = true := by kernel_rfl
theorem runE (w : World) (os : OsState) : (goG (stepT (denote treeTable) PySem.Challenge.rw_nt0605_02.prog w) through (stepOk (boot_heap w.params).objs.size ((boot_heap w.params).nsMap mainGlobals "__annotations__")) topN (s0T w os) (topStub PySem.Challenge.rw_nt0605_02.prog)).map (fun s => ((staticsOk (importedModules (PySem.Challenge.rw_nt0605_02.prog).main.body) (boot_heap w.params) s.abs.heap && namesBound PySem.Challenge.rw_nt0605_02.prog s.abs.heap && gensDone s.abs && laidKept (boot_heap w.params) s.abs.heap), (openSeen topV [] (importedModules (PySem.Challenge.rw_nt0605_02.prog).main.body) (fun s => xlAt topV [] s && recOk (RowW.records (OpenRow.toRowW PySem.Challenge.rw_nt0605_02.row)) s) true s.abs, Hook.obs HK s.abs))) = some (true, openGood topV [], Hook.val HK w) := by
  rw [PySem.W.Fast.te10156331382660048174, PySem.W.Fast.te6613529449190102663, PySem.W.Fast.te11892475500146522536, PySem.W.Fast.te14364793385576792824, PySem.W.Fast.te4187177175401517315]
  kernel_rfl
theorem leftE : LeftO PySem.Challenge.rw_nt0605_02.prog topV [] (fun s => xlAt topV [] s && recOk (RowW.records (OpenRow.toRowW PySem.Challenge.rw_nt0605_02.row)) s) (Hook.obs HK) (Hook.val HK) topN := left_of_boot openE (by decide +kernel) fenceE zE runE
theorem saidE : (PySem.Challenge.rw_nt0605_02).wellSaid = true := by decide +kernel
end Mine
end
section
open PySem PySem.W PySem.Calls PyProof.Rows
namespace Mine
/-- a text by its signs' numbers -/
noncomputable abbrev tx_ (l : List Nat) : Str := Str.mk l.toArray
theorem len_ (a : List Nat) : (tx_ a).length = a.length := by
  show (Str.mk _).cps.size = _
  simp
inductive St where
  | start | sdash | com | lt | bang | bdash | bdd | edash | en | ebang | data
  deriving DecidableEq
noncomputable def St.name : St → Str
  | .start => Str.ofString "comment start"
  | .sdash => Str.ofString "comment start dash"
  | .com => Str.ofString "comment"
  | .lt => Str.ofString "comment less-than sign"
  | .bang => Str.ofString "comment less-than sign bang"
  | .bdash => Str.ofString "comment less-than sign bang dash"
  | .bdd => Str.ofString "comment less-than sign bang dash dash"
  | .edash => Str.ofString "comment end dash"
  | .en => Str.ofString "comment end"
  | .ebang => Str.ofString "comment end bang"
  | .data => Str.ofString "data"
/-- the tokenizer, as far as it changes -/
structure PS where
  st : St
  at_ : Nat
  tx : List Nat
  ou : List Dat
  er : List Dat
  dn : Bool
  hd : Bool
noncomputable def sgn : Option Nat → Str
  | none => Str.ofString ""
  | some n => tx_ [n]
noncomputable def errD (code : String) (k : Nat) : Dat := .tuple [.str (Str.ofString code), .int k]
noncomputable def comD (l : List Nat) : Dat := .tuple [.str (Str.ofString "comment"), .str (tx_ l)]
noncomputable def eofD : Dat := .tuple [.str (Str.ofString "eof")]
namespace PS
noncomputable def to (p : PS) (s : St) : PS := { p with st := s, at_ := p.at_ + 1 }
noncomputable def again (p : PS) (s : St) : PS := { p with st := s }
noncomputable def say (p : PS) (code : String) : PS := { p with er := p.er ++ [errD code p.at_] }
noncomputable def put (p : PS) (l : List Nat) : PS := { p with tx := p.tx ++ l }
noncomputable def close (p : PS) : PS := { p with st := .data, at_ := p.at_ + 1, ou := p.ou ++ [comD p.tx], hd := false }
noncomputable def fin (p : PS) : PS := { p with at_ := p.at_ + 1, er := p.er ++ [errD "eof-in-comment" p.at_], ou := p.ou ++ [comD p.tx] ++ [eofD], hd := false, dn := true }
noncomputable def abrupt (p : PS) : PS := (p.say "abrupt-closing-of-empty-comment").close
/-- one step of the tokenizer: c is the sign at its place -/
noncomputable def step (p : PS) (c : Option Nat) : PS :=
  match p.st with
  | .start => if c = some 45 then p.to .sdash else if c = some 62 then p.abrupt else p.again .com
  | .sdash => if c = some 45 then p.to .en else if c = some 62 then p.abrupt else if c = none then p.fin else (p.put [45]).again .com
  | .com => if c = some 60 then (p.put [60]).to .lt else if c = some 45 then p.to .edash else if c = some 0 then ((p.say "unexpected-null-character").put [65533]).to .com else match c with
    | none => p.fin
    | some n => (p.put [n]).to .com
  | .lt => if c = some 33 then (p.put [33]).to .bang else if c = some 60 then (p.put [60]).to .lt else p.again .com
  | .bang => if c = some 45 then p.to .bdash else p.again .com
  | .bdash => if c = some 45 then p.to .bdd else p.again .edash
  | .bdd => if c = some 62 ∨ c = none then p.again .en else (p.say "nested-comment").again .en
  | .edash => if c = some 45 then p.to .en else if c = none then p.fin else (p.put [45]).again .com
  | .en => if c = some 62 then p.close else if c = some 33 then p.to .ebang else if c = some 45 then (p.put [45]).to .en else if c = none then p.fin else (p.put [45, 45]).again .com
  | .ebang => if c = some 45 then (p.put [45, 45, 33]).to .edash else if c = some 62 then (p.say "incorrectly-closed-comment").close else if c = none then p.fin else (p.put [45, 45, 33]).again .com
  | .data => p
noncomputable def ready (p : PS) (cl : Bool) (n : Nat) : Bool := !p.dn && p.st != .data && (cl || decide (p.at_ < n))
noncomputable def rank : St → Nat
  | .com => 0 | .bdash => 2 | .bdd => 2 | .data => 0 | _ => 1
/-- what is still to be done, at most -/
noncomputable def mu (p : PS) (n : Nat) : Nat := if p.dn || p.st == .data then 0 else 3 * (n + 1 - p.at_) + rank p.st + 1
noncomputable def psi (p : PS) : Nat := 3 * p.at_ + 2 - (if p.st = .data then 1 else rank p.st)
structure Good (p : PS) (n : Nat) : Prop where
  at_le : p.dn = false → p.st ≠ .data → p.at_ ≤ n
  at_le' : p.at_ ≤ n + 1
  n_le : n ≤ 24
  hd : p.dn = false → p.st ≠ .data → p.hd = true
  er : p.er.length ≤ p.psi
  ou : p.ou.length ≤ 2 * p.psi
  tx : p.tx.length ≤ 3 * p.psi
noncomputable def run (w : List Nat) (cl : Bool) : Nat → PS → PS
  | 0, p => p
  | k + 1, p => if p.ready cl w.length then run w cl k (p.step w[p.at_]?) else p
theorem psi_le (p : PS) : p.psi ≤ 3 * p.at_ + 2 := by unfold psi; omega
theorem rank_le (s : St) : rank s ≤ 2 := by cases s <;> decide
theorem mu_of {p : PS} (n : Nat) (hr : p.dn = false) (hs : p.st ≠ .data) : p.mu n = 3 * (n + 1 - p.at_) + rank p.st + 1 := by
  unfold mu
  rw [hr, Bool.false_or, if_neg (fun h => hs (eq_of_beq h))]
theorem psi_of {p : PS} (hs : p.st ≠ .data) : p.psi = 3 * p.at_ + 2 - rank p.st := by
  unfold psi
  rw [if_neg hs]
/-- one step has been taken -/
noncomputable def Adv (p : PS) (n : Nat) (q : PS) : Prop :=
  q.mu n < p.mu n ∧ q.er.length ≤ p.er.length + 1 ∧ q.ou.length ≤ p.ou.length + 2 ∧ q.tx.length ≤ p.tx.length + 3 ∧
    (q.dn = false → q.st ≠ .data → q.hd = true ∧ q.at_ ≤ n) ∧ q.at_ ≤ n + 1 ∧ p.psi + 1 ≤ q.psi
theorem adv_to {p q : PS} {n : Nat} (hr : p.dn = false) (hs : p.st ≠ .data) (ha : p.at_ < n) (h3 : q.hd = true) (h1 : q.at_ = p.at_ + 1) (h2 : q.dn = false) (h4 : q.st ≠ .data) (h5 : q.er.length ≤ p.er.length + 1) (h6 : q.ou.length ≤ p.ou.length + 2) (h7 : q.tx.length ≤ p.tx.length + 3) : Adv p n q := by
  have r1 := rank_le p.st
  have r2 := rank_le q.st
  unfold Adv
  rw [mu_of n hr hs, mu_of n h2 h4, psi_of hs, psi_of h4, h1]
  exact ⟨by omega, h5, h6, h7, fun _ _ => ⟨h3, by omega⟩, by omega, by omega⟩
theorem adv_again {p q : PS} {n : Nat} (hr : p.dn = false) (hs : p.st ≠ .data) (ha : p.at_ ≤ n) (h3 : q.hd = true) (h1 : q.at_ = p.at_) (h2 : q.dn = false) (h4 : q.st ≠ .data) (hk : rank q.st < rank p.st) (h5 : q.er.length ≤ p.er.length + 1) (h6 : q.ou.length ≤ p.ou.length + 2) (h7 : q.tx.length ≤ p.tx.length + 3) : Adv p n q := by
  have r1 := rank_le p.st
  unfold Adv
  rw [mu_of n hr hs, mu_of n h2 h4, psi_of hs, psi_of h4, h1]
  exact ⟨by omega, h5, h6, h7, fun _ _ => ⟨h3, ha⟩, by omega, by omega⟩
theorem adv_close {p q : PS} {n : Nat} (hr : p.dn = false) (hs : p.st ≠ .data) (ha : p.at_ < n) (h1 : q.at_ = p.at_ + 1) (h4 : q.st = .data) (h5 : q.er.length ≤ p.er.length + 1) (h6 : q.ou.length ≤ p.ou.length + 2) (h7 : q.tx.length ≤ p.tx.length + 3) : Adv p n q := by
  have e1 : q.mu n = 0 := by unfold mu; rw [h4]; simp
  have e2 : q.psi = 3 * q.at_ + 2 - 1 := by unfold psi; rw [if_pos h4]
  unfold Adv
  rw [mu_of n hr hs, e1, psi_of hs, e2, h1]
  exact ⟨by omega, h5, h6, h7, fun _ h => absurd h4 h, by omega, by omega⟩
theorem adv_fin {p q : PS} {n : Nat} (hr : p.dn = false) (hs : p.st ≠ .data) (ha : p.at_ ≤ n) (h1 : q.at_ = p.at_ + 1) (h2 : q.dn = true) (h4 : q.st = p.st) (h5 : q.er.length ≤ p.er.length + 1) (h6 : q.ou.length ≤ p.ou.length + 2) (h7 : q.tx.length ≤ p.tx.length + 3) : Adv p n q := by
  have e1 : q.mu n = 0 := by unfold mu; rw [h2]; simp
  have e2 : q.psi = 3 * q.at_ + 2 - rank p.st := by unfold psi; rw [h4, if_neg hs]
  have r1 := rank_le p.st
  unfold Adv
  rw [mu_of n hr hs, e1, psi_of hs, e2, h1]
  exact ⟨by omega, h5, h6, h7, fun h _ => absurd h (by rw [h2]; decide), by omega, by omega⟩
theorem len_k {α : Type} {l u : List α} {k : Nat} (h : Nat.ble u.length k = true) : (l ++ u).length ≤ l.length + k := by
  rw [List.length_append]
  exact Nat.add_le_add_left (Nat.le_of_ble_eq_true h) _
theorem len_2 {α : Type} {l : List α} {a b : α} : (l ++ [a] ++ [b]).length ≤ l.length + 2 := by simp
theorem step_adv {p : PS} {n : Nat} {c : Option Nat} (hr : p.dn = false) (hs : p.st ≠ .data) (hd : p.hd = true) (ha : p.at_ ≤ n) (hc2 : c ≠ none → p.at_ < n) : Adv p n (p.step c) := by
  obtain ⟨st, at_, tx, ou, er, dn, hd'⟩ := p
  cases st <;> (try exact absurd rfl hs) <;> cases c <;> simp only [step] <;> (repeat' split) <;> first
    | exact adv_to hr hs (hc2 (Option.some_ne_none _)) hd rfl hr (ne_of_beq_false rfl) (by first | exact Nat.le_add_right _ _ | exact len_k rfl) (Nat.le_add_right _ _) (by first | exact Nat.le_add_right _ _ | exact len_k rfl)
    | exact adv_again hr hs ha hd rfl hr (ne_of_beq_false rfl) (Nat.le_of_ble_eq_true rfl) (by first | exact Nat.le_add_right _ _ | exact len_k rfl) (Nat.le_add_right _ _) (by first | exact Nat.le_add_right _ _ | exact len_k rfl)
    | exact adv_close hr hs (hc2 (Option.some_ne_none _)) rfl rfl (by first | exact Nat.le_add_right _ _ | exact len_k rfl) (len_k rfl) (Nat.le_add_right _ _)
    | exact adv_fin hr hs ha rfl rfl rfl (len_k rfl) len_2 (Nat.le_add_right _ _)
    | (exfalso; simp_all)
theorem step_mu {p : PS} {n : Nat} {c : Option Nat} (g : p.Good n) (hr : p.dn = false) (hs : p.st ≠ .data) (hc : c = none → p.at_ = n) (hc2 : c ≠ none → p.at_ < n) :
    (p.step c).mu n < p.mu n ∧ (p.step c).er.length ≤ p.er.length + 1 ∧ (p.step c).ou.length ≤ p.ou.length + 2 ∧ (p.step c).tx.length ≤ p.tx.length + 3 ∧
    ((p.step c).dn = false → (p.step c).st ≠ .data → (p.step c).hd = true ∧ (p.step c).at_ ≤ n) ∧ (p.step c).at_ ≤ n + 1 ∧ p.psi + 1 ≤ (p.step c).psi :=
  step_adv hr hs (g.hd hr hs) (g.at_le hr hs) hc2
theorem step_good {p : PS} {n : Nat} {c : Option Nat} (g : p.Good n) (hr : p.dn = false) (hs : p.st ≠ .data) (hc : c = none → p.at_ = n) (hc2 : c ≠ none → p.at_ < n) : (p.step c).Good n ∧ (p.step c).mu n < p.mu n := by
  obtain ⟨h1, h2, h3, h4, h5, h6, h7⟩ := step_mu g hr hs hc hc2
  have a := g.er
  have b := g.ou
  have d := g.tx
  exact ⟨⟨fun x y => (h5 x y).2, h6, g.n_le, fun x y => (h5 x y).1, by omega, by omega, by omega⟩, h1⟩
theorem ready_dn {ws : List Nat} {σ : PS} {cl : Bool} (h : σ.ready cl ws.length = true) : σ.dn = false ∧ σ.st ≠ .data := by
  refine ⟨?_, fun e => ?_⟩
  · unfold ready at h; revert h; cases σ.dn <;> simp
  · unfold ready at h; rw [e] at h; simp at h
theorem ready_step {ws : List Nat} {σ : PS} {cl : Bool} (h : σ.ready cl ws.length = true) (g : σ.Good ws.length) : (σ.step ws[σ.at_]?).Good ws.length ∧ (σ.step ws[σ.at_]?).mu ws.length < σ.mu ws.length := by
  obtain ⟨a, b⟩ := ready_dn h
  refine step_good g a b (fun e => Nat.le_antisymm (g.at_le a b) (List.getElem?_eq_none_iff.mp e)) fun e => ?_
  cases q : ws[σ.at_]? with
  | none => exact absurd q e
  | some n => exact (List.getElem?_eq_some_iff.mp q).1
theorem run_stop {ws : List Nat} {σ : PS} {cl : Bool} (h : σ.ready cl ws.length = false) : ∀ k, σ.run ws cl k = σ
  | 0 => rfl
  | k + 1 => by simp [run, h]
theorem run_two {ws : List Nat} {cl : Bool} : ∀ (k j : Nat) (σ : PS), σ.Good ws.length → σ.mu ws.length ≤ k → σ.mu ws.length ≤ j → σ.run ws cl k = σ.run ws cl j := by
  intro k
  induction k with
  | zero =>
    intro j σ _ h _
    have hr : σ.ready cl ws.length = false := by
      unfold ready
      unfold mu at h
      cases h1 : σ.dn <;> cases h2 : σ.st <;> simp [h1, h2] at h ⊢
    rw [run_stop hr, run_stop hr]
  | succ k ih =>
    intro j σ g h1 h2
    cases hr : σ.ready cl ws.length with
    | false => rw [run_stop hr, run_stop hr]
    | true =>
      obtain ⟨g', hm⟩ := ready_step hr g
      cases j with
      | zero => omega
      | succ j => simp only [run, hr, if_true]; exact ih j _ g' (by omega) (by omega)
theorem run_one {ws : List Nat} {σ : PS} {cl : Bool} (hr : σ.ready cl ws.length = true) (g : σ.Good ws.length) : σ.run ws cl (σ.mu ws.length) = (σ.step ws[σ.at_]?).run ws cl ((σ.step ws[σ.at_]?).mu ws.length) := by
  obtain ⟨g', hm⟩ := ready_step hr g
  cases h : σ.mu ws.length with
  | zero => omega
  | succ j => simp only [run, hr, if_true]; exact run_two _ _ _ g' (by omega) (Nat.le_refl _)
end PS
end Mine
end
section
open PySem PySem.W PySem.Calls PyProof.Rows
set_option linter.unusedVariables false
set_option linter.unusedSimpArgs false
namespace Mine
noncomputable def rep (c : Nat) : Nat := if c = 0 then 65533 else c
noncomputable def pend : St → List Nat
  | .sdash => [45] | .edash => [45] | .bdash => [45] | .en => [45, 45] | .bdd => [45, 45] | .ebang => [45, 45, 33] | _ => []
noncomputable def nextC (c : Nat) : St := if c = 60 then .lt else if c = 45 then .edash else .com
noncomputable def nextS (st : St) (c : Nat) : St :=
  match st with
  | .start => if c = 45 then .sdash else nextC c
  | .sdash => if c = 45 then .en else nextC c
  | .lt => if c = 33 then .bang else nextC c
  | .bang => if c = 45 then .bdash else nextC c
  | .bdash => if c = 45 then .bdd else nextC c
  | .bdd => if c = 33 then .ebang else if c = 45 then .en else nextC c
  | .en => if c = 33 then .ebang else if c = 45 then .en else nextC c
  | .edash => if c = 45 then .en else nextC c
  | _ => nextC c
noncomputable def closesS (st : St) (c : Nat) : Bool :=
  match st with
  | .start => c == 62 | .sdash => c == 62 | .en => c == 62 | .bdd => c == 62 | .ebang => c == 62 | _ => false
noncomputable def faultS (st : St) (k : Nat) : List Dat :=
  match st with
  | .start => [errD "abrupt-closing-of-empty-comment" k]
  | .sdash => [errD "abrupt-closing-of-empty-comment" k]
  | .ebang => [errD "incorrectly-closed-comment" k]
  | _ => []
noncomputable def nestE (st : St) (c k : Nat) : List Dat := if st = .bdd ∧ c ≠ 62 then [errD "nested-comment" k] else []
noncomputable def nullE (c k : Nat) : List Dat := if c = 0 then [errD "unexpected-null-character" k] else []
namespace PS
/-- what one sign does, taken whole -/
structure Ate (σ : PS) (c : Nat) (τ : PS) : Prop where
  at_ : τ.at_ = σ.at_ + 1
  dn : τ.dn = false
  op : closesS σ.st c = false → τ.st = nextS σ.st c ∧ τ.ou = σ.ou ∧ τ.hd = true ∧ τ.tx ++ pend τ.st = σ.tx ++ pend σ.st ++ [rep c] ∧ τ.er = σ.er ++ nestE σ.st c σ.at_ ++ nullE c σ.at_
  cl : closesS σ.st c = true → τ.st = .data ∧ τ.ou = σ.ou ++ [comD σ.tx] ∧ τ.hd = false ∧ τ.er = σ.er ++ faultS σ.st σ.at_
noncomputable def Eats (ws : List Nat) (cl : Bool) (st : St) : Prop := ∀ (σ : PS) (c : Nat), σ.Good ws.length → σ.st = st → σ.dn = false → ws[σ.at_]? = some c →
  ∃ τ, σ.run ws cl (σ.mu ws.length) = τ.run ws cl (τ.mu ws.length) ∧ τ.Good ws.length ∧ Ate σ c τ
variable {ws : List Nat} {cl : Bool}
theorem rdy {σ : PS} {c : Nat} (hd : σ.dn = false) (hs : σ.st ≠ .data) (hc : ws[σ.at_]? = some c) : σ.ready cl ws.length = true := by
  have := (List.getElem?_eq_some_iff.mp hc).1
  unfold ready
  rw [hd]
  simp [hs, this]
/-- one step -/
theorem eat1 {σ : PS} {c : Nat} (g : σ.Good ws.length) (hd : σ.dn = false) (hs : σ.st ≠ .data) (hc : ws[σ.at_]? = some c) :
    σ.run ws cl (σ.mu ws.length) = (σ.step (some c)).run ws cl ((σ.step (some c)).mu ws.length) ∧ (σ.step (some c)).Good ws.length := by
  have hr := rdy (cl := cl) hd hs hc
  have h := run_one hr g
  have h2 := (ready_step hr g).1
  rw [hc] at h h2
  exact ⟨h, h2⟩
theorem eat_com : Eats ws cl .com := by
  intro σ c g hs hd hc
  obtain ⟨h1, h2⟩ := eat1 (cl := cl) g hd (by rw [hs]; decide) hc
  have hh := g.hd hd (by rw [hs]; decide)
  refine ⟨_, h1, h2, ?_⟩
  by_cases a : c = 60
  · subst a
    constructor <;> simp [step, hs, to, put, hd, hh, closesS, nextS, nextC, pend, rep, nestE, nullE]
  by_cases b : c = 45
  · subst b
    constructor <;> simp [step, hs, to, put, hd, hh, closesS, nextS, nextC, pend, rep, nestE, nullE]
  by_cases d : c = 0
  · subst d
    constructor <;> simp [step, hs, to, put, say, hd, hh, closesS, nextS, nextC, pend, rep, nestE, nullE]
  constructor <;> simp [step, hs, to, put, hd, hh, closesS, nextS, nextC, pend, rep, nestE, nullE, a, b, d]
theorem ate_of {σ ρ τ : PS} {c : Nat} {l : List Dat} (h : Ate ρ c τ) (e1 : ρ.at_ = σ.at_) (e2 : ρ.ou = σ.ou) (e3 : ρ.tx ++ pend ρ.st = σ.tx ++ pend σ.st) (e4 : ρ.er = σ.er ++ l)
    (hq : closesS ρ.st c = closesS σ.st c) (hn : closesS σ.st c = false → nextS ρ.st c = nextS σ.st c ∧ l ++ nestE ρ.st c σ.at_ = nestE σ.st c σ.at_)
    (ht : closesS σ.st c = true → ρ.tx = σ.tx ∧ l ++ faultS ρ.st σ.at_ = faultS σ.st σ.at_) : Ate σ c τ := by
  refine ⟨by rw [h.at_, e1], h.dn, fun q => ?_, fun q => ?_⟩
  · obtain ⟨a1, a2, a3, a4, a5⟩ := h.op (hq.trans q)
    obtain ⟨b1, b2⟩ := hn q
    exact ⟨a1.trans b1, a2.trans e2, a3, by rw [a4, e3], by rw [a5, e4, e1, List.append_assoc σ.er, b2]⟩
  · obtain ⟨a1, a2, a3, a4⟩ := h.cl (hq.trans q)
    obtain ⟨b1, b2⟩ := ht q
    exact ⟨a1, by rw [a2, e2, b1], a3, by rw [a4, e4, e1, List.append_assoc, b2]⟩
/-- a step that only goes over to another state -/
theorem eat_via {st : St} {σ : PS} {c : Nat} {l : List Dat} (K : Eats ws cl st) (g : σ.Good ws.length) (hd : σ.dn = false) (hs : σ.st ≠ .data) (hc : ws[σ.at_]? = some c)
    (k1 : (σ.step (some c)).st = st) (k2 : (σ.step (some c)).dn = false) (e1 : (σ.step (some c)).at_ = σ.at_) (e2 : (σ.step (some c)).ou = σ.ou) (e3 : (σ.step (some c)).tx ++ pend st = σ.tx ++ pend σ.st) (e4 : (σ.step (some c)).er = σ.er ++ l)
    (hq : closesS st c = closesS σ.st c) (hn : closesS σ.st c = false → nextS st c = nextS σ.st c ∧ l ++ nestE st c σ.at_ = nestE σ.st c σ.at_)
    (ht : closesS σ.st c = true → (σ.step (some c)).tx = σ.tx ∧ l ++ faultS st σ.at_ = faultS σ.st σ.at_) :
    ∃ τ, σ.run ws cl (σ.mu ws.length) = τ.run ws cl (τ.mu ws.length) ∧ τ.Good ws.length ∧ Ate σ c τ := by
  obtain ⟨h1, h2⟩ := eat1 (cl := cl) g hd hs hc
  obtain ⟨τ, r1, r2, r3⟩ := K (σ.step (some c)) c h2 k1 k2 (by rw [e1]; exact hc)
  refine ⟨τ, h1.trans r1, r2, ate_of r3 e1 e2 (by rw [k1, e3]) e4 (by rw [k1, hq]) (fun q => by rw [k1]; exact hn q) (fun q => by rw [k1]; exact ht q)⟩
theorem eat_now {σ : PS} {c : Nat} (g : σ.Good ws.length) (hd : σ.dn = false) (hs : σ.st ≠ .data) (hc : ws[σ.at_]? = some c) (h : Ate σ c (σ.step (some c))) :
    ∃ τ, σ.run ws cl (σ.mu ws.length) = τ.run ws cl (τ.mu ws.length) ∧ τ.Good ws.length ∧ Ate σ c τ := by
  obtain ⟨h1, h2⟩ := eat1 (cl := cl) g hd hs hc
  exact ⟨_, h1, h2, h⟩
theorem eat_start : Eats ws cl .start := by
  intro σ c g hs hd hc
  have hnd : σ.st ≠ .data := by rw [hs]; decide
  have hh := g.hd hd hnd
  by_cases a0 : c = 45
  · subst a0
    refine eat_now g hd hnd hc ?_
    constructor <;> simp [step, hs, to, again, put, say, close, abrupt, hd, hh, closesS, nextS, nextC, pend, rep, nestE, nullE, faultS]
  by_cases a1 : c = 62
  · subst a1
    refine eat_now g hd hnd hc ?_
    constructor <;> simp [step, hs, to, again, put, say, close, abrupt, hd, hh, closesS, nextS, nextC, pend, rep, nestE, nullE, faultS]
  refine eat_via (l := []) eat_com g hd hnd hc ?_ ?_ ?_ ?_ ?_ ?_ ?_ ?_ ?_ <;> simp [step, hs, to, again, put, say, close, abrupt, hd, hh, closesS, nextS, nextC, pend, rep, nestE, nullE, faultS, a0, a1]
theorem eat_sdash : Eats ws cl .sdash := by
  intro σ c g hs hd hc
  have hnd : σ.st ≠ .data := by rw [hs]; decide
  have hh := g.hd hd hnd
  by_cases a0 : c = 45
  · subst a0
    refine eat_now g hd hnd hc ?_
    constructor <;> simp [step, hs, to, again, put, say, close, abrupt, hd, hh, closesS, nextS, nextC, pend, rep, nestE, nullE, faultS]
  by_cases a1 : c = 62
  · subst a1
    refine eat_now g hd hnd hc ?_
    constructor <;> simp [step, hs, to, again, put, say, close, abrupt, hd, hh, closesS, nextS, nextC, pend, rep, nestE, nullE, faultS]
  refine eat_via (l := []) eat_com g hd hnd hc ?_ ?_ ?_ ?_ ?_ ?_ ?_ ?_ ?_ <;> simp [step, hs, to, again, put, say, close, abrupt, hd, hh, closesS, nextS, nextC, pend, rep, nestE, nullE, faultS, a0, a1]
theorem eat_lt : Eats ws cl .lt := by
  intro σ c g hs hd hc
  have hnd : σ.st ≠ .data := by rw [hs]; decide
  have hh := g.hd hd hnd
  by_cases a0 : c = 33
  · subst a0
    refine eat_now g hd hnd hc ?_
    constructor <;> simp [step, hs, to, again, put, say, close, abrupt, hd, hh, closesS, nextS, nextC, pend, rep, nestE, nullE, faultS]
  by_cases a1 : c = 60
  · subst a1
    refine eat_now g hd hnd hc ?_
    constructor <;> simp [step, hs, to, again, put, say, close, abrupt, hd, hh, closesS, nextS, nextC, pend, rep, nestE, nullE, faultS]
  refine eat_via (l := []) eat_com g hd hnd hc ?_ ?_ ?_ ?_ ?_ ?_ ?_ ?_ ?_ <;> simp [step, hs, to, again, put, say, close, abrupt, hd, hh, closesS, nextS, nextC, pend, rep, nestE, nullE, faultS, a0, a1]
theorem eat_bang : Eats ws cl .bang := by
  intro σ c g hs hd hc
  have hnd : σ.st ≠ .data := by rw [hs]; decide
  have hh := g.hd hd hnd
  by_cases a0 : c = 45
  · subst a0
    refine eat_now g hd hnd hc ?_
    constructor <;> simp [step, hs, to, again, put, say, close, abrupt, hd, hh, closesS, nextS, nextC, pend, rep, nestE, nullE, faultS]
  refine eat_via (l := []) eat_com g hd hnd hc ?_ ?_ ?_ ?_ ?_ ?_ ?_ ?_ ?_ <;> simp [step, hs, to, again, put, say, close, abrupt, hd, hh, closesS, nextS, nextC, pend, rep, nestE, nullE, faultS, a0]
theorem eat_edash : Eats ws cl .edash := by
  intro σ c g hs hd hc
  have hnd : σ.st ≠ .data := by rw [hs]; decide
  have hh := g.hd hd hnd
  by_cases a0 : c = 45
  · subst a0
    refine eat_now g hd hnd hc ?_
    constructor <;> simp [step, hs, to, again, put, say, close, abrupt, hd, hh, closesS, nextS, nextC, pend, rep, nestE, nullE, faultS]
  refine eat_via (l := []) eat_com g hd hnd hc ?_ ?_ ?_ ?_ ?_ ?_ ?_ ?_ ?_ <;> simp [step, hs, to, again, put, say, close, abrupt, hd, hh, closesS, nextS, nextC, pend, rep, nestE, nullE, faultS, a0]
theorem eat_bdash : Eats ws cl .bdash := by
  intro σ c g hs hd hc
  have hnd : σ.st ≠ .data := by rw [hs]; decide
  have hh := g.hd hd hnd
  by_cases a0 : c = 45
  · subst a0
    refine eat_now g hd hnd hc ?_
    constructor <;> simp [step, hs, to, again, put, say, close, abrupt, hd, hh, closesS, nextS, nextC, pend, rep, nestE, nullE, faultS]
  refine eat_via (l := []) eat_edash g hd hnd hc ?_ ?_ ?_ ?_ ?_ ?_ ?_ ?_ ?_ <;> simp [step, hs, to, again, put, say, close, abrupt, hd, hh, closesS, nextS, nextC, pend, rep, nestE, nullE, faultS, a0]
theorem eat_en : Eats ws cl .en := by
  intro σ c g hs hd hc
  have hnd : σ.st ≠ .data := by rw [hs]; decide
  have hh := g.hd hd hnd
  by_cases a0 : c = 62
  · subst a0
    refine eat_now g hd hnd hc ?_
    constructor <;> simp [step, hs, to, again, put, say, close, abrupt, hd, hh, closesS, nextS, nextC, pend, rep, nestE, nullE, faultS]
  by_cases a1 : c = 33
  · subst a1
    refine eat_now g hd hnd hc ?_
    constructor <;> simp [step, hs, to, again, put, say, close, abrupt, hd, hh, closesS, nextS, nextC, pend, rep, nestE, nullE, faultS]
  by_cases a2 : c = 45
  · subst a2
    refine eat_now g hd hnd hc ?_
    constructor <;> simp [step, hs, to, again, put, say, close, abrupt, hd, hh, closesS, nextS, nextC, pend, rep, nestE, nullE, faultS]
  refine eat_via (l := []) eat_com g hd hnd hc ?_ ?_ ?_ ?_ ?_ ?_ ?_ ?_ ?_ <;> simp [step, hs, to, again, put, say, close, abrupt, hd, hh, closesS, nextS, nextC, pend, rep, nestE, nullE, faultS, a0, a1, a2]
theorem eat_ebang : Eats ws cl .ebang := by
  intro σ c g hs hd hc
  have hnd : σ.st ≠ .data := by rw [hs]; decide
  have hh := g.hd hd hnd
  by_cases a0 : c = 45
  · subst a0
    refine eat_now g hd hnd hc ?_
    constructor <;> simp [step, hs, to, again, put, say, close, abrupt, hd, hh, closesS, nextS, nextC, pend, rep, nestE, nullE, faultS]
  by_cases a1 : c = 62
  · subst a1
    refine eat_now g hd hnd hc ?_
    constructor <;> simp [step, hs, to, again, put, say, close, abrupt, hd, hh, closesS, nextS, nextC, pend, rep, nestE, nullE, faultS]
  refine eat_via (l := []) eat_com g hd hnd hc ?_ ?_ ?_ ?_ ?_ ?_ ?_ ?_ ?_ <;> simp [step, hs, to, again, put, say, close, abrupt, hd, hh, closesS, nextS, nextC, pend, rep, nestE, nullE, faultS, a0, a1]
theorem eat_bdd : Eats ws cl .bdd := by
  intro σ c g hs hd hc
  have hnd : σ.st ≠ .data := by rw [hs]; decide
  have hh := g.hd hd hnd
  by_cases a : c = 62
  · subst a
    refine eat_via (l := []) eat_en g hd hnd hc ?_ ?_ ?_ ?_ ?_ ?_ ?_ ?_ ?_ <;> simp [step, hs, to, again, put, say, close, abrupt, hd, hh, closesS, nextS, nextC, pend, rep, nestE, nullE, faultS]
  · refine eat_via (l := [errD "nested-comment" σ.at_]) eat_en g hd hnd hc ?_ ?_ ?_ ?_ ?_ ?_ ?_ ?_ ?_ <;> simp [step, hs, to, again, put, say, close, abrupt, hd, hh, closesS, nextS, nextC, pend, rep, nestE, nullE, faultS, a]
theorem eat (σ : PS) (c : Nat) (g : σ.Good ws.length) (hs : σ.st ≠ .data) (hd : σ.dn = false) (hc : ws[σ.at_]? = some c) :
    ∃ τ, σ.run ws cl (σ.mu ws.length) = τ.run ws cl (τ.mu ws.length) ∧ τ.Good ws.length ∧ Ate σ c τ := by
  cases h : σ.st
  · exact eat_start σ c g h hd hc
  · exact eat_sdash σ c g h hd hc
  · exact eat_com σ c g h hd hc
  · exact eat_lt σ c g h hd hc
  · exact eat_bang σ c g h hd hc
  · exact eat_bdash σ c g h hd hc
  · exact eat_bdd σ c g h hd hc
  · exact eat_edash σ c g h hd hc
  · exact eat_en σ c g h hd hc
  · exact eat_ebang σ c g h hd hc
  · exact absurd h hs
end PS
end Mine
end
section
open PySem PySem.W PySem.Calls PyProof.Rows PyProof.V PySem.Spec
namespace Mine
section
variable {prog : Program} {w : World} {A : Around} {E : Value → Shared → Prop} {s : Shared} {env : Env} {h₀ : Heap} {x : Str} {body : List Stmt} {Q : Flow → Shared → Prop} {m₀ : Str → Option Value} {news : List (Addr × Obj)}
theorem my_iter {o : Obj} {n : Nat} {P : Nat → Value → Prop} {St : Nat → Heap → Prop} (J : Nat → (Str → Option Value) → List (Addr × Obj) → Prop)
    (W : Walks prog w A s.heap.objs.size [s.heap.objs.size] [s.heap.objs.size] n P St) (hob : ∀ i h, St i h → ∃ o, h.get? s.heap.objs.size = some o) (hst : St 0 (s.heap.push o))
    (F : Fr h₀ env.locals s.heap m₀) (N : News h₀ env.locals s.heap news) (hj : J 0 m₀ news)
    (turn : ∀ i v m₁ nx h tk own, i < n → P i v → OwnOff own (nx.map (·.1)) → J i m₁ nx → Fr h₀ env.locals h (fun y => if y = x then some v else m₁ y) → News h₀ env.locals h (nx ++ own) →
      wpAny (model prog w) A (execs body env) (InvPostG h₀ env.locals (J (i + 1)) own { s with heap := h, toks := tk } Q) E { s with heap := h, toks := tk })
    (done : ∀ m₁ nx h tk, J n m₁ nx → Fr h₀ env.locals h m₁ → News h₀ env.locals h nx → Q .next { s with heap := h, toks := tk }) :
    LoopAtV prog w A h₀ env x body Q E (.ref s.heap.objs.size) { s with heap := s.heap.push o } := by
  refine kdr_loop J W (fun _ h => h) (fun _ h => h) (fun i h hi b hb => ?_) ?_ ?_ ?_ hst (F.push _) (fun p hp => ⟨Heap.get?_push_of_some _ (N p hp).1, (N p hp).2⟩) hj turn done
  · rw [List.mem_singleton.mp hb]
    exact hob i h hi
  · intro hm
    exact absurd F.ns.lt ((List.mem_singleton.mp hm) ▸ Nat.lt_irrefl _)
  · intro b hb
    rw [List.mem_singleton.mp hb]
    exact next_is_new F
  · intro p hp hI
    exact absurd (Heap.lt_size (N p hp).1) ((List.mem_singleton.mp hI) ▸ Nat.lt_irrefl _)
theorem my_text {xt : Str} {tx : Tok} (J : Nat → (Str → Option Value) → List (Addr × Obj) → Prop) (hh : A.handled = none)
    (F : Fr h₀ env.locals s.heap m₀) (N : News h₀ env.locals s.heap news) (hj : J 0 m₀ news)
    (turn : ∀ i c t m₁ nx h tk own, xt.cps[i]? = some c → OwnOff own (nx.map (·.1)) → J i m₁ nx → Fr h₀ env.locals h (fun y => if y = x then some (.str ⟨#[c]⟩ t) else m₁ y) → News h₀ env.locals h (nx ++ own) →
      wpAny (model prog w) A (execs body env) (InvPostG h₀ env.locals (J (i + 1)) own { s with heap := h, toks := tk } Q) E { s with heap := h, toks := tk })
    (done : ∀ m₁ nx h tk, J xt.cps.size m₁ nx → Fr h₀ env.locals h m₁ → News h₀ env.locals h nx → Q .next { s with heap := h, toks := tk }) :
    wpAny (model prog w) A (pyIter (.str xt tx)) (fun it s₂ => LoopAtV prog w A h₀ env x body Q E it s₂) E s := by
  have turn' : ∀ i v m₁ nx h tk own, i < xt.cps.size → SignAt xt i v → OwnOff own (nx.map (·.1)) → J i m₁ nx → Fr h₀ env.locals h (fun y => if y = x then some v else m₁ y) → News h₀ env.locals h (nx ++ own) →
      wpAny (model prog w) A (execs body env) (InvPostG h₀ env.locals (J (i + 1)) own { s with heap := h, toks := tk } Q) E { s with heap := h, toks := tk } := by
    rintro i v m₁ nx h tk own hi ⟨c, u, hc, rfl⟩ ho hJ F' N'
    exact turn i c u m₁ nx h tk own hc ho hJ F' N'
  cases ha : xt.cps.all (· < 128)
  · exact wpAny_pyIter_wide ha (my_iter J (Walks.strWide hh _ xt tx) (fun i h hi => let ⟨o, ho, _⟩ := hi; ⟨o, ho⟩) ⟨_, Heap.get?_push_size _ rfl, rfl, rfl⟩ F N hj turn' done)
  · exact wpAny_pyIter_ascii ha (my_iter J (Walks.strAscii hh _ xt tx) (fun i h hi => let ⟨o, ho, _⟩ := hi; ⟨o, ho⟩) ⟨_, Heap.get?_push_size _ rfl, rfl, rfl⟩ F N hj turn' done)
theorem walks_wide {I ax : Addr} {n : Nat} {P : Nat → Value → Prop} {St : Nat → Heap → Prop} (W : Walks prog w A I [I, ax] [I] n P St) : Walks prog w A I [I, ax] [I, ax] n P St where
  sub := fun b h => h
  frame := W.frame
  item := fun i s Q E hi st hQ => W.item i s Q E hi st fun v h' tk p st' hk => hQ v h' tk p st' fun b o hb e => hk b o (fun h => hb (by rw [List.mem_singleton.mp h]; exact .head _)) e
  done := fun s Q E st hQ => W.done s Q E st fun h' tk hk => hQ h' tk fun b o hb e => hk b o (fun h => hb (by rw [List.mem_singleton.mp h]; exact .head _)) e
  self := W.self
/-- a loop over a list that nothing else holds -/
theorem my_list {ax : Addr} {vs : Array Value} {n : Nat} (J : Nat → (Str → Option Value) → List (Addr × Obj) → Prop) (hh : A.handled = none)
    (F : Fr h₀ env.locals s.heap m₀) (N : News h₀ env.locals s.heap ((ax, listOf vs n) :: news)) (hne : ∀ p ∈ news, (p.1 : Nat) < ax) (hj : J 0 m₀ news)
    (turn : ∀ i v m₁ nx h tk own, vs[i]? = some v → OwnOff own (nx.map (·.1)) → J i m₁ nx → Fr h₀ env.locals h (fun y => if y = x then some v else m₁ y) → News h₀ env.locals h (nx ++ own) →
      wpAny (model prog w) A (execs body env) (InvPostG h₀ env.locals (J (i + 1)) own { s with heap := h, toks := tk } Q) E { s with heap := h, toks := tk })
    (done : ∀ m₁ nx h tk, J vs.size m₁ nx → Fr h₀ env.locals h m₁ → News h₀ env.locals h nx → Q .next { s with heap := h, toks := tk }) :
    wpAny (model prog w) A (pyIter (.ref ax)) (fun it s₂ => LoopAtV prog w A h₀ env x body Q E it s₂) E s := by
  have hm : (ax, listOf vs n) ∈ (ax, listOf vs n) :: news := .head _
  have hl := News.isList N hm
  have hlt : ax < s.heap.objs.size := Heap.lt_size (N _ hm).1
  have hax : ax ≠ s.heap.objs.size := Nat.ne_of_lt hlt
  refine wpAny_pyIter_list hl ?_
  have W := walks_wide (Walks.list (prog := prog) (w := w) hh s.heap.objs.size ax hax vs)
  have N2 : News h₀ env.locals s.heap news := fun p hp => N p (.tail _ hp)
  refine kdr_loop J W (fun _ h => h) (fun _ h => h) (fun i h hi b hb => ?_) ?_ ?_ ?_ ⟨⟨_, Heap.get?_push_size _ rfl, rfl, rfl⟩, ?_⟩ (F.push _) (fun p hp => ⟨Heap.get?_push_of_some _ (N2 p hp).1, (N2 p hp).2⟩) hj (fun i v m₁ nx h tk own hi hv => turn i v m₁ nx h tk own hv) done
  · rcases List.mem_cons.mp hb with rfl | hb
    · obtain ⟨o, ho, _⟩ := hi.1
      exact ⟨o, ho⟩
    · rw [List.mem_singleton.mp hb]
      obtain ⟨o, ho, _⟩ := hi.2
      exact ⟨o, ho⟩
  · intro hm2
    rcases List.mem_cons.mp hm2 with h | h
    · exact absurd F.ns.lt (h ▸ Nat.lt_irrefl _)
    · exact (N _ hm).2.1 (List.mem_singleton.mp h).symm
  · intro b hb
    rcases List.mem_cons.mp hb with rfl | hb
    · exact next_is_new F
    · rw [List.mem_singleton.mp hb]
      exact (N _ hm).2.2
  · intro p hp hI
    rcases List.mem_cons.mp hI with h | h
    · exact absurd (Heap.lt_size (N2 p hp).1) (h ▸ Nat.lt_irrefl _)
    · have := hne p hp
      rw [List.mem_singleton.mp h] at this
      exact Nat.lt_irrefl _ this
  · exact hl.at fun o e => Heap.get?_push_of_some _ e
theorem my_range {r : Addr} {a₀ b₀ : Int} {t₀ u₀ v₀ : Tok} {n : Nat} (J : Nat → (Str → Option Value) → List (Addr × Obj) → Prop) (hh : A.handled = none)
    (hr : IsRange s.heap r a₀ b₀ 1 t₀ u₀ v₀) (hsmall : Builtin.Range.small a₀ b₀ 1 = true) (hsz : Builtin.Range.rangeSize a₀ b₀ 1 = (n : Int))
    (F : Fr h₀ env.locals s.heap m₀) (N : News h₀ env.locals s.heap news) (hj : J 0 m₀ news)
    (turn : ∀ (i : Nat) t m₁ nx h tk own, i < n → OwnOff own (nx.map (·.1)) → J i m₁ nx → Fr h₀ env.locals h (fun y => if y = x then some (.int (a₀ + i) t) else m₁ y) → News h₀ env.locals h (nx ++ own) →
      wpAny (model prog w) A (execs body env) (InvPostG h₀ env.locals (J (i + 1)) own { s with heap := h, toks := tk } Q) E { s with heap := h, toks := tk })
    (done : ∀ m₁ nx h tk, J n m₁ nx → Fr h₀ env.locals h m₁ → News h₀ env.locals h nx → Q .next { s with heap := h, toks := tk }) :
    wpAny (model prog w) A (pyIter (.ref r)) (fun it s₂ => LoopAtV prog w A h₀ env x body Q E it s₂) E s := by
  refine wpAny_pyIter_range hr hsmall ?_
  have W : Walks prog w A s.heap.objs.size [s.heap.objs.size] [s.heap.objs.size] n (fun i v => i < n ∧ ∃ t, v = .int (a₀ + i * 1) t)
      (fun i h => IsRangeIter h s.heap.objs.size (a₀ + (i : Nat) * 1) ((n : Int) - (i : Nat)) 1) := (Walks.range hh _ a₀ 1 n).bound
  refine my_iter J W (fun i h hi => ⟨_, hi⟩) (by show IsRangeIter _ _ _ _ _; rw [hsz]; simpa using Heap.get?_push_size _ rfl) F N hj ?_ done
  rintro i v m₁ nx h tk own hi ⟨_, t, rfl⟩ ho hJ F' N'
  have e1 : a₀ + (i : Int) * 1 = a₀ + (i : Int) := by omega
  rw [e1] at F'
  exact turn i t m₁ nx h tk own hi ho hJ F' N'
theorem my_range0 {r : Addr} {b : Int} {t₀ u₀ v₀ : Tok} (J : Nat → (Str → Option Value) → List (Addr × Obj) → Prop) (hh : A.handled = none)
    (hr : IsRange s.heap r 0 b 1 t₀ u₀ v₀) (hb : -1000 ≤ b ∧ b ≤ 1000)
    (F : Fr h₀ env.locals s.heap m₀) (N : News h₀ env.locals s.heap news) (hj : J 0 m₀ news)
    (turn : ∀ (i : Nat) t m₁ nx h tk own, i < b.toNat → OwnOff own (nx.map (·.1)) → J i m₁ nx → Fr h₀ env.locals h (fun y => if y = x then some (.int (i : Int) t) else m₁ y) → News h₀ env.locals h (nx ++ own) →
      wpAny (model prog w) A (execs body env) (InvPostG h₀ env.locals (J (i + 1)) own { s with heap := h, toks := tk } Q) E { s with heap := h, toks := tk })
    (done : ∀ m₁ nx h tk, J b.toNat m₁ nx → Fr h₀ env.locals h m₁ → News h₀ env.locals h nx → Q .next { s with heap := h, toks := tk }) :
    wpAny (model prog w) A (pyIter (.ref r)) (fun it s₂ => LoopAtV prog w A h₀ env x body Q E it s₂) E s := by
  refine my_range (n := b.toNat) J hh hr (small_one (by omega) (by omega) (by omega) (by omega)) (by rw [rangeSize_nat, Int.sub_zero]) F N hj (fun i t m₁ nx h tk own hi ho hJ F' N' => ?_) done
  rw [Int.zero_add] at F'
  exact turn i t m₁ nx h tk own hi ho hJ F' N'
/-- a turn's end -/
theorem my_end {J : (Str → Option Value) → List (Addr × Obj) → Prop} {L : Addr} {m' : Str → Option Value} {own news' : List (Addr × Obj)} {s₁ : Shared} {h' : Heap} {tk : Nat} (nx : List (Addr × Obj)) (F : Fr h₀ L h' m') (N : News h₀ L h' news')
    (hj : J m' nx) (ha : OwnOff own (nx.map (·.1))) (hn : ∀ p ∈ nx ++ own, p ∈ news') : InvEndG h₀ L J own s₁ { s₁ with heap := h', toks := tk } :=
  InvEndG.intro F N hj ha (fun p hp => hn p (List.mem_append_left _ hp)) (fun p hp => hn p (List.mem_append_right _ hp))
theorem fr_names {h : Heap} {L : Addr} {m₁ m₂ : Str → Option Value} (F : Fr h₀ L h m₁) (e : ∀ y, m₂ y = m₁ y) : Fr h₀ L h m₂ := by
  have : m₂ = m₁ := funext e
  rw [this]; exact F
theorem parts_item {l : Nat} {k : Int} {u : Tok} {vs : Array Value} {n : Nat} {xs : List Str} {P : Str → Prop} {value slice : PySem.Expr} {Q : Value → Shared → Prop} {L : Addr} (N : News h₀ L s.heap news) (hm : (l, listOf vs n) ∈ news) (hx : StrsAre vs.toList xs) (h0 : 0 ≤ k) (h1 : k < xs.length) (hz : xs.length ≤ 1000) (hP : ∀ x ∈ xs, P x)
    (h : ∀ x t, P x → Q (.str x t) s)
    (hs : subscripted slice false (.ref l) (.int k u) = operate [.ref l, .int k u] (getItem (.ref l) (.int k u)) := by with_unfolding_all rfl) :
    wpAny (model prog w) A (subscriptTail value slice (.ref l) (.int k u)) Q E s := by
  have key : ∀ (vs : List Value) (xs : List Str) (j : Nat), StrsAre vs xs → j < xs.length → ∃ x t, vs[j]? = some (.str x t) ∧ x ∈ xs := by
    intro vs xs j hh
    induction hh generalizing j with
    | nil => intro h; exact absurd h (Nat.not_lt_zero _)
    | cons x t r ih =>
      intro hj
      cases j with
      | zero => exact ⟨x, t, rfl, .head _⟩
      | succ j =>
        obtain ⟨y, t', e, hy⟩ := ih j (by simpa using hj)
        exact ⟨y, t', by simpa using e, .tail _ hy⟩
  obtain ⟨y, t, e, hy⟩ := key vs.toList xs k.toNat hx (by omega)
  refine tail_any (News.isList N hm).typeIs slot_list_getitem.lookup (wpAny_getItem_list (News.isList N hm) h0 (by omega) (x := .str y t) (by simpa using e) (h y t (hP y hy))) hs
end
end Mine
end
section
open PySem PySem.W PySem.Calls PyProof.Rows PySem.Builtin.Str
set_option linter.unusedVariables false
namespace Mine
theorem pick_ (l : List Nat) (a c : Nat) : (List.range c).filterMap (fun k => l[a + k]?) = (l.drop a).take c := by
  induction c with
  | zero => simp
  | succ c ih =>
    rw [List.range_succ, List.filterMap_append, ih, List.take_add_one]
    congr 1
    rw [List.getElem?_drop]
    cases h : l[a + c]? <;> simp [List.filterMap_cons, h]
theorem idx_ (a b n : Nat) (lo hi : Option Int) (hlo : lo = some (a : Int) ∨ (lo = none ∧ a = 0)) (hhi : hi = some (b : Int) ∨ (hi = none ∧ b = n)) :
    strSliceIndices lo hi 1 n = (List.range (min b n - min a n)).map fun k => min a n + k := by
  have key : strSliceIndices lo hi 1 n = sliceRange ((min a n : Nat) : Int) ((min b n : Nat) : Int) 1 := by
    unfold strSliceIndices
    rcases hlo with rfl | ⟨rfl, rfl⟩ <;> rcases hhi with rfl | ⟨rfl, rfl⟩ <;> simp only [show (1 : Int) > 0 by decide, if_true] <;> congr 1 <;> (try split) <;> omega
  rw [key]
  unfold sliceRange
  simp only [show (1 : Int) > 0 by decide, if_true, Int.ediv_one]
  have hc : (if ((min a n : Nat) : Int) < ((min b n : Nat) : Int) then ((min b n : Nat) : Int) - ((min a n : Nat) : Int) + 1 - 1 else 0).toNat = min b n - min a n := by split <;> omega
  rw [hc]
  refine List.map_congr_left fun k _ => ?_
  omega
theorem slice_gen (l : List Nat) (a b : Nat) (lo hi : Option Int) (hlo : lo = some (a : Int) ∨ (lo = none ∧ a = 0)) (hhi : hi = some (b : Int) ∨ (hi = none ∧ b = l.length)) :
    Txt.slice (tx_ l) lo hi = tx_ ((l.take b).drop a) := by
  have hlen : (tx_ l).length = l.length := by show (Str.mk _).cps.size = _; simp
  unfold Txt.slice
  rw [hlen, idx_ a b l.length lo hi hlo hhi]
  have hfm : ((List.range (min b l.length - min a l.length)).map fun k => min a l.length + k).filterMap ((tx_ l).cps[·]?) = (l.take b).drop a := by
    rw [List.filterMap_map]
    have : ((fun x => (tx_ l).cps[x]?) ∘ fun k => min a l.length + k) = fun k => l[min a l.length + k]? := by
      funext k
      simp
    rw [this, pick_, List.drop_take]
    apply List.ext_getElem?
    intro i
    simp only [List.getElem?_take, List.getElem?_drop]
    by_cases h1 : a ≤ l.length
    · have h2 : min a l.length = a := by omega
      rw [h2]
      by_cases h3 : i < b - a
      · rw [if_pos h3]
        by_cases h4 : i < min b l.length - a
        · rw [if_pos h4]
        · rw [if_neg h4, List.getElem?_eq_none (by omega)]
      · rw [if_neg h3, if_neg (by omega)]
    · rw [if_neg (by omega)]
      split
      · rw [List.getElem?_eq_none (by omega)]
      · rfl
  split
  · rename_i h
    rw [List.length_map, List.length_range] at h
    have h' : min b l.length - min a l.length = l.length := by simpa using h
    show Str.mk _ = Str.mk _
    congr 2
    apply List.ext_getElem?
    intro i
    simp only [List.getElem?_drop, List.getElem?_take]
    by_cases hl : l.length = 0
    · have : l = [] := List.eq_nil_of_length_eq_zero hl
      subst this
      simp
    · have h5 : a = 0 := by omega
      subst h5
      rw [Nat.zero_add]
      split
      · rfl
      · rw [List.getElem?_eq_none (by omega)]
  · rw [hfm]
theorem slice_ (l : List Nat) (a b : Nat) : Txt.slice (tx_ l) (some a) (some b) = tx_ ((l.take b).drop a) := slice_gen l a b _ _ (.inl rfl) (.inl rfl)
theorem slice_to (l : List Nat) (b : Nat) : Txt.slice (tx_ l) none (some b) = tx_ (l.take b) := by
  rw [slice_gen l 0 b _ _ (.inr ⟨rfl, rfl⟩) (.inl rfl), List.drop_zero]
theorem slice_from (l : List Nat) (a : Nat) : Txt.slice (tx_ l) (some a) none = tx_ (l.drop a) := by
  rw [slice_gen l a l.length _ _ (.inl rfl) (.inr ⟨rfl, rfl⟩), List.take_length]
theorem tx_inj {a b : List Nat} : (tx_ a == tx_ b) = (a == b) := by
  by_cases h : a = b
  · subst h; simp
  · have h2 : ¬ tx_ a = tx_ b := by
      intro e
      have := congrArg (fun x => x.cps.toList) e
      simp at this
      exact h this
    rw [beq_eq_false_iff_ne.mpr h2, beq_eq_false_iff_ne.mpr h]
theorem tx_of (x : Str) : x = tx_ x.cps.toList := by
  show x = Str.mk _
  simp
end Mine
end
section
open PySem PySem.W PySem.Calls PyProof.Rows
set_option linter.unusedVariables false
set_option linter.unusedSimpArgs false
namespace Mine

noncomputable def hit (ws : List Nat) (p : Nat) : Option (Nat × List Nat) :=
  if (ws.take (p + 3)).drop p = [45, 45, 62] then some (p + 3, ws.take p) else if (ws.take (p + 4)).drop p = [45, 45, 33, 62] then some (p + 4, ws.take p) else none
noncomputable def ends (ws e : List Nat) : Bool := decide (e.length ≤ ws.length) && ws.drop (ws.length - e.length) == e
noncomputable def tailL (ws : List Nat) : List Nat := if ends ws [45, 45, 33] then ws.take (ws.length - 3) else if ends ws [45, 45] then ws.take (ws.length - 2) else if ends ws [45] then ws.take (ws.length - 1) else ws
noncomputable def readL (ws : List Nat) : Bool × Nat × List Nat :=
  if ws.take 1 = [62] then (true, 1, []) else if ws.take 2 = [45, 62] then (true, 2, []) else
  match (List.range ws.length).findSome? (hit ws) with
  | some (n, b) => (true, n, b)
  | none => (false, ws.length, tailL ws)
theorem find_hit {ws : List Nat} {i : Nat} {x : Nat × List Nat} (hi : i < ws.length) (h : ∀ p, p < i → hit ws p = none) (hx : hit ws i = some x) : (List.range ws.length).findSome? (hit ws) = some x := by
  have e : ws.length = i + ((ws.length - i - 1) + 1) := by omega
  rw [e, List.range_add, List.findSome?_append]
  have : (List.range i).findSome? (hit ws) = none := by
    rw [List.findSome?_eq_none_iff]
    intro p hp
    exact h p (List.mem_range.mp hp)
  rw [this, Option.none_or, List.range_succ_eq_map]
  simp [hx]
theorem find_none {ws : List Nat} (h : ∀ p, p < ws.length → hit ws p = none) : (List.range ws.length).findSome? (hit ws) = none := by
  rw [List.findSome?_eq_none_iff]
  intro p hp
  exact h p (List.mem_range.mp hp)
theorem ends_ (l e : List Nat) : Txt.endswith (tx_ l) (tx_ e) = ends l e := by
  unfold Txt.endswith ends
  rw [len_, len_]
  by_cases h : e.length ≤ l.length
  · rw [StrLaws.subAt_eq]
    have h2 : (l.drop (l.length - e.length)).length ≤ (tx_ e).length := by rw [List.length_drop, len_]; omega
    have h3 : (tx_ l).cps.toList = l := by simp
    have h4 : (tx_ e).cps.toList = e := by simp
    rw [h3, List.take_of_length_le h2, h4]
    simp [h]
  · simp [h]
/-- the state after a text, by the text read backwards -/
noncomputable def stR (r : List Nat) : St :=
  if r = [] then .start else if r = [45] then .sdash else if r.take 4 = [45, 45, 33, 60] then .bdd else if r.take 3 = [45, 33, 60] then .bdash else if r.take 2 = [33, 60] then .bang else if r.take 1 = [60] then .lt
  else if r.take 3 = [33, 45, 45] then .ebang else if r.take 2 = [45, 45] then .en else if r.take 1 = [45] then .edash else .com
theorem stR_ndata (r : List Nat) : stR r ≠ .data := by
  unfold stR
  repeat' split
  all_goals simp
theorem cls (c : Nat) : c = 45 ∨ c = 33 ∨ c = 60 ∨ (c ≠ 45 ∧ c ≠ 33 ∧ c ≠ 60) := by omega
/-- stR sees of a sign only which of three it is, and of a text no more than four signs -/
noncomputable def gch (c : Nat) : Nat := if c = 45 ∨ c = 33 ∨ c = 60 then c else 0
theorem gch_eq {c k : Nat} (h : k = 45 ∨ k = 33 ∨ k = 60) : gch c = k ↔ c = k := by
  unfold gch
  split <;> omega
theorem map_gch : ∀ (l cs : List Nat), (∀ k ∈ cs, k = 45 ∨ k = 33 ∨ k = 60) → (l.map gch = cs ↔ l = cs)
  | [], [], _ => Iff.rfl
  | [], _ :: _, _ => by simp
  | _ :: _, [], _ => by simp
  | a :: l, c :: cs, h => by
    have h1 := gch_eq (c := a) (h c (List.mem_cons_self ..))
    have h2 := map_gch l cs (fun k hk => h k (List.mem_cons_of_mem _ hk))
    rw [List.map_cons, List.cons.injEq, List.cons.injEq, h1, h2]
theorem gtake (r cs : List Nat) (n : Nat) (hn : n ≤ 4) (h : ∀ k ∈ cs, k = 45 ∨ k = 33 ∨ k = 60) : ((r.map gch).take 4).take n = cs ↔ r.take n = cs := by
  rw [List.take_take, Nat.min_eq_left hn, ← List.map_take]
  exact map_gch _ _ h
theorem gwhole (r cs : List Nat) (hn : cs.length ≤ 3) (h : ∀ k ∈ cs, k = 45 ∨ k = 33 ∨ k = 60) : (r.map gch).take 4 = cs ↔ r = cs := by
  constructor
  · intro e
    have l : (r.map gch).length ≤ 4 := by
      have := congrArg List.length e
      rw [List.length_take] at this
      omega
    rw [List.take_of_length_le l] at e
    exact (map_gch r cs h).mp e
  · rintro rfl
    rw [List.take_of_length_le (by rw [List.length_map]; omega)]
    exact (map_gch r r h).mpr rfl
theorem stR_norm (r : List Nat) : stR ((r.map gch).take 4) = stR r := by
  unfold stR
  simp only [gwhole r [] (by decide) (by decide), gwhole r [45] (by decide) (by decide), gtake r [45, 45, 33, 60] 4 (by decide) (by decide), gtake r [45, 33, 60] 3 (by decide) (by decide), gtake r [33, 60] 2 (by decide) (by decide), gtake r [60] 1 (by decide) (by decide), gtake r [33, 45, 45] 3 (by decide) (by decide), gtake r [45, 45] 2 (by decide) (by decide), gtake r [45] 1 (by decide) (by decide)]
noncomputable def allL : Nat → List (List Nat)
  | 0 => [[]]
  | n + 1 => [] :: (allL n).flatMap fun l => [45 :: l, 33 :: l, 60 :: l, 0 :: l]
theorem mem_allL : ∀ (n : Nat) (l : List Nat), (l.map gch).take n ∈ allL n
  | 0, l => by simp [allL]
  | n + 1, [] => by simp [allL]
  | n + 1, a :: l => by
    rw [List.map_cons, List.take_succ_cons]
    refine List.mem_cons_of_mem _ (List.mem_flatMap.mpr ⟨_, mem_allL n l, ?_⟩)
    unfold gch
    simp only [List.mem_cons, List.cons.injEq, and_true, List.not_mem_nil, or_false]
    split <;> omega
theorem nextS_gch (st : St) (c : Nat) : nextS st (gch c) = nextS st c := by
  unfold nextS nextC
  simp only [gch_eq (c := c) (k := 45) (by decide), gch_eq (c := c) (k := 33) (by decide), gch_eq (c := c) (k := 60) (by decide)]
theorem stR_all : ∀ l ∈ allL 4, ∀ c ∈ [45, 33, 60, 0], stR ((c :: l).take 4) = nextS (stR l) c := by decide +kernel
theorem stR_step (r : List Nat) (c : Nat) : stR (c :: r) = nextS (stR r) c := by
  rw [← stR_norm (c :: r), ← stR_norm r, ← nextS_gch]
  have h := stR_all _ (mem_allL 4 r) (gch c) (by unfold gch; simp only [List.mem_cons, List.not_mem_nil, or_false]; split <;> omega)
  rw [List.map_cons, ← h, List.take_succ_cons, List.take_succ_cons, List.take_take]
  rfl
noncomputable def errR (a : Nat) : List Nat → List Dat
  | [] => []
  | c :: r => errR a r ++ nestE (stR r) c (a + r.length) ++ nullE c (a + r.length)
noncomputable def Cl (v : List Nat) (e : Nat) : Prop := ∃ c, v[e]? = some c ∧ closesS (stR (v.take e).reverse) c = true
structure Mid (v : List Nat) (k a : Nat) (ou er : List Dat) (σ : PS) : Prop where
  at_ : σ.at_ = a + k
  dn : σ.dn = false
  hd : σ.hd = true
  st : σ.st = stR (v.take k).reverse
  tx : σ.tx ++ pend σ.st = (v.take k).map rep
  ou : σ.ou = ou
  er : σ.er = er ++ errR a (v.take k).reverse
  nc : ∀ e, e < k → ¬ Cl v e
structure Shut (v : List Nat) (e a : Nat) (ou er : List Dat) (σ : PS) : Prop where
  at_ : σ.at_ = a + e + 1
  dn : σ.dn = false
  hd : σ.hd = false
  st : σ.st = .data
  ou : ∃ T, T ++ pend (stR (v.take e).reverse) = (v.take e).map rep ∧ σ.ou = ou ++ [comD T]
  er : σ.er = er ++ errR a (v.take e).reverse ++ faultS (stR (v.take e).reverse) (a + e)
theorem rtake {v : List Nat} {k c : Nat} (h : v[k]? = some c) : (v.take (k + 1)).reverse = c :: (v.take k).reverse := by
  rw [List.take_add_one, h]
  simp
theorem run_open {ws v : List Nat} {cl : Bool} {a : Nat} {ou er : List Dat} (hv : ∀ j, ws[a + j]? = v[j]?) (hn : ws.length = a + v.length) : ∀ (d k : Nat) (σ : PS), k + d = v.length → Mid v k a ou er σ → σ.Good ws.length →
    (∃ e τ, e < v.length ∧ Cl v e ∧ (∀ e', e' < e → ¬ Cl v e') ∧ σ.run ws cl (σ.mu ws.length) = τ ∧ Shut v e a ou er τ ∧ τ.Good ws.length) ∨
    (∃ τ, (∀ e, ¬ Cl v e) ∧ σ.run ws cl (σ.mu ws.length) = τ.run ws cl (τ.mu ws.length) ∧ Mid v v.length a ou er τ ∧ τ.Good ws.length) := by
  intro d
  induction d with
  | zero =>
    intro k σ hk M g
    have : k = v.length := by omega
    subst this
    refine .inr ⟨σ, fun e he => ?_, rfl, M, g⟩
    obtain ⟨c, hc, _⟩ := id he
    exact M.nc e (List.getElem?_eq_some_iff.mp hc).1 he
  | succ d ih =>
    intro k σ hk M g
    have hkl : k < v.length := by omega
    obtain ⟨c, hc⟩ : ∃ c, v[k]? = some c := ⟨_, List.getElem?_eq_getElem hkl⟩
    have hws : ws[σ.at_]? = some c := by rw [M.at_, hv, hc]
    obtain ⟨τ, h1, h2, h3⟩ := PS.eat (cl := cl) σ c g (by rw [M.st]; exact stR_ndata _) M.dn hws
    cases hq : closesS σ.st c with
    | true =>
      obtain ⟨b1, b2, b3, b4⟩ := h3.cl hq
      refine .inl ⟨k, τ, hkl, ⟨c, hc, by rw [← M.st]; exact hq⟩, M.nc, ?_, ⟨by rw [h3.at_, M.at_], h3.dn, b3, b1, ⟨σ.tx, by rw [← M.st, M.tx], by rw [b2, M.ou]⟩, by rw [b4, M.er, M.at_, M.st]⟩, h2⟩
      rw [h1, PS.run_stop]
      unfold PS.ready
      rw [b1]
      simp
    | false =>
      obtain ⟨b1, b2, b3, b4, b5⟩ := h3.op hq
      have hl : (v.take k).length = k := by rw [List.length_take]; omega
      have := ih (k + 1) τ (by omega) ⟨by rw [h3.at_, M.at_]; omega, h3.dn, b3, ?_, ?_, by rw [b2, M.ou], ?_, ?_⟩ h2
      · rcases this with ⟨e, ρ, c1, c2, c3, c4, c5⟩ | ⟨ρ, c1, c2, c3⟩
        · exact .inl ⟨e, ρ, c1, c2, c3, h1.trans c4, c5⟩
        · exact .inr ⟨ρ, c1, h1.trans c2, c3⟩
      · rw [b1, M.st, rtake hc, stR_step]
      · rw [b4, M.tx, List.take_add_one, hc]
        simp
      · rw [b5, M.er, rtake hc, errR, M.at_, M.st]
        simp [hl]
      · intro e he hcl
        by_cases h : e < k
        · exact M.nc e h hcl
        · have : e = k := by omega
          subst this
          obtain ⟨c', hc', hq'⟩ := hcl
          rw [hc] at hc'
          cases hc'
          rw [← M.st, hq] at hq'
          cases hq'
theorem run_end {ws v : List Nat} {a : Nat} {ou er : List Dat} (hn : ws.length = a + v.length) {σ : PS} (M : Mid v v.length a ou er σ) (g : σ.Good ws.length) :
    ∃ τ, σ.run ws true (σ.mu ws.length) = τ ∧ τ.Good ws.length ∧ τ.dn = true ∧ τ.at_ = ws.length + 1 ∧ τ.ou = ou ++ [comD σ.tx] ++ [eofD] ∧ τ.er = σ.er ++ [errD "eof-in-comment" ws.length] := by
  have hat : σ.at_ = ws.length := by rw [M.at_, hn]
  have hno : ws[σ.at_]? = none := by rw [hat]; exact List.getElem?_eq_none (Nat.le_refl _)
  have one : ∀ ρ : PS, ρ.Good ws.length → ρ.dn = false → ρ.st ≠ .data → ρ.at_ = ws.length → ρ.run ws true (ρ.mu ws.length) = (ρ.step none).run ws true ((ρ.step none).mu ws.length) ∧ (ρ.step none).Good ws.length := by
    intro ρ g d s e
    have hr : ρ.ready true ws.length = true := by unfold PS.ready; rw [d]; simp [s]
    have h := PS.run_one hr g
    have h2 := (PS.ready_step hr g).1
    rw [e, List.getElem?_eq_none (Nat.le_refl _)] at h h2
    exact ⟨h, h2⟩
  have fin : ∀ ρ : PS, ρ.step none = ρ.fin → ρ.Good ws.length → ρ.dn = false → ρ.st ≠ .data → ρ.at_ = ws.length → ρ.run ws true (ρ.mu ws.length) = ρ.fin ∧ ρ.fin.Good ws.length := by
    intro ρ e g d s t
    obtain ⟨h1, h2⟩ := one ρ g d s t
    rw [e] at h1 h2
    refine ⟨?_, h2⟩
    rw [h1, PS.run_stop]
    simp [PS.ready, PS.fin]
  have res : ∀ ρ : PS, ρ.step none = ρ.fin → ρ.Good ws.length → ρ.dn = false → ρ.st ≠ .data → ρ.at_ = ws.length → ρ.ou = ou → ρ.tx = σ.tx → ρ.er = σ.er → σ.run ws true (σ.mu ws.length) = ρ.run ws true (ρ.mu ws.length) →
      ∃ τ, σ.run ws true (σ.mu ws.length) = τ ∧ τ.Good ws.length ∧ τ.dn = true ∧ τ.at_ = ws.length + 1 ∧ τ.ou = ou ++ [comD σ.tx] ++ [eofD] ∧ τ.er = σ.er ++ [errD "eof-in-comment" ws.length] := by
    intro ρ e g d s t e1 e2 e3 h
    obtain ⟨h1, h2⟩ := fin ρ e g d s t
    exact ⟨ρ.fin, h.trans h1, h2, rfl, by simp [PS.fin, t], by simp [PS.fin, e1, e2], by simp [PS.fin, e3, t]⟩
  have hsd : σ.st ≠ .data := by rw [M.st]; exact stR_ndata _
  cases hs : σ.st
  case data => exact absurd hs hsd
  case com => exact res σ (by simp [PS.step, hs]) g M.dn hsd hat M.ou rfl rfl rfl
  case sdash => exact res σ (by simp [PS.step, hs]) g M.dn hsd hat M.ou rfl rfl rfl
  case edash => exact res σ (by simp [PS.step, hs]) g M.dn hsd hat M.ou rfl rfl rfl
  case en => exact res σ (by simp [PS.step, hs]) g M.dn hsd hat M.ou rfl rfl rfl
  case ebang => exact res σ (by simp [PS.step, hs]) g M.dn hsd hat M.ou rfl rfl rfl
  case start =>
    obtain ⟨h1, h2⟩ := one σ g M.dn hsd hat
    have e : σ.step none = σ.again .com := by simp [PS.step, hs]
    rw [e] at h1 h2
    exact res (σ.again .com) (by simp [PS.step, PS.again]) h2 M.dn (by simp [PS.again]) hat M.ou rfl rfl h1
  case lt =>
    obtain ⟨h1, h2⟩ := one σ g M.dn hsd hat
    have e : σ.step none = σ.again .com := by simp [PS.step, hs]
    rw [e] at h1 h2
    exact res (σ.again .com) (by simp [PS.step, PS.again]) h2 M.dn (by simp [PS.again]) hat M.ou rfl rfl h1
  case bang =>
    obtain ⟨h1, h2⟩ := one σ g M.dn hsd hat
    have e : σ.step none = σ.again .com := by simp [PS.step, hs]
    rw [e] at h1 h2
    exact res (σ.again .com) (by simp [PS.step, PS.again]) h2 M.dn (by simp [PS.again]) hat M.ou rfl rfl h1
  case bdash =>
    obtain ⟨h1, h2⟩ := one σ g M.dn hsd hat
    have e : σ.step none = σ.again .edash := by simp [PS.step, hs]
    rw [e] at h1 h2
    exact res (σ.again .edash) (by simp [PS.step, PS.again]) h2 M.dn (by simp [PS.again]) hat M.ou rfl rfl h1
  case bdd =>
    obtain ⟨h1, h2⟩ := one σ g M.dn hsd hat
    have e : σ.step none = σ.again .en := by simp [PS.step, hs]
    rw [e] at h1 h2
    exact res (σ.again .en) (by simp [PS.step, PS.again]) h2 M.dn (by simp [PS.again]) hat M.ou rfl rfl h1
end Mine
end
section
open PySem PySem.W PySem.Calls PyProof.Rows PySem.Builtin PySem.Builtin.Str
set_option linter.unusedVariables false
set_option linter.unusedSimpArgs false
namespace Mine
theorem map_free (c d : Nat) : ∀ l : List Nat, c ∉ l → l.map (fun k => if k = c then d else k) = l
  | [], _ => rfl
  | k :: r, h => by
    have h1 : ¬ k = c := fun e => h (e ▸ List.mem_cons_self ..)
    rw [List.map_cons, if_neg h1, map_free c d r fun m => h (List.mem_cons_of_mem _ m)]
theorem map_join (c d : Nat) : ∀ parts : List Str, (∀ p ∈ parts, c ∉ p.cps.toList) → (Str.join ⟨#[c]⟩ parts).cps.toList.map (fun k => if k = c then d else k) = (Str.join ⟨#[d]⟩ parts).cps.toList
  | [], _ => rfl
  | [p], h => map_free c d _ (h p (List.mem_singleton.mpr rfl))
  | p :: q :: r, h => by
    have ih := map_join c d (q :: r) fun a ha => h a (List.mem_cons_of_mem _ ha)
    show (p ++ ⟨#[c]⟩ ++ Str.join ⟨#[c]⟩ (q :: r)).cps.toList.map _ = (p ++ ⟨#[d]⟩ ++ Str.join ⟨#[d]⟩ (q :: r)).cps.toList
    simp only [Str.cps_append, Array.toList_append, List.map_append]
    rw [ih, map_free c d _ (h p (List.mem_cons_self ..))]
    simp
theorem replace_maps (l : List Nat) (c d : Nat) : Txt.replace (tx_ l) ⟨#[c]⟩ ⟨#[d]⟩ = tx_ (l.map fun k => if k = c then d else k) := by
  have h : (Txt.replace (tx_ l) ⟨#[c]⟩ ⟨#[d]⟩).cps.toList = l.map fun k => if k = c then d else k := by
    rw [StrLaws.replace_one, ← map_join c d _ (StrLaws.split_free (tx_ l) c), StrLaws.join_split]
  rw [tx_of (Txt.replace (tx_ l) ⟨#[c]⟩ ⟨#[d]⟩), h]
theorem replace_rep (l : List Nat) {y z : Str} (hy : y = tx_ [0]) (hz : z = tx_ [65533]) : Txt.replace (tx_ l) y z = tx_ (l.map rep) := by
  subst hy; subst hz
  exact replace_maps l 0 65533
theorem take2 (d : List Nat) (a b : Nat) : d.take 2 = [a, b] ↔ d[0]? = some a ∧ d[1]? = some b := by
  match d with
  | [] => simp
  | [x] => simp
  | x :: y :: t => simp
theorem take3 (d : List Nat) (a b c : Nat) : d.take 3 = [a, b, c] ↔ d[0]? = some a ∧ d[1]? = some b ∧ d[2]? = some c := by
  match d with
  | [] => simp
  | [x] => simp
  | [x, y] => simp
  | x :: y :: z :: t => simp
theorem take4 (d : List Nat) (a b c e : Nat) : d.take 4 = [a, b, c, e] ↔ d[0]? = some a ∧ d[1]? = some b ∧ d[2]? = some c ∧ d[3]? = some e := by
  match d with
  | [] => simp
  | [x] => simp
  | [x, y] => simp
  | [x, y, z] => simp
  | x :: y :: z :: w :: t => simp
theorem at3 (v : List Nat) (p a b c : Nat) : (v.take (p + 3)).drop p = [a, b, c] ↔ v[p]? = some a ∧ v[p + 1]? = some b ∧ v[p + 2]? = some c := by
  rw [List.drop_take, show p + 3 - p = 3 by omega, take3]
  simp only [List.getElem?_drop, Nat.add_zero]
theorem at4 (v : List Nat) (p a b c e : Nat) : (v.take (p + 4)).drop p = [a, b, c, e] ↔ v[p]? = some a ∧ v[p + 1]? = some b ∧ v[p + 2]? = some c ∧ v[p + 3]? = some e := by
  rw [List.drop_take, show p + 4 - p = 4 by omega, take4]
  simp only [List.getElem?_drop, Nat.add_zero]
theorem closes_62 {st : St} {c : Nat} (h : closesS st c = true) : c = 62 := by
  cases st <;> simp [closesS] at h <;> exact h
theorem close_all : ∀ l ∈ allL 4, closesS (stR l) 62 = true ↔ l = [] ∨ l = [45] ∨ l.take 2 = [45, 45] ∨ l.take 3 = [33, 45, 45] := by decide +kernel
theorem stR_close (r : List Nat) : closesS (stR r) 62 = true ↔ r = [] ∨ r = [45] ∨ r.take 2 = [45, 45] ∨ r.take 3 = [33, 45, 45] := by
  rw [← stR_norm r, close_all _ (mem_allL 4 r), gwhole r [] (by decide) (by decide), gwhole r [45] (by decide) (by decide), gtake r [45, 45] 2 (by decide) (by decide), gtake r [33, 45, 45] 3 (by decide) (by decide)]
noncomputable def pendR (r : List Nat) : List Nat := if r.take 3 = [33, 45, 45] then [45, 45, 33] else if r.take 2 = [45, 45] then [45, 45] else if r.take 1 = [45] then [45] else []
theorem pend_all : ∀ l ∈ allL 4, pend (stR l) = pendR l := by decide +kernel
theorem pend_stR (r : List Nat) : pend (stR r) = pendR r := by
  rw [← stR_norm r, pend_all _ (mem_allL 4 r)]
  unfold pendR
  simp only [gtake r [33, 45, 45] 3 (by decide) (by decide), gtake r [45, 45] 2 (by decide) (by decide), gtake r [45] 1 (by decide) (by decide)]
theorem ends_rev (ws e : List Nat) : ends ws e = true ↔ ws.reverse.take e.length = e.reverse := by
  unfold ends
  rw [List.take_reverse, Bool.and_eq_true, decide_eq_true_iff, beq_iff_eq, List.reverse_inj]
  constructor
  · exact fun h => h.2
  · intro h
    refine ⟨?_, h⟩
    have := congrArg List.length h
    rw [List.length_drop] at this
    omega
theorem ends_eq {ws e : List Nat} (h : ends ws e = true) : ws = ws.take (ws.length - e.length) ++ e := by
  unfold ends at h
  rw [Bool.and_eq_true, beq_iff_eq] at h
  conv => lhs; rw [← List.take_append_drop (ws.length - e.length) ws, h.2]
/-- where a comment closes, by its signs -/
theorem cl_iff (v : List Nat) (e : Nat) : Cl v e ↔ v[e]? = some 62 ∧ (e = 0 ∨ (e = 1 ∧ v[0]? = some 45) ∨ (∃ p, e = p + 2 ∧ v[p]? = some 45 ∧ v[p + 1]? = some 45) ∨ (∃ p, e = p + 3 ∧ v[p]? = some 45 ∧ v[p + 1]? = some 45 ∧ v[p + 2]? = some 33)) := by
  have key : ∀ e, v[e]? = some 62 → (closesS (stR (v.take e).reverse) 62 = true ↔ (e = 0 ∨ (e = 1 ∧ v[0]? = some 45) ∨ (∃ p, e = p + 2 ∧ v[p]? = some 45 ∧ v[p + 1]? = some 45) ∨ (∃ p, e = p + 3 ∧ v[p]? = some 45 ∧ v[p + 1]? = some 45 ∧ v[p + 2]? = some 33))) := by
    intro e he
    have hl := (List.getElem?_eq_some_iff.mp he).1
    rw [stR_close]
    match e with
    | 0 => simp
    | 1 =>
      obtain ⟨a, ha⟩ : ∃ a, v[0]? = some a := ⟨_, List.getElem?_eq_getElem (by omega)⟩
      rw [rtake ha, ha]
      simp
    | 2 =>
      obtain ⟨a, ha⟩ : ∃ a, v[0]? = some a := ⟨_, List.getElem?_eq_getElem (by omega)⟩
      obtain ⟨b, hb⟩ : ∃ b, v[1]? = some b := ⟨_, List.getElem?_eq_getElem (by omega)⟩
      rw [rtake hb, rtake ha]
      simp only [List.take_zero, List.reverse_nil]
      constructor
      · intro h
        simp at h
        exact .inr (.inr (.inl ⟨0, rfl, by rw [ha, h.2], by rw [hb, h.1]⟩))
      · rintro (h | ⟨h, _⟩ | ⟨p, h, h1, h2⟩ | ⟨p, h, _⟩)
        · omega
        · omega
        · obtain rfl : p = 0 := by omega
          rw [ha] at h1
          rw [hb] at h2
          cases h1; cases h2
          simp
        · omega
    | k + 3 =>
      obtain ⟨a, ha⟩ : ∃ a, v[k]? = some a := ⟨_, List.getElem?_eq_getElem (by omega)⟩
      obtain ⟨b, hb⟩ : ∃ b, v[k + 1]? = some b := ⟨_, List.getElem?_eq_getElem (by omega)⟩
      obtain ⟨c, hc⟩ : ∃ c, v[k + 2]? = some c := ⟨_, List.getElem?_eq_getElem (by omega)⟩
      rw [rtake hc, rtake hb, rtake ha]
      constructor
      · intro h
        simp at h
        rcases h with ⟨h1, h2⟩ | ⟨h1, h2, h3⟩
        · exact .inr (.inr (.inl ⟨k + 1, rfl, by rw [hb, h2], by rw [hc, h1]⟩))
        · exact .inr (.inr (.inr ⟨k, rfl, by rw [ha, h3], by rw [hb, h2], by rw [hc, h1]⟩))
      · rintro (h | ⟨h, _⟩ | ⟨p, h, h1, h2⟩ | ⟨p, h, h1, h2, h3⟩)
        · omega
        · omega
        · obtain rfl : p = k + 1 := by omega
          rw [hb] at h1
          rw [hc] at h2
          cases h1; cases h2
          simp
        · obtain rfl : p = k := by omega
          rw [ha] at h1
          rw [hb] at h2
          rw [hc] at h3
          cases h1; cases h2; cases h3
          simp
  constructor
  · rintro ⟨c, hc, hq⟩
    obtain rfl := closes_62 hq
    exact ⟨hc, (key e hc).mp hq⟩
  · rintro ⟨hc, hq⟩
    exact ⟨62, hc, (key e hc).mpr hq⟩
theorem hit_three {v : List Nat} {p : Nat} (h1 : v[p]? = some 45) (h2 : v[p + 1]? = some 45) (h3 : v[p + 2]? = some 62) : hit v p ≠ none := by
  unfold hit
  rw [if_pos ((at3 _ _ _ _ _).mpr ⟨h1, h2, h3⟩)]
  simp
theorem hit_four {v : List Nat} {p : Nat} (h1 : v[p]? = some 45) (h2 : v[p + 1]? = some 45) (h3 : v[p + 2]? = some 33) (h4 : v[p + 3]? = some 62) : hit v p ≠ none := by
  unfold hit
  rw [if_neg (fun h => by have := ((at3 _ _ _ _ _).mp h).2.2; rw [h3] at this; cases this), if_pos ((at4 _ _ _ _ _ _).mpr ⟨h1, h2, h3, h4⟩)]
  simp
theorem find_inv {α : Type} {f : Nat → Option α} {x : α} : ∀ n, (List.range n).findSome? f = some x → ∃ p, p < n ∧ f p = some x ∧ ∀ p', p' < p → f p' = none := by
  intro n
  induction n with
  | zero => intro h; simp at h
  | succ n ih =>
    intro h
    rw [List.range_succ, List.findSome?_append] at h
    cases hq : (List.range n).findSome? f with
    | some y =>
      rw [hq] at h
      obtain ⟨p, h1, h2, h3⟩ := ih (by rw [hq]; exact h)
      exact ⟨p, by omega, h2, h3⟩
    | none =>
      rw [hq] at h
      refine ⟨n, by omega, by simpa using h, fun p' hp => ?_⟩
      exact List.findSome?_eq_none_iff.mp hq p' (List.mem_range.mpr hp)
theorem find_no {α : Type} {f : Nat → Option α} {n : Nat} (h : (List.range n).findSome? f = none) : ∀ p, p < n → f p = none := fun p hp => List.findSome?_eq_none_iff.mp h p (List.mem_range.mpr hp)
theorem nc_lt {v : List Nat} {k p : Nat} (ha : ¬ v.take 1 = [62]) (hb : ¬ v.take 2 = [45, 62]) (hno : ∀ p', p' < p → hit v p' = none) (hk : ∀ e, e < k → p + 2 ≤ e → v[e]? = some 62 → e = p + 2 ∧ False) : ∀ e, e < k → ¬ Cl v e := by
  intro e he hc
  rw [cl_iff] at hc
  obtain ⟨h62, h | ⟨h, h1⟩ | ⟨q, h, h1, h2⟩ | ⟨q, h, h1, h2, h3⟩⟩ := hc
  · subst h
    refine ha ?_
    cases v with
    | nil => simp at h62
    | cons x t => simp at h62; simp [h62]
  · subst h
    exact hb ((take2 _ _ _).mpr ⟨h1, h62⟩)
  · subst h
    by_cases hq : q < p
    · exact hit_three h1 h2 h62 (hno q hq)
    · exact (hk _ he (by omega) h62).2
  · subst h
    by_cases hq : q < p
    · exact hit_four h1 h2 h3 h62 (hno q hq)
    · exact (hk _ he (by omega) h62).2
theorem readL_closed {v : List Nat} (h : (readL v).1 = true) : ∃ e, (readL v).2.1 = e + 1 ∧ e < v.length ∧ Cl v e ∧ (∀ e', e' < e → ¬ Cl v e') ∧ ∀ T, T ++ pend (stR (v.take e).reverse) = (v.take e).map rep → T = (readL v).2.2.map rep := by
  by_cases ha : v.take 1 = [62]
  · have e0 : readL v = (true, 1, []) := by unfold readL; rw [if_pos ha]
    have h0 : v[0]? = some 62 := by
      cases v with
      | nil => simp at ha
      | cons x t => simp at ha; simp [ha]
    rw [e0]
    exact ⟨0, rfl, (List.getElem?_eq_some_iff.mp h0).1, (cl_iff _ _).mpr ⟨h0, .inl rfl⟩, fun e' he => absurd he (Nat.not_lt_zero _), fun T hT => by simpa [stR, pend] using hT⟩
  by_cases hb : v.take 2 = [45, 62]
  · have e0 : readL v = (true, 2, []) := by unfold readL; rw [if_neg ha, if_pos hb]
    obtain ⟨h0, h1⟩ := (take2 _ _ _).mp hb
    rw [e0]
    refine ⟨1, rfl, (List.getElem?_eq_some_iff.mp h1).1, (cl_iff _ _).mpr ⟨h1, .inr (.inl ⟨rfl, h0⟩)⟩, fun e' he hc => ?_, fun T hT => ?_⟩
    · obtain rfl : e' = 0 := by omega
      have := ((cl_iff _ _).mp hc).1
      rw [h0] at this
      cases this
    · rw [rtake h0, pend_stR] at hT
      rw [List.take_add_one, h0] at hT
      have : T ++ [45] = [] ++ [45] := by simpa [pendR, rep] using hT
      simpa using List.append_cancel_right this
  cases hf : (List.range v.length).findSome? (hit v) with
  | none => unfold readL at h; rw [if_neg ha, if_neg hb, hf] at h; cases h
  | some x =>
    obtain ⟨n, b⟩ := x
    have e0 : readL v = (true, n, b) := by unfold readL; rw [if_neg ha, if_neg hb, hf]
    rw [e0]
    obtain ⟨p, hp, hh, hno⟩ := find_inv _ hf
    unfold hit at hh
    split at hh
    · rename_i h3
      obtain ⟨h0, h1, h2⟩ := (at3 _ _ _ _ _).mp h3
      simp at hh
      obtain ⟨rfl, rfl⟩ := hh
      refine ⟨p + 2, rfl, (List.getElem?_eq_some_iff.mp h2).1, (cl_iff _ _).mpr ⟨h2, .inr (.inr (.inl ⟨p, rfl, h0, h1⟩))⟩, nc_lt ha hb hno (fun e he h4 h5 => by omega), fun T hT => ?_⟩
      rw [rtake h1, rtake h0, pend_stR] at hT
      rw [List.take_add_one, h1, List.take_add_one, h0] at hT
      have : T ++ [45, 45] = (v.take p).map rep ++ [45, 45] := by simpa [pendR, rep] using hT
      exact List.append_cancel_right this
    · split at hh
      · rename_i h3 h4
        obtain ⟨h0, h1, h2, h5⟩ := (at4 _ _ _ _ _ _).mp h4
        simp at hh
        obtain ⟨rfl, rfl⟩ := hh
        refine ⟨p + 3, rfl, (List.getElem?_eq_some_iff.mp h5).1, (cl_iff _ _).mpr ⟨h5, .inr (.inr (.inr ⟨p, rfl, h0, h1, h2⟩))⟩, nc_lt ha hb hno (fun e he h6 h7 => ?_), fun T hT => ?_⟩
        · obtain rfl : e = p + 2 := by omega
          rw [h2] at h7
          cases h7
        rw [rtake h2, rtake h1, rtake h0, pend_stR] at hT
        rw [List.take_add_one, h2, List.take_add_one, h1, List.take_add_one, h0] at hT
        have : T ++ [45, 45, 33] = (v.take p).map rep ++ [45, 45, 33] := by simpa [pendR, rep] using hT
        exact List.append_cancel_right this
      · cases hh
theorem readL_open {v : List Nat} (h : (readL v).1 = false) : (∀ e, ¬ Cl v e) ∧ (readL v).2 = (v.length, tailL v) ∧ ∀ T, T ++ pend (stR v.reverse) = v.map rep → T = (tailL v).map rep := by
  by_cases ha : v.take 1 = [62]
  · unfold readL at h; rw [if_pos ha] at h; cases h
  by_cases hb : v.take 2 = [45, 62]
  · unfold readL at h; rw [if_neg ha, if_pos hb] at h; cases h
  cases hf : (List.range v.length).findSome? (hit v) with
  | some x => unfold readL at h; rw [if_neg ha, if_neg hb, hf] at h; cases h
  | none =>
    refine ⟨fun e => ?_, by unfold readL; rw [if_neg ha, if_neg hb, hf], fun T hT => ?_⟩
    · intro hc
      have he := (List.getElem?_eq_some_iff.mp ((cl_iff _ _).mp hc).1).1
      exact nc_lt (k := v.length) (p := v.length) ha hb (find_no hf) (fun e' h1 h2 _ => by omega) e he hc
    · rw [pend_stR] at hT
      unfold pendR at hT
      unfold tailL
      have e3 := ends_rev v [45, 45, 33]
      have e2 := ends_rev v [45, 45]
      have e1 := ends_rev v [45]
      simp only [List.length_cons, List.length_nil, List.reverse_cons, List.reverse_nil, List.nil_append, List.cons_append, Nat.zero_add, Nat.reduceAdd] at e1 e2 e3
      have fin : ∀ e : List Nat, e.map rep = e → ends v e = true → T ++ e = v.map rep → T = (v.take (v.length - e.length)).map rep := by
        intro e he hq hT
        rw [ends_eq hq, List.map_append, he] at hT
        exact List.append_cancel_right hT
      by_cases q3 : v.reverse.take 3 = [33, 45, 45]
      · rw [if_pos q3] at hT
        rw [if_pos (e3.mpr q3)]
        exact fin _ rfl (e3.mpr q3) hT
      rw [if_neg q3] at hT
      rw [if_neg (fun h => q3 (e3.mp h))]
      by_cases q2 : v.reverse.take 2 = [45, 45]
      · rw [if_pos q2] at hT
        rw [if_pos (e2.mpr q2)]
        exact fin _ rfl (e2.mpr q2) hT
      rw [if_neg q2] at hT
      rw [if_neg (fun h => q2 (e2.mp h))]
      by_cases q1 : v.reverse.take 1 = [45]
      · rw [if_pos q1] at hT
        rw [if_pos (e1.mpr q1)]
        exact fin _ rfl (e1.mpr q1) hT
      rw [if_neg q1] at hT
      rw [if_neg (fun h => q1 (e1.mp h))]
      simpa using hT
end Mine
end
section
open PySem PySem.W PySem.Calls PyProof.Rows PySem.Builtin PySem.Builtin.Str PyProof.V PySem.Spec
set_option linter.unusedVariables false
set_option linter.unusedSimpArgs false
namespace Mine
noncomputable def fresh (σ : PS) : PS := { σ with st := .start, tx := [], hd := true }
noncomputable def Ran (ws : List Nat) (a : Nat) (ou er : List Dat) (σ : PS) : Prop := ∃ σ0, Mid (ws.drop a) 0 a ou er σ0 ∧ σ0.Good ws.length ∧ a ≤ ws.length ∧ σ = σ0.run ws false (σ0.mu ws.length)
noncomputable def PS.init : PS := { st := .start, at_ := 0, tx := [], ou := [], er := [], dn := false, hd := true }
theorem init_good {n : Nat} (hn : n ≤ 24) : PS.init.Good n := ⟨fun _ _ => Nat.zero_le _, Nat.zero_le _, hn, fun _ _ => rfl, by simp [PS.init], by simp [PS.init], by simp [PS.init]⟩
theorem init_mid (v : List Nat) : Mid v 0 0 [] [] PS.init :=
  ⟨rfl, rfl, rfl, by simp [PS.init, stR], by simp [PS.init, pend], rfl, by simp [PS.init, errR], fun e he => absurd he (Nat.not_lt_zero _)⟩
theorem readL_sub {v : List Nat} {c : Nat} (h : c ∈ (readL v).2.2) : c ∈ v := by
  unfold readL at h
  split at h
  · cases h
  · split at h
    · cases h
    · split at h
      · rename_i n b hf
        obtain ⟨p, _, hh, _⟩ := find_inv _ hf
        unfold hit at hh
        split at hh
        · cases hh; exact List.mem_of_mem_take h
        · split at hh
          · cases hh; exact List.mem_of_mem_take h
          · cases hh
      · unfold tailL at h
        repeat' split at h
        all_goals first | exact List.mem_of_mem_take h | exact h
theorem readL_len (v : List Nat) : (readL v).2.2.length ≤ v.length := by
  unfold readL
  split
  · exact Nat.zero_le _
  · split
    · exact Nat.zero_le _
    · split
      · rename_i n b hf
        obtain ⟨p, _, hh, _⟩ := find_inv _ hf
        unfold hit at hh
        split at hh
        · cases hh; (show (List.take _ v).length ≤ v.length); rw [List.length_take]; omega
        · split at hh
          · cases hh; (show (List.take _ v).length ≤ v.length); rw [List.length_take]; omega
          · cases hh
      · unfold tailL
        repeat' split
        all_goals first | exact List.length_take_le' _ _ | exact List.length_take_le _ _ | exact Nat.le_refl _ | (show (List.take _ v).length ≤ v.length; rw [List.length_take]; omega)
noncomputable def okD : Nat → Dat → Bool
  | _, .none => true
  | _, .bool _ => true
  | _, .int _ => true
  | _, .str x => PyData.strOk x
  | n + 1, .tuple ds => ds.all (okD n)
  | n + 1, .list ds => ds.all (okD n)
  | _, _ => false
section
variable {h₀ h : Heap} {L : Addr} {news : List (Addr × Obj)}
mutual
theorem ok_in (N : News h₀ L h news) : ∀ {v : Value} {d : Dat} (n : Nat), DatIn news v d → okD n d = true → ∃ as, Reads h v (kqdP d) as
  | _, _, _, .none, _ => ⟨_, Reads.none⟩
  | _, _, _, .bool b, _ => ⟨_, Reads.bool b⟩
  | _, _, _, .int i t, _ => ⟨_, Reads.int i t⟩
  | _, _, _, .str x t, _ => ⟨_, Reads.str x t⟩
  | _, _, n, .bytes _ _, hk => by cases n <;> simp [okD] at hk
  | _, _, 0, .tuple _ _, hk => by simp [okD] at hk
  | _, _, 0, .list _ _, hk => by simp [okD] at hk
  | _, _, n + 1, .tuple hm r, hk => by
    obtain ⟨as, q⟩ := ok_all N n r (by simpa [okD] using hk)
    rw [kqdP]
    exact ⟨as, reads_tuple_at (N.get hm) rfl rfl (by simpa using q)⟩
  | _, _, n + 1, .list hm r, hk => by
    obtain ⟨as, q⟩ := ok_all N n r (by simpa [okD] using hk)
    rw [kqdP]
    exact ⟨_, reads_list_at (N.get hm) rfl rfl (by simpa [W.listOf] using q)⟩
theorem ok_all (N : News h₀ L h news) : ∀ {vs : List Value} {ds : List Dat} (n : Nat), DatAll news vs ds → (∀ d ∈ ds, okD n d = true) → ∃ as, ReadsAll h vs (kqdPs ds) as
  | _, _, _, .nil, _ => ⟨_, ReadsAll.nil⟩
  | _, _, n, .cons hd r, hk => by
    obtain ⟨as, q⟩ := ok_in N n hd (hk _ (.head _))
    obtain ⟨bs, p⟩ := ok_all N n r fun d hm => hk d (.tail _ hm)
    rw [kqdPs]
    exact ⟨_, ReadsAll.cons q p⟩
end
end
theorem ok_lay : ∀ (n : Nat) (d : Dat), okD n d = true → (kqdP d).canLay0 = true ∧ (kqdP d).depth ≤ n ∧ PyData.eqv (kqdP d) (kqdP d) = true := by
  have all : ∀ (n : Nat), (∀ d, okD n d = true → (kqdP d).canLay0 = true ∧ (kqdP d).depth ≤ n ∧ PyData.eqv (kqdP d) (kqdP d) = true) → ∀ ds : List Dat, (∀ d ∈ ds, okD n d = true) → PyData.canLayAll0 (kqdPs ds) = true ∧ PyData.depthAll (kqdPs ds) ≤ n ∧ PyData.eqvAll (kqdPs ds) (kqdPs ds) = true := by
    intro n ih ds
    induction ds with
    | nil => intro _; simp [kqdPs, PyData.canLayAll0, PyData.depthAll, PyData.eqvAll]
    | cons d ds hi =>
      intro h
      have h1 := ih d (h d (.head _))
      have h2 := hi fun e he => h e (.tail _ he)
      simp only [kqdPs, PyData.canLayAll0, PyData.depthAll, PyData.eqvAll, h1.1, h2.1, h1.2.2, h2.2.2, Bool.and_self, true_and, and_true]
      have a1 := h1.2.1
      have a2 := h2.2.1
      omega
  intro n
  induction n with
  | zero =>
    intro d h
    cases d <;> simp_all [okD, kqdP, PyData.canLay0, PyData.depth, PyData.eqv]
  | succ n ih =>
    intro d h
    cases d with
    | none => simp [kqdP, PyData.canLay0, PyData.depth, PyData.eqv]
    | bool b => simp [kqdP, PyData.canLay0, PyData.depth, PyData.eqv]
    | int i => simp [kqdP, PyData.canLay0, PyData.depth, PyData.eqv]
    | str x => simp [okD] at h; simp [kqdP, PyData.canLay0, PyData.depth, PyData.eqv, h]
    | bytes b => simp [okD] at h
    | tuple ds =>
      have q := all n ih ds (by simpa [okD] using h)
      have q2 := q.2.1
      simp only [kqdP, PyData.canLay0, PyData.depth, PyData.eqv, q.1, q.2.2, true_and, and_true]
      omega
    | list ds =>
      have q := all n ih ds (by simpa [okD] using h)
      have q2 := q.2.1
      simp only [kqdP, PyData.canLay0, PyData.depth, PyData.eqv, q.1, q.2.2, true_and, and_true]
      omega
section
variable {prog : Program} {w : World} {A : Around} {E : Value → Shared → Prop} {s : Shared} {h₀ : Heap} {L a b : Addr} {news : List (Addr × Obj)} {d : Dat} {Q : Value → Shared → Prop}
/-- two objects that bear the same data -/
theorem same_eq (N : News h₀ L s.heap news) (Da : DatIn news (.ref a) d) (Db : DatIn news (.ref b) d) (hd : okD 8 d = true) (hu : A.units + 64 < cLine) (h : Q (.bool true) s) : wpAny (model prog w) A (compareOp .Eq (.ref a) (.ref b)) Q E s := by
  obtain ⟨as, ra⟩ := ok_in N 8 Da hd
  obtain ⟨bs, rb⟩ := ok_in N 8 Db hd
  obtain ⟨l1, l2, l3⟩ := ok_lay 8 d hd
  have hs : SeqAt.shaped (kqdP d) = true := by unfold SeqAt.shaped; rw [l1, Bool.true_and]; exact decide_eq_true (Nat.le_trans l2 (by decide))
  exact eq_dataH ra rb hs hs hu (by rw [l3]; exact h)
theorem same_ne (N : News h₀ L s.heap news) (Da : DatIn news (.ref a) d) (Db : DatIn news (.ref b) d) (hd : okD 8 d = true) (hu : A.units + 64 < cLine) (h : Q (.bool false) s) : wpAny (model prog w) A (compareOp .NotEq (.ref a) (.ref b)) Q E s := by
  obtain ⟨as, ra⟩ := ok_in N 8 Da hd
  obtain ⟨bs, rb⟩ := ok_in N 8 Db hd
  obtain ⟨l1, l2, l3⟩ := ok_lay 8 d hd
  have hs : SeqAt.shaped (kqdP d) = true := by unfold SeqAt.shaped; rw [l1, Bool.true_and]; exact decide_eq_true (Nat.le_trans l2 (by decide))
  exact ne_dataH ra rb hs hs hu (by rw [l3]; exact h)
end
theorem okD_mono : ∀ (n k : Nat) (d : Dat), n ≤ k → okD n d = true → okD k d = true := by
  intro n
  induction n with
  | zero => intro k d _ h; cases d <;> cases k <;> simp_all [okD]
  | succ n ih =>
    intro k d hk h
    cases k with
    | zero => omega
    | succ k =>
      cases d with
      | tuple ds =>
        simp only [okD, List.all_eq_true] at h ⊢
        exact fun x hx => ih k x (by omega) (h x hx)
      | list ds =>
        simp only [okD, List.all_eq_true] at h ⊢
        exact fun x hx => ih k x (by omega) (h x hx)
      | _ => simp_all [okD]
theorem ok_com {l : List Nat} (h : ∀ c ∈ l, c < 1114112) : okD 2 (comD l) = true := by
  simp only [comD, okD, List.all_cons, List.all_nil, Bool.and_true, Bool.and_eq_true]
  refine ⟨by decide +kernel, ?_⟩
  unfold PyData.strOk
  simp only [Array.all_eq_true_iff_forall_mem, decide_eq_true_iff]
  intro c hc
  exact h c (by simpa using hc)
theorem ok_eof : okD 2 eofD = true := by decide +kernel
end Mine
end
section
open PySem PySem.W PySem.Calls PyProof.Rows PySem.Builtin PySem.Builtin.Str PyProof.V PySem.Spec
set_option linter.unusedVariables false
set_option linter.unusedSimpArgs false
namespace Mine
/-- newlines made one -/
noncomputable def nrm : Bool → List Nat → List Nat
  | _, [] => []
  | rt, c :: t => if c = 13 then 10 :: nrm true t else if c = 10 ∧ rt = true then nrm false t else c :: nrm false t
noncomputable def g13 (c : Nat) : Nat := if c = 13 then 10 else c
theorem nrm_cons (rt : Bool) (c : Nat) (t : List Nat) : nrm rt (c :: t) = if c = 13 then 10 :: nrm true t else if c = 10 ∧ rt = true then nrm false t else c :: nrm false t := rfl
theorem nrm_len : ∀ (rt : Bool) (l : List Nat), (nrm rt l).length ≤ l.length
  | _, [] => Nat.le_refl _
  | rt, c :: t => by
    unfold nrm
    have h1 := nrm_len true t
    have h2 := nrm_len false t
    repeat' split
    all_goals simp only [List.length_cons]
    all_goals omega
noncomputable def NoCR (l : List Nat) : Prop := ∀ k : Nat, ¬ (l[k]? = some 13 ∧ l[k + 1]? = some 10)
theorem NoCR.tail {c : Nat} {l : List Nat} (h : NoCR (c :: l)) : NoCR l := fun k e => h (k + 1) (by simpa using e)
theorem nrm_free : ∀ (l : List Nat) (rt : Bool), NoCR l → (rt = true → l[0]? ≠ some 10) → nrm rt l = l.map g13
  | [], _, _, _ => rfl
  | c :: t, rt, h, h0 => by
    unfold nrm
    by_cases h1 : c = 13
    · subst h1
      rw [if_pos rfl, nrm_free t true h.tail fun _ e => h 0 (by simpa using e)]
      rfl
    · rw [if_neg h1]
      by_cases h2 : c = 10 ∧ rt = true
      · exact absurd (by simp [h2.1]) (h0 h2.2)
      · rw [if_neg h2, nrm_free t false h.tail (fun e => by cases e)]
        simp [g13, h1]
theorem nrm_cut : ∀ (p t : List Nat) (rt : Bool), NoCR (p ++ [13]) → (rt = true → p[0]? ≠ some 10) → nrm rt (p ++ 13 :: 10 :: t) = p.map g13 ++ 10 :: nrm false t
  | [], t, rt, _, _ => by simp [nrm]
  | c :: p, t, rt, h, h0 => by
    show nrm rt (c :: (p ++ 13 :: 10 :: t)) = _
    rw [nrm_cons]
    by_cases h1 : c = 13
    · subst h1
      rw [if_pos rfl, nrm_cut p t true h.tail fun _ e => h 0 (by
        cases p with
        | nil => simp at e
        | cons d p => simpa using e)]
      rfl
    · rw [if_neg h1]
      by_cases h2 : c = 10 ∧ rt = true
      · exact absurd (by simp [h2.1]) (h0 h2.2)
      · rw [if_neg h2, nrm_cut p t false h.tail (fun e => by cases e)]
        simp [g13, h1]
theorem at_crlf (l : List Nat) (k : Nat) : StrLaws.At (tx_ l) (tx_ [13, 10]) (tx_ l).length k ↔ l[k]? = some 13 ∧ l[k + 1]? = some 10 := by
  unfold StrLaws.At
  rw [StrLaws.subAt_eq, beq_iff_eq]
  have e : (tx_ [13, 10]).length = 2 := len_ _
  have e2 : (tx_ l).cps.toList = l := by simp
  have e3 : (tx_ [13, 10]).cps.toList = [13, 10] := by simp
  rw [e, e2, e3, take2, List.getElem?_drop, List.getElem?_drop, len_]
  constructor
  · exact fun h => h.2
  · intro h
    refine ⟨?_, h⟩
    have := (List.getElem?_eq_some_iff.mp h.2).1
    omega
theorem cut_nrm (l : List Nat) : ∀ (cuts : List Nat) (a f : Nat), StrLaws.ChainG (tx_ l) (tx_ [13, 10]) (tx_ l).length a cuts f → (∀ k, f ≤ k → ¬ StrLaws.At (tx_ l) (tx_ [13, 10]) (tx_ l).length k) →
    (Str.join (tx_ [10]) (StrLaws.partsFrom (tx_ l) 2 a cuts)).cps.toList.map g13 = nrm false (l.drop a)
  | [], a, f, h, hn => by
    have e : f = a := h
    subst e
    have e1 : (Str.join (tx_ [10]) (StrLaws.partsFrom (tx_ l) 2 f [])).cps.toList = l.drop f := by
      show (strSub (tx_ l) f (tx_ l).length).cps.toList = _
      rw [StrLaws.strSub_toList, len_]
      have e2 : (tx_ l).cps.toList = l := by simp
      rw [e2, List.take_of_length_le (by rw [List.length_drop]; omega)]
    rw [e1, nrm_free _ _ (fun k e => hn (f + k) (by omega) ((at_crlf _ _).mpr (by simpa [Nat.add_assoc] using e))) (fun e => by cases e)]
  | c :: r, a, f, h, hn => by
    obtain ⟨h1, h2, h3, h4⟩ := h
    have h4' : StrLaws.ChainG (tx_ l) (tx_ [13, 10]) (tx_ l).length (c + 2) r f := h4
    have ih := cut_nrm l r (c + 2) f h4' hn
    obtain ⟨q, qs, hq⟩ := StrLaws.partsFrom_ne (tx_ l) 2 (c + 2) r
    have e1 : Str.join (tx_ [10]) (StrLaws.partsFrom (tx_ l) 2 a (c :: r)) = strSub (tx_ l) a c ++ tx_ [10] ++ Str.join (tx_ [10]) (StrLaws.partsFrom (tx_ l) 2 (c + 2) r) := by
      show Str.join (tx_ [10]) (strSub (tx_ l) a c :: StrLaws.partsFrom (tx_ l) 2 (c + 2) r) = _
      rw [hq]
      rfl
    obtain ⟨a1, a2⟩ := (at_crlf _ _).mp h2
    have hc := (List.getElem?_eq_some_iff.mp a2).1
    have e2 : (strSub (tx_ l) a c).cps.toList = (l.drop a).take (c - a) := by
      rw [StrLaws.strSub_toList]
    have hlen : ((l.drop a).take (c - a)).length = c - a := by rw [List.length_take, List.length_drop]; omega
    have e3 : l.drop a = (l.drop a).take (c - a) ++ 13 :: 10 :: l.drop (c + 2) := by
      conv => lhs; rw [← List.take_append_drop (c - a) (l.drop a), List.drop_drop]
      rw [show a + (c - a) = c by omega]
      rw [List.drop_eq_getElem_cons (i := c) (by omega), List.drop_eq_getElem_cons (i := c + 1) (by omega)]
      rw [List.getElem?_eq_getElem (by omega)] at a1 a2
      rw [Option.some.inj a1, Option.some.inj a2]
    rw [e1, Str.cps_append, Str.cps_append, Array.toList_append, Array.toList_append, List.map_append, List.map_append, ih, e2]
    conv => rhs; rw [e3]
    rw [nrm_cut _ _ _ ?_ (fun e => by cases e)]
    · simp [g13]
    · rintro k ⟨b1, b2⟩
      have hk := (List.getElem?_eq_some_iff.mp b2).1
      rw [List.length_append, hlen] at hk
      simp only [List.length_cons, List.length_nil] at hk
      by_cases hk2 : k + 1 < c - a
      · rw [List.getElem?_append_left (by omega), List.getElem?_take_of_lt (by omega), List.getElem?_drop] at b1
        rw [List.getElem?_append_left (by omega), List.getElem?_take_of_lt hk2, List.getElem?_drop] at b2
        exact h3 (a + k) (by omega) (by omega) ((at_crlf _ _).mpr ⟨b1, by rw [Nat.add_assoc]; exact b2⟩)
      · have : k + 1 = c - a := by omega
        rw [List.getElem?_append_right (by omega), hlen, this, Nat.sub_self] at b2
        simp at b2
theorem map_g13 (l : List Nat) : l.map g13 = l.map (fun k => if k = 13 then 10 else k) := rfl
theorem crlf_map (l : List Nat) : ((Txt.replace (tx_ l) (tx_ [13, 10]) (tx_ [10])).cps.toList).map g13 = nrm false l := by
  obtain ⟨f, hG, hn⟩ := StrLaws.occ_tight (tx_ l) (tx_ [13, 10]) (by rw [len_]; decide)
  have e2 : (tx_ [13, 10]).length = 2 := len_ _
  unfold Txt.replace
  rw [e2]
  simp only [show ((2 : Nat) == 0) = false from rfl, Bool.false_and, Bool.or_false]
  split
  · rename_i he
    have e0 := List.isEmpty_iff.mp he
    rw [e0] at hG
    have := cut_nrm l [] 0 f hG hn
    rw [List.drop_zero] at this
    rw [← this]
    show _ = (strSub (tx_ l) 0 (tx_ l).length).cps.toList.map g13
    rw [StrLaws.sub_whole]
  · rw [StrLaws.glued_eq_join, StrLaws.partsBetween_eq]
    have := cut_nrm l _ 0 f hG hn
    rw [List.drop_zero] at this
    exact this
theorem crlf_len (l : List Nat) : (Txt.replace (tx_ l) (tx_ [13, 10]) (tx_ [10])).length ≤ l.length := by
  have h := congrArg List.length (crlf_map l)
  rw [List.length_map, Array.length_toList] at h
  have h2 := nrm_len false l
  show (Txt.replace (tx_ l) (tx_ [13, 10]) (tx_ [10])).cps.size ≤ _
  omega
/-- the two replacements -/
theorem nrm_replace (l : List Nat) : Txt.replace (Txt.replace (tx_ l) (tx_ [13, 10]) (tx_ [10])) ⟨#[13]⟩ ⟨#[10]⟩ = tx_ (nrm false l) := by
  rw [tx_of (Txt.replace (tx_ l) (tx_ [13, 10]) (tx_ [10])), replace_maps, ← map_g13, crlf_map]
end Mine
end
section
open PySem PySem.W PySem.Calls PyProof.Rows PySem.Builtin PySem.Builtin.Str PyProof.V PySem.Spec
set_option linter.unusedVariables false
set_option linter.unusedSimpArgs false
namespace Mine
noncomputable def nestAt (v : List Nat) (k : Nat) : List Dat := if 4 ≤ k ∧ (v.take k).drop (k - 4) = [60, 33, 45, 45] ∧ v[k]? ≠ some 62 then [errD "nested-comment" k] else []
noncomputable def nullAt (v : List Nat) (k : Nat) : List Dat := if v[k]? = some 0 then [errD "unexpected-null-character" k] else []
/-- the errors of the first k signs -/
noncomputable def errsU (v : List Nat) : Nat → List Dat
  | 0 => []
  | k + 1 => errsU v k ++ nestAt v k ++ nullAt v k
noncomputable def ctrlU (v : List Nat) : Nat → List Dat
  | 0 => []
  | k + 1 => ctrlU v k ++ (if v[k]? = some 1 then [errD "control-character-in-input-stream" k] else [])
theorem errsU_take (v : List Nat) (n : Nat) : ∀ k, k ≤ n → errsU (v.take n) k = errsU v k
  | 0, _ => rfl
  | k + 1, h => by
    have h1 : (v.take n)[k]? = v[k]? := List.getElem?_take_of_lt (by omega)
    have h2 : (v.take n).take k = v.take k := by rw [List.take_take, Nat.min_eq_left (by omega)]
    unfold errsU nestAt nullAt
    rw [errsU_take v n k (by omega), h1, h2]
theorem bdd_iff (v : List Nat) (k : Nat) (hk : k ≤ v.length) : stR (v.take k).reverse = .bdd ↔ 4 ≤ k ∧ (v.take k).drop (k - 4) = [60, 33, 45, 45] := by
  have hl : (v.take k).length = k := by rw [List.length_take]; omega
  have e : (v.take k).reverse.take 4 = [45, 45, 33, 60] ↔ 4 ≤ k ∧ (v.take k).drop (k - 4) = [60, 33, 45, 45] := by
    have := ends_rev (v.take k) [60, 33, 45, 45]
    unfold ends at this
    rw [Bool.and_eq_true, decide_eq_true_iff, beq_iff_eq, hl] at this
    exact this.symm
  rw [← e]
  generalize (v.take k).reverse = r
  refine ⟨fun h => ?_, fun h => ?_⟩
  · by_cases w : r.take 4 = [45, 45, 33, 60]
    · exact w
    · unfold stR at h
      rw [if_neg w] at h
      repeat' split at h
      all_goals exact St.noConfusion h
  · unfold stR
    rw [if_neg (by rintro rfl; exact absurd h (by decide)), if_neg (by rintro rfl; exact absurd h (by decide)), if_pos h]
theorem errR_U (v : List Nat) : ∀ k, k ≤ v.length → errR 0 (v.take k).reverse = errsU v k
  | 0, _ => rfl
  | k + 1, h => by
    have hl : (v.take k).length = k := by rw [List.length_take]; omega
    obtain ⟨c, hc⟩ : ∃ c, v[k]? = some c := ⟨_, List.getElem?_eq_getElem (by omega)⟩
    rw [rtake hc]
    unfold errR errsU
    rw [errR_U v k (by omega), List.length_reverse, hl, Nat.zero_add]
    congr 1
    · congr 1
      unfold nestE nestAt
      by_cases h1 : stR (v.take k).reverse = .bdd
      · have h2 := (bdd_iff v k (by omega)).mp h1
        by_cases h3 : c = 62
        · rw [if_neg (fun q => q.2 h3), if_neg (fun q => q.2.2 (by rw [hc, h3]))]
        · rw [if_pos ⟨h1, h3⟩, if_pos ⟨h2.1, h2.2, by rw [hc]; simpa using h3⟩]
      · rw [if_neg (fun q => h1 q.1), if_neg (fun q => h1 ((bdd_iff v k (by omega)).mpr ⟨q.1, q.2.1⟩))]
    · unfold nullE nullAt
      rw [hc]
      simp
/-- find -/
theorem find_cases (x y : Str) : (Txt.find x y = -1 ∧ ∀ i, ¬ StrLaws.At x y x.length i) ∨ ∃ i : Nat, Txt.find x y = i ∧ StrLaws.At x y x.length i ∧ ∀ k, k < i → ¬ StrLaws.At x y x.length k := by
  unfold Txt.find
  rcases StrLaws.occ_head x y 1 (Nat.le_refl _) with ⟨h, hn⟩ | ⟨i, r, h, ha, hn⟩
  · exact .inl ⟨by rw [h], hn⟩
  · exact .inr ⟨i, by rw [h], ha, hn⟩
theorem at_list (l e : List Nat) (k : Nat) (he : e ≠ []) : StrLaws.At (tx_ l) (tx_ e) (tx_ l).length k ↔ (l.take (k + e.length)).drop k = e := by
  unfold StrLaws.At
  rw [StrLaws.subAt_eq, beq_iff_eq]
  have e2 : (tx_ l).cps.toList = l := by simp
  have e3 : (tx_ e).cps.toList = e := by simp
  rw [len_, len_, e2, e3, List.drop_take, Nat.add_sub_cancel_left]
  constructor
  · exact fun h => h.2
  · intro h
    refine ⟨?_, h⟩
    have := congrArg List.length h
    rw [List.length_take, List.length_drop] at this
    have : 0 < e.length := List.length_pos_iff.mpr he
    omega
noncomputable def pl : List Nat := [45, 45, 62]
noncomputable def wr : List Nat := [45, 45, 33, 62]
noncomputable def abrT : Str := Str.ofString "abrupt-closing-of-empty-comment"
noncomputable def incT : Str := Str.ofString "incorrectly-closed-comment"
/-- the law's own reading of where the comment ends -/
noncomputable def closeT (v : List Nat) : Int × List Nat × Str :=
  if v.take 1 = [62] then (1, [], abrT) else if v.take 2 = [45, 62] then (2, [], abrT) else
  if 0 ≤ Txt.find (tx_ v) (tx_ pl) ∧ (Txt.find (tx_ v) (tx_ wr) < 0 ∨ Txt.find (tx_ v) (tx_ pl) < Txt.find (tx_ v) (tx_ wr)) then (Txt.find (tx_ v) (tx_ pl) + 3, v.take (Txt.find (tx_ v) (tx_ pl)).toNat, Str.ofString "")
  else if 0 ≤ Txt.find (tx_ v) (tx_ wr) then (Txt.find (tx_ v) (tx_ wr) + 4, v.take (Txt.find (tx_ v) (tx_ wr)).toNat, incT)
  else (-1, tailL v, Str.ofString "")
theorem two_ne {v : List Nat} {p : Nat} (h1 : (v.take (p + 3)).drop p = pl) (h2 : (v.take (p + 4)).drop p = wr) : False := by
  have a := ((at3 _ _ _ _ _).mp h1).2.2
  have b := ((at4 _ _ _ _ _ _).mp h2).2.2.1
  rw [a] at b
  cases b
theorem hit_pl {v : List Nat} {p : Nat} (h : (v.take (p + 3)).drop p = pl) : hit v p = some (p + 3, v.take p) := by unfold hit; exact if_pos h
theorem hit_wr {v : List Nat} {p : Nat} (h : (v.take (p + 4)).drop p = wr) : hit v p = some (p + 4, v.take p) := by
  unfold hit
  exact (if_neg (fun q => two_ne q h)).trans (if_pos h)
theorem hit_no {v : List Nat} {p : Nat} (h1 : ¬ (v.take (p + 3)).drop p = pl) (h2 : ¬ (v.take (p + 4)).drop p = wr) : hit v p = none := by
  unfold hit
  exact (if_neg h1).trans (if_neg h2)
theorem lt_pl {v : List Nat} {p : Nat} (h : (v.take (p + 3)).drop p = pl) : p < v.length := by
  have := (List.getElem?_eq_some_iff.mp ((at3 _ _ _ _ _).mp h).1).1
  exact this
theorem lt_wr {v : List Nat} {p : Nat} (h : (v.take (p + 4)).drop p = wr) : p < v.length := by
  have := (List.getElem?_eq_some_iff.mp ((at4 _ _ _ _ _ _).mp h).1).1
  exact this
/-- the two readings are one -/
theorem close_read (v : List Nat) : (∃ (n : Nat) (b : List Nat) (f : Str), closeT v = ((n : Int), b, f) ∧ readL v = (true, n, b) ∧
      ((f = abrT ∧ (n = 1 ∧ v.take 1 = [62] ∨ n = 2 ∧ v.take 2 = [45, 62])) ∨ (f = Str.ofString "" ∧ ∃ p, n = p + 3 ∧ (v.take (p + 3)).drop p = pl) ∨ (f = incT ∧ ∃ p, n = p + 4 ∧ (v.take (p + 4)).drop p = wr))) ∨
    (closeT v = (-1, tailL v, Str.ofString "") ∧ (readL v).1 = false) := by
  by_cases ha : v.take 1 = [62]
  · exact .inl ⟨1, [], abrT, by unfold closeT; rw [if_pos ha]; rfl, by unfold readL; rw [if_pos ha], .inl ⟨rfl, .inl ⟨rfl, ha⟩⟩⟩
  by_cases hb : v.take 2 = [45, 62]
  · exact .inl ⟨2, [], abrT, by unfold closeT; rw [if_neg ha, if_pos hb]; rfl, by unfold readL; rw [if_neg ha, if_pos hb], .inl ⟨rfl, .inr ⟨rfl, hb⟩⟩⟩
  have A1 : ∀ k, StrLaws.At (tx_ v) (tx_ pl) (tx_ v).length k ↔ (v.take (k + 3)).drop k = pl := fun k => at_list v pl k (by decide)
  have A2 : ∀ k, StrLaws.At (tx_ v) (tx_ wr) (tx_ v).length k ↔ (v.take (k + 4)).drop k = wr := fun k => at_list v wr k (by decide)
  have R : ∀ n b, (List.range v.length).findSome? (hit v) = some (n, b) → readL v = (true, n, b) := fun n b h => by unfold readL; rw [if_neg ha, if_neg hb, h]
  have C : closeT v = (if 0 ≤ Txt.find (tx_ v) (tx_ pl) ∧ (Txt.find (tx_ v) (tx_ wr) < 0 ∨ Txt.find (tx_ v) (tx_ pl) < Txt.find (tx_ v) (tx_ wr)) then (Txt.find (tx_ v) (tx_ pl) + 3, v.take (Txt.find (tx_ v) (tx_ pl)).toNat, Str.ofString "")
      else if 0 ≤ Txt.find (tx_ v) (tx_ wr) then (Txt.find (tx_ v) (tx_ wr) + 4, v.take (Txt.find (tx_ v) (tx_ wr)).toNat, incT) else (-1, tailL v, Str.ofString "")) := by
    unfold closeT; rw [if_neg ha, if_neg hb]
  rw [C]
  rcases find_cases (tx_ v) (tx_ pl) with ⟨p1, p2⟩ | ⟨i, p1, p2, p3⟩ <;> rcases find_cases (tx_ v) (tx_ wr) with ⟨w1, w2⟩ | ⟨j, w1, w2, w3⟩ <;> rw [p1, w1]
  · right
    refine ⟨by rw [if_neg (by omega), if_neg (by omega)], ?_⟩
    have : (List.range v.length).findSome? (hit v) = none := find_none fun p _ => hit_no (fun h => p2 p ((A1 p).mpr h)) (fun h => w2 p ((A2 p).mpr h))
    unfold readL
    rw [if_neg ha, if_neg hb, this]
  · left
    have hw := (A2 j).mp w2
    refine ⟨j + 4, v.take j, incT, by rw [if_neg (by omega), if_pos (by omega)]; simp, R _ _ (find_hit (lt_wr hw) (fun p hp => hit_no (fun h => p2 p ((A1 p).mpr h)) (fun h => w3 p hp ((A2 p).mpr h))) (hit_wr hw)), .inr (.inr ⟨rfl, j, rfl, hw⟩)⟩
  · left
    have hp' := (A1 i).mp p2
    refine ⟨i + 3, v.take i, Str.ofString "", by rw [if_pos (by omega)]; simp, R _ _ (find_hit (lt_pl hp') (fun p hp => hit_no (fun h => p3 p hp ((A1 p).mpr h)) (fun h => w2 p ((A2 p).mpr h))) (hit_pl hp')), .inr (.inl ⟨rfl, i, rfl, hp'⟩)⟩
  · left
    have hp' := (A1 i).mp p2
    have hw := (A2 j).mp w2
    by_cases hij : i < j
    · refine ⟨i + 3, v.take i, Str.ofString "", by rw [if_pos (by omega)]; simp, R _ _ (find_hit (lt_pl hp') (fun p hp => hit_no (fun h => p3 p hp ((A1 p).mpr h)) (fun h => w3 p (by omega) ((A2 p).mpr h))) (hit_pl hp')), .inr (.inl ⟨rfl, i, rfl, hp'⟩)⟩
    · have hne : i ≠ j := fun e => by subst e; exact two_ne hp' hw
      refine ⟨j + 4, v.take j, incT, by rw [if_neg (by omega), if_pos (by omega)]; simp, R _ _ (find_hit (lt_wr hw) (fun p hp => hit_no (fun h => p3 p (by omega) ((A1 p).mpr h)) (fun h => w3 p hp ((A2 p).mpr h))) (hit_wr hw)), .inr (.inr ⟨rfl, j, rfl, hw⟩)⟩
end Mine
end
section
open PySem PySem.W PySem.Calls PyProof.Rows PySem.Builtin PySem.Builtin.Str PyProof.V PySem.Spec
set_option linter.unusedVariables false
set_option linter.unusedSimpArgs false
namespace Mine
/-- what is due behind the signs v -/
noncomputable def dueD (v : List Nat) (es : List Dat) (b : Bool) : Dat :=
  if 0 ≤ (closeT v).1 then
    .tuple [.list [comD ((closeT v).2.1.map rep)], .list (errsU (v.take (closeT v).1.toNat) (v.take (closeT v).1.toNat).length ++ (if (closeT v).2.2 = Str.ofString "" then [] else [.tuple [.str (closeT v).2.2, .int ((closeT v).1 - 1)]])), .list es,
      .str (Str.ofString "data"), .int (closeT v).1, .str (Str.ofString ""), .bool false, .bool false]
  else if b = true then .tuple [.list [comD ((closeT v).2.1.map rep), eofD], .list (errsU v v.length ++ [errD "eof-in-comment" v.length]), .list es, .str (Str.ofString ""), .int ((v.length : Int) + 1), .str (Str.ofString ""), .bool true, .bool true]
  else .tuple [.list [], .list (errsU v v.length), .list es, .str (stR v.reverse).name, .int (v.length : Int), .str (tx_ ((closeT v).2.1.map rep)), .bool false, .bool false]
noncomputable def toldD (σ : PS) (es : List Dat) : Dat :=
  .tuple [.list σ.ou, .list σ.er, .list es, .str (if σ.dn = true then Str.ofString "" else σ.st.name), .int σ.at_, .str (if σ.dn = true ∨ σ.st = .data then Str.ofString "" else tx_ σ.tx), .bool σ.dn, .bool σ.dn]
/-- how the tokenizer stands behind the signs v -/
noncomputable def Inv (v : List Nat) (σ : PS) : Prop :=
  σ.Good v.length ∧ ((Mid v v.length 0 [] [] σ ∧ ∀ e, ¬ Cl v e) ∨ ∃ e, e < v.length ∧ Cl v e ∧ (∀ e', e' < e → ¬ Cl v e') ∧ Shut v e 0 [] [] σ)
theorem cl_app {v u : List Nat} {e : Nat} (h : e < v.length) : Cl (v ++ u) e ↔ Cl v e := by
  unfold Cl
  rw [List.getElem?_append_left h, List.take_append_of_le_length (by omega)]
theorem cl_lt {v : List Nat} {e : Nat} (h : Cl v e) : e < v.length := by
  obtain ⟨c, hc, _⟩ := h
  exact (List.getElem?_eq_some_iff.mp hc).1
theorem inv_init : Inv [] PS.init := ⟨init_good (by decide), .inl ⟨init_mid [], fun e h => absurd (cl_lt h) (Nat.not_lt_zero _)⟩⟩
theorem good_more {σ : PS} {n k : Nat} (g : σ.Good n) (h : n ≤ k) (hk : k ≤ 24) : σ.Good k :=
  ⟨fun a b => Nat.le_trans (g.at_le a b) h, Nat.le_trans g.at_le' (by omega), hk, g.hd, g.er, g.ou, g.tx⟩
theorem inv_feed {v u : List Nat} {σ : PS} (I : Inv v σ) (hn : (v ++ u).length ≤ 24) : σ.Good (v ++ u).length ∧ Inv (v ++ u) (σ.run (v ++ u) false (σ.mu (v ++ u).length)) := by
  obtain ⟨g, I⟩ := I
  have g' := good_more g (k := (v ++ u).length) (by simp) hn
  refine ⟨g', ?_⟩
  rcases I with ⟨M, hno⟩ | ⟨e, h1, h2, h3, S⟩
  · have M' : Mid (v ++ u) v.length 0 [] [] σ := ⟨M.at_, M.dn, M.hd, by rw [M.st, List.take_append_of_le_length (Nat.le_refl _)], by rw [M.tx, List.take_append_of_le_length (Nat.le_refl _)], M.ou,
      by rw [M.er, List.take_append_of_le_length (Nat.le_refl _)], fun e he h => hno e ((cl_app he).mp h)⟩
    rcases run_open (cl := false) (ws := v ++ u) (v := v ++ u) (a := 0) (fun j => by rw [Nat.zero_add]) (by rw [Nat.zero_add]) u.length v.length σ (by simp) M' g' with ⟨e, τ, q1, q2, q3, q4, q5, q6⟩ | ⟨τ, q1, q2, q3, q4⟩
    · rw [q4]
      exact ⟨q6, .inr ⟨e, q1, q2, q3, q5⟩⟩
    · have hr : τ.ready false (v ++ u).length = false := by unfold PS.ready; rw [q3.at_]; simp
      rw [q2, PS.run_stop hr]
      exact ⟨q4, .inl ⟨q3, q1⟩⟩
  · have hr : σ.ready false (v ++ u).length = false := by unfold PS.ready; rw [S.st]; simp
    rw [PS.run_stop hr]
    have ht : (v ++ u).take e = v.take e := List.take_append_of_le_length (by omega)
    refine ⟨g', .inr ⟨e, by simp; omega, (cl_app h1).mpr h2, fun e' he h => h3 e' he ((cl_app (by omega)).mp h), ⟨S.at_, S.dn, S.hd, S.st, ?_, ?_⟩⟩⟩
    · rw [ht]; exact S.ou
    · rw [ht]; exact S.er
theorem stR_en (p : List Nat) : faultS (stR (45 :: 45 :: p)) = fun _ => [] := by
  funext k
  match p with
  | [] => simp [stR, faultS]
  | [x] => rcases cls x with rfl | rfl | rfl | ⟨x1, x2, x3⟩ <;> simp [stR, faultS, *]
  | x :: y :: t => 
    by_cases w : x = 33 ∧ y = 60
    · simp [stR, faultS, w.1, w.2]
    · have e : stR (45 :: 45 :: x :: y :: t) = .en := by simp [stR]; exact fun a b => w ⟨a, b⟩
      rw [e]
      rfl
theorem stR_ebang (p : List Nat) : stR (33 :: 45 :: 45 :: p) = .ebang := by simp [stR]
/-- the closed state answers as is due -/
theorem shut_due {v : List Nat} {σ : PS} {e : Nat} {es : List Dat} (b : Bool) (h1 : e < v.length) (h2 : Cl v e) (h3 : ∀ e', e' < e → ¬ Cl v e') (S : Shut v e 0 [] [] σ) : toldD σ es = dueD v es b := by
  rcases close_read v with ⟨n, bd, f, q1, q2, q3⟩ | ⟨q1, q2⟩
  · obtain ⟨e1, r1, r2, r3, r4, r5⟩ := readL_closed (v := v) (by rw [q2])
    have he : e1 = e := by
      rcases Nat.lt_trichotomy e1 e with h | h | h
      · exact absurd r3 (h3 _ h)
      · exact h
      · exact absurd h2 (r4 _ h)
    subst he
    rw [q2] at r1 r5
    dsimp only at r1 r5
    obtain ⟨T, hT, hou⟩ := S.ou
    have hTb := r5 T hT
    subst r1
    have h62 := ((cl_iff _ _).mp h2).1
    have hE : errsU (v.take (e1 + 1)) (v.take (e1 + 1)).length = errR 0 (v.take e1).reverse := by
      rw [List.length_take, Nat.min_eq_left (by omega), errsU_take _ _ _ (Nat.le_refl _), errR_U v e1 (by omega)]
      show errsU v e1 ++ nestAt v e1 ++ nullAt v e1 = _
      have a1 : nestAt v e1 = [] := by unfold nestAt; rw [if_neg (fun q => q.2.2 h62)]
      have a2 : nullAt v e1 = [] := by unfold nullAt; rw [h62]; simp
      rw [a1, a2, List.append_nil, List.append_nil]
    have hF : faultS (stR (v.take e1).reverse) e1 = (if f = Str.ofString "" then [] else [.tuple [.str f, .int (((e1 + 1 : Nat) : Int) - 1)]]) := by
      have ei : (((e1 + 1 : Nat) : Int) - 1) = (e1 : Int) := by omega
      rw [ei]
      rcases q3 with ⟨rfl, ⟨c1, c2⟩ | ⟨c1, c2⟩⟩ | ⟨rfl, p, c1, c2⟩ | ⟨rfl, p, c1, c2⟩
      · obtain rfl : e1 = 0 := by omega
        rw [if_neg (by decide)]
        rfl
      · obtain rfl : e1 = 1 := by omega
        obtain ⟨x0, x1⟩ := (take2 _ _ _).mp c2
        rw [if_neg (by decide), rtake x0]
        rfl
      · obtain rfl : e1 = p + 2 := by omega
        obtain ⟨x0, x1, x2⟩ := (at3 _ _ _ _ _).mp c2
        rw [if_pos rfl, rtake x1, rtake x0, stR_en]
      · obtain rfl : e1 = p + 3 := by omega
        obtain ⟨x0, x1, x2, x3⟩ := (at4 _ _ _ _ _ _).mp c2
        rw [if_neg (by decide), rtake x2, rtake x1, rtake x0, stR_ebang]
        rfl
    unfold toldD dueD
    rw [q1]
    dsimp only
    rw [if_pos (show (0 : Int) ≤ ((e1 + 1 : Nat) : Int) from by omega), S.dn, S.st, hou, S.er, S.at_, hTb, Int.toNat_natCast, hE, Nat.zero_add, hF]
    simp only [Bool.false_eq_true, if_false, false_or, if_true, List.nil_append, Nat.zero_add]
    rfl
  · exact absurd h2 ((readL_open q2).1 e)
theorem mid_tx {v : List Nat} {σ : PS} (M : Mid v v.length 0 [] [] σ) (h : (readL v).1 = false) : σ.tx = (tailL v).map rep := (readL_open h).2.2 σ.tx (by
  have := M.tx
  rw [M.st, List.take_length] at this
  exact this)
theorem open_read {v : List Nat} (h : ∀ e, ¬ Cl v e) : closeT v = (-1, tailL v, Str.ofString "") ∧ (readL v).1 = false := by
  rcases close_read v with ⟨n, bd, f, q1, q2, q3⟩ | q
  · obtain ⟨e1, r1, r2, r3, r4⟩ := readL_closed (v := v) (by rw [q2])
    exact absurd r3 (h e1)
  · exact q
theorem told_due {v : List Nat} {σ : PS} {es : List Dat} (I : Inv v σ) : toldD σ es = dueD v es false := by
  obtain ⟨g, ⟨M, hno⟩ | ⟨e, h1, h2, h3, S⟩⟩ := I
  · obtain ⟨q1, q2⟩ := open_read hno
    have ht := mid_tx M q2
    have hsd : σ.st ≠ .data := by rw [M.st]; exact stR_ndata _
    unfold toldD dueD
    rw [q1]
    dsimp only
    rw [if_neg (show ¬ (0 : Int) ≤ -1 by decide), if_neg (show ¬ false = true by decide), M.dn, M.ou, M.er, M.at_, ht]
    simp only [Bool.false_eq_true, if_false, false_or, List.nil_append, Nat.zero_add]
    rw [if_neg hsd, M.st, errR_U v v.length (Nat.le_refl _), List.take_length]
  · exact shut_due false h1 h2 h3 S
theorem told_end {v : List Nat} {σ : PS} {es : List Dat} (I : Inv v σ) : toldD (σ.run v true (σ.mu v.length)) es = dueD v es true := by
  obtain ⟨g, ⟨M, hno⟩ | ⟨e, h1, h2, h3, S⟩⟩ := I
  · obtain ⟨q1, q2⟩ := open_read hno
    have ht := mid_tx M q2
    obtain ⟨τ, r1, r2, r3, r4, r5, r6⟩ := run_end (ws := v) (v := v) (a := 0) (by rw [Nat.zero_add]) M g
    rw [r1]
    unfold toldD dueD
    rw [q1]
    dsimp only
    rw [if_neg (show ¬ (0 : Int) ≤ -1 by decide), if_pos (show true = true from rfl), r3, r4, r5, r6, ht, M.er, errR_U v v.length (Nat.le_refl _)]
    simp only [if_true, true_or, List.nil_append]
    rfl
  · have hr : σ.ready true v.length = false := by unfold PS.ready; rw [S.st]; simp
    rw [PS.run_stop hr]
    exact shut_due true h1 h2 h3 S
end Mine
end
section
open PySem PySem.W PySem.Calls PyProof.Rows PyProof.V PySem.Spec
set_option linter.unusedVariables false
namespace Mine
section
variable {prog : Program} {w : World} {A : Around} {E : Value → Shared → Prop} {s : Shared} {env : Env} {h₀ : Heap} {target : Expr} {body : List Stmt} {Q : Flow → Shared → Prop} {m₀ : Str → Option Value} {news : List (Addr × Obj)}
/-- a turn's end, by an invariant -/
noncomputable def TurnEnd (h₀ : Heap) (L : Addr) (s₁ : Shared) (I : Addr) (oI : Obj) (J : (Str → Option Value) → List (Addr × Obj) → Prop) (Q : Flow → Shared → Prop) (f : Flow) (s₂ : Shared) : Prop := UnrPostW h₀ L s₁ [(I, oI)] J Q f s₂
theorem my_turns {ax : Addr} {lo : Obj} {vs : List Value} {n : Nat} (J : Nat → (Str → Option Value) → List (Addr × Obj) → Prop) (hh : A.handled = none)
    (F : Fr h₀ env.locals s.heap m₀) (N : News h₀ env.locals s.heap news) (hm : (ax, lo) ∈ news) (hc : lo.cls = .type "list") (hd : lo.data = .seq vs.toArray n) (hj : J 0 m₀ news) (hkeep : ∀ i m nx, J i m nx → (ax, lo) ∈ nx)
    (turn : ∀ (i : Nat) v m₁ nx h tk I oI, oI.cls = .type "list_iterator" → vs[i]? = some v → (∀ p ∈ nx, p.1 ≠ I) → J i m₁ nx → Fr h₀ env.locals h m₁ → News h₀ env.locals h ((I, oI) :: nx) →
      wpAny (model prog w) A (assign target env v) (fun _ s₂ => wpAny (model prog w) A (execs body env) (TurnEnd h₀ env.locals { s with heap := h, toks := tk } I oI (J (i + 1)) Q) E s₂) E { s with heap := h, toks := tk })
    (done : ∀ m₁ nx h tk, J vs.length m₁ nx → Fr h₀ env.locals h m₁ → News h₀ env.locals h nx → Q .next { s with heap := h, toks := tk }) :
    wpAny (model prog w) A (pyIter (.ref ax)) (fun it s₂ => TurnsAt prog w A h₀ env target body Q E it s₂) E s := by
  refine iter_listTurns (vs := vs) (n := n) hh F N hm hc hd fun I hI => ?_
  have key : ∀ (k i : Nat) (m : Str → Option Value) (nx : List (Addr × Obj)), i + k = vs.length → (∀ p ∈ nx, p.1 ≠ I) → J i m nx → ItemsRest prog w A E h₀ env target body Q s [(I, "list_iterator")] [(ax, lo)] ((vs.drop i).map .val) m nx := by
    intro k
    induction k with
    | zero =>
      intro i m nx hi hoff hJ
      have : i = vs.length := by omega
      subst this
      rw [List.drop_of_length_le (Nat.le_refl _)]
      exact ItemsRest.zero fun h tk F N => done m nx h tk hJ F N
    | succ k ih =>
      intro i m nx hi hoff hJ
      have hlt : i < vs.length := by omega
      rw [List.drop_eq_getElem_cons hlt, List.map_cons]
      refine ItemsRest.val fun h tk F' => AllObj.cons fun oI hcI => AllObj.nil fun N' => ?_
      refine wpAny_mono (turn i vs[i] m nx h tk I oI hcI (List.getElem?_eq_getElem hlt) hoff hJ F' (by simpa using N')) (fun _ s₂ h₂ => wpAny_mono h₂ (fun f s₃ h₃ => ?_) fun _ _ e => e) fun _ _ e => e
      have conv : ∀ s₃, UnrEndW h₀ env.locals { s with heap := h, toks := tk } [(I, oI)] (J (i + 1)) s₃ → UnrEndW h₀ env.locals { s with heap := h, toks := tk } [(I, oI)] (fun m' n' => SubL [(ax, lo)] n' ∧ ItemsRest prog w A E h₀ env target body Q s [(I, "list_iterator")] [(ax, lo)] ((vs.drop (i + 1)).map .val) m' n') s₃ := by
        rintro s₃ ⟨h', tk', m', n', e, F₃, N₃, ho, hJ₃⟩
        refine ⟨h', tk', m', n', e, F₃, N₃, ho, ⟨hkeep _ _ _ hJ₃, trivial⟩, ?_⟩
        subst e
        exact ih (i + 1) m' n' (by omega) (fun p hp => ho p hp _ (.head _)) hJ₃
      cases f with
      | ret v => exact h₃
      | brk => exact h₃
      | next => exact conv _ h₃
      | cont => exact conv _ h₃
  have := key vs.length 0 m₀ news (by omega) (fun p hp => Nat.ne_of_lt (hI p hp)) hj
  rw [List.drop_zero] at this
  exact this
theorem TurnEnd.next {L : Addr} {I : Addr} {oI : Obj} {J : (Str → Option Value) → List (Addr × Obj) → Prop} {s₁ : Shared} {h' : Heap} {tk : Nat} {m' : Str → Option Value} {nx : List (Addr × Obj)} (F : Fr h₀ L h' m') (N : News h₀ L h' ((I, oI) :: nx)) (ho : ∀ p ∈ nx, p.1 ≠ I) (hj : J m' nx) :
    TurnEnd h₀ L s₁ I oI J Q .next { s₁ with heap := h', toks := tk } :=
  ⟨h', tk, m', nx, rfl, F, N, fun p hp q hq => by rw [List.mem_singleton.mp hq]; exact ho p hp, hj⟩
theorem TurnEnd.ret {L : Addr} {I : Addr} {oI : Obj} {J : (Str → Option Value) → List (Addr × Obj) → Prop} {s₁ s₂ : Shared} {v : Value} (h : Q (.ret v) s₂) : TurnEnd h₀ L s₁ I oI J Q (.ret v) s₂ := h
end
end Mine
end
section
open PySem PySem.W PySem.Calls PyProof.Rows PyProof.V PySem.Spec
set_option linter.unusedVariables false
namespace Mine
section
variable {prog : Program} {w : World} {A : Around} {h₀ : Heap} {L : Addr} {m : Str → Option Value} {env : Env} {ct elt : Expr} {x : Str} {scope : Scope} {cl : List (Str × Addr)} {s : Shared} {S : List (Addr × Obj) → Prop} {P : Nat → Value → Prop} {Fin : List Value → List (Addr × Obj) → Prop}
theorem compEnd_mono {s₁ : Shared} {I C D : Addr} {oI oC oD : Obj} {R R' : Value → List (Addr × Obj) → Prop} {y : Value} {s₂ : Shared} (h : LCg.CompEnd h₀ L m s₁ I oI C oC D oD S R y s₂) (hr : ∀ n', R y n' → R' y n') : LCg.CompEnd h₀ L m s₁ I oI C oC D oD S R' y s₂ := by
  obtain ⟨h', tk, n', e, F, N, off, hS, r⟩ := h
  exact ⟨h', tk, n', e, F, N, off, hS, hr _ r⟩
/-- a comprehension with one test, by an invariant -/
theorem restT {n : Nat} (J : Nat → List Value → List (Addr × Obj) → Prop)
    (turn : ∀ i ys news v I oI C oC D m₂ h tk (E' : Value → Shared → Prop), i < n → J i ys news → P i v → LCg.NsObj oC m₂ → m₂ x = some v → Fr h₀ L h m → News h₀ L h ((I, oI) :: (C, oC) :: (D, LCg.lst ys) :: news) → LCg.Off3 I C D news → ((@Ne Nat I C) ∧ (@Ne Nat I D) ∧ (@Ne Nat C D)) →
      wpAny (model prog w) A (isTrue ct (compEnvC scope cl C env) (eval ct (compEnvC scope cl C env))) (fun ok s' => if ok = true then
        wpAny (model prog w) A (eval elt (compEnvC scope cl C env)) (LCg.CompEnd h₀ L m { s with heap := h, toks := tk } I oI C oC D (LCg.lst ys) S (fun y news' => J (i + 1) (ys ++ [y]) news')) E' s'
        else LCg.CompEnd h₀ L m { s with heap := h, toks := tk } I oI C oC D (LCg.lst ys) S (fun _ news' => J (i + 1) ys news') Value.none s') E' { s with heap := h, toks := tk })
    (fin : ∀ ys news, J n ys news → Fin ys news) : ∀ (k i : Nat) (ys : List Value) (news : List (Addr × Obj)), i + k = n → J i ys news → LCt.CompRestT prog w A h₀ L m env ct elt x scope cl s S P Fin k i ys news
  | 0, i, ys, news, hi, hJ => LCt.CompRestT.zero (fin ys news (by rw [← hi]; exact hJ))
  | k + 1, i, ys, news, hi, hJ => by
    refine LCt.CompRestT.succ ?_
    intro v I oI C oC D m₂ h tk E' hv hC hx F N off ne
    refine wpAny_mono (turn i ys news v I oI C oC D m₂ h tk E' (by omega) hJ hv hC hx F N off ne) (fun ok s' hq => ?_) fun _ _ e => e
    cases ok with
    | true =>
      simp only [if_true] at hq ⊢
      exact wpAny_mono hq (fun y s'' h2 => compEnd_mono h2 fun n' hj => restT J turn fin k (i + 1) (ys ++ [y]) n' (by omega) hj) fun _ _ e => e
    | false =>
      simp only [Bool.false_eq_true, if_false] at hq ⊢
      exact compEnd_mono hq fun n' hj => restT J turn fin k (i + 1) ys n' (by omega) hj
end
end Mine
end
section
open PySem PySem.W PySem.Calls PyProof.Rows PyProof.V PySem.Spec
set_option linter.unusedVariables false
set_option maxRecDepth 100000
namespace Mine
section
variable {M : Model} {A : Around} {E : Value → Shared → Prop} {s₀ s : Shared} {env : Env}
/-- parameters that no block captures, bound one after the other: each takes a token -/
theorem bind_toks (f : Str × Value → PUnit → Sem (ForInStep PUnit)) (hf : ∀ n v u, f (n, v) u = (do storeName env n v; pure (.yield ⟨⟩))) (hk : env.scope.kind = .function) (t : Nat) {cm : Str → Option Value} :
    ∀ (binds : List (Str × Value)) (m : Str → Option Value) (s : Shared) (Q : PUnit → Shared → Prop), InCallC s₀ env.locals m env.cells cm s → t ≤ s.toks → (∀ x ∈ binds, env.kindOf x.1 = some .local) →
      (∀ m' s', InCallC s₀ env.locals m' env.cells cm s' → m' = bindL env.kindOf binds m → t + binds.length ≤ s'.toks → Q ⟨⟩ s') → wpAny M A (forIn binds ⟨⟩ f) Q E s
  | [], m, s, Q, x, ht, _, h => by rw [List.forIn_nil]; exact wpAny_pure (h m s x rfl ht)
  | (n, v) :: r, m, s, Q, x, ht, hl, h => by
    have hn := hl (n, v) (.head _)
    rw [List.forIn_cons, hf]
    refine wpAny_bind (wpAny_bind (wpAny_storeName_local hn x.toInCall.ns (fun h' hn' hs' => ?_) (by rw [hk]; rfl)))
    refine wpAny_pure (bind_toks f hf hk (t + 1) r (fun y => if y = n then some v else m y) { s with heap := h', toks := s.toks + 1 } Q ?_ (by show t + 1 ≤ s.toks + 1; omega) (fun y hy => hl y (.tail _ hy)) fun m' s' x' e ht' => h m' s' x' ?_ ?_)
    · obtain ⟨h₁, tk, e⟩ := x.toInCall.same
      refine ⟨⟨⟨h', _, by rw [e]⟩, hn', fun b o e => ?_, x.toInCall.fresh⟩, fun k c hc => ?_, x.apart, x.above⟩
      · exact hs'.extBut b o (Nat.ne_of_lt (Nat.lt_of_lt_of_le (Heap.lt_size e) x.toInCall.fresh)) (x.toInCall.keep b o e)
      · exact (x.cell k c hc).sameBut hs' (Nat.ne_of_gt (x.above k c (mem_of_lookup hc)))
    · rw [e]
      show _ = bindL env.kindOf r _
      rw [if_pos hn]
    · rw [List.length_cons]; omega
theorem env_toks {scope : Scope} {globals : Addr} {binds : List (Str × Value)} {qual : Str} {func : Option Addr} {code : Value} {builtins : Addr} {Q : Env → Shared → Prop} (hk : scope.kind = .function) (hl : ∀ x ∈ binds, scope.names.lookup x.1 = some .local)
    (hQ : ∀ env, env = newEnv scope s.heap.objs.size globals (cellsFrom (s.heap.objs.size + 1) scope.names []) qual func code none builtins →
      ∀ s', InCallC s env.locals (bindL env.kindOf binds fun _ => none) env.cells (fun _ => none) s' → s.toks + binds.length ≤ s'.toks → Q env s') :
    wpAny M A (newFunctionEnv scope globals [] binds qual func code none builtins) Q E s := by
  simp only [newFunctionEnv, Option.isSome_none, Bool.false_eq_true, if_false]
  refine wpAny_bind (wpAny_alloc (wpAny_bind (wpAny_layCells _ (fun name kind cells => by cases hkc : kind == NameKind.cell <;> simp [hkc]) _ _ _ _ ?_)))
  have ok := cellsFrom_ok scope.names (s.heap.push { cls := .type "frame", data := .dict #[] }) (s.heap.objs.size + 1) [] ⟨fun _ _ hm => (nomatch hm), List.Pairwise.nil⟩ (by rw [Heap.size_push]; exact Nat.le_refl _)
  rw [Heap.size_push] at ok
  rw [show ({ s with heap := s.heap.push { cls := .type "frame", data := .dict #[] } } : Shared).heap.objs.size = s.heap.objs.size + 1 from Heap.size_push ..]
  refine wpAny_bind (bind_toks (s₀ := s) (env := newEnv scope s.heap.objs.size globals (cellsFrom (s.heap.objs.size + 1) scope.names []) qual func code none builtins) _ (fun _ _ _ => rfl) hk s.toks (cm := fun _ => none) binds (fun _ => none) _ _ ?_ (Nat.le_refl _) hl ?_)
  · exact ⟨⟨⟨_, _, rfl⟩, (Heap.Ns.new s.heap (.type "frame")).keeps (pushCells_keeps _ _), fun b o e => pushCells_keeps _ _ b o (Heap.get?_push_of_some _ e), Nat.le_refl _⟩, fun n c hc => (ok.empty n c (mem_of_lookup hc)).1, ok.apart, fun n c hm => (ok.empty n c hm).2⟩
  · intro m' s' x e ht
    subst e
    exact wpAny_pure (hQ _ rfl s' x ht)
end
section
variable {prog : Program} {w : World} {A₀ A : Around} {s : Shared} {base h₀ : Heap} {outer : List Env} {L : Addr} {m mg mb : Str → Option Value} {env : Env} {news : List (Addr × Obj)} {K : Frag} {p : Program} {loose : List Str} {mean : ExcName → Option Value}
  {R : Result → Shared → Prop} {name qual : Str} {params : Arguments} {body : List Stmt} {scope : Scope} {dV kV doc pm cdv ct oc : Value} {an od : Option Addr} {osl : Array (Option Value)} {f : Addr} {args : Args} {binds : List (Str × Value)}
/-- a def with captured names is entered: its first token is not nought -/
theorem def_toks (B : Below A₀ base outer h₀) (F : Fr h₀ L s.heap m) (X₀ : K.In h₀) (N : News h₀ L s.heap news) (T : Top p loose mean mg mb h₀) (hA : A.frames = some (env :: outer)) (hf : env.frame = some L) (hke : env.scope.kind = .function)
    (ho : K.lookup f = some ⟨oc, od, .func (fnOf name qual params body scope dV kV doc pm an cdv ct), osl⟩) (hcd : codeIn K cdv qual = true) (hroom : A.depth < recursionLimit)
    (hbind : BindsTo s (fnOf name qual params body scope dV kV doc pm an cdv ct) args binds) (hl : ∀ x ∈ binds, scope.names.lookup x.1 = some .local) (hnd : ((cellsFrom 0 scope.names []).map (·.1)).Nodup)
    (h : ∀ g L' h₁ tk cells, s.toks + binds.length ≤ tk → Fr h₀ L g m → Fr g L' h₁ (bindL (envOfC qual scope L' f cdv).kindOf binds fun _ => none) → News g L' h₁ (cells ++ news) →
      CellsAre (fun _ => none) (cellsFrom (L' + 1) scope.names []) cells → Below A base (env :: outer) g → K.In g → Top p loose mean mg mb g → (∀ p ∈ news, p.1 < L') →
      wpAny (model prog w) (A.deeper (envOfC qual scope L' f cdv)) (execs body (envOfC qual scope L' f cdv))
        (fun fl s' => LeaveK h₀ L m g R (match fl with | .ret v => v | _ => .none) s')
        (fun e s' => wpAny (model prog w) (A.deeper (envOfC qual scope L' f cdv)) (leaving (envOfC qual scope L' f cdv) e) (fun _ s'' => R (.error e) s'') (fun e' s'' => R (.error e') s'') s')
        { s with heap := h₁, toks := tk })
    (hco : scope.isCoroutine = false) (hgen : scope.isGenerator = false) (hk : scope.kind = .function) : codeAny (model prog w) A (.call (.ref f) args) R s := by
  obtain ⟨FG, BG, st, lv⟩ := groundX (R := R) B F N hA hf hke
  have XK := X₀.keeps F.keep
  refine codeAny_call_function hroom (XK _ _ ho) rfl hco hgen rfl (codeRec_of XK hcd) (hbind _ _ _ _ ?_)
  refine env_toks hk hl fun env' he s' x ht => ?_
  subst he
  refine ⟨(T.nolimit.keeps F.keep).keeps x.toInCall.keep, codeAny_func ?_⟩
  obtain ⟨h₁, tk, rfl, _⟩ := x.done
  have hk₁ := x.toInCall.keep
  obtain ⟨cells, NC, Y⟩ := Cl.news (h₀ := s.heap) (Nat.le_refl _) fun n c hm => ⟨x.cell n c (lookup_of_mem_nodup (cellsFrom_names scope.names 0 (s.heap.objs.size + 1) [] [] rfl ▸ hnd) hm), x.above n c hm⟩
  refine wpAny_mono (h _ s.heap.objs.size h₁ tk cells ht FG ⟨x.toInCall.ns, fun b o e => hk₁ b o (of_hideAll _ e), Nat.le_of_eq (hideAll_size _ _)⟩ (fun p hp => ?_) Y BG (X₀.keeps st) (T.keeps st) (fun p hp => Heap.lt_size (N p hp).1)) (fun fl s' hl => lv _ _ hl) fun _ _ y => y
  rcases List.mem_append.mp hp with hp | hp
  · refine ⟨(NC p hp).1, (NC p hp).2.1, ?_⟩
    cases q : (hideAll s.heap (news.map (·.1))).get? p.1 with
    | none => rfl
    | some o =>
      have := of_hideAll _ q
      rw [(NC p hp).2.2] at this
      cases this
  · exact ⟨hk₁ _ _ (N p hp).1, Nat.ne_of_lt (Heap.lt_size (N p hp).1), hideAll_none _ (List.mem_map_of_mem hp)⟩
end
end Mine
end
section
open PySem PySem.W PySem.Calls PyProof.Rows PyProof.V PySem.Spec PySem.Builtin PySem.Builtin.Str
set_option linter.unusedVariables false
namespace Mine
section
variable {prog : Program} {w : World} {A : Around} {E : Value → Shared → Prop} {s : Shared} {x y z : Str} {t u v : Nat} {Q : Value → Shared → Prop}
/-- replace, and what it takes of tokens -/
theorem my_replace (hu : 0 < u) (huv : u < v) (hyz : (y == z) = false) (hx : x.length ≤ 1000) (hz : z.length ≤ 14)
    (hq : ∀ (t' : Tok) (k : Nat), s.toks ≤ k → Q (.str (Txt.replace x y z) t') { s with toks := k }) : wpAny (model prog w) A (call (.builtin "str.replace") [.str x t, .str y u, .str z v]) Q E s := by
  have h3 : (x.length + 1) * z.length ≤ 1001 * 14 := Nat.mul_le_mul (by omega) hz
  have hl : tooLong (x.length + (occurrences x y 0 x.length (x.length + 1)).length * z.length) = false := by
    have h2 := Nat.mul_le_mul_right z.length (StrLaws.occ_length_le x y 0 x.length (x.length + 1))
    unfold tooLong
    rw [sizeLine_eq]
    exact decide_eq_false (by omega)
  have e1 : (u == 0 || v == 0) = false := by
    rw [Bool.or_eq_false_iff]
    exact ⟨beq_eq_false_iff_ne.mpr (by omega), beq_eq_false_iff_ne.mpr (by omega)⟩
  have e2 : (u == v) = false := beq_eq_false_iff_ne.mpr (by omega)
  refine call_gives F.slot_str_replace (typeIs_str _ _ _) F.entry_str_replace (F.args_str_replace_3 _ _ _) (gives_str_replace x y z t u v fun _ => ⟨e1, e2, hyz, hl⟩) ?_
  have hq' := hq
  unfold Txt.replace at hq'
  cases hc : ((occurrences x y 0 x.length (x.length + 1)).isEmpty || (y.length == 0 && z.length == 0)) with
  | false =>
    rw [hc] at hq'
    simp only [Bool.false_eq_true, if_false] at hq' ⊢
    exact ⟨fits_replaced y (by omega), hq' _ _ (by omega)⟩
  | true =>
    rw [hc] at hq'
    simp only [if_true] at hq' ⊢
    exact hq' t s.toks (Nat.le_refl _)
theorem item_tx {v : List Nat} {k c : Nat} (hc : v[k]? = some c) : Txt.item (tx_ v) (k : Int) = tx_ [c] := by
  have hk := (List.getElem?_eq_some_iff.mp hc).1
  unfold Txt.item Txt.charAt
  rw [len_, StrLaws.seqIndex_nonneg (by omega) (by omega)]
  have e : (tx_ v).cps[k]? = some c := by simpa using hc
  show Str.mk #[(Option.bind (some ((k : Int).toNat)) fun j => (tx_ v).cps[j]?).getD 0] = _
  rw [Int.toNat_natCast, Option.bind_some, e]
  rfl
/-- a text's sign at a place -/
theorem my_sign {value slice : PySem.Expr} {v : List Nat} {k c : Nat} {t u : Tok} (hc : v[k]? = some c) (hz : v.length ≤ 1000) (h : Q (.str (tx_ [c]) s.toks) { s with toks := s.toks + 1 })
    (hs : subscripted slice false (.str (tx_ v) t) (.int (k : Int) u) = operate [.str (tx_ v) t, .int (k : Int) u] (getItem (.str (tx_ v) t) (.int (k : Int) u)) := by with_unfolding_all rfl)
    (ht : ∀ r, letTemporaryGo value (.str (tx_ v) t) r = pure () := by intro _; with_unfolding_all rfl) :
    wpAny (model prog w) A (subscriptTail value slice (.str (tx_ v) t) (.int (k : Int) u)) Q E s := by
  have hk := (List.getElem?_eq_some_iff.mp hc).1
  refine KXi.item (n := v.length) (len_ v) (by omega) (by omega) (by omega) (fun _ => ?_) hs ht
  rw [item_tx hc]
  exact h
end
end Mine
end
section
open PySem PySem.W PySem.Calls PyProof.Rows
set_option linter.unusedVariables false
namespace Mine

theorem fill : PySem.Challenge.rw_nt0605_02 = PySem.Challenge.rw_nt0605_02 ∧ topK = topK := by
  k_fill
  exact ⟨rfl, rfl⟩
noncomputable abbrev Led := List (Addr × Obj)
noncomputable abbrev ent (P : Params) (n : Str) (k : Tok) (v : Value) : DictEntry := ⟨PyData.keyHash P n, .str n k, v⟩
noncomputable abbrev tokO (P : Params) (k0 k1 k2 k3 k4 k5 k6 k7 k8 k9 k10 k11 k12 k13 : Tok) (sm st : Nat) (i : Int) (ti : Tok) (z : Str) (tz tb : Tok) (ot er : Nat) (dv : Value) (tu tc tl : Tok) (wa dn : Bool) : Obj :=
  dictOf [ent P (Str.ofString "states") k0 (.ref sm), ent P (Str.ofString "stream") k1 (.ref st), ent P (Str.ofString "at") k2 (.int i ti), ent P (Str.ofString "state") k3 (.str z tz),
   ent P (Str.ofString "back") k4 (.str (Str.ofString "data") tb), ent P (Str.ofString "out") k5 (.ref ot), ent P (Str.ofString "errors") k6 (.ref er), ent P (Str.ofString "draft") k7 dv,
   ent P (Str.ofString "buffer") k8 (.str (Str.ofString "") tu), ent P (Str.ofString "code") k9 (.int 0 tc), ent P (Str.ofString "last") k10 (.str (Str.ofString "p") tl),
   ent P (Str.ofString "is_foreign") k11 (.bool false), ent P (Str.ofString "is_waiting") k12 (.bool wa), ent P (Str.ofString "is_done") k13 (.bool dn)] 14
noncomputable abbrev strO (P : Params) (v0 v1 v2 v3 : Tok) (sg : Nat) (cl rt : Bool) (se : Nat) : Obj :=
  dictOf [ent P (Str.ofString "signs") v0 (.ref sg), ent P (Str.ofString "is_closed") v1 (.bool cl), ent P (Str.ofString "is_return") v2 (.bool rt), ent P (Str.ofString "errors") v3 (.ref se)] 4
noncomputable abbrev draO (P : Params) (g0 g1 g2 g3 g4 g5 g6 g7 : Tok) (tg th : Tok) (tx : Str) (tt : Tok) (da : Nat) : Obj :=
  dictOf [ent P (Str.ofString "kind") g0 (.str (Str.ofString "comment") tg), ent P (Str.ofString "name") g1 (.str (Str.ofString "") th), ent P (Str.ofString "text") g2 (.str tx tt), ent P (Str.ofString "public") g3 .none,
   ent P (Str.ofString "system") g4 .none, ent P (Str.ofString "is_quirks") g5 (.bool false), ent P (Str.ofString "is_closing") g6 (.bool false), ent P (Str.ofString "attrs") g7 (.ref da)] 8
noncomputable abbrev core (P : Params) (k0 k1 k2 k3 k4 k5 k6 k7 k8 k9 k10 k11 k12 k13 v0 v1 v2 v3 g0 g1 g2 g3 g4 g5 g6 g7 : Tok) (x dx st dst sg se ot er dr ddr da sm : Nat) (osm : Obj) (tb tu tc tl tg th : Tok) (i : Int) (ti : Tok) (z : Str) (tz : Tok) (dv : Value) (wa dn cl rt : Bool) (vs : Array Value) (ns : Nat) (vse : Array Value) (nse : Nat)
    (tx : Str) (tt : Tok) (vo : Array Value) (no : Nat) (ve : Array Value) (ne : Nat) (r : Led) : Led :=
  (x, instObj 380 dx) :: (dx, tokO P k0 k1 k2 k3 k4 k5 k6 k7 k8 k9 k10 k11 k12 k13 sm st i ti z tz tb ot er dv tu tc tl wa dn) :: (st, instObj 217 dst) :: (dst, strO P v0 v1 v2 v3 sg cl rt se) :: (sg, listOf vs ns) :: (se, listOf vse nse) :: (ot, listOf vo no) :: (er, listOf ve ne) ::
  (dr, instObj 436 ddr) :: (ddr, draO P g0 g1 g2 g3 g4 g5 g6 g7 tg th tx tt da) :: (da, listOf #[] 0) :: (sm, osm) :: r
noncomputable abbrev CallC (w : World) (p : Program) (loose : List Str) (mean : ExcName → Option Value) (mg mb : Str → Option Value) (f : Addr) (vs : List Value) (d u : Nat) (news : Led) (Ret : Heap → Addr → (Str → Option Value) → Shared → (Value → Shared → Prop) → Prop) : Prop :=
  ∀ (dp un : Nat) (gd : Option (List Code)) (cn : Str) (cs : Scope) (a : Addr) (ccd : Value) (cl : List (Str × Addr)) (outer : List Env) (A₀ : Around) (base h₀ : Heap) (L : Addr) (m : Str → Option Value) (s : Shared) (Q E : Value → Shared → Prop),
    Below A₀ base outer h₀ → Fr h₀ L s.heap m → (topK w.params).In h₀ → News h₀ L s.heap news → Top p loose mean mg mb h₀ → cs.kind = .function → dp + d < recursionLimit → un + u < cLine →
    Ret h₀ L m s Q →
    wpAny (model PySem.Challenge.rw_nt0605_02.row.prog w) (ktrTop dp un gd cn cs L a ccd cl outer) (call (.ref f) vs) Q E s
structure Apart (x dx st dst sg se ot er dr ddr da sm : Nat) : Prop where
  h1 : sm < dx
  h2 : dx < x
  h3 : x < dst
  h4 : dst < st
  h5 : st < sg
  h6 : sg < se
  h7 : se < ot
  h8 : ot < er
  h9 : er < ddr
  h10 : ddr < dr
  h11 : dr < da
noncomputable abbrev tupO (vs : List Value) : Obj := { cls := .type "tuple", data := .seq vs.toArray }
theorem rot {h₀ h : Heap} {L : Addr} {q : Addr × Obj} {l r : Led} (N : News h₀ L h (q :: (l ++ r))) : News h₀ L h (l ++ q :: r) := fun p hp => N p (List.perm_middle.mem_iff.mp hp)
theorem off_q {q dx dst sg se ot er ddr : Nat} {o : Obj} {r : Led} (h1 : dx < q) (h2 : dst < q) (h3 : sg < q) (h4 : se < q) (h5 : ot < q) (h6 : er < q) (h7 : ddr < q) (hr : OwnOff r [dx, dst, sg, se, ot, er, ddr]) : OwnOff ((q, o) :: r) [dx, dst, sg, se, ot, er, ddr] := by
  intro p hp b hb
  rcases List.mem_cons.mp hp with rfl | hp
  · simp only [List.mem_cons, List.not_mem_nil, or_false] at hb
    rcases hb with rfl | rfl | rfl | rfl | rfl | rfl | rfl <;> (show (q : Nat) ≠ _; omega)
  · exact hr p hp b hb
theorem off_cons {q : Nat} {o : Obj} {r : Led} {adr : List Addr} (h : ∀ b ∈ adr, q ≠ b) (hr : OwnOff r adr) : OwnOff ((q, o) :: r) adr := by
  intro p hp b hb
  rcases List.mem_cons.mp hp with rfl | hp
  · exact h b hb
  · exact hr p hp b hb

noncomputable def Hold (P : Prop) : Prop := P
theorem hold {P : Prop} (h : Hold P) : P := h
noncomputable def Tups (l : Led) : Prop := ∀ p ∈ l, p.2.cls = .type "tuple"
theorem tups_nil : Tups [] := fun p hp => absurd hp (List.not_mem_nil)
theorem tups_cons {q : Nat} {o : Obj} {l : Led} (h : o.cls = .type "tuple") (u : Tups l) : Tups ((q, o) :: l) := by
  intro p hp
  rcases List.mem_cons.mp hp with rfl | hp
  · exact h
  · exact u p hp
theorem upd_dx {x dx st dst sg se ot er dr ddr da sm : Nat} {r : Led} {o o' o0 o2 o3 o4 o5 o6 o7 o8 o9 o10 o11 : Obj} (hA : Apart x dx st dst sg se ot er dr ddr da sm) (hr : OwnOff r [dx, dst, sg, se, ot, er, ddr]) :
    Upd dx o o' ((x, o0) :: (dx, o) :: (st, o2) :: (dst, o3) :: (sg, o4) :: (se, o5) :: (ot, o6) :: (er, o7) :: (dr, o8) :: (ddr, o9) :: (da, o10) :: (sm, o11) :: r) ((x, o0) :: (dx, o') :: (st, o2) :: (dst, o3) :: (sg, o4) :: (se, o5) :: (ot, o6) :: (er, o7) :: (dr, o8) :: (ddr, o9) :: (da, o10) :: (sm, o11) :: r) := by
  obtain ⟨h1, h2, h3, h4, h5, h6, h7, h8, h9, h10, h11⟩ := hA
  have hd : ∀ p ∈ r, p.1 ≠ dx := fun p hp => hr p hp dx (by simp)
  refine Upd.tail (Nat.ne_of_gt h2) ?_
  refine Upd.head ?_
  refine List.forall_mem_cons.mpr ⟨(Nat.ne_of_gt (Nat.lt_trans h2 (Nat.lt_trans h3 h4))), ?_⟩
  refine List.forall_mem_cons.mpr ⟨(Nat.ne_of_gt (Nat.lt_trans h2 h3)), ?_⟩
  refine List.forall_mem_cons.mpr ⟨(Nat.ne_of_gt (Nat.lt_trans h2 (Nat.lt_trans h3 (Nat.lt_trans h4 h5)))), ?_⟩
  refine List.forall_mem_cons.mpr ⟨(Nat.ne_of_gt (Nat.lt_trans h2 (Nat.lt_trans h3 (Nat.lt_trans h4 (Nat.lt_trans h5 h6))))), ?_⟩
  refine List.forall_mem_cons.mpr ⟨(Nat.ne_of_gt (Nat.lt_trans h2 (Nat.lt_trans h3 (Nat.lt_trans h4 (Nat.lt_trans h5 (Nat.lt_trans h6 h7)))))), ?_⟩
  refine List.forall_mem_cons.mpr ⟨(Nat.ne_of_gt (Nat.lt_trans h2 (Nat.lt_trans h3 (Nat.lt_trans h4 (Nat.lt_trans h5 (Nat.lt_trans h6 (Nat.lt_trans h7 h8))))))), ?_⟩
  refine List.forall_mem_cons.mpr ⟨(Nat.ne_of_gt (Nat.lt_trans h2 (Nat.lt_trans h3 (Nat.lt_trans h4 (Nat.lt_trans h5 (Nat.lt_trans h6 (Nat.lt_trans h7 (Nat.lt_trans h8 (Nat.lt_trans h9 h10))))))))), ?_⟩
  refine List.forall_mem_cons.mpr ⟨(Nat.ne_of_gt (Nat.lt_trans h2 (Nat.lt_trans h3 (Nat.lt_trans h4 (Nat.lt_trans h5 (Nat.lt_trans h6 (Nat.lt_trans h7 (Nat.lt_trans h8 h9)))))))), ?_⟩
  refine List.forall_mem_cons.mpr ⟨(Nat.ne_of_gt (Nat.lt_trans h2 (Nat.lt_trans h3 (Nat.lt_trans h4 (Nat.lt_trans h5 (Nat.lt_trans h6 (Nat.lt_trans h7 (Nat.lt_trans h8 (Nat.lt_trans h9 (Nat.lt_trans h10 h11)))))))))), ?_⟩
  refine List.forall_mem_cons.mpr ⟨(Nat.ne_of_lt h1), ?_⟩
  exact hd
theorem upd_dst {x dx st dst sg se ot er dr ddr da sm : Nat} {r : Led} {o o' o0 o1 o2 o4 o5 o6 o7 o8 o9 o10 o11 : Obj} (hA : Apart x dx st dst sg se ot er dr ddr da sm) (hr : OwnOff r [dx, dst, sg, se, ot, er, ddr]) :
    Upd dst o o' ((x, o0) :: (dx, o1) :: (st, o2) :: (dst, o) :: (sg, o4) :: (se, o5) :: (ot, o6) :: (er, o7) :: (dr, o8) :: (ddr, o9) :: (da, o10) :: (sm, o11) :: r) ((x, o0) :: (dx, o1) :: (st, o2) :: (dst, o') :: (sg, o4) :: (se, o5) :: (ot, o6) :: (er, o7) :: (dr, o8) :: (ddr, o9) :: (da, o10) :: (sm, o11) :: r) := by
  obtain ⟨h1, h2, h3, h4, h5, h6, h7, h8, h9, h10, h11⟩ := hA
  have hd : ∀ p ∈ r, p.1 ≠ dst := fun p hp => hr p hp dst (by simp)
  refine Upd.tail (Nat.ne_of_lt h3) ?_
  refine Upd.tail (Nat.ne_of_lt (Nat.lt_trans h2 h3)) ?_
  refine Upd.tail (Nat.ne_of_gt h4) ?_
  refine Upd.head ?_
  refine List.forall_mem_cons.mpr ⟨(Nat.ne_of_gt (Nat.lt_trans h4 h5)), ?_⟩
  refine List.forall_mem_cons.mpr ⟨(Nat.ne_of_gt (Nat.lt_trans h4 (Nat.lt_trans h5 h6))), ?_⟩
  refine List.forall_mem_cons.mpr ⟨(Nat.ne_of_gt (Nat.lt_trans h4 (Nat.lt_trans h5 (Nat.lt_trans h6 h7)))), ?_⟩
  refine List.forall_mem_cons.mpr ⟨(Nat.ne_of_gt (Nat.lt_trans h4 (Nat.lt_trans h5 (Nat.lt_trans h6 (Nat.lt_trans h7 h8))))), ?_⟩
  refine List.forall_mem_cons.mpr ⟨(Nat.ne_of_gt (Nat.lt_trans h4 (Nat.lt_trans h5 (Nat.lt_trans h6 (Nat.lt_trans h7 (Nat.lt_trans h8 (Nat.lt_trans h9 h10))))))), ?_⟩
  refine List.forall_mem_cons.mpr ⟨(Nat.ne_of_gt (Nat.lt_trans h4 (Nat.lt_trans h5 (Nat.lt_trans h6 (Nat.lt_trans h7 (Nat.lt_trans h8 h9)))))), ?_⟩
  refine List.forall_mem_cons.mpr ⟨(Nat.ne_of_gt (Nat.lt_trans h4 (Nat.lt_trans h5 (Nat.lt_trans h6 (Nat.lt_trans h7 (Nat.lt_trans h8 (Nat.lt_trans h9 (Nat.lt_trans h10 h11)))))))), ?_⟩
  refine List.forall_mem_cons.mpr ⟨(Nat.ne_of_lt (Nat.lt_trans h1 (Nat.lt_trans h2 h3))), ?_⟩
  exact hd
theorem upd_sg {x dx st dst sg se ot er dr ddr da sm : Nat} {r : Led} {o o' o0 o1 o2 o3 o5 o6 o7 o8 o9 o10 o11 : Obj} (hA : Apart x dx st dst sg se ot er dr ddr da sm) (hr : OwnOff r [dx, dst, sg, se, ot, er, ddr]) :
    Upd sg o o' ((x, o0) :: (dx, o1) :: (st, o2) :: (dst, o3) :: (sg, o) :: (se, o5) :: (ot, o6) :: (er, o7) :: (dr, o8) :: (ddr, o9) :: (da, o10) :: (sm, o11) :: r) ((x, o0) :: (dx, o1) :: (st, o2) :: (dst, o3) :: (sg, o') :: (se, o5) :: (ot, o6) :: (er, o7) :: (dr, o8) :: (ddr, o9) :: (da, o10) :: (sm, o11) :: r) := by
  obtain ⟨h1, h2, h3, h4, h5, h6, h7, h8, h9, h10, h11⟩ := hA
  have hd : ∀ p ∈ r, p.1 ≠ sg := fun p hp => hr p hp sg (by simp)
  refine Upd.tail (Nat.ne_of_lt (Nat.lt_trans h3 (Nat.lt_trans h4 h5))) ?_
  refine Upd.tail (Nat.ne_of_lt (Nat.lt_trans h2 (Nat.lt_trans h3 (Nat.lt_trans h4 h5)))) ?_
  refine Upd.tail (Nat.ne_of_lt h5) ?_
  refine Upd.tail (Nat.ne_of_lt (Nat.lt_trans h4 h5)) ?_
  refine Upd.head ?_
  refine List.forall_mem_cons.mpr ⟨(Nat.ne_of_gt h6), ?_⟩
  refine List.forall_mem_cons.mpr ⟨(Nat.ne_of_gt (Nat.lt_trans h6 h7)), ?_⟩
  refine List.forall_mem_cons.mpr ⟨(Nat.ne_of_gt (Nat.lt_trans h6 (Nat.lt_trans h7 h8))), ?_⟩
  refine List.forall_mem_cons.mpr ⟨(Nat.ne_of_gt (Nat.lt_trans h6 (Nat.lt_trans h7 (Nat.lt_trans h8 (Nat.lt_trans h9 h10))))), ?_⟩
  refine List.forall_mem_cons.mpr ⟨(Nat.ne_of_gt (Nat.lt_trans h6 (Nat.lt_trans h7 (Nat.lt_trans h8 h9)))), ?_⟩
  refine List.forall_mem_cons.mpr ⟨(Nat.ne_of_gt (Nat.lt_trans h6 (Nat.lt_trans h7 (Nat.lt_trans h8 (Nat.lt_trans h9 (Nat.lt_trans h10 h11)))))), ?_⟩
  refine List.forall_mem_cons.mpr ⟨(Nat.ne_of_lt (Nat.lt_trans h1 (Nat.lt_trans h2 (Nat.lt_trans h3 (Nat.lt_trans h4 h5))))), ?_⟩
  exact hd
theorem upd_se {x dx st dst sg se ot er dr ddr da sm : Nat} {r : Led} {o o' o0 o1 o2 o3 o4 o6 o7 o8 o9 o10 o11 : Obj} (hA : Apart x dx st dst sg se ot er dr ddr da sm) (hr : OwnOff r [dx, dst, sg, se, ot, er, ddr]) :
    Upd se o o' ((x, o0) :: (dx, o1) :: (st, o2) :: (dst, o3) :: (sg, o4) :: (se, o) :: (ot, o6) :: (er, o7) :: (dr, o8) :: (ddr, o9) :: (da, o10) :: (sm, o11) :: r) ((x, o0) :: (dx, o1) :: (st, o2) :: (dst, o3) :: (sg, o4) :: (se, o') :: (ot, o6) :: (er, o7) :: (dr, o8) :: (ddr, o9) :: (da, o10) :: (sm, o11) :: r) := by
  obtain ⟨h1, h2, h3, h4, h5, h6, h7, h8, h9, h10, h11⟩ := hA
  have hd : ∀ p ∈ r, p.1 ≠ se := fun p hp => hr p hp se (by simp)
  refine Upd.tail (Nat.ne_of_lt (Nat.lt_trans h3 (Nat.lt_trans h4 (Nat.lt_trans h5 h6)))) ?_
  refine Upd.tail (Nat.ne_of_lt (Nat.lt_trans h2 (Nat.lt_trans h3 (Nat.lt_trans h4 (Nat.lt_trans h5 h6))))) ?_
  refine Upd.tail (Nat.ne_of_lt (Nat.lt_trans h5 h6)) ?_
  refine Upd.tail (Nat.ne_of_lt (Nat.lt_trans h4 (Nat.lt_trans h5 h6))) ?_
  refine Upd.tail (Nat.ne_of_lt h6) ?_
  refine Upd.head ?_
  refine List.forall_mem_cons.mpr ⟨(Nat.ne_of_gt h7), ?_⟩
  refine List.forall_mem_cons.mpr ⟨(Nat.ne_of_gt (Nat.lt_trans h7 h8)), ?_⟩
  refine List.forall_mem_cons.mpr ⟨(Nat.ne_of_gt (Nat.lt_trans h7 (Nat.lt_trans h8 (Nat.lt_trans h9 h10)))), ?_⟩
  refine List.forall_mem_cons.mpr ⟨(Nat.ne_of_gt (Nat.lt_trans h7 (Nat.lt_trans h8 h9))), ?_⟩
  refine List.forall_mem_cons.mpr ⟨(Nat.ne_of_gt (Nat.lt_trans h7 (Nat.lt_trans h8 (Nat.lt_trans h9 (Nat.lt_trans h10 h11))))), ?_⟩
  refine List.forall_mem_cons.mpr ⟨(Nat.ne_of_lt (Nat.lt_trans h1 (Nat.lt_trans h2 (Nat.lt_trans h3 (Nat.lt_trans h4 (Nat.lt_trans h5 h6)))))), ?_⟩
  exact hd
theorem upd_ot {x dx st dst sg se ot er dr ddr da sm : Nat} {r : Led} {o o' o0 o1 o2 o3 o4 o5 o7 o8 o9 o10 o11 : Obj} (hA : Apart x dx st dst sg se ot er dr ddr da sm) (hr : OwnOff r [dx, dst, sg, se, ot, er, ddr]) :
    Upd ot o o' ((x, o0) :: (dx, o1) :: (st, o2) :: (dst, o3) :: (sg, o4) :: (se, o5) :: (ot, o) :: (er, o7) :: (dr, o8) :: (ddr, o9) :: (da, o10) :: (sm, o11) :: r) ((x, o0) :: (dx, o1) :: (st, o2) :: (dst, o3) :: (sg, o4) :: (se, o5) :: (ot, o') :: (er, o7) :: (dr, o8) :: (ddr, o9) :: (da, o10) :: (sm, o11) :: r) := by
  obtain ⟨h1, h2, h3, h4, h5, h6, h7, h8, h9, h10, h11⟩ := hA
  have hd : ∀ p ∈ r, p.1 ≠ ot := fun p hp => hr p hp ot (by simp)
  refine Upd.tail (Nat.ne_of_lt (Nat.lt_trans h3 (Nat.lt_trans h4 (Nat.lt_trans h5 (Nat.lt_trans h6 h7))))) ?_
  refine Upd.tail (Nat.ne_of_lt (Nat.lt_trans h2 (Nat.lt_trans h3 (Nat.lt_trans h4 (Nat.lt_trans h5 (Nat.lt_trans h6 h7)))))) ?_
  refine Upd.tail (Nat.ne_of_lt (Nat.lt_trans h5 (Nat.lt_trans h6 h7))) ?_
  refine Upd.tail (Nat.ne_of_lt (Nat.lt_trans h4 (Nat.lt_trans h5 (Nat.lt_trans h6 h7)))) ?_
  refine Upd.tail (Nat.ne_of_lt (Nat.lt_trans h6 h7)) ?_
  refine Upd.tail (Nat.ne_of_lt h7) ?_
  refine Upd.head ?_
  refine List.forall_mem_cons.mpr ⟨(Nat.ne_of_gt h8), ?_⟩
  refine List.forall_mem_cons.mpr ⟨(Nat.ne_of_gt (Nat.lt_trans h8 (Nat.lt_trans h9 h10))), ?_⟩
  refine List.forall_mem_cons.mpr ⟨(Nat.ne_of_gt (Nat.lt_trans h8 h9)), ?_⟩
  refine List.forall_mem_cons.mpr ⟨(Nat.ne_of_gt (Nat.lt_trans h8 (Nat.lt_trans h9 (Nat.lt_trans h10 h11)))), ?_⟩
  refine List.forall_mem_cons.mpr ⟨(Nat.ne_of_lt (Nat.lt_trans h1 (Nat.lt_trans h2 (Nat.lt_trans h3 (Nat.lt_trans h4 (Nat.lt_trans h5 (Nat.lt_trans h6 h7))))))), ?_⟩
  exact hd
theorem upd_er {x dx st dst sg se ot er dr ddr da sm : Nat} {r : Led} {o o' o0 o1 o2 o3 o4 o5 o6 o8 o9 o10 o11 : Obj} (hA : Apart x dx st dst sg se ot er dr ddr da sm) (hr : OwnOff r [dx, dst, sg, se, ot, er, ddr]) :
    Upd er o o' ((x, o0) :: (dx, o1) :: (st, o2) :: (dst, o3) :: (sg, o4) :: (se, o5) :: (ot, o6) :: (er, o) :: (dr, o8) :: (ddr, o9) :: (da, o10) :: (sm, o11) :: r) ((x, o0) :: (dx, o1) :: (st, o2) :: (dst, o3) :: (sg, o4) :: (se, o5) :: (ot, o6) :: (er, o') :: (dr, o8) :: (ddr, o9) :: (da, o10) :: (sm, o11) :: r) := by
  obtain ⟨h1, h2, h3, h4, h5, h6, h7, h8, h9, h10, h11⟩ := hA
  have hd : ∀ p ∈ r, p.1 ≠ er := fun p hp => hr p hp er (by simp)
  refine Upd.tail (Nat.ne_of_lt (Nat.lt_trans h3 (Nat.lt_trans h4 (Nat.lt_trans h5 (Nat.lt_trans h6 (Nat.lt_trans h7 h8)))))) ?_
  refine Upd.tail (Nat.ne_of_lt (Nat.lt_trans h2 (Nat.lt_trans h3 (Nat.lt_trans h4 (Nat.lt_trans h5 (Nat.lt_trans h6 (Nat.lt_trans h7 h8))))))) ?_
  refine Upd.tail (Nat.ne_of_lt (Nat.lt_trans h5 (Nat.lt_trans h6 (Nat.lt_trans h7 h8)))) ?_
  refine Upd.tail (Nat.ne_of_lt (Nat.lt_trans h4 (Nat.lt_trans h5 (Nat.lt_trans h6 (Nat.lt_trans h7 h8))))) ?_
  refine Upd.tail (Nat.ne_of_lt (Nat.lt_trans h6 (Nat.lt_trans h7 h8))) ?_
  refine Upd.tail (Nat.ne_of_lt (Nat.lt_trans h7 h8)) ?_
  refine Upd.tail (Nat.ne_of_lt h8) ?_
  refine Upd.head ?_
  refine List.forall_mem_cons.mpr ⟨(Nat.ne_of_gt (Nat.lt_trans h9 h10)), ?_⟩
  refine List.forall_mem_cons.mpr ⟨(Nat.ne_of_gt h9), ?_⟩
  refine List.forall_mem_cons.mpr ⟨(Nat.ne_of_gt (Nat.lt_trans h9 (Nat.lt_trans h10 h11))), ?_⟩
  refine List.forall_mem_cons.mpr ⟨(Nat.ne_of_lt (Nat.lt_trans h1 (Nat.lt_trans h2 (Nat.lt_trans h3 (Nat.lt_trans h4 (Nat.lt_trans h5 (Nat.lt_trans h6 (Nat.lt_trans h7 h8)))))))), ?_⟩
  exact hd
theorem upd_ddr {x dx st dst sg se ot er dr ddr da sm : Nat} {r : Led} {o o' o0 o1 o2 o3 o4 o5 o6 o7 o8 o10 o11 : Obj} (hA : Apart x dx st dst sg se ot er dr ddr da sm) (hr : OwnOff r [dx, dst, sg, se, ot, er, ddr]) :
    Upd ddr o o' ((x, o0) :: (dx, o1) :: (st, o2) :: (dst, o3) :: (sg, o4) :: (se, o5) :: (ot, o6) :: (er, o7) :: (dr, o8) :: (ddr, o) :: (da, o10) :: (sm, o11) :: r) ((x, o0) :: (dx, o1) :: (st, o2) :: (dst, o3) :: (sg, o4) :: (se, o5) :: (ot, o6) :: (er, o7) :: (dr, o8) :: (ddr, o') :: (da, o10) :: (sm, o11) :: r) := by
  obtain ⟨h1, h2, h3, h4, h5, h6, h7, h8, h9, h10, h11⟩ := hA
  have hd : ∀ p ∈ r, p.1 ≠ ddr := fun p hp => hr p hp ddr (by simp)
  refine Upd.tail (Nat.ne_of_lt (Nat.lt_trans h3 (Nat.lt_trans h4 (Nat.lt_trans h5 (Nat.lt_trans h6 (Nat.lt_trans h7 (Nat.lt_trans h8 h9))))))) ?_
  refine Upd.tail (Nat.ne_of_lt (Nat.lt_trans h2 (Nat.lt_trans h3 (Nat.lt_trans h4 (Nat.lt_trans h5 (Nat.lt_trans h6 (Nat.lt_trans h7 (Nat.lt_trans h8 h9)))))))) ?_
  refine Upd.tail (Nat.ne_of_lt (Nat.lt_trans h5 (Nat.lt_trans h6 (Nat.lt_trans h7 (Nat.lt_trans h8 h9))))) ?_
  refine Upd.tail (Nat.ne_of_lt (Nat.lt_trans h4 (Nat.lt_trans h5 (Nat.lt_trans h6 (Nat.lt_trans h7 (Nat.lt_trans h8 h9)))))) ?_
  refine Upd.tail (Nat.ne_of_lt (Nat.lt_trans h6 (Nat.lt_trans h7 (Nat.lt_trans h8 h9)))) ?_
  refine Upd.tail (Nat.ne_of_lt (Nat.lt_trans h7 (Nat.lt_trans h8 h9))) ?_
  refine Upd.tail (Nat.ne_of_lt (Nat.lt_trans h8 h9)) ?_
  refine Upd.tail (Nat.ne_of_lt h9) ?_
  refine Upd.tail (Nat.ne_of_gt h10) ?_
  refine Upd.head ?_
  refine List.forall_mem_cons.mpr ⟨(Nat.ne_of_gt (Nat.lt_trans h10 h11)), ?_⟩
  refine List.forall_mem_cons.mpr ⟨(Nat.ne_of_lt (Nat.lt_trans h1 (Nat.lt_trans h2 (Nat.lt_trans h3 (Nat.lt_trans h4 (Nat.lt_trans h5 (Nat.lt_trans h6 (Nat.lt_trans h7 (Nat.lt_trans h8 h9))))))))), ?_⟩
  exact hd

section
variable {prog : Program} {w : World} {A : Around} {E : Value → Shared → Prop} {s : Shared} {h₀ : Heap} {L l : Addr} {news : Led} {vs : Array Value} {n : Nat} {Q : Value → Shared → Prop}
theorem my_len (N : News h₀ L s.heap news) (hm : (l, listOf vs n) ∈ news) (hz : vs.size ≤ 1000) (h : Q (.int vs.size (s.toks + 1)) { s with toks := s.toks + 1 + 1 }) : wpAny (model prog w) A (call (.builtin "len") [.ref l]) Q E s :=
  call_len_list (News.isList N hm) (by omega) h
theorem my_item {value slice : PySem.Expr} {k : Int} {u : Tok} {v : Value} (N : News h₀ L s.heap news) (hm : (l, listOf vs n) ∈ news) (h0 : 0 ≤ k) (hz : k ≤ 1000) (hx : vs[k.toNat]? = some v) (h : Q v s)
    (hs : subscripted slice false (.ref l) (.int k u) = operate [.ref l, .int k u] (getItem (.ref l) (.int k u)) := by with_unfolding_all rfl) :
    wpAny (model prog w) A (subscriptTail value slice (.ref l) (.int k u)) Q E s :=
  tail_any (News.isList N hm).typeIs slot_list_getitem.lookup (wpAny_getItem_list (News.isList N hm) h0 (by omega) hx h) hs
end
local macro_rules | `(tactic| k_in) => `(tactic| first | with_reducible assumption | exact Frag.In.keeps (by with_reducible assumption) (Fr.keep (by with_reducible assumption)))
local macro_rules | `(tactic| k_upd) => `(tactic| first | exact upd_dx ‹_› ‹_› | exact upd_er ‹_› ‹_› | exact upd_ddr ‹_› ‹_› | exact upd_ot ‹_› ‹_› | exact upd_dst ‹_› ‹_› | exact upd_sg ‹_› ‹_› | exact upd_se ‹_› ‹_› | (refine' Upd.tail ?a ?b; (case a => k_ne); (case b => k_upd)))
local macro_rules | `(tactic| k_steps) => `(tactic| repeat' (first | (k_unfold; (try dsimp only)) | (k_end; kc_close) | ((try dsimp only); walk1) | (leave1; walk_say "STEP leave1"; (try dsimp only)) | fail "no step"))
local macro_rules | `(tactic| walk_at "eval Name") => `(tactic| k_dflt (first
  | (refine' nameX_L ?F ?v ?_ ?a ?b; (case F => k_asm); (case a => rfl); (case b => rfl); (case v => rfl); k_whole)
  | (refine' nameX_K ?F ?X ?T ?e ?_ ?a ?b; (case F => k_asm); (case X => k_asm); (case T => k_asm); (case a => rfl); (case b => rfl); (case e => k_is); k_whole)
  | (refine' nameX_B ?F ?X ?T ?e ?v ?n ?_ ?a ?b; (case F => k_asm); (case X => k_asm); (case T => k_asm); (case a => rfl); (case b => rfl); (case e => k_is); (case v => boot_fast); (case n => decide); k_whole)))
local macro_rules | `(tactic| walk_at "execs cons") => `(tactic| first | k_gentoks | (with_reducible refine wpAny_execs_cons ?_))
local macro_rules | `(tactic| walk_at "exec Assign") => `(tactic| first
  | (with_reducible refine plainObj_wpAny_Assign_Attribute ?_ ?_; rotate_left; with_unfolding_all rfl)
  | (with_reducible refine wpAny_Assign_Name ?_ ?_; rotate_left; with_unfolding_all rfl))
local macro_rules | `(tactic| walk_at "eval Attribute Name") => `(tactic| with_reducible refine Attribute_Name_ ?_)
local macro_rules | `(tactic| walk_at "eval Attribute Attribute") => `(tactic| with_reducible refine Attribute_any_ ?_)
local macro_rules | `(tactic| walk_at "eval BinOp") => `(tactic| with_reducible refine wpAny_BinOp ?_)
local macro_rules | `(tactic| walk_at "exec If") => `(tactic| with_reducible refine wpAny_If ?_)
local macro_rules | `(tactic| walk_at "isTrue Compare") => `(tactic| refine wpAny_isTrue_Compare1 ?_)
local macro_rules | `(tactic| walk_at "exec For") => `(tactic| ((rename Fr _ _ _ _ => lF'); (with_unfolding_all refine' For_invVF lF' ?k1 ?k2 ?_; (case k1 => exact rfl); (case k2 => exact rfl); k_whole)))
local macro_rules | `(tactic| walk_at "exec For Name Call cons nil") => `(tactic| ((rename Fr _ _ _ _ => lF'); (with_unfolding_all refine' For_invVF lF' ?k1 ?k2 ?_; (case k1 => exact rfl); (case k2 => exact rfl); k_whole)))
local macro_rules | `(tactic| walk_at "exec For Name List cons nil") => `(tactic| ((rename Fr _ _ _ _ => lF'); (with_unfolding_all refine' For_invVF lF' ?k1 ?k2 ?_; (case k1 => exact rfl); (case k2 => exact rfl); k_whole)))
local macro_rules | `(tactic| walk_at "pyIter ref") => `(tactic| (refine hold ?_))
local macro_rules | `(tactic| k_room) => `(tactic| ktr_room)
local macro_rules | `(tactic| walk_at "call builtin:len") => `(tactic| k_dflt (refine' my_len ?a ?b ?c ?_; (case a => k_asm); (case b => k_mem); (case c => assumption)))
local macro_rules | `(tactic| walk_at "subscriptTail") => `(tactic| k_dflt (refine' my_item ?a ?b ?c ?d ?e ?_ ?f; (case a => k_asm); (case b => k_mem); (case c => assumption); (case d => assumption); (case e => first | assumption | (apply_assumption; assumption)); (case f => with_unfolding_all rfl)))
section

theorem calm1 : True := by
  w_top off
  first | walk1 | trivial

variable {w : World} {p : Program} {loose : List Str} {mean : ExcName → Option Value} {mg mb : Str → Option Value} {k0 k1 k2 k3 k4 k5 k6 k7 k8 k9 k10 k11 k12 k13 v0 v1 v2 v3 g0 g1 g2 g3 g4 g5 g6 g7 : Tok} {x dx st dst sg se ot er dr ddr da sm : Nat} {osm : Obj} {tb tu tc tl tg th : Tok}
  {i : Int} {ti : Tok} {z : Str} {tz : Tok} {dv : Value} {wa dn cl rt : Bool} {vs : Array Value} {ns : Nat} {vse : Array Value} {nse : Nat} {es : List Dat} {tx : Str} {tt : Tok} {vo : Array Value} {no : Nat} {ve : Array Value} {ne : Nat} {r ro ex : Led}
set_option maxRecDepth 100000 in
set_option maxHeartbeats 8000000 in
theorem next_c (hA : Apart x dx st dst sg se ot er dr ddr da sm) (hr : OwnOff r [dx, dst, sg, se, ot, er, ddr]) (c : Str) (tcc : Tok) (hi : 0 ≤ i) (hs : vs.size ≤ 1000) (hi2 : i ≤ 1000) (hc : i < vs.size → vs[i.toNat]? = some (.str c tcc)) (hc2 : ¬ (i < vs.size) → c = Str.ofString "") : CallC w p loose mean mg mb 257 [.ref x] 1 8 (core w.params k0 k1 k2 k3 k4 k5 k6 k7 k8 k9 k10 k11 k12 k13 v0 v1 v2 v3 g0 g1 g2 g3 g4 g5 g6 g7 x dx st dst sg se ot er dr ddr da sm osm tb tu tc tl tg th i ti z tz dv wa dn cl rt vs ns vse nse tx tt vo no ve ne r)
    (fun h₀ L m s Q => ∀ t ti' h' tk', Fr h₀ L h' m → News h₀ L h' (core w.params k0 k1 k2 k3 k4 k5 k6 k7 k8 k9 k10 k11 k12 k13 v0 v1 v2 v3 g0 g1 g2 g3 g4 g5 g6 g7 x dx st dst sg se ot er dr ddr da sm osm tb tu tc tl tg th (i + 1) ti' z tz dv wa dn cl rt vs ns vse nse tx tt vo no ve ne r) → Q (.str c t) { s with heap := h', toks := tk' }) := by
  intro dp un gd cn cs a ccd cll outer A₀ base h₀ L m s Q E B F X N T hk hd hu hret
  refine wpAny_call ?_
  k_dflt cell_enter
  k_steps
  · exact hret _ _ _ _ (by k_asm) (by k_asm)
  · rw [hc2 (by assumption)] at hret
    exact hret _ _ _ _ (by k_asm) (by k_asm)
set_option maxRecDepth 100000 in
set_option maxHeartbeats 8000000 in
theorem to_c (hA : Apart x dx st dst sg se ot er dr ddr da sm) (hr : OwnOff r [dx, dst, sg, se, ot, er, ddr]) (y : Str) (ty : Tok) : CallC w p loose mean mg mb 264 [.ref x, .str y ty] 1 8 (core w.params k0 k1 k2 k3 k4 k5 k6 k7 k8 k9 k10 k11 k12 k13 v0 v1 v2 v3 g0 g1 g2 g3 g4 g5 g6 g7 x dx st dst sg se ot er dr ddr da sm osm tb tu tc tl tg th i ti z tz dv wa dn cl rt vs ns vse nse tx tt vo no ve ne r)
    (fun h₀ L m s Q => ∀  h' tk', Fr h₀ L h' m → News h₀ L h' (core w.params k0 k1 k2 k3 k4 k5 k6 k7 k8 k9 k10 k11 k12 k13 v0 v1 v2 v3 g0 g1 g2 g3 g4 g5 g6 g7 x dx st dst sg se ot er dr ddr da sm osm tb tu tc tl tg th i ti y ty dv wa dn cl rt vs ns vse nse tx tt vo no ve ne r) → Q .none { s with heap := h', toks := tk' }) := by
  intro dp un gd cn cs a ccd cll outer A₀ base h₀ L m s Q E B F X N T hk hd hu hret
  refine wpAny_call ?_
  k_dflt cell_enter
  k_steps
  exact hret _ _ (by k_asm) (by k_asm)
set_option maxRecDepth 100000 in
set_option maxHeartbeats 8000000 in
theorem again_c (hA : Apart x dx st dst sg se ot er dr ddr da sm) (hr : OwnOff r [dx, dst, sg, se, ot, er, ddr]) (y : Str) (ty : Tok) : CallC w p loose mean mg mb 271 [.ref x, .str y ty] 1 8 (core w.params k0 k1 k2 k3 k4 k5 k6 k7 k8 k9 k10 k11 k12 k13 v0 v1 v2 v3 g0 g1 g2 g3 g4 g5 g6 g7 x dx st dst sg se ot er dr ddr da sm osm tb tu tc tl tg th i ti z tz dv wa dn cl rt vs ns vse nse tx tt vo no ve ne r)
    (fun h₀ L m s Q => ∀ ti' h' tk', Fr h₀ L h' m → News h₀ L h' (core w.params k0 k1 k2 k3 k4 k5 k6 k7 k8 k9 k10 k11 k12 k13 v0 v1 v2 v3 g0 g1 g2 g3 g4 g5 g6 g7 x dx st dst sg se ot er dr ddr da sm osm tb tu tc tl tg th (i - 1) ti' y ty dv wa dn cl rt vs ns vse nse tx tt vo no ve ne r) → Q .none { s with heap := h', toks := tk' }) := by
  intro dp un gd cn cs a ccd cll outer A₀ base h₀ L m s Q E B F X N T hk hd hu hret
  refine wpAny_call ?_
  k_dflt cell_enter
  k_steps
  exact hret _ _ _ (by k_asm) (by k_asm)
set_option maxRecDepth 100000 in
set_option maxHeartbeats 8000000 in
theorem error_c (hA : Apart x dx st dst sg se ot er dr ddr da sm) (hr : OwnOff r [dx, dst, sg, se, ot, er, ddr]) (y : Str) (ty : Tok) (he : ve.size ≤ 1000) : CallC w p loose mean mg mb 278 [.ref x, .str y ty] 1 8 (core w.params k0 k1 k2 k3 k4 k5 k6 k7 k8 k9 k10 k11 k12 k13 v0 v1 v2 v3 g0 g1 g2 g3 g4 g5 g6 g7 x dx st dst sg se ot er dr ddr da sm osm tb tu tc tl tg th i ti z tz dv wa dn cl rt vs ns vse nse tx tt vo no ve ne r)
    (fun h₀ L m s Q => ∀ q ti' h' tk', Fr h₀ L h' m → News h₀ L h' (core w.params k0 k1 k2 k3 k4 k5 k6 k7 k8 k9 k10 k11 k12 k13 v0 v1 v2 v3 g0 g1 g2 g3 g4 g5 g6 g7 x dx st dst sg se ot er dr ddr da sm osm tb tu tc tl tg th i ti z tz dv wa dn cl rt vs ns vse nse tx tt vo no (ve.push (.ref q)) (ne + 1) ((q, tupO [.str y ty, .int (i - 1) ti']) :: r)) → OwnOff ((q, tupO [.str y ty, .int (i - 1) ti']) :: r) [dx, dst, sg, se, ot, er, ddr] → Q .none { s with heap := h', toks := tk' }) := by
  intro dp un gd cn cs a ccd cll outer A₀ base h₀ L m s Q E B F X N T hk hd hu hret
  refine wpAny_call ?_
  k_dflt cell_enter
  k_steps
  exact hret _ _ _ _ (by k_asm) (rot (l := [_, _, _, _, _, _, _, _, _, _, _, _]) (by k_asm)) (by apply off_q <;> first | assumption | omega)
set_option maxRecDepth 100000 in
set_option maxHeartbeats 8000000 in
theorem emit_draft_c (hA : Apart x dx st dst sg se ot er dr ddr da sm) (hr : OwnOff r [dx, dst, sg, se, ot, er, ddr]) (hv : dv = .ref dr) (ho : vo.size ≤ 1000) : CallC w p loose mean mg mb 306 [.ref x] 3 8 (core w.params k0 k1 k2 k3 k4 k5 k6 k7 k8 k9 k10 k11 k12 k13 v0 v1 v2 v3 g0 g1 g2 g3 g4 g5 g6 g7 x dx st dst sg se ot er dr ddr da sm osm tb tu tc tl tg th i ti z tz dv wa dn cl rt vs ns vse nse tx tt vo no ve ne r)
    (fun h₀ L m s Q => ∀ q t1 h' tk', Fr h₀ L h' m → News h₀ L h' (core w.params k0 k1 k2 k3 k4 k5 k6 k7 k8 k9 k10 k11 k12 k13 v0 v1 v2 v3 g0 g1 g2 g3 g4 g5 g6 g7 x dx st dst sg se ot er dr ddr da sm osm tb tu tc tl tg th i ti z tz .none wa dn cl rt vs ns vse nse tx tt (vo.push (.ref q)) (no + 1) ve ne ((q, tupO [.str (Str.ofString "comment") t1, .str tx tt]) :: r)) → OwnOff ((q, tupO [.str (Str.ofString "comment") t1, .str tx tt]) :: r) [dx, dst, sg, se, ot, er, ddr] → Q .none { s with heap := h', toks := tk' }) := by
  intro dp un gd cn cs a ccd cll outer A₀ base h₀ L m s Q E B F X N T hk hd hu hret
  refine wpAny_call ?_
  k_dflt cell_enter
  subst hv
  k_steps
  exact hret _ _ _ _ (by k_asm) (rot (l := [_, _, _, _, _, _, _, _, _, _, _, _]) (by k_asm)) (by apply off_q <;> first | assumption | omega)
set_option maxRecDepth 100000 in
set_option maxHeartbeats 8000000 in
theorem emit_eof_c (hA : Apart x dx st dst sg se ot er dr ddr da sm) (hr : OwnOff r [dx, dst, sg, se, ot, er, ddr]) (ho : vo.size ≤ 1000) : CallC w p loose mean mg mb 313 [.ref x] 1 8 (core w.params k0 k1 k2 k3 k4 k5 k6 k7 k8 k9 k10 k11 k12 k13 v0 v1 v2 v3 g0 g1 g2 g3 g4 g5 g6 g7 x dx st dst sg se ot er dr ddr da sm osm tb tu tc tl tg th i ti z tz dv wa dn cl rt vs ns vse nse tx tt vo no ve ne r)
    (fun h₀ L m s Q => ∀ q t1 h' tk', Fr h₀ L h' m → News h₀ L h' (core w.params k0 k1 k2 k3 k4 k5 k6 k7 k8 k9 k10 k11 k12 k13 v0 v1 v2 v3 g0 g1 g2 g3 g4 g5 g6 g7 x dx st dst sg se ot er dr ddr da sm osm tb tu tc tl tg th i ti z tz dv wa true cl rt vs ns vse nse tx tt (vo.push (.ref q)) (no + 1) ve ne ((q, tupO [.str (Str.ofString "eof") t1]) :: r)) → OwnOff ((q, tupO [.str (Str.ofString "eof") t1]) :: r) [dx, dst, sg, se, ot, er, ddr] → Q .none { s with heap := h', toks := tk' }) := by
  intro dp un gd cn cs a ccd cll outer A₀ base h₀ L m s Q E B F X N T hk hd hu hret
  refine wpAny_call ?_
  k_dflt cell_enter
  k_steps
  exact hret _ _ _ _ (by k_asm) (rot (l := [_, _, _, _, _, _, _, _, _, _, _, _]) (by k_asm)) (by apply off_q <;> first | assumption | omega)
end
section
open PySem PySem.W PySem.Calls PyProof.Rows
local macro_rules | `(tactic| walk_at "call ref") => `(tactic| k_dflt ((first
  | ((with_reducible show wpAny _ _ (call (Value.ref 257) _) _ _ _); refine' next_c ?hA ?hr _ _ ?p2 ?p3 ?p4 ?p5 ?p6 _ _ _ _ _ _ _ _ _ _ _ _ _ _ _ _ _ ?B ?F ?X ?N ?T ?k ?d ?u ?_)
  | ((with_reducible show wpAny _ _ (call (Value.ref 264) _) _ _ _); refine' to_c ?hA ?hr _ _ _ _ _ _ _ _ _ _ _ _ _ _ _ _ _ _ _ ?B ?F ?X ?N ?T ?k ?d ?u ?_)
  | ((with_reducible show wpAny _ _ (call (Value.ref 271) _) _ _ _); refine' again_c ?hA ?hr _ _ _ _ _ _ _ _ _ _ _ _ _ _ _ _ _ _ _ ?B ?F ?X ?N ?T ?k ?d ?u ?_)
  | ((with_reducible show wpAny _ _ (call (Value.ref 278) _) _ _ _); refine' error_c ?hA ?hr _ _ ?p2 _ _ _ _ _ _ _ _ _ _ _ _ _ _ _ _ _ ?B ?F ?X ?N ?T ?k ?d ?u ?_)
  | ((with_reducible show wpAny _ _ (call (Value.ref 306) _) _ _ _); refine' emit_draft_c ?hA ?hr ?p0 ?p1 _ _ _ _ _ _ _ _ _ _ _ _ _ _ _ _ _ ?B ?F ?X ?N ?T ?k ?d ?u ?_)
  | ((with_reducible show wpAny _ _ (call (Value.ref 313) _) _ _ _); refine' emit_eof_c ?hA ?hr ?p0 _ _ _ _ _ _ _ _ _ _ _ _ _ _ _ _ _ ?B ?F ?X ?N ?T ?k ?d ?u ?_)); (case N => k_asm); (case F => k_asm); (case B => k_asm); (case X => k_asm); (case T => k_asm); (case k => first | exact rfl | assumption); (case d => ktr_room); (case u => ktr_units); (case hA => assumption); (case hr => assumption); (try case p0 => first | assumption | rfl | first | assumption | (simp only [Array.size_push]; omega) | omega); (try case p1 => first | assumption | rfl | first | assumption | (simp only [Array.size_push]; omega) | omega); (try case p2 => first | assumption | rfl | first | assumption | (simp only [Array.size_push]; omega) | omega); (try case p3 => first | assumption | rfl | first | assumption | (simp only [Array.size_push]; omega) | omega); (try case p4 => first | assumption | rfl | first | assumption | (simp only [Array.size_push]; omega) | omega); (try case p5 => first | assumption | rfl | first | assumption | (simp only [Array.size_push]; omega) | omega); (try case p6 => first | assumption | rfl | first | assumption | (simp only [Array.size_push]; omega) | omega); intro y'; intros; (try k_sweep)))
section
open PySem PySem.W PySem.Calls PyProof.Rows
set_option linter.unusedVariables false
theorem calm2 : True := by
  w_top off
  first | walk1 | trivial
theorem fillB : PySem.Challenge.rw_nt0605_02 = PySem.Challenge.rw_nt0605_02 ∧ topK = topK := by
  k_fill
  exact ⟨rfl, rfl⟩


variable {w : World} {p : Program} {loose : List Str} {mean : ExcName → Option Value} {mg mb : Str → Option Value} {k0 k1 k2 k3 k4 k5 k6 k7 k8 k9 k10 k11 k12 k13 v0 v1 v2 v3 g0 g1 g2 g3 g4 g5 g6 g7 : Tok} {x dx st dst sg se ot er dr ddr da sm : Nat} {osm : Obj} {tb tu tc tl tg th : Tok}
  {i : Int} {ti : Tok} {z : Str} {tz : Tok} {dv : Value} {wa dn cl rt : Bool} {vs : Array Value} {ns : Nat} {vse : Array Value} {nse : Nat} {es : List Dat} {tx : Str} {tt : Tok} {vo : Array Value} {no : Nat} {ve : Array Value} {ne : Nat} {r ro ex : Led}
set_option maxRecDepth 100000 in
set_option maxHeartbeats 8000000 in
theorem null_c (hA : Apart x dx st dst sg se ot er dr ddr da sm) (hr : OwnOff r [dx, dst, sg, se, ot, er, ddr]) (hv : dv = .ref dr) (he : ve.size ≤ 1000) (hx : tx.length ≤ 1000) : CallC w p loose mean mg mb 42 [.ref x] 3 20 (core w.params k0 k1 k2 k3 k4 k5 k6 k7 k8 k9 k10 k11 k12 k13 v0 v1 v2 v3 g0 g1 g2 g3 g4 g5 g6 g7 x dx st dst sg se ot er dr ddr da sm osm tb tu tc tl tg th i ti z tz dv wa dn cl rt vs ns vse nse tx tt vo no ve ne r)
    (fun h₀ L m s Q => ∀ q ty ti' tt' h' tk', Fr h₀ L h' m → News h₀ L h' (core w.params k0 k1 k2 k3 k4 k5 k6 k7 k8 k9 k10 k11 k12 k13 v0 v1 v2 v3 g0 g1 g2 g3 g4 g5 g6 g7 x dx st dst sg se ot er dr ddr da sm osm tb tu tc tl tg th i ti z tz dv wa dn cl rt vs ns vse nse (tx ++ (Str.ofString "�")) tt' vo no (ve.push (.ref q)) (ne + 1) ((q, tupO [.str (Str.ofString "unexpected-null-character") ty, .int (i - 1) ti']) :: r)) → OwnOff ((q, tupO [.str (Str.ofString "unexpected-null-character") ty, .int (i - 1) ti']) :: r) [dx, dst, sg, se, ot, er, ddr] → Q .none { s with heap := h', toks := tk' }) := by
  intro dp un gd cn cs a ccd cll outer A₀ base h₀ L m s Q E B F X N T hk hd hu hret
  refine wpAny_call ?_
  k_dflt cell_enter
  subst hv
  k_steps
  exact hret _ _ _ _ _ _ (by k_asm) (by k_asm) (by k_asm)
set_option maxRecDepth 100000 in
set_option maxHeartbeats 8000000 in
theorem close_c (hA : Apart x dx st dst sg se ot er dr ddr da sm) (hr : OwnOff r [dx, dst, sg, se, ot, er, ddr]) (hv : dv = .ref dr) (ho : vo.size ≤ 1000) : CallC w p loose mean mg mb 28 [.ref x] 5 20 (core w.params k0 k1 k2 k3 k4 k5 k6 k7 k8 k9 k10 k11 k12 k13 v0 v1 v2 v3 g0 g1 g2 g3 g4 g5 g6 g7 x dx st dst sg se ot er dr ddr da sm osm tb tu tc tl tg th i ti z tz dv wa dn cl rt vs ns vse nse tx tt vo no ve ne r)
    (fun h₀ L m s Q => ∀ q t1 tz' h' tk', Fr h₀ L h' m → News h₀ L h' (core w.params k0 k1 k2 k3 k4 k5 k6 k7 k8 k9 k10 k11 k12 k13 v0 v1 v2 v3 g0 g1 g2 g3 g4 g5 g6 g7 x dx st dst sg se ot er dr ddr da sm osm tb tu tc tl tg th i ti (Str.ofString "data") tz' .none wa dn cl rt vs ns vse nse tx tt (vo.push (.ref q)) (no + 1) ve ne ((q, tupO [.str (Str.ofString "comment") t1, .str tx tt]) :: r)) → OwnOff ((q, tupO [.str (Str.ofString "comment") t1, .str tx tt]) :: r) [dx, dst, sg, se, ot, er, ddr] → Q .none { s with heap := h', toks := tk' }) := by
  intro dp un gd cn cs a ccd cll outer A₀ base h₀ L m s Q E B F X N T hk hd hu hret
  refine wpAny_call ?_
  k_dflt cell_enter
  k_steps
  exact hret _ _ _ _ _ (by k_asm) (by k_asm) (by k_asm)
set_option maxRecDepth 100000 in
set_option maxHeartbeats 8000000 in
theorem endc_c (hA : Apart x dx st dst sg se ot er dr ddr da sm) (hr : OwnOff r [dx, dst, sg, se, ot, er, ddr]) (hv : dv = .ref dr) (ho : vo.size ≤ 900) (he : ve.size ≤ 1000) : CallC w p loose mean mg mb 35 [.ref x] 5 20 (core w.params k0 k1 k2 k3 k4 k5 k6 k7 k8 k9 k10 k11 k12 k13 v0 v1 v2 v3 g0 g1 g2 g3 g4 g5 g6 g7 x dx st dst sg se ot er dr ddr da sm osm tb tu tc tl tg th i ti z tz dv wa dn cl rt vs ns vse nse tx tt vo no ve ne r)
    (fun h₀ L m s Q => ∀ q q1 q2 ty ti' t1 t2 h' tk', Fr h₀ L h' m → News h₀ L h' (core w.params k0 k1 k2 k3 k4 k5 k6 k7 k8 k9 k10 k11 k12 k13 v0 v1 v2 v3 g0 g1 g2 g3 g4 g5 g6 g7 x dx st dst sg se ot er dr ddr da sm osm tb tu tc tl tg th i ti z tz .none wa true cl rt vs ns vse nse tx tt ((vo.push (.ref q1)).push (.ref q2)) (no + 1 + 1) (ve.push (.ref q)) (ne + 1) ((q2, tupO [.str (Str.ofString "eof") t2]) :: ((q1, tupO [.str (Str.ofString "comment") t1, .str tx tt]) :: ((q, tupO [.str (Str.ofString "eof-in-comment") ty, .int (i - 1) ti']) :: r)))) → OwnOff ((q2, tupO [.str (Str.ofString "eof") t2]) :: ((q1, tupO [.str (Str.ofString "comment") t1, .str tx tt]) :: ((q, tupO [.str (Str.ofString "eof-in-comment") ty, .int (i - 1) ti']) :: r))) [dx, dst, sg, se, ot, er, ddr] → Q .none { s with heap := h', toks := tk' }) := by
  intro dp un gd cn cs a ccd cll outer A₀ base h₀ L m s Q E B F X N T hk hd hu hret
  refine wpAny_call ?_
  k_dflt cell_enter
  k_steps
  exact hret _ _ _ _ _ _ _ _ _ (by k_asm) (by k_asm) (by k_asm)
end
local macro_rules | `(tactic| walk_at "call ref") => `(tactic| k_dflt ((first
  | ((with_reducible show wpAny _ _ (call (Value.ref 42) _) _ _ _); refine' null_c ?hA ?hr ?p0 ?p1 ?p2 _ _ _ _ _ _ _ _ _ _ _ _ _ _ _ _ _ ?B ?F ?X ?N ?T ?k ?d ?u ?_)
  | ((with_reducible show wpAny _ _ (call (Value.ref 28) _) _ _ _); refine' close_c ?hA ?hr ?p0 ?p1 _ _ _ _ _ _ _ _ _ _ _ _ _ _ _ _ _ ?B ?F ?X ?N ?T ?k ?d ?u ?_)
  | ((with_reducible show wpAny _ _ (call (Value.ref 35) _) _ _ _); refine' endc_c ?hA ?hr ?p0 ?p1 ?p2 _ _ _ _ _ _ _ _ _ _ _ _ _ _ _ _ _ ?B ?F ?X ?N ?T ?k ?d ?u ?_)); (case N => k_asm); (case F => k_asm); (case B => k_asm); (case X => k_asm); (case T => k_asm); (case k => first | exact rfl | assumption); (case d => ktr_room); (case u => ktr_units); (case hA => assumption); (case hr => assumption); (try case p0 => first | assumption | rfl | first | assumption | (simp only [Array.size_push]; omega) | omega); (try case p1 => first | assumption | rfl | first | assumption | (simp only [Array.size_push]; omega) | omega); (try case p2 => first | assumption | rfl | first | assumption | (simp only [Array.size_push]; omega) | omega); intro y'; intros; (try k_sweep)))
section
open PySem PySem.W PySem.Calls PyProof.Rows
set_option linter.unusedVariables false
theorem calm3 : True := by
  w_top off
  first | walk1 | trivial
theorem fillC1 : PySem.Challenge.rw_nt0605_02 = PySem.Challenge.rw_nt0605_02 ∧ topK = topK := by
  k_fill
  exact ⟨rfl, rfl⟩


variable {w : World} {p : Program} {loose : List Str} {mean : ExcName → Option Value} {mg mb : Str → Option Value} {k0 k1 k2 k3 k4 k5 k6 k7 k8 k9 k10 k11 k12 k13 v0 v1 v2 v3 g0 g1 g2 g3 g4 g5 g6 g7 : Tok} {x dx st dst sg se ot er dr ddr da sm : Nat} {osm : Obj} {tb tu tc tl tg th : Tok}
  {i : Int} {ti : Tok} {z : Str} {tz : Tok} {dv : Value} {wa dn cl rt : Bool} {vs : Array Value} {ns : Nat} {vse : Array Value} {nse : Nat} {es : List Dat} {tx : Str} {tt : Tok} {vo : Array Value} {no : Nat} {ve : Array Value} {ne : Nat} {r ro ex : Led}
set_option maxRecDepth 100000 in
set_option maxHeartbeats 8000000 in
theorem st_start (hA : Apart x dx st dst sg se ot er dr ddr da sm) (hr : OwnOff r [dx, dst, sg, se, ot, er, ddr]) (c : Str) (tcc : Tok) (hi : 0 ≤ i) (hs : vs.size ≤ 1000) (hi2 : i ≤ 1000) (hc : i < vs.size → vs[i.toNat]? = some (.str c tcc)) (hc2 : ¬ (i < vs.size) → c = Str.ofString "") (hv : dv = .ref dr) (ho : vo.size ≤ 900) (he : ve.size ≤ 900) (hx : tx.length ≤ 1000) (hcl : c.length ≤ 1) : CallC w p loose mean mg mb 49 [.ref x] 8 32 (core w.params k0 k1 k2 k3 k4 k5 k6 k7 k8 k9 k10 k11 k12 k13 v0 v1 v2 v3 g0 g1 g2 g3 g4 g5 g6 g7 x dx st dst sg se ot er dr ddr da sm osm tb tu tc tl tg th i ti z tz dv wa dn cl rt vs ns vse nse tx tt vo no ve ne r)
    (fun h₀ L m s Q => (((c == (Str.ofString "-")) = true) → ∀ ti' tz' h' tk', Fr h₀ L h' m → News h₀ L h' (core w.params k0 k1 k2 k3 k4 k5 k6 k7 k8 k9 k10 k11 k12 k13 v0 v1 v2 v3 g0 g1 g2 g3 g4 g5 g6 g7 x dx st dst sg se ot er dr ddr da sm osm tb tu tc tl tg th (i + 1) ti' (Str.ofString "comment start dash") tz' dv wa dn cl rt vs ns vse nse tx tt vo no ve ne r) → Q .none { s with heap := h', toks := tk' })
      ∧ ((¬ (c == (Str.ofString "-")) = true) → ((c == (Str.ofString ">")) = true) → ∀ ti' q ty ti2 q1 t1 tz' h' tk', Fr h₀ L h' m → News h₀ L h' (core w.params k0 k1 k2 k3 k4 k5 k6 k7 k8 k9 k10 k11 k12 k13 v0 v1 v2 v3 g0 g1 g2 g3 g4 g5 g6 g7 x dx st dst sg se ot er dr ddr da sm osm tb tu tc tl tg th (i + 1) ti' (Str.ofString "data") tz' .none wa dn cl rt vs ns vse nse tx tt (vo.push (.ref q1)) (no + 1) (ve.push (.ref q)) (ne + 1) ((q1, tupO [.str (Str.ofString "comment") t1, .str tx tt]) :: ((q, tupO [.str (Str.ofString "abrupt-closing-of-empty-comment") ty, .int (i + 1 - 1) ti2]) :: r))) → OwnOff ((q1, tupO [.str (Str.ofString "comment") t1, .str tx tt]) :: ((q, tupO [.str (Str.ofString "abrupt-closing-of-empty-comment") ty, .int (i + 1 - 1) ti2]) :: r)) [dx, dst, sg, se, ot, er, ddr] → Q .none { s with heap := h', toks := tk' })
      ∧ ((¬ (c == (Str.ofString "-")) = true) → (¬ (c == (Str.ofString ">")) = true) → ∀ ti' tz' h' tk', Fr h₀ L h' m → News h₀ L h' (core w.params k0 k1 k2 k3 k4 k5 k6 k7 k8 k9 k10 k11 k12 k13 v0 v1 v2 v3 g0 g1 g2 g3 g4 g5 g6 g7 x dx st dst sg se ot er dr ddr da sm osm tb tu tc tl tg th (i + 1 - 1) ti' (Str.ofString "comment") tz' dv wa dn cl rt vs ns vse nse tx tt vo no ve ne r) → Q .none { s with heap := h', toks := tk' })) := by
  intro dp un gd cn cs a ccd cll outer A₀ base h₀ L m s Q E B F X N T hk hd hu hret
  refine wpAny_call ?_
  k_dflt cell_enter
  obtain ⟨w0, w1, w2⟩ := hret
  subst hv
  k_steps
  · exact w0 (by first | assumption | simp_all) _ _ _ _ (by k_asm) (by k_asm)
  · exact w1 (by first | assumption | simp_all) (by first | assumption | simp_all) _ _ _ _ _ _ _ _ _ (by k_asm) (by k_asm) (by k_asm)
  · exact w2 (by first | assumption | simp_all) (by first | assumption | simp_all) _ _ _ _ (by k_asm) (by k_asm)

set_option maxRecDepth 100000 in
set_option maxHeartbeats 8000000 in
theorem st_start_dash (hA : Apart x dx st dst sg se ot er dr ddr da sm) (hr : OwnOff r [dx, dst, sg, se, ot, er, ddr]) (c : Str) (tcc : Tok) (hi : 0 ≤ i) (hs : vs.size ≤ 1000) (hi2 : i ≤ 1000) (hc : i < vs.size → vs[i.toNat]? = some (.str c tcc)) (hc2 : ¬ (i < vs.size) → c = Str.ofString "") (hv : dv = .ref dr) (ho : vo.size ≤ 900) (he : ve.size ≤ 900) (hx : tx.length ≤ 1000) (hcl : c.length ≤ 1) : CallC w p loose mean mg mb 56 [.ref x] 8 32 (core w.params k0 k1 k2 k3 k4 k5 k6 k7 k8 k9 k10 k11 k12 k13 v0 v1 v2 v3 g0 g1 g2 g3 g4 g5 g6 g7 x dx st dst sg se ot er dr ddr da sm osm tb tu tc tl tg th i ti z tz dv wa dn cl rt vs ns vse nse tx tt vo no ve ne r)
    (fun h₀ L m s Q => (((c == (Str.ofString "-")) = true) → ∀ ti' tz' h' tk', Fr h₀ L h' m → News h₀ L h' (core w.params k0 k1 k2 k3 k4 k5 k6 k7 k8 k9 k10 k11 k12 k13 v0 v1 v2 v3 g0 g1 g2 g3 g4 g5 g6 g7 x dx st dst sg se ot er dr ddr da sm osm tb tu tc tl tg th (i + 1) ti' (Str.ofString "comment end") tz' dv wa dn cl rt vs ns vse nse tx tt vo no ve ne r) → Q .none { s with heap := h', toks := tk' })
      ∧ ((¬ (c == (Str.ofString "-")) = true) → ((c == (Str.ofString ">")) = true) → ∀ ti' q ty ti2 q1 t1 tz' h' tk', Fr h₀ L h' m → News h₀ L h' (core w.params k0 k1 k2 k3 k4 k5 k6 k7 k8 k9 k10 k11 k12 k13 v0 v1 v2 v3 g0 g1 g2 g3 g4 g5 g6 g7 x dx st dst sg se ot er dr ddr da sm osm tb tu tc tl tg th (i + 1) ti' (Str.ofString "data") tz' .none wa dn cl rt vs ns vse nse tx tt (vo.push (.ref q1)) (no + 1) (ve.push (.ref q)) (ne + 1) ((q1, tupO [.str (Str.ofString "comment") t1, .str tx tt]) :: ((q, tupO [.str (Str.ofString "abrupt-closing-of-empty-comment") ty, .int (i + 1 - 1) ti2]) :: r))) → OwnOff ((q1, tupO [.str (Str.ofString "comment") t1, .str tx tt]) :: ((q, tupO [.str (Str.ofString "abrupt-closing-of-empty-comment") ty, .int (i + 1 - 1) ti2]) :: r)) [dx, dst, sg, se, ot, er, ddr] → Q .none { s with heap := h', toks := tk' })
      ∧ ((¬ (c == (Str.ofString "-")) = true) → (¬ (c == (Str.ofString ">")) = true) → ((c == (Str.ofString "")) = true) → ∀ ti' q ty ti2 q1 t1 q2 t2 h' tk', Fr h₀ L h' m → News h₀ L h' (core w.params k0 k1 k2 k3 k4 k5 k6 k7 k8 k9 k10 k11 k12 k13 v0 v1 v2 v3 g0 g1 g2 g3 g4 g5 g6 g7 x dx st dst sg se ot er dr ddr da sm osm tb tu tc tl tg th (i + 1) ti' z tz .none wa true cl rt vs ns vse nse tx tt ((vo.push (.ref q1)).push (.ref q2)) (no + 1 + 1) (ve.push (.ref q)) (ne + 1) ((q2, tupO [.str (Str.ofString "eof") t2]) :: ((q1, tupO [.str (Str.ofString "comment") t1, .str tx tt]) :: ((q, tupO [.str (Str.ofString "eof-in-comment") ty, .int (i + 1 - 1) ti2]) :: r)))) → OwnOff ((q2, tupO [.str (Str.ofString "eof") t2]) :: ((q1, tupO [.str (Str.ofString "comment") t1, .str tx tt]) :: ((q, tupO [.str (Str.ofString "eof-in-comment") ty, .int (i + 1 - 1) ti2]) :: r))) [dx, dst, sg, se, ot, er, ddr] → Q .none { s with heap := h', toks := tk' })
      ∧ ((¬ (c == (Str.ofString "-")) = true) → (¬ (c == (Str.ofString ">")) = true) → (¬ (c == (Str.ofString "")) = true) → ∀ ti' tt' tz' h' tk', Fr h₀ L h' m → News h₀ L h' (core w.params k0 k1 k2 k3 k4 k5 k6 k7 k8 k9 k10 k11 k12 k13 v0 v1 v2 v3 g0 g1 g2 g3 g4 g5 g6 g7 x dx st dst sg se ot er dr ddr da sm osm tb tu tc tl tg th (i + 1 - 1) ti' (Str.ofString "comment") tz' dv wa dn cl rt vs ns vse nse (tx ++ (Str.ofString "-")) tt' vo no ve ne r) → Q .none { s with heap := h', toks := tk' })) := by
  intro dp un gd cn cs a ccd cll outer A₀ base h₀ L m s Q E B F X N T hk hd hu hret
  refine wpAny_call ?_
  k_dflt cell_enter
  obtain ⟨w0, w1, w2, w3⟩ := hret
  subst hv
  k_steps
  · exact w0 (by first | assumption | simp_all) _ _ _ _ (by k_asm) (by k_asm)
  · exact w1 (by first | assumption | simp_all) (by first | assumption | simp_all) _ _ _ _ _ _ _ _ _ (by k_asm) (by k_asm) (by k_asm)
  · exact w2 (by first | assumption | simp_all) (by first | assumption | simp_all) (by first | assumption | simp_all) _ _ _ _ _ _ _ _ _ _ (by k_asm) (by k_asm) (by k_asm)
  · exact w3 (by first | assumption | simp_all) (by first | assumption | simp_all) (by first | assumption | simp_all) _ _ _ _ _ (by k_asm) (by k_asm)

set_option maxRecDepth 100000 in
set_option maxHeartbeats 8000000 in
theorem st_comment (hA : Apart x dx st dst sg se ot er dr ddr da sm) (hr : OwnOff r [dx, dst, sg, se, ot, er, ddr]) (c : Str) (tcc : Tok) (hi : 0 ≤ i) (hs : vs.size ≤ 1000) (hi2 : i ≤ 1000) (hc : i < vs.size → vs[i.toNat]? = some (.str c tcc)) (hc2 : ¬ (i < vs.size) → c = Str.ofString "") (hv : dv = .ref dr) (ho : vo.size ≤ 900) (he : ve.size ≤ 900) (hx : tx.length ≤ 1000) (hcl : c.length ≤ 1) : CallC w p loose mean mg mb 63 [.ref x] 8 32 (core w.params k0 k1 k2 k3 k4 k5 k6 k7 k8 k9 k10 k11 k12 k13 v0 v1 v2 v3 g0 g1 g2 g3 g4 g5 g6 g7 x dx st dst sg se ot er dr ddr da sm osm tb tu tc tl tg th i ti z tz dv wa dn cl rt vs ns vse nse tx tt vo no ve ne r)
    (fun h₀ L m s Q => (((c == (Str.ofString "<")) = true) → ∀ ti' tt' tz' h' tk', Fr h₀ L h' m → News h₀ L h' (core w.params k0 k1 k2 k3 k4 k5 k6 k7 k8 k9 k10 k11 k12 k13 v0 v1 v2 v3 g0 g1 g2 g3 g4 g5 g6 g7 x dx st dst sg se ot er dr ddr da sm osm tb tu tc tl tg th (i + 1) ti' (Str.ofString "comment less-than sign") tz' dv wa dn cl rt vs ns vse nse (tx ++ c) tt' vo no ve ne r) → Q .none { s with heap := h', toks := tk' })
      ∧ ((¬ (c == (Str.ofString "<")) = true) → ((c == (Str.ofString "-")) = true) → ∀ ti' tz' h' tk', Fr h₀ L h' m → News h₀ L h' (core w.params k0 k1 k2 k3 k4 k5 k6 k7 k8 k9 k10 k11 k12 k13 v0 v1 v2 v3 g0 g1 g2 g3 g4 g5 g6 g7 x dx st dst sg se ot er dr ddr da sm osm tb tu tc tl tg th (i + 1) ti' (Str.ofString "comment end dash") tz' dv wa dn cl rt vs ns vse nse tx tt vo no ve ne r) → Q .none { s with heap := h', toks := tk' })
      ∧ ((¬ (c == (Str.ofString "<")) = true) → (¬ (c == (Str.ofString "-")) = true) → ((c == (Str.ofString "\x00")) = true) → ∀ ti' q ty ti2 tt' h' tk', Fr h₀ L h' m → News h₀ L h' (core w.params k0 k1 k2 k3 k4 k5 k6 k7 k8 k9 k10 k11 k12 k13 v0 v1 v2 v3 g0 g1 g2 g3 g4 g5 g6 g7 x dx st dst sg se ot er dr ddr da sm osm tb tu tc tl tg th (i + 1) ti' z tz dv wa dn cl rt vs ns vse nse (tx ++ (Str.ofString "�")) tt' vo no (ve.push (.ref q)) (ne + 1) ((q, tupO [.str (Str.ofString "unexpected-null-character") ty, .int (i + 1 - 1) ti2]) :: r)) → OwnOff ((q, tupO [.str (Str.ofString "unexpected-null-character") ty, .int (i + 1 - 1) ti2]) :: r) [dx, dst, sg, se, ot, er, ddr] → Q .none { s with heap := h', toks := tk' })
      ∧ ((¬ (c == (Str.ofString "<")) = true) → (¬ (c == (Str.ofString "-")) = true) → (¬ (c == (Str.ofString "\x00")) = true) → ((c == (Str.ofString "")) = true) → ∀ ti' q ty ti2 q1 t1 q2 t2 h' tk', Fr h₀ L h' m → News h₀ L h' (core w.params k0 k1 k2 k3 k4 k5 k6 k7 k8 k9 k10 k11 k12 k13 v0 v1 v2 v3 g0 g1 g2 g3 g4 g5 g6 g7 x dx st dst sg se ot er dr ddr da sm osm tb tu tc tl tg th (i + 1) ti' z tz .none wa true cl rt vs ns vse nse tx tt ((vo.push (.ref q1)).push (.ref q2)) (no + 1 + 1) (ve.push (.ref q)) (ne + 1) ((q2, tupO [.str (Str.ofString "eof") t2]) :: ((q1, tupO [.str (Str.ofString "comment") t1, .str tx tt]) :: ((q, tupO [.str (Str.ofString "eof-in-comment") ty, .int (i + 1 - 1) ti2]) :: r)))) → OwnOff ((q2, tupO [.str (Str.ofString "eof") t2]) :: ((q1, tupO [.str (Str.ofString "comment") t1, .str tx tt]) :: ((q, tupO [.str (Str.ofString "eof-in-comment") ty, .int (i + 1 - 1) ti2]) :: r))) [dx, dst, sg, se, ot, er, ddr] → Q .none { s with heap := h', toks := tk' })
      ∧ ((¬ (c == (Str.ofString "<")) = true) → (¬ (c == (Str.ofString "-")) = true) → (¬ (c == (Str.ofString "\x00")) = true) → (¬ (c == (Str.ofString "")) = true) → ∀ ti' tt' h' tk', Fr h₀ L h' m → News h₀ L h' (core w.params k0 k1 k2 k3 k4 k5 k6 k7 k8 k9 k10 k11 k12 k13 v0 v1 v2 v3 g0 g1 g2 g3 g4 g5 g6 g7 x dx st dst sg se ot er dr ddr da sm osm tb tu tc tl tg th (i + 1) ti' z tz dv wa dn cl rt vs ns vse nse (tx ++ c) tt' vo no ve ne r) → Q .none { s with heap := h', toks := tk' })) := by
  intro dp un gd cn cs a ccd cll outer A₀ base h₀ L m s Q E B F X N T hk hd hu hret
  refine wpAny_call ?_
  k_dflt cell_enter
  obtain ⟨w0, w1, w2, w3, w4⟩ := hret
  subst hv
  k_steps
  · exact w0 (by first | assumption | simp_all) _ _ _ _ _ (by k_asm) (by k_asm)
  · exact w1 (by first | assumption | simp_all) (by first | assumption | simp_all) _ _ _ _ (by k_asm) (by k_asm)
  · exact w2 (by first | assumption | simp_all) (by first | assumption | simp_all) (by first | assumption | simp_all) _ _ _ _ _ _ _ (by k_asm) (by k_asm) (by k_asm)
  · exact w3 (by first | assumption | simp_all) (by first | assumption | simp_all) (by first | assumption | simp_all) (by first | assumption | simp_all) _ _ _ _ _ _ _ _ _ _ (by k_asm) (by k_asm) (by k_asm)
  · exact w4 (by first | assumption | simp_all) (by first | assumption | simp_all) (by first | assumption | simp_all) (by first | assumption | simp_all) _ _ _ _ (by k_asm) (by k_asm)
end
section
open PySem PySem.W PySem.Calls PyProof.Rows
set_option linter.unusedVariables false
theorem calm4 : True := by
  w_top off
  first | walk1 | trivial
theorem fillC2 : PySem.Challenge.rw_nt0605_02 = PySem.Challenge.rw_nt0605_02 ∧ topK = topK := by
  k_fill
  exact ⟨rfl, rfl⟩


variable {w : World} {p : Program} {loose : List Str} {mean : ExcName → Option Value} {mg mb : Str → Option Value} {k0 k1 k2 k3 k4 k5 k6 k7 k8 k9 k10 k11 k12 k13 v0 v1 v2 v3 g0 g1 g2 g3 g4 g5 g6 g7 : Tok} {x dx st dst sg se ot er dr ddr da sm : Nat} {osm : Obj} {tb tu tc tl tg th : Tok}
  {i : Int} {ti : Tok} {z : Str} {tz : Tok} {dv : Value} {wa dn cl rt : Bool} {vs : Array Value} {ns : Nat} {vse : Array Value} {nse : Nat} {es : List Dat} {tx : Str} {tt : Tok} {vo : Array Value} {no : Nat} {ve : Array Value} {ne : Nat} {r ro ex : Led}
set_option maxRecDepth 100000 in
set_option maxHeartbeats 8000000 in
theorem st_lt (hA : Apart x dx st dst sg se ot er dr ddr da sm) (hr : OwnOff r [dx, dst, sg, se, ot, er, ddr]) (c : Str) (tcc : Tok) (hi : 0 ≤ i) (hs : vs.size ≤ 1000) (hi2 : i ≤ 1000) (hc : i < vs.size → vs[i.toNat]? = some (.str c tcc)) (hc2 : ¬ (i < vs.size) → c = Str.ofString "") (hv : dv = .ref dr) (ho : vo.size ≤ 900) (he : ve.size ≤ 900) (hx : tx.length ≤ 1000) (hcl : c.length ≤ 1) : CallC w p loose mean mg mb 70 [.ref x] 8 32 (core w.params k0 k1 k2 k3 k4 k5 k6 k7 k8 k9 k10 k11 k12 k13 v0 v1 v2 v3 g0 g1 g2 g3 g4 g5 g6 g7 x dx st dst sg se ot er dr ddr da sm osm tb tu tc tl tg th i ti z tz dv wa dn cl rt vs ns vse nse tx tt vo no ve ne r)
    (fun h₀ L m s Q => (((c == (Str.ofString "!")) = true) → ∀ ti' tt' tz' h' tk', Fr h₀ L h' m → News h₀ L h' (core w.params k0 k1 k2 k3 k4 k5 k6 k7 k8 k9 k10 k11 k12 k13 v0 v1 v2 v3 g0 g1 g2 g3 g4 g5 g6 g7 x dx st dst sg se ot er dr ddr da sm osm tb tu tc tl tg th (i + 1) ti' (Str.ofString "comment less-than sign bang") tz' dv wa dn cl rt vs ns vse nse (tx ++ c) tt' vo no ve ne r) → Q .none { s with heap := h', toks := tk' })
      ∧ ((¬ (c == (Str.ofString "!")) = true) → ((c == (Str.ofString "<")) = true) → ∀ ti' tt' h' tk', Fr h₀ L h' m → News h₀ L h' (core w.params k0 k1 k2 k3 k4 k5 k6 k7 k8 k9 k10 k11 k12 k13 v0 v1 v2 v3 g0 g1 g2 g3 g4 g5 g6 g7 x dx st dst sg se ot er dr ddr da sm osm tb tu tc tl tg th (i + 1) ti' z tz dv wa dn cl rt vs ns vse nse (tx ++ c) tt' vo no ve ne r) → Q .none { s with heap := h', toks := tk' })
      ∧ ((¬ (c == (Str.ofString "!")) = true) → (¬ (c == (Str.ofString "<")) = true) → ∀ ti' tz' h' tk', Fr h₀ L h' m → News h₀ L h' (core w.params k0 k1 k2 k3 k4 k5 k6 k7 k8 k9 k10 k11 k12 k13 v0 v1 v2 v3 g0 g1 g2 g3 g4 g5 g6 g7 x dx st dst sg se ot er dr ddr da sm osm tb tu tc tl tg th (i + 1 - 1) ti' (Str.ofString "comment") tz' dv wa dn cl rt vs ns vse nse tx tt vo no ve ne r) → Q .none { s with heap := h', toks := tk' })) := by
  intro dp un gd cn cs a ccd cll outer A₀ base h₀ L m s Q E B F X N T hk hd hu hret
  refine wpAny_call ?_
  k_dflt cell_enter
  obtain ⟨w0, w1, w2⟩ := hret
  subst hv
  k_steps
  · exact w0 (by first | assumption | simp_all) _ _ _ _ _ (by k_asm) (by k_asm)
  · exact w1 (by first | assumption | simp_all) (by first | assumption | simp_all) _ _ _ _ (by k_asm) (by k_asm)
  · exact w2 (by first | assumption | simp_all) (by first | assumption | simp_all) _ _ _ _ (by k_asm) (by k_asm)

set_option maxRecDepth 100000 in
set_option maxHeartbeats 8000000 in
theorem st_bang (hA : Apart x dx st dst sg se ot er dr ddr da sm) (hr : OwnOff r [dx, dst, sg, se, ot, er, ddr]) (c : Str) (tcc : Tok) (hi : 0 ≤ i) (hs : vs.size ≤ 1000) (hi2 : i ≤ 1000) (hc : i < vs.size → vs[i.toNat]? = some (.str c tcc)) (hc2 : ¬ (i < vs.size) → c = Str.ofString "") (hv : dv = .ref dr) (ho : vo.size ≤ 900) (he : ve.size ≤ 900) (hx : tx.length ≤ 1000) (hcl : c.length ≤ 1) : CallC w p loose mean mg mb 77 [.ref x] 8 32 (core w.params k0 k1 k2 k3 k4 k5 k6 k7 k8 k9 k10 k11 k12 k13 v0 v1 v2 v3 g0 g1 g2 g3 g4 g5 g6 g7 x dx st dst sg se ot er dr ddr da sm osm tb tu tc tl tg th i ti z tz dv wa dn cl rt vs ns vse nse tx tt vo no ve ne r)
    (fun h₀ L m s Q => (((c == (Str.ofString "-")) = true) → ∀ ti' tz' h' tk', Fr h₀ L h' m → News h₀ L h' (core w.params k0 k1 k2 k3 k4 k5 k6 k7 k8 k9 k10 k11 k12 k13 v0 v1 v2 v3 g0 g1 g2 g3 g4 g5 g6 g7 x dx st dst sg se ot er dr ddr da sm osm tb tu tc tl tg th (i + 1) ti' (Str.ofString "comment less-than sign bang dash") tz' dv wa dn cl rt vs ns vse nse tx tt vo no ve ne r) → Q .none { s with heap := h', toks := tk' })
      ∧ ((¬ (c == (Str.ofString "-")) = true) → ∀ ti' tz' h' tk', Fr h₀ L h' m → News h₀ L h' (core w.params k0 k1 k2 k3 k4 k5 k6 k7 k8 k9 k10 k11 k12 k13 v0 v1 v2 v3 g0 g1 g2 g3 g4 g5 g6 g7 x dx st dst sg se ot er dr ddr da sm osm tb tu tc tl tg th (i + 1 - 1) ti' (Str.ofString "comment") tz' dv wa dn cl rt vs ns vse nse tx tt vo no ve ne r) → Q .none { s with heap := h', toks := tk' })) := by
  intro dp un gd cn cs a ccd cll outer A₀ base h₀ L m s Q E B F X N T hk hd hu hret
  refine wpAny_call ?_
  k_dflt cell_enter
  obtain ⟨w0, w1⟩ := hret
  subst hv
  k_steps
  · exact w0 (by first | assumption | simp_all) _ _ _ _ (by k_asm) (by k_asm)
  · exact w1 (by first | assumption | simp_all) _ _ _ _ (by k_asm) (by k_asm)

set_option maxRecDepth 100000 in
set_option maxHeartbeats 8000000 in
theorem st_bang_dash (hA : Apart x dx st dst sg se ot er dr ddr da sm) (hr : OwnOff r [dx, dst, sg, se, ot, er, ddr]) (c : Str) (tcc : Tok) (hi : 0 ≤ i) (hs : vs.size ≤ 1000) (hi2 : i ≤ 1000) (hc : i < vs.size → vs[i.toNat]? = some (.str c tcc)) (hc2 : ¬ (i < vs.size) → c = Str.ofString "") (hv : dv = .ref dr) (ho : vo.size ≤ 900) (he : ve.size ≤ 900) (hx : tx.length ≤ 1000) (hcl : c.length ≤ 1) : CallC w p loose mean mg mb 84 [.ref x] 8 32 (core w.params k0 k1 k2 k3 k4 k5 k6 k7 k8 k9 k10 k11 k12 k13 v0 v1 v2 v3 g0 g1 g2 g3 g4 g5 g6 g7 x dx st dst sg se ot er dr ddr da sm osm tb tu tc tl tg th i ti z tz dv wa dn cl rt vs ns vse nse tx tt vo no ve ne r)
    (fun h₀ L m s Q => (((c == (Str.ofString "-")) = true) → ∀ ti' tz' h' tk', Fr h₀ L h' m → News h₀ L h' (core w.params k0 k1 k2 k3 k4 k5 k6 k7 k8 k9 k10 k11 k12 k13 v0 v1 v2 v3 g0 g1 g2 g3 g4 g5 g6 g7 x dx st dst sg se ot er dr ddr da sm osm tb tu tc tl tg th (i + 1) ti' (Str.ofString "comment less-than sign bang dash dash") tz' dv wa dn cl rt vs ns vse nse tx tt vo no ve ne r) → Q .none { s with heap := h', toks := tk' })
      ∧ ((¬ (c == (Str.ofString "-")) = true) → ∀ ti' tz' h' tk', Fr h₀ L h' m → News h₀ L h' (core w.params k0 k1 k2 k3 k4 k5 k6 k7 k8 k9 k10 k11 k12 k13 v0 v1 v2 v3 g0 g1 g2 g3 g4 g5 g6 g7 x dx st dst sg se ot er dr ddr da sm osm tb tu tc tl tg th (i + 1 - 1) ti' (Str.ofString "comment end dash") tz' dv wa dn cl rt vs ns vse nse tx tt vo no ve ne r) → Q .none { s with heap := h', toks := tk' })) := by
  intro dp un gd cn cs a ccd cll outer A₀ base h₀ L m s Q E B F X N T hk hd hu hret
  refine wpAny_call ?_
  k_dflt cell_enter
  obtain ⟨w0, w1⟩ := hret
  subst hv
  k_steps
  · exact w0 (by first | assumption | simp_all) _ _ _ _ (by k_asm) (by k_asm)
  · exact w1 (by first | assumption | simp_all) _ _ _ _ (by k_asm) (by k_asm)

set_option maxRecDepth 100000 in
set_option maxHeartbeats 8000000 in
theorem st_end_dash (hA : Apart x dx st dst sg se ot er dr ddr da sm) (hr : OwnOff r [dx, dst, sg, se, ot, er, ddr]) (c : Str) (tcc : Tok) (hi : 0 ≤ i) (hs : vs.size ≤ 1000) (hi2 : i ≤ 1000) (hc : i < vs.size → vs[i.toNat]? = some (.str c tcc)) (hc2 : ¬ (i < vs.size) → c = Str.ofString "") (hv : dv = .ref dr) (ho : vo.size ≤ 900) (he : ve.size ≤ 900) (hx : tx.length ≤ 1000) (hcl : c.length ≤ 1) : CallC w p loose mean mg mb 98 [.ref x] 8 32 (core w.params k0 k1 k2 k3 k4 k5 k6 k7 k8 k9 k10 k11 k12 k13 v0 v1 v2 v3 g0 g1 g2 g3 g4 g5 g6 g7 x dx st dst sg se ot er dr ddr da sm osm tb tu tc tl tg th i ti z tz dv wa dn cl rt vs ns vse nse tx tt vo no ve ne r)
    (fun h₀ L m s Q => (((c == (Str.ofString "-")) = true) → ∀ ti' tz' h' tk', Fr h₀ L h' m → News h₀ L h' (core w.params k0 k1 k2 k3 k4 k5 k6 k7 k8 k9 k10 k11 k12 k13 v0 v1 v2 v3 g0 g1 g2 g3 g4 g5 g6 g7 x dx st dst sg se ot er dr ddr da sm osm tb tu tc tl tg th (i + 1) ti' (Str.ofString "comment end") tz' dv wa dn cl rt vs ns vse nse tx tt vo no ve ne r) → Q .none { s with heap := h', toks := tk' })
      ∧ ((¬ (c == (Str.ofString "-")) = true) → ((c == (Str.ofString "")) = true) → ∀ ti' q ty ti2 q1 t1 q2 t2 h' tk', Fr h₀ L h' m → News h₀ L h' (core w.params k0 k1 k2 k3 k4 k5 k6 k7 k8 k9 k10 k11 k12 k13 v0 v1 v2 v3 g0 g1 g2 g3 g4 g5 g6 g7 x dx st dst sg se ot er dr ddr da sm osm tb tu tc tl tg th (i + 1) ti' z tz .none wa true cl rt vs ns vse nse tx tt ((vo.push (.ref q1)).push (.ref q2)) (no + 1 + 1) (ve.push (.ref q)) (ne + 1) ((q2, tupO [.str (Str.ofString "eof") t2]) :: ((q1, tupO [.str (Str.ofString "comment") t1, .str tx tt]) :: ((q, tupO [.str (Str.ofString "eof-in-comment") ty, .int (i + 1 - 1) ti2]) :: r)))) → OwnOff ((q2, tupO [.str (Str.ofString "eof") t2]) :: ((q1, tupO [.str (Str.ofString "comment") t1, .str tx tt]) :: ((q, tupO [.str (Str.ofString "eof-in-comment") ty, .int (i + 1 - 1) ti2]) :: r))) [dx, dst, sg, se, ot, er, ddr] → Q .none { s with heap := h', toks := tk' })
      ∧ ((¬ (c == (Str.ofString "-")) = true) → (¬ (c == (Str.ofString "")) = true) → ∀ ti' tt' tz' h' tk', Fr h₀ L h' m → News h₀ L h' (core w.params k0 k1 k2 k3 k4 k5 k6 k7 k8 k9 k10 k11 k12 k13 v0 v1 v2 v3 g0 g1 g2 g3 g4 g5 g6 g7 x dx st dst sg se ot er dr ddr da sm osm tb tu tc tl tg th (i + 1 - 1) ti' (Str.ofString "comment") tz' dv wa dn cl rt vs ns vse nse (tx ++ (Str.ofString "-")) tt' vo no ve ne r) → Q .none { s with heap := h', toks := tk' })) := by
  intro dp un gd cn cs a ccd cll outer A₀ base h₀ L m s Q E B F X N T hk hd hu hret
  refine wpAny_call ?_
  k_dflt cell_enter
  obtain ⟨w0, w1, w2⟩ := hret
  subst hv
  k_steps
  · exact w0 (by first | assumption | simp_all) _ _ _ _ (by k_asm) (by k_asm)
  · exact w1 (by first | assumption | simp_all) (by first | assumption | simp_all) _ _ _ _ _ _ _ _ _ _ (by k_asm) (by k_asm) (by k_asm)
  · exact w2 (by first | assumption | simp_all) (by first | assumption | simp_all) _ _ _ _ _ (by k_asm) (by k_asm)
end
section
open PySem PySem.W PySem.Calls PyProof.Rows
set_option linter.unusedVariables false
theorem calm5 : True := by
  w_top off
  first | walk1 | trivial
theorem fillC3 : PySem.Challenge.rw_nt0605_02 = PySem.Challenge.rw_nt0605_02 ∧ topK = topK := by
  k_fill
  exact ⟨rfl, rfl⟩


variable {w : World} {p : Program} {loose : List Str} {mean : ExcName → Option Value} {mg mb : Str → Option Value} {k0 k1 k2 k3 k4 k5 k6 k7 k8 k9 k10 k11 k12 k13 v0 v1 v2 v3 g0 g1 g2 g3 g4 g5 g6 g7 : Tok} {x dx st dst sg se ot er dr ddr da sm : Nat} {osm : Obj} {tb tu tc tl tg th : Tok}
  {i : Int} {ti : Tok} {z : Str} {tz : Tok} {dv : Value} {wa dn cl rt : Bool} {vs : Array Value} {ns : Nat} {vse : Array Value} {nse : Nat} {es : List Dat} {tx : Str} {tt : Tok} {vo : Array Value} {no : Nat} {ve : Array Value} {ne : Nat} {r ro ex : Led}
set_option maxRecDepth 100000 in
set_option maxHeartbeats 8000000 in
theorem st_end (hA : Apart x dx st dst sg se ot er dr ddr da sm) (hr : OwnOff r [dx, dst, sg, se, ot, er, ddr]) (c : Str) (tcc : Tok) (hi : 0 ≤ i) (hs : vs.size ≤ 1000) (hi2 : i ≤ 1000) (hc : i < vs.size → vs[i.toNat]? = some (.str c tcc)) (hc2 : ¬ (i < vs.size) → c = Str.ofString "") (hv : dv = .ref dr) (ho : vo.size ≤ 900) (he : ve.size ≤ 900) (hx : tx.length ≤ 1000) (hcl : c.length ≤ 1) : CallC w p loose mean mg mb 105 [.ref x] 8 32 (core w.params k0 k1 k2 k3 k4 k5 k6 k7 k8 k9 k10 k11 k12 k13 v0 v1 v2 v3 g0 g1 g2 g3 g4 g5 g6 g7 x dx st dst sg se ot er dr ddr da sm osm tb tu tc tl tg th i ti z tz dv wa dn cl rt vs ns vse nse tx tt vo no ve ne r)
    (fun h₀ L m s Q => (((c == (Str.ofString ">")) = true) → ∀ ti' q1 t1 tz' h' tk', Fr h₀ L h' m → News h₀ L h' (core w.params k0 k1 k2 k3 k4 k5 k6 k7 k8 k9 k10 k11 k12 k13 v0 v1 v2 v3 g0 g1 g2 g3 g4 g5 g6 g7 x dx st dst sg se ot er dr ddr da sm osm tb tu tc tl tg th (i + 1) ti' (Str.ofString "data") tz' .none wa dn cl rt vs ns vse nse tx tt (vo.push (.ref q1)) (no + 1) ve ne ((q1, tupO [.str (Str.ofString "comment") t1, .str tx tt]) :: r)) → OwnOff ((q1, tupO [.str (Str.ofString "comment") t1, .str tx tt]) :: r) [dx, dst, sg, se, ot, er, ddr] → Q .none { s with heap := h', toks := tk' })
      ∧ ((¬ (c == (Str.ofString ">")) = true) → ((c == (Str.ofString "!")) = true) → ∀ ti' tz' h' tk', Fr h₀ L h' m → News h₀ L h' (core w.params k0 k1 k2 k3 k4 k5 k6 k7 k8 k9 k10 k11 k12 k13 v0 v1 v2 v3 g0 g1 g2 g3 g4 g5 g6 g7 x dx st dst sg se ot er dr ddr da sm osm tb tu tc tl tg th (i + 1) ti' (Str.ofString "comment end bang") tz' dv wa dn cl rt vs ns vse nse tx tt vo no ve ne r) → Q .none { s with heap := h', toks := tk' })
      ∧ ((¬ (c == (Str.ofString ">")) = true) → (¬ (c == (Str.ofString "!")) = true) → ((c == (Str.ofString "-")) = true) → ∀ ti' tt' h' tk', Fr h₀ L h' m → News h₀ L h' (core w.params k0 k1 k2 k3 k4 k5 k6 k7 k8 k9 k10 k11 k12 k13 v0 v1 v2 v3 g0 g1 g2 g3 g4 g5 g6 g7 x dx st dst sg se ot er dr ddr da sm osm tb tu tc tl tg th (i + 1) ti' z tz dv wa dn cl rt vs ns vse nse (tx ++ (Str.ofString "-")) tt' vo no ve ne r) → Q .none { s with heap := h', toks := tk' })
      ∧ ((¬ (c == (Str.ofString ">")) = true) → (¬ (c == (Str.ofString "!")) = true) → (¬ (c == (Str.ofString "-")) = true) → ((c == (Str.ofString "")) = true) → ∀ ti' q ty ti2 q1 t1 q2 t2 h' tk', Fr h₀ L h' m → News h₀ L h' (core w.params k0 k1 k2 k3 k4 k5 k6 k7 k8 k9 k10 k11 k12 k13 v0 v1 v2 v3 g0 g1 g2 g3 g4 g5 g6 g7 x dx st dst sg se ot er dr ddr da sm osm tb tu tc tl tg th (i + 1) ti' z tz .none wa true cl rt vs ns vse nse tx tt ((vo.push (.ref q1)).push (.ref q2)) (no + 1 + 1) (ve.push (.ref q)) (ne + 1) ((q2, tupO [.str (Str.ofString "eof") t2]) :: ((q1, tupO [.str (Str.ofString "comment") t1, .str tx tt]) :: ((q, tupO [.str (Str.ofString "eof-in-comment") ty, .int (i + 1 - 1) ti2]) :: r)))) → OwnOff ((q2, tupO [.str (Str.ofString "eof") t2]) :: ((q1, tupO [.str (Str.ofString "comment") t1, .str tx tt]) :: ((q, tupO [.str (Str.ofString "eof-in-comment") ty, .int (i + 1 - 1) ti2]) :: r))) [dx, dst, sg, se, ot, er, ddr] → Q .none { s with heap := h', toks := tk' })
      ∧ ((¬ (c == (Str.ofString ">")) = true) → (¬ (c == (Str.ofString "!")) = true) → (¬ (c == (Str.ofString "-")) = true) → (¬ (c == (Str.ofString "")) = true) → ∀ ti' tt' tz' h' tk', Fr h₀ L h' m → News h₀ L h' (core w.params k0 k1 k2 k3 k4 k5 k6 k7 k8 k9 k10 k11 k12 k13 v0 v1 v2 v3 g0 g1 g2 g3 g4 g5 g6 g7 x dx st dst sg se ot er dr ddr da sm osm tb tu tc tl tg th (i + 1 - 1) ti' (Str.ofString "comment") tz' dv wa dn cl rt vs ns vse nse (tx ++ (Str.ofString "--")) tt' vo no ve ne r) → Q .none { s with heap := h', toks := tk' })) := by
  intro dp un gd cn cs a ccd cll outer A₀ base h₀ L m s Q E B F X N T hk hd hu hret
  refine wpAny_call ?_
  k_dflt cell_enter
  obtain ⟨w0, w1, w2, w3, w4⟩ := hret
  subst hv
  k_steps
  · exact w0 (by first | assumption | simp_all) _ _ _ _ _ _ (by k_asm) (by k_asm) (by k_asm)
  · exact w1 (by first | assumption | simp_all) (by first | assumption | simp_all) _ _ _ _ (by k_asm) (by k_asm)
  · exact w2 (by first | assumption | simp_all) (by first | assumption | simp_all) (by first | assumption | simp_all) _ _ _ _ (by k_asm) (by k_asm)
  · exact w3 (by first | assumption | simp_all) (by first | assumption | simp_all) (by first | assumption | simp_all) (by first | assumption | simp_all) _ _ _ _ _ _ _ _ _ _ (by k_asm) (by k_asm) (by k_asm)
  · exact w4 (by first | assumption | simp_all) (by first | assumption | simp_all) (by first | assumption | simp_all) (by first | assumption | simp_all) _ _ _ _ _ (by k_asm) (by k_asm)

set_option maxRecDepth 100000 in
set_option maxHeartbeats 8000000 in
theorem st_end_bang (hA : Apart x dx st dst sg se ot er dr ddr da sm) (hr : OwnOff r [dx, dst, sg, se, ot, er, ddr]) (c : Str) (tcc : Tok) (hi : 0 ≤ i) (hs : vs.size ≤ 1000) (hi2 : i ≤ 1000) (hc : i < vs.size → vs[i.toNat]? = some (.str c tcc)) (hc2 : ¬ (i < vs.size) → c = Str.ofString "") (hv : dv = .ref dr) (ho : vo.size ≤ 900) (he : ve.size ≤ 900) (hx : tx.length ≤ 1000) (hcl : c.length ≤ 1) : CallC w p loose mean mg mb 112 [.ref x] 8 32 (core w.params k0 k1 k2 k3 k4 k5 k6 k7 k8 k9 k10 k11 k12 k13 v0 v1 v2 v3 g0 g1 g2 g3 g4 g5 g6 g7 x dx st dst sg se ot er dr ddr da sm osm tb tu tc tl tg th i ti z tz dv wa dn cl rt vs ns vse nse tx tt vo no ve ne r)
    (fun h₀ L m s Q => (((c == (Str.ofString "-")) = true) → ∀ ti' tt' tz' h' tk', Fr h₀ L h' m → News h₀ L h' (core w.params k0 k1 k2 k3 k4 k5 k6 k7 k8 k9 k10 k11 k12 k13 v0 v1 v2 v3 g0 g1 g2 g3 g4 g5 g6 g7 x dx st dst sg se ot er dr ddr da sm osm tb tu tc tl tg th (i + 1) ti' (Str.ofString "comment end dash") tz' dv wa dn cl rt vs ns vse nse (tx ++ (Str.ofString "--!")) tt' vo no ve ne r) → Q .none { s with heap := h', toks := tk' })
      ∧ ((¬ (c == (Str.ofString "-")) = true) → ((c == (Str.ofString ">")) = true) → ∀ ti' q ty ti2 q1 t1 tz' h' tk', Fr h₀ L h' m → News h₀ L h' (core w.params k0 k1 k2 k3 k4 k5 k6 k7 k8 k9 k10 k11 k12 k13 v0 v1 v2 v3 g0 g1 g2 g3 g4 g5 g6 g7 x dx st dst sg se ot er dr ddr da sm osm tb tu tc tl tg th (i + 1) ti' (Str.ofString "data") tz' .none wa dn cl rt vs ns vse nse tx tt (vo.push (.ref q1)) (no + 1) (ve.push (.ref q)) (ne + 1) ((q1, tupO [.str (Str.ofString "comment") t1, .str tx tt]) :: ((q, tupO [.str (Str.ofString "incorrectly-closed-comment") ty, .int (i + 1 - 1) ti2]) :: r))) → OwnOff ((q1, tupO [.str (Str.ofString "comment") t1, .str tx tt]) :: ((q, tupO [.str (Str.ofString "incorrectly-closed-comment") ty, .int (i + 1 - 1) ti2]) :: r)) [dx, dst, sg, se, ot, er, ddr] → Q .none { s with heap := h', toks := tk' })
      ∧ ((¬ (c == (Str.ofString "-")) = true) → (¬ (c == (Str.ofString ">")) = true) → ((c == (Str.ofString "")) = true) → ∀ ti' q ty ti2 q1 t1 q2 t2 h' tk', Fr h₀ L h' m → News h₀ L h' (core w.params k0 k1 k2 k3 k4 k5 k6 k7 k8 k9 k10 k11 k12 k13 v0 v1 v2 v3 g0 g1 g2 g3 g4 g5 g6 g7 x dx st dst sg se ot er dr ddr da sm osm tb tu tc tl tg th (i + 1) ti' z tz .none wa true cl rt vs ns vse nse tx tt ((vo.push (.ref q1)).push (.ref q2)) (no + 1 + 1) (ve.push (.ref q)) (ne + 1) ((q2, tupO [.str (Str.ofString "eof") t2]) :: ((q1, tupO [.str (Str.ofString "comment") t1, .str tx tt]) :: ((q, tupO [.str (Str.ofString "eof-in-comment") ty, .int (i + 1 - 1) ti2]) :: r)))) → OwnOff ((q2, tupO [.str (Str.ofString "eof") t2]) :: ((q1, tupO [.str (Str.ofString "comment") t1, .str tx tt]) :: ((q, tupO [.str (Str.ofString "eof-in-comment") ty, .int (i + 1 - 1) ti2]) :: r))) [dx, dst, sg, se, ot, er, ddr] → Q .none { s with heap := h', toks := tk' })
      ∧ ((¬ (c == (Str.ofString "-")) = true) → (¬ (c == (Str.ofString ">")) = true) → (¬ (c == (Str.ofString "")) = true) → ∀ ti' tt' tz' h' tk', Fr h₀ L h' m → News h₀ L h' (core w.params k0 k1 k2 k3 k4 k5 k6 k7 k8 k9 k10 k11 k12 k13 v0 v1 v2 v3 g0 g1 g2 g3 g4 g5 g6 g7 x dx st dst sg se ot er dr ddr da sm osm tb tu tc tl tg th (i + 1 - 1) ti' (Str.ofString "comment") tz' dv wa dn cl rt vs ns vse nse (tx ++ (Str.ofString "--!")) tt' vo no ve ne r) → Q .none { s with heap := h', toks := tk' })) := by
  intro dp un gd cn cs a ccd cll outer A₀ base h₀ L m s Q E B F X N T hk hd hu hret
  refine wpAny_call ?_
  k_dflt cell_enter
  obtain ⟨w0, w1, w2, w3⟩ := hret
  subst hv
  k_steps
  · exact w0 (by first | assumption | simp_all) _ _ _ _ _ (by k_asm) (by k_asm)
  · exact w1 (by first | assumption | simp_all) (by first | assumption | simp_all) _ _ _ _ _ _ _ _ _ (by k_asm) (by k_asm) (by k_asm)
  · exact w2 (by first | assumption | simp_all) (by first | assumption | simp_all) (by first | assumption | simp_all) _ _ _ _ _ _ _ _ _ _ (by k_asm) (by k_asm) (by k_asm)
  · exact w3 (by first | assumption | simp_all) (by first | assumption | simp_all) (by first | assumption | simp_all) _ _ _ _ _ (by k_asm) (by k_asm)
end
section
open PySem PySem.W PySem.Calls PyProof.Rows
set_option linter.unusedVariables false
theorem calm6 : True := by
  w_top off
  first | walk1 | trivial
theorem fillD : PySem.Challenge.rw_nt0605_02 = PySem.Challenge.rw_nt0605_02 ∧ topK = topK := by
  k_fill
  exact ⟨rfl, rfl⟩


variable {w : World} {p : Program} {loose : List Str} {mean : ExcName → Option Value} {mg mb : Str → Option Value} {k0 k1 k2 k3 k4 k5 k6 k7 k8 k9 k10 k11 k12 k13 v0 v1 v2 v3 g0 g1 g2 g3 g4 g5 g6 g7 : Tok} {x dx st dst sg se ot er dr ddr da sm : Nat} {osm : Obj} {tb tu tc tl tg th : Tok}
  {i : Int} {ti : Tok} {z : Str} {tz : Tok} {dv : Value} {wa dn cl rt : Bool} {vs : Array Value} {ns : Nat} {vse : Array Value} {nse : Nat} {es : List Dat} {tx : Str} {tt : Tok} {vo : Array Value} {no : Nat} {ve : Array Value} {ne : Nat} {r ro ex : Led}
theorem drop1 {h₀ h : Heap} {L : Addr} {q : Addr × Obj} {l : Led} (N : News h₀ L h (q :: l)) : News h₀ L h l := fun p hp => N p (.tail _ hp)
local macro_rules | `(tactic| walk_at "compareOp NotIn str ref") => `(tactic| (with_unfolding_all refine' notin_tuple_strs ?k1 ?k2 ?_; (case k1 => exact News.isTup (by k_asm) (by news_mem)); (case k2 => kde_strs); (rename News _ _ _ _ => nZ); (replace nZ := drop1 nZ)))
set_option maxRecDepth 100000 in
set_option maxHeartbeats 8000000 in
theorem st_bdd (hA : Apart x dx st dst sg se ot er dr ddr da sm) (hr : OwnOff r [dx, dst, sg, se, ot, er, ddr]) (c : Str) (tcc : Tok) (hi : 0 ≤ i) (hs : vs.size ≤ 1000) (hi2 : i ≤ 1000) (hc : i < vs.size → vs[i.toNat]? = some (.str c tcc)) (hc2 : ¬ (i < vs.size) → c = Str.ofString "") (hv : dv = .ref dr) (ho : vo.size ≤ 900) (he : ve.size ≤ 900) (hx : tx.length ≤ 1000) (hcl : c.length ≤ 1) : CallC w p loose mean mg mb 91 [.ref x] 8 32 (core w.params k0 k1 k2 k3 k4 k5 k6 k7 k8 k9 k10 k11 k12 k13 v0 v1 v2 v3 g0 g1 g2 g3 g4 g5 g6 g7 x dx st dst sg se ot er dr ddr da sm osm tb tu tc tl tg th i ti z tz dv wa dn cl rt vs ns vse nse tx tt vo no ve ne r)
    (fun h₀ L m s Q => ((([(Str.ofString ">"), (Str.ofString "")].any (· == c)) = true) → ∀ ti' tz' h' tk', Fr h₀ L h' m → News h₀ L h' (core w.params k0 k1 k2 k3 k4 k5 k6 k7 k8 k9 k10 k11 k12 k13 v0 v1 v2 v3 g0 g1 g2 g3 g4 g5 g6 g7 x dx st dst sg se ot er dr ddr da sm osm tb tu tc tl tg th (i + 1 - 1) ti' (Str.ofString "comment end") tz' dv wa dn cl rt vs ns vse nse tx tt vo no ve ne r) → Q .none { s with heap := h', toks := tk' })
      ∧ (¬ (([(Str.ofString ">"), (Str.ofString "")].any (· == c)) = true) → ∀ ti' q ty ti2 tz' h' tk', Fr h₀ L h' m → News h₀ L h' (core w.params k0 k1 k2 k3 k4 k5 k6 k7 k8 k9 k10 k11 k12 k13 v0 v1 v2 v3 g0 g1 g2 g3 g4 g5 g6 g7 x dx st dst sg se ot er dr ddr da sm osm tb tu tc tl tg th (i + 1 - 1) ti' (Str.ofString "comment end") tz' dv wa dn cl rt vs ns vse nse tx tt vo no (ve.push (.ref q)) (ne + 1) ((q, tupO [.str (Str.ofString "nested-comment") ty, .int (i + 1 - 1) ti2]) :: r)) → OwnOff ((q, tupO [.str (Str.ofString "nested-comment") ty, .int (i + 1 - 1) ti2]) :: r) [dx, dst, sg, se, ot, er, ddr] → Q .none { s with heap := h', toks := tk' })) := by
  intro dp un gd cn cs a ccd cll outer A₀ base h₀ L m s Q E B F X N T hk hd hu hret
  refine wpAny_call ?_
  k_dflt cell_enter
  obtain ⟨w0, w1⟩ := hret
  subst hv
  k_steps
  · exact w0 (by first | assumption | simp_all) _ _ _ _ (by k_asm) (by k_asm)
  · exact w1 (by first | assumption | simp_all) _ _ _ _ _ _ _ (by k_asm) (by k_asm) (by k_asm)
end
section
open PySem PySem.W PySem.Calls PyProof.Rows
set_option linter.unusedVariables false
theorem calm7 : True := by
  w_top off
  first | walk1 | trivial
theorem fillR : PySem.Challenge.rw_nt0605_02 = PySem.Challenge.rw_nt0605_02 ∧ topK = topK := by
  k_fill
  exact ⟨rfl, rfl⟩


variable {w : World} {p : Program} {loose : List Str} {mean : ExcName → Option Value} {mg mb : Str → Option Value} {k0 k1 k2 k3 k4 k5 k6 k7 k8 k9 k10 k11 k12 k13 v0 v1 v2 v3 g0 g1 g2 g3 g4 g5 g6 g7 : Tok} {x dx st dst sg se ot er dr ddr da sm : Nat} {osm : Obj} {tb tu tc tl tg th : Tok}
  {i : Int} {ti : Tok} {z : Str} {tz : Tok} {dv : Value} {wa dn cl rt : Bool} {vs : Array Value} {ns : Nat} {vse : Array Value} {nse : Nat} {es : List Dat} {tx : Str} {tt : Tok} {vo : Array Value} {no : Nat} {ve : Array Value} {ne : Nat} {r ro ex : Led}
noncomputable def stPairs : List (Str × Value) := [((Str.ofString "comment start"), .ref 49), ((Str.ofString "comment start dash"), .ref 56), ((Str.ofString "comment"), .ref 63), ((Str.ofString "comment less-than sign"), .ref 70), ((Str.ofString "comment less-than sign bang"), .ref 77), ((Str.ofString "comment less-than sign bang dash"), .ref 84), ((Str.ofString "comment less-than sign bang dash dash"), .ref 91), ((Str.ofString "comment end dash"), .ref 98), ((Str.ofString "comment end"), .ref 105), ((Str.ofString "comment end bang"), .ref 112)]
section
variable {prog : Program} {w : World} {A : Around} {E : Value → Shared → Prop} {s : Shared} {h₀ : Heap} {L sm : Nat} {news : Led} {osm : Obj} {Q : Value → Shared → Prop} {kvs : List (Str × Value)}
theorem sm_notin {z : Str} {tz : Tok} (N : News h₀ L s.heap news) (hm : (sm, osm) ∈ news) (hd : Obj.IsDictOf (strKind prog w) osm kvs) (lo : (sm == sysModules) = false)
    (h : Q (.bool (!(valueAt kvs z).isSome)) { s with toks := s.toks + 1 }) : wpAny (model prog w) A (compareOp .NotIn (.str z tz) (.ref sm)) Q E s :=
  wpAny_notIn_of (strKind_is prog w z tz) lo (Heap.DictOf.mapOf (Heap.dictOf_iff.mpr ⟨osm, News.get N hm, hd⟩)) h
theorem sm_item {value slice : PySem.Expr} {z : Str} {tz : Tok} {v : Value} (N : News h₀ L s.heap news) (hm : (sm, osm) ∈ news) (hd : Obj.IsDictOf (strKind prog w) osm kvs) (hv : valueAt kvs z = some v)
    (h : Q v { s with toks := s.toks + 1 })
    (hs : subscripted slice false (.ref sm) (.str z tz) = operate [.ref sm, .str z tz] (getItem (.ref sm) (.str z tz)) := by with_unfolding_all rfl) : wpAny (model prog w) A (subscriptTail value slice (.ref sm) (.str z tz)) Q E s :=
  have hm' := Heap.DictOf.mapOf (Heap.dictOf_iff.mpr ⟨osm, News.get N hm, hd⟩)
  tail_any hm'.typeIs slot_dict_getitem.lookup (wpAny_getItem_of (strKind_is prog w z tz) hm' hv h) hs
end
local macro_rules | `(tactic| walk_at "compareOp NotIn str ref") => `(tactic| k_dflt (refine' sm_notin ?a ?b ?c ?d ?_; (case a => k_asm); (case b => k_mem); (case c => assumption); (case d => assumption)))
local macro_rules | `(tactic| walk_at "subscriptTail") => `(tactic| k_dflt (refine' sm_item ?a ?b ?c ?d ?_ ?f; (case a => k_asm); (case b => k_mem); (case c => assumption); (case d => assumption); (case f => with_unfolding_all rfl)))
set_option maxRecDepth 100000 in
set_option maxHeartbeats 8000000 in
theorem ready_c (hA : Apart x dx st dst sg se ot er dr ddr da sm) (hr : OwnOff r [dx, dst, sg, se, ot, er, ddr]) (hsm : Obj.IsDictOf (strKind PySem.Challenge.rw_nt0605_02.row.prog w) osm stPairs) (hlo : (sm == sysModules) = false) (hw : wa = false) (hs : vs.size ≤ 1000) : CallC w p loose mean mg mb 370 [.ref x] 4 20 (core w.params k0 k1 k2 k3 k4 k5 k6 k7 k8 k9 k10 k11 k12 k13 v0 v1 v2 v3 g0 g1 g2 g3 g4 g5 g6 g7 x dx st dst sg se ot er dr ddr da sm osm tb tu tc tl tg th i ti z tz dv wa dn cl rt vs ns vse nse tx tt vo no ve ne r)
    (fun h₀ L m s Q => ∀  h' tk', Fr h₀ L h' m → News h₀ L h' (core w.params k0 k1 k2 k3 k4 k5 k6 k7 k8 k9 k10 k11 k12 k13 v0 v1 v2 v3 g0 g1 g2 g3 g4 g5 g6 g7 x dx st dst sg se ot er dr ddr da sm osm tb tu tc tl tg th i ti z tz dv false dn cl rt vs ns vse nse tx tt vo no ve ne r) → Q (.bool (!dn && (valueAt stPairs z).isSome && (cl || decide (i < vs.size)))) { s with heap := h', toks := tk' }) := by
  intro dp un gd cn cs a ccd cll outer A₀ base h₀ L m s Q E B F X N T hk hd hu hret
  refine wpAny_call ?_
  k_dflt cell_enter
  subst hw
  k_steps
  all_goals first
    | (have e : (!dn && (valueAt stPairs z).isSome && (cl || decide (i < vs.size))) = false := by (simp_all; first | done | fail "left")
       rw [e] at hret
       exact hret _ _ (by k_asm) (by k_asm))
    | (have e : (!dn && (valueAt stPairs z).isSome && (cl || decide (i < vs.size))) = cl := by (simp_all; first | done | fail "left")
       rw [e] at hret
       exact hret _ _ (by k_asm) (by k_asm))
    | (have e : (!dn && (valueAt stPairs z).isSome && (cl || decide (i < vs.size))) = decide (i < vs.size) := by (simp_all; first | done | fail "left")
       rw [e] at hret
       exact hret _ _ (by k_asm) (by k_asm))
local macro_rules | `(tactic| walk_at "callWith ref") => `(tactic| k_dflt (refine' callWith_K ?k1 ?k2 ?_; (case k1 => k_asm); (case k2 => assumption); k_whole))
set_option maxRecDepth 100000 in
set_option maxHeartbeats 8000000 in
theorem step_c (hA : Apart x dx st dst sg se ot er dr ddr da sm) (hr : OwnOff r [dx, dst, sg, se, ot, er, ddr]) (hsm : Obj.IsDictOf (strKind PySem.Challenge.rw_nt0605_02.row.prog w) osm stPairs) (hlo : (sm == sysModules) = false) (hw : wa = false) {f : Nat} (hz : valueAt stPairs z = some (.ref f)) (hkeep : keepIn (topK w.params) (.ref f) = true) {Post : Led → Prop} (hp : ∀ lay, Post lay → ∃ i ti z tz dv dn tx tt vo no ve ne r, lay = (core w.params k0 k1 k2 k3 k4 k5 k6 k7 k8 k9 k10 k11 k12 k13 v0 v1 v2 v3 g0 g1 g2 g3 g4 g5 g6 g7 x dx st dst sg se ot er dr ddr da sm osm tb tu tc tl tg th i ti z tz dv false dn cl rt vs ns vse nse tx tt vo no ve ne r) ∧ OwnOff r [dx, dst, sg, se, ot, er, ddr]) (hf : CallC w p loose mean mg mb f [.ref x] 8 32 (core w.params k0 k1 k2 k3 k4 k5 k6 k7 k8 k9 k10 k11 k12 k13 v0 v1 v2 v3 g0 g1 g2 g3 g4 g5 g6 g7 x dx st dst sg se ot er dr ddr da sm osm tb tu tc tl tg th i ti z tz dv false dn cl rt vs ns vse nse tx tt vo no ve ne r) (fun h₀ L m s Q => ∀ lay h' tk', Post lay → Fr h₀ L h' m → News h₀ L h' lay → Q .none { s with heap := h', toks := tk' })) : CallC w p loose mean mg mb 363 [.ref x] 12 48 (core w.params k0 k1 k2 k3 k4 k5 k6 k7 k8 k9 k10 k11 k12 k13 v0 v1 v2 v3 g0 g1 g2 g3 g4 g5 g6 g7 x dx st dst sg se ot er dr ddr da sm osm tb tu tc tl tg th i ti z tz dv wa dn cl rt vs ns vse nse tx tt vo no ve ne r)
    (fun h₀ L m s Q => ∀ lay h' tk', Post lay → Fr h₀ L h' m → News h₀ L h' lay → Q .none { s with heap := h', toks := tk' }) := by
  intro dp un gd cn cs a ccd cll outer A₀ base h₀ L m s Q E B F X N T hk hd hu hret
  refine wpAny_call ?_
  k_dflt cell_enter
  subst hw
  have hz2 : (!(valueAt stPairs z).isSome) = false := by rw [hz]; rfl
  k_steps
  k_dflt (refine' hf _ _ _ _ _ _ _ _ _ _ _ _ _ _ _ _ _ ?B ?F ?X ?N ?T ?k ?d ?u ?_); (case N => k_asm); (case F => k_asm); (case B => k_asm); (case X => k_asm); (case T => k_asm); (case k => first | exact rfl | assumption); (case d => ktr_room); (case u => ktr_units)
  intro lay9 h9 tk9 P9 F9 N9
  obtain ⟨i9, ti9, z9, tz9, dv9, dn9, tx9, tt9, vo9, no9, ve9, ne9, r9, e9, hr9⟩ := hp lay9 P9
  subst e9
  k_steps
  exact hret _ _ _ P9 (by k_asm) (by k_asm)
end
end
section
open PySem PySem.W PySem.Calls PyProof.Rows
set_option linter.unusedVariables false
theorem calm8 : True := by
  w_top off
  first | walk1 | trivial
theorem fillN : PySem.Challenge.rw_nt0605_02 = PySem.Challenge.rw_nt0605_02 ∧ topK = topK := by
  k_fill
  exact ⟨rfl, rfl⟩


variable {w : World} {p : Program} {loose : List Str} {mean : ExcName → Option Value} {mg mb : Str → Option Value} {k0 k1 k2 k3 k4 k5 k6 k7 k8 k9 k10 k11 k12 k13 v0 v1 v2 v3 g0 g1 g2 g3 g4 g5 g6 g7 : Tok} {x dx st dst sg se ot er dr ddr da sm : Nat} {osm : Obj} {tb tu tc tl tg th : Tok}
  {i : Int} {ti : Tok} {z : Str} {tz : Tok} {dv : Value} {wa dn cl rt : Bool} {vs : Array Value} {ns : Nat} {vse : Array Value} {nse : Nat} {es : List Dat} {tx : Str} {tt : Tok} {vo : Array Value} {no : Nat} {ve : Array Value} {ne : Nat} {r ro ex : Led}
set_option maxRecDepth 100000 in
set_option maxHeartbeats 8000000 in
theorem states_c  : CallC w p loose mean mg mb 119 [] 4 20 r
    (fun h₀ L m s Q => ∀ sm osm h' tk', Fr h₀ L h' m → News h₀ L h' ((sm, osm) :: r) → Obj.IsDictOf (strKind PySem.Challenge.rw_nt0605_02.row.prog w) osm stPairs → (sm == sysModules) = false → (∀ p ∈ r, (p.1 : Nat) < sm) → Q (.ref sm) { s with heap := h', toks := tk' }) := by
  intro dp un gd cn cs a ccd cll outer A₀ base h₀ L m s Q E B F X N T hk hd hu hret
  refine wpAny_call ?_
  k_dflt cell_enter
  k_steps
  exact hret _ _ _ _ (by k_asm) (by k_asm) ‹Obj.IsDictOf _ _ _› (by assumption) (by assumption)
set_option maxRecDepth 100000 in
set_option maxHeartbeats 8000000 in
theorem tok_c {sm : Nat} {t1 t2 : Tok} : CallC w p loose mean mg mb 380 [.ref sm, .str (Str.ofString "comment start") t1, .str (Str.ofString "p") t2] 8 32 r
    (fun h₀ L m s Q => ∀ (k0 k1 k2 k3 k4 k5 k6 k7 k8 k9 k10 k11 k12 k13 v0 v1 v2 v3 ti tz tb tu tc tl : Tok) (x dx st dst sg se ot er : Nat) h' tk', Fr h₀ L h' m → News h₀ L h' ((er, listOf #[] 0) :: (ot, listOf #[] 0) :: (se, listOf #[] 0) :: (sg, listOf #[] 0) :: (st, instObj 217 dst) :: (dst, strO w.params v0 v1 v2 v3 sg false false se) :: (x, instObj 380 dx) :: (dx, (tokO w.params k0 k1 k2 k3 k4 k5 k6 k7 k8 k9 k10 k11 k12 k13 sm st 0 ti (Str.ofString "comment start") tz tb ot er .none tu tc tl false false)) :: r) → (∀ p ∈ r, (p.1 : Nat) < dx) → (dx < x ∧ x < dst ∧ dst < st ∧ st < sg ∧ sg < se ∧ se < ot ∧ ot < er) → Q (.ref x) { s with heap := h', toks := tk' }) := by
  intro dp un gd cn cs a ccd cll outer A₀ base h₀ L m s Q E B F X N T hk hd hu hret
  k_dflt (refine' call_cls ?k1 ?k2 ?k3 ?k4 ?k5 ?k6 ?_; (case k1 => k_asm); (case k2 => k_asm); (case k3 => k_asm); (case k4 => k_is); (case k5 => k_is); (case k6 => k_is); k_whole; intro x' d' h' F' N' l1 l2; (try k_lt2 l2); (try k_sweep))
  k_dflt (refine' code_def ?k1 ?k2 ?k3 ?k4 ?k5 ?kA ?kF ?kK ?k6 ?k7 ?k8 ?k9 ?kB ?_ ?c2 ?c3 ?c4 ?c5; (case kA => exact rfl); (case kF => exact rfl); (case kK => assumption); (case k1 => k_asm); (case k2 => k_asm); (case k3 => k_asm); (case k4 => k_asm); (case k5 => k_asm); (case k6 => k_is); (case k7 => k_is); (case k8 => ktr_room); (case k9 => first | exact BindsTo.of_eq rfl | exact binds_K (by k_in) rfl (by k_is) rfl rfl rfl); (case c5 => decide); (case kB => exact locs rfl); (case c2 => exact rfl); (case c3 => exact rfl); (case c4 => exact rfl); k_whole; intro g' L' h' FG' F' N' B' X' T'; (try dsimp only); (try k_fold))
  k_steps
  exact hret _ _ _ _ _ _ _ _ _ _ _ _ _ _ _ _ _ _ _ _ _ _ _ _ _ _ _ _ _ _ _ _ _ _ (by k_asm) (by k_asm) l1 ⟨by omega, by omega, by omega, by omega, by omega, by omega, by omega⟩
set_option maxRecDepth 100000 in
set_option maxHeartbeats 8000000 in
theorem draft_c {t1 t2 : Tok} : CallC w p loose mean mg mb 436 [.str (Str.ofString "comment") t1, .str (Str.ofString "") t2] 8 32 r
    (fun h₀ L m s Q => ∀ (g0 g1 g2 g3 g4 g5 g6 g7 tg th tt : Tok) (dr ddr da : Nat) h' tk', Fr h₀ L h' m → News h₀ L h' ((da, listOf #[] 0) :: (dr, instObj 436 ddr) :: (ddr, draO w.params g0 g1 g2 g3 g4 g5 g6 g7 tg th (Str.ofString "") tt da) :: r) → (∀ p ∈ r, (p.1 : Nat) < ddr) → (ddr < dr ∧ dr < da) → Q (.ref dr) { s with heap := h', toks := tk' }) := by
  intro dp un gd cn cs a ccd cll outer A₀ base h₀ L m s Q E B F X N T hk hd hu hret
  k_dflt (refine' call_cls ?k1 ?k2 ?k3 ?k4 ?k5 ?k6 ?_; (case k1 => k_asm); (case k2 => k_asm); (case k3 => k_asm); (case k4 => k_is); (case k5 => k_is); (case k6 => k_is); k_whole; intro x' d' h' F' N' l1 l2; (try k_lt2 l2); (try k_sweep))
  k_dflt (refine' code_def ?k1 ?k2 ?k3 ?k4 ?k5 ?kA ?kF ?kK ?k6 ?k7 ?k8 ?k9 ?kB ?_ ?c2 ?c3 ?c4 ?c5; (case kA => exact rfl); (case kF => exact rfl); (case kK => assumption); (case k1 => k_asm); (case k2 => k_asm); (case k3 => k_asm); (case k4 => k_asm); (case k5 => k_asm); (case k6 => k_is); (case k7 => k_is); (case k8 => ktr_room); (case k9 => first | exact BindsTo.of_eq rfl | exact binds_K (by k_in) rfl (by k_is) rfl rfl rfl); (case c5 => decide); (case kB => exact locs rfl); (case c2 => exact rfl); (case c3 => exact rfl); (case c4 => exact rfl); k_whole; intro g' L' h' FG' F' N' B' X' T'; (try dsimp only); (try k_fold))
  k_steps
  exact hret _ _ _ _ _ _ _ _ _ _ _ _ _ _ _ _ (by k_asm) (by k_asm) l1 ⟨by omega, by omega⟩
end
section
open PySem PySem.W PySem.Calls PyProof.Rows
set_option linter.unusedVariables false
theorem calm9 : True := by
  w_top off
  first | walk1 | trivial

/-- the tokenizer's objects stand as the pure state says -/
inductive Lay (P : Params) (k0 k1 k2 k3 k4 k5 k6 k7 k8 k9 k10 k11 k12 k13 v0 v1 v2 v3 g0 g1 g2 g3 g4 g5 g6 g7 : Tok) (x dx st dst sg se ot er dr ddr da sm : Nat) (osm : Obj) (tb tu tc tl tg th : Tok) (cl rt : Bool) (vs : Array Value) (ns : Nat) (vse : Array Value) (nse : Nat) (es : List Dat) (ex : Led) (σ : PS) (lay : Led) : Prop
  | mk (i : Int) (ti : Tok) (z : Str) (tz : Tok) (dv : Value) (dn : Bool) (tx : Str) (tt : Tok) (vo : Array Value) (no : Nat) (ve : Array Value) (ne : Nat) (ro : Led) (e1 : lay = (core P k0 k1 k2 k3 k4 k5 k6 k7 k8 k9 k10 k11 k12 k13 v0 v1 v2 v3 g0 g1 g2 g3 g4 g5 g6 g7 x dx st dst sg se ot er dr ddr da sm osm tb tu tc tl tg th i ti z tz dv false dn cl rt vs ns vse nse tx tt vo no ve ne (ro ++ ex)))
    (e2 : i = σ.at_ ∧ z = σ.st.name ∧ dv = (if σ.hd then .ref dr else .none) ∧ dn = σ.dn ∧ tx = tx_ σ.tx) (hr : OwnOff (ro ++ ex) [dx, dst, sg, se, ot, er, ddr]) (D1 : DatAll ro vo.toList σ.ou) (D2 : DatAll ro ve.toList σ.er) (D3 : DatAll ro vse.toList es) (U : Tups ro)
/-- the stream's signs -/
noncomputable def SgnAre (vs : Array Value) (ws : List Nat) : Prop := vs.size = ws.length ∧ ∀ k n : Nat, ws[k]? = some n → ∃ t, vs[k]? = some (Value.str (tx_ [n]) t)
theorem sgn_at {vs : Array Value} {ws : List Nat} (h : SgnAre vs ws) (k : Nat) : ∃ t, ((k : Int) < vs.size → vs[(k : Int).toNat]? = some (Value.str (sgn ws[k]?) t)) ∧ (¬ ((k : Int) < vs.size) → sgn ws[k]? = Str.ofString "") := by
  cases e : ws[k]? with
  | none =>
    have := List.getElem?_eq_none_iff.mp e
    exact ⟨0, fun hk => absurd hk (by have := h.1; omega), fun _ => rfl⟩
  | some n =>
    obtain ⟨t, ht⟩ := h.2 k n e
    have := (List.getElem?_eq_some_iff.mp e).1
    exact ⟨t, fun _ => by simpa [sgn] using ht, fun hk => absurd (by have := h.1; omega) hk⟩
theorem sgn_len (o : Option Nat) : (sgn o).length ≤ 1 := by
  cases o with
  | none => decide
  | some n => exact Nat.le_refl 1
theorem app_ (a b : List Nat) : tx_ a ++ tx_ b = tx_ (a ++ b) := by
  show Str.mk _ = Str.mk _
  simp
theorem lit45 : (Str.ofString "-") = tx_ [45] := by decide
theorem sg45 {o : Option Nat} (h : (sgn o == (Str.ofString "-")) = true) : o = some 45 := by
  rw [lit45] at h
  cases o with
  | none => first | rfl | (exact absurd h (by decide))
  | some n => first | (simpa [sgn, tx_] using h) | (simp [sgn, tx_] at h)
theorem sn45 {o : Option Nat} (h : ¬ (sgn o == (Str.ofString "-")) = true) : ¬ o = some 45 := by
  rintro rfl
  exact h (by decide)
theorem lit62 : (Str.ofString ">") = tx_ [62] := by decide
theorem sg62 {o : Option Nat} (h : (sgn o == (Str.ofString ">")) = true) : o = some 62 := by
  rw [lit62] at h
  cases o with
  | none => first | rfl | (exact absurd h (by decide))
  | some n => first | (simpa [sgn, tx_] using h) | (simp [sgn, tx_] at h)
theorem sn62 {o : Option Nat} (h : ¬ (sgn o == (Str.ofString ">")) = true) : ¬ o = some 62 := by
  rintro rfl
  exact h (by decide)
theorem lit60 : (Str.ofString "<") = tx_ [60] := by decide
theorem sg60 {o : Option Nat} (h : (sgn o == (Str.ofString "<")) = true) : o = some 60 := by
  rw [lit60] at h
  cases o with
  | none => first | rfl | (exact absurd h (by decide))
  | some n => first | (simpa [sgn, tx_] using h) | (simp [sgn, tx_] at h)
theorem sn60 {o : Option Nat} (h : ¬ (sgn o == (Str.ofString "<")) = true) : ¬ o = some 60 := by
  rintro rfl
  exact h (by decide)
theorem lit33 : (Str.ofString "!") = tx_ [33] := by decide
theorem sg33 {o : Option Nat} (h : (sgn o == (Str.ofString "!")) = true) : o = some 33 := by
  rw [lit33] at h
  cases o with
  | none => first | rfl | (exact absurd h (by decide))
  | some n => first | (simpa [sgn, tx_] using h) | (simp [sgn, tx_] at h)
theorem sn33 {o : Option Nat} (h : ¬ (sgn o == (Str.ofString "!")) = true) : ¬ o = some 33 := by
  rintro rfl
  exact h (by decide)
theorem lit0 : (Str.ofString "\x00") = tx_ [0] := by decide
theorem sg0 {o : Option Nat} (h : (sgn o == (Str.ofString "\x00")) = true) : o = some 0 := by
  rw [lit0] at h
  cases o with
  | none => first | rfl | (exact absurd h (by decide))
  | some n => first | (simpa [sgn, tx_] using h) | (simp [sgn, tx_] at h)
theorem sn0 {o : Option Nat} (h : ¬ (sgn o == (Str.ofString "\x00")) = true) : ¬ o = some 0 := by
  rintro rfl
  exact h (by decide)
theorem litN : (Str.ofString "") = tx_ [] := by decide
theorem sgN {o : Option Nat} (h : (sgn o == (Str.ofString "")) = true) : o = none := by
  rw [litN] at h
  cases o with
  | none => first | rfl | (exact absurd h (by decide))
  | some n => first | (simpa [sgn, tx_] using h) | (simp [sgn, tx_] at h)
theorem snN {o : Option Nat} (h : ¬ (sgn o == (Str.ofString "")) = true) : ¬ o = none := by
  rintro rfl
  exact h (by decide)
theorem litRep : Str.ofString "�" = tx_ [65533] := by decide
theorem lit2 : Str.ofString "--" = tx_ [45, 45] := by decide
theorem lit3 : Str.ofString "--!" = tx_ [45, 45, 33] := by decide
section
variable {r : Led} {q : Nat} {o : Obj} {vs : Array Value} {ds : List Dat} {y u : Str} {ty tu : Tok} {k : Int} {k' : Nat} {l : List Value}
theorem da_keep (D : DatAll r l ds) : DatAll ((q, o) :: r) l ds := D.mono fun _ h => .tail _ h
theorem da_err (D : DatAll r vs.toList ds) (hk : k = k') : DatAll ((q, tupO [.str y ty, .int k tu]) :: r) (vs.push (.ref q)).toList (ds ++ [.tuple [.str y, .int k']]) := by
  subst hk
  rw [Array.toList_push]
  exact DatAll.append (da_keep D) (DatAll.one (DatIn.tuple (.head _) (.cons (.str _ _) (.cons (.int _ _) .nil))))
theorem da_com (D : DatAll r vs.toList ds) : DatAll ((q, tupO [.str y ty, .str u tu]) :: r) (vs.push (.ref q)).toList (ds ++ [.tuple [.str y, .str u]]) := by
  rw [Array.toList_push]
  exact DatAll.append (da_keep D) (DatAll.one (DatIn.tuple (.head _) (.cons (.str _ _) (.cons (.str _ _) .nil))))
theorem da_one (D : DatAll r vs.toList ds) : DatAll ((q, tupO [.str y ty]) :: r) (vs.push (.ref q)).toList (ds ++ [.tuple [.str y]]) := by
  rw [Array.toList_push]
  exact DatAll.append (da_keep D) (DatAll.one (DatIn.tuple (.head _) (.cons (.str _ _) .nil)))
end
theorem bdd_y {o : Option Nat} (h : ([(Str.ofString ">"), (Str.ofString "")].any (· == sgn o)) = true) : o = some 62 ∨ o = none := by
  simp only [List.any_cons, List.any_nil, Bool.or_false, Bool.or_eq_true] at h
  rcases h with h | h
  · exact .inl (sg62 (by rw [← h]; exact Bool.beq_comm))
  · exact .inr (sgN (by rw [← h]; exact Bool.beq_comm))
theorem bdd_n {o : Option Nat} (h : ¬ ([(Str.ofString ">"), (Str.ofString "")].any (· == sgn o)) = true) : ¬ (o = some 62 ∨ o = none) := by
  rintro (rfl | rfl) <;> exact h (by decide)
variable {w : World} {p : Program} {loose : List Str} {mean : ExcName → Option Value} {mg mb : Str → Option Value} {k0 k1 k2 k3 k4 k5 k6 k7 k8 k9 k10 k11 k12 k13 v0 v1 v2 v3 g0 g1 g2 g3 g4 g5 g6 g7 : Tok} {x dx st dst sg se ot er dr ddr da sm : Nat} {osm : Obj} {tb tu tc tl tg th : Tok}
  {i : Int} {ti : Tok} {z : Str} {tz : Tok} {dv : Value} {wa dn cl rt : Bool} {vs : Array Value} {ns : Nat} {vse : Array Value} {nse : Nat} {es : List Dat} {tx : Str} {tt : Tok} {vo : Array Value} {no : Nat} {ve : Array Value} {ne : Nat} {r ro ex : Led}
set_option maxRecDepth 100000 in
set_option maxHeartbeats 4000000 in
theorem fin_start (hA : Apart x dx st dst sg se ot er dr ddr da sm) {ws : List Nat} (hV : SgnAre vs ws) {σ : PS} (g : σ.Good ws.length) (hst : σ.st = .start) (hdn : σ.dn = false) {lay : Led} (hL : Lay w.params k0 k1 k2 k3 k4 k5 k6 k7 k8 k9 k10 k11 k12 k13 v0 v1 v2 v3 g0 g1 g2 g3 g4 g5 g6 g7 x dx st dst sg se ot er dr ddr da sm osm tb tu tc tl tg th cl rt vs ns vse nse es ex σ lay) :
    CallC w p loose mean mg mb 49 [.ref x] 8 32 lay (fun h₀ L m s Q => ∀ lay' h' tk', Lay w.params k0 k1 k2 k3 k4 k5 k6 k7 k8 k9 k10 k11 k12 k13 v0 v1 v2 v3 g0 g1 g2 g3 g4 g5 g6 g7 x dx st dst sg se ot er dr ddr da sm osm tb tu tc tl tg th cl rt vs ns vse nse es ex (σ.step ws[σ.at_]?) lay' → Fr h₀ L h' m → News h₀ L h' lay' → Q .none { s with heap := h', toks := tk' }) := by
  obtain ⟨i, ti, z, tz, dv, dn, tx, tt, vo, no, ve, ne, ro, rfl, ⟨rfl, rfl, rfl, rfl, rfl⟩, hr, D1, D2, D3, U⟩ := hL
  obtain ⟨tcc, hc, hc2⟩ := sgn_at hV σ.at_
  have hsd : σ.st ≠ .data := by rw [hst]; decide
  have hh := g.hd hdn hsd
  have z1 := g.n_le
  have z2 := g.at_le hdn hsd
  have z3 := g.er
  have z4 := g.ou
  have z5 := g.tx
  have z6 := PS.psi_le σ
  have y1 := DatAll.length D1
  have y2 := DatAll.length D2
  rw [Array.length_toList] at y1 y2
  have b2 : vs.size ≤ 1000 := by rw [hV.1]; omega
  have b4 : (if σ.hd then Value.ref dr else .none) = .ref dr := by rw [hh]; rfl
  have b7 : (tx_ σ.tx).length ≤ 1000 := by rw [len_]; omega
  intro dp un gd cn cs a ccd cll outer A₀ base h₀ L m s Q E B F X N T hk hd hu hret
  refine st_start hA hr (sgn ws[σ.at_]?) tcc (by omega) b2 (by omega) hc hc2 b4 (by omega) (by omega) b7 (sgn_len _) dp un gd cn cs a ccd cll outer A₀ base h₀ L m s Q E B F X N T hk hd hu ⟨?_, ?_, ?_⟩
  · intro c45 ti' tz' h' tk' F' N'
    have o0 := sg45 c45
    have e : σ.step ws[σ.at_]? = (σ).to .sdash := by simp [PS.step, hst, PS.abrupt, o0]
    refine hret _ _ _ ?_ F' N'
    rw [e]
    exact ⟨_, _, _, _, _, _, _, _, _, _, _, _, ro, rfl, ⟨(by simp only [PS.to, PS.put]; omega), rfl, rfl, rfl, rfl⟩, hr, D1, D2, D3, U⟩
  · intro n45 c62 ti' q ty ti2 q1 t1 tz' h' tk' F' N' O
    have m45 := sn45 n45
    have o0 := sg62 c62
    have e : σ.step ws[σ.at_]? = (σ.say "abrupt-closing-of-empty-comment").close := by simp [PS.step, hst, PS.abrupt, m45, o0]
    refine hret _ _ _ ?_ F' N'
    rw [e]
    exact ⟨_, _, _, _, _, _, _, _, _, _, _, _, ((q1, _) :: (q, _) :: ro), rfl, ⟨(by simp only [PS.close, PS.say]; omega), rfl, rfl, rfl, rfl⟩, O, (da_com (da_keep D1)), (da_keep (da_err D2 (by omega))), (da_keep (da_keep D3)), (tups_cons rfl (tups_cons rfl U))⟩
  · intro n45 n62 ti' tz' h' tk' F' N'
    have m45 := sn45 n45
    have m62 := sn62 n62
    have e : σ.step ws[σ.at_]? = (σ).again .com := by simp [PS.step, hst, PS.abrupt, m45, m62]
    refine hret _ _ _ ?_ F' N'
    rw [e]
    exact ⟨_, _, _, _, _, _, _, _, _, _, _, _, ro, rfl, ⟨(by simp only [PS.again, PS.put]; omega), rfl, rfl, rfl, rfl⟩, hr, D1, D2, D3, U⟩
set_option maxRecDepth 100000 in
set_option maxHeartbeats 4000000 in
theorem fin_start_dash (hA : Apart x dx st dst sg se ot er dr ddr da sm) {ws : List Nat} (hV : SgnAre vs ws) {σ : PS} (g : σ.Good ws.length) (hst : σ.st = .sdash) (hdn : σ.dn = false) {lay : Led} (hL : Lay w.params k0 k1 k2 k3 k4 k5 k6 k7 k8 k9 k10 k11 k12 k13 v0 v1 v2 v3 g0 g1 g2 g3 g4 g5 g6 g7 x dx st dst sg se ot er dr ddr da sm osm tb tu tc tl tg th cl rt vs ns vse nse es ex σ lay) :
    CallC w p loose mean mg mb 56 [.ref x] 8 32 lay (fun h₀ L m s Q => ∀ lay' h' tk', Lay w.params k0 k1 k2 k3 k4 k5 k6 k7 k8 k9 k10 k11 k12 k13 v0 v1 v2 v3 g0 g1 g2 g3 g4 g5 g6 g7 x dx st dst sg se ot er dr ddr da sm osm tb tu tc tl tg th cl rt vs ns vse nse es ex (σ.step ws[σ.at_]?) lay' → Fr h₀ L h' m → News h₀ L h' lay' → Q .none { s with heap := h', toks := tk' }) := by
  obtain ⟨i, ti, z, tz, dv, dn, tx, tt, vo, no, ve, ne, ro, rfl, ⟨rfl, rfl, rfl, rfl, rfl⟩, hr, D1, D2, D3, U⟩ := hL
  obtain ⟨tcc, hc, hc2⟩ := sgn_at hV σ.at_
  have hsd : σ.st ≠ .data := by rw [hst]; decide
  have hh := g.hd hdn hsd
  have z1 := g.n_le
  have z2 := g.at_le hdn hsd
  have z3 := g.er
  have z4 := g.ou
  have z5 := g.tx
  have z6 := PS.psi_le σ
  have y1 := DatAll.length D1
  have y2 := DatAll.length D2
  rw [Array.length_toList] at y1 y2
  have b2 : vs.size ≤ 1000 := by rw [hV.1]; omega
  have b4 : (if σ.hd then Value.ref dr else .none) = .ref dr := by rw [hh]; rfl
  have b7 : (tx_ σ.tx).length ≤ 1000 := by rw [len_]; omega
  intro dp un gd cn cs a ccd cll outer A₀ base h₀ L m s Q E B F X N T hk hd hu hret
  refine st_start_dash hA hr (sgn ws[σ.at_]?) tcc (by omega) b2 (by omega) hc hc2 b4 (by omega) (by omega) b7 (sgn_len _) dp un gd cn cs a ccd cll outer A₀ base h₀ L m s Q E B F X N T hk hd hu ⟨?_, ?_, ?_, ?_⟩
  · intro c45 ti' tz' h' tk' F' N'
    have o0 := sg45 c45
    have e : σ.step ws[σ.at_]? = (σ).to .en := by simp [PS.step, hst, PS.abrupt, o0]
    refine hret _ _ _ ?_ F' N'
    rw [e]
    exact ⟨_, _, _, _, _, _, _, _, _, _, _, _, ro, rfl, ⟨(by simp only [PS.to, PS.put]; omega), rfl, rfl, rfl, rfl⟩, hr, D1, D2, D3, U⟩
  · intro n45 c62 ti' q ty ti2 q1 t1 tz' h' tk' F' N' O
    have m45 := sn45 n45
    have o0 := sg62 c62
    have e : σ.step ws[σ.at_]? = (σ.say "abrupt-closing-of-empty-comment").close := by simp [PS.step, hst, PS.abrupt, m45, o0]
    refine hret _ _ _ ?_ F' N'
    rw [e]
    exact ⟨_, _, _, _, _, _, _, _, _, _, _, _, ((q1, _) :: (q, _) :: ro), rfl, ⟨(by simp only [PS.close, PS.say]; omega), rfl, rfl, rfl, rfl⟩, O, (da_com (da_keep D1)), (da_keep (da_err D2 (by omega))), (da_keep (da_keep D3)), (tups_cons rfl (tups_cons rfl U))⟩
  · intro n45 n62 cN ti' q ty ti2 q1 t1 q2 t2 h' tk' F' N' O
    have m45 := sn45 n45
    have m62 := sn62 n62
    have o0 := sgN cN
    have e : σ.step ws[σ.at_]? = σ.fin := by simp [PS.step, hst, PS.abrupt, m45, m62, o0]
    refine hret _ _ _ ?_ F' N'
    rw [e]
    exact ⟨_, _, _, _, _, _, _, _, _, _, _, _, ((q2, _) :: (q1, _) :: (q, _) :: ro), rfl, ⟨(by simp only [PS.fin]; omega), rfl, rfl, rfl, rfl⟩, O, (da_one (da_com (da_keep D1))), (da_keep (da_keep (da_err D2 (by omega)))), (da_keep (da_keep (da_keep D3))), (tups_cons rfl (tups_cons rfl (tups_cons rfl U)))⟩
  · intro n45 n62 nN ti' tt' tz' h' tk' F' N'
    have m45 := sn45 n45
    have m62 := sn62 n62
    have mN := snN nN
    have e : σ.step ws[σ.at_]? = (σ.put [45]).again .com := by simp [PS.step, hst, PS.abrupt, m45, m62, mN]
    refine hret _ _ _ ?_ F' N'
    rw [e]
    exact ⟨_, _, _, _, _, _, _, _, _, _, _, _, ro, rfl, ⟨(by simp only [PS.again, PS.put]; omega), rfl, rfl, rfl, (by rw [lit45]; exact app_ _ _)⟩, hr, D1, D2, D3, U⟩
set_option maxRecDepth 100000 in
set_option maxHeartbeats 4000000 in
theorem fin_comment (hA : Apart x dx st dst sg se ot er dr ddr da sm) {ws : List Nat} (hV : SgnAre vs ws) {σ : PS} (g : σ.Good ws.length) (hst : σ.st = .com) (hdn : σ.dn = false) {lay : Led} (hL : Lay w.params k0 k1 k2 k3 k4 k5 k6 k7 k8 k9 k10 k11 k12 k13 v0 v1 v2 v3 g0 g1 g2 g3 g4 g5 g6 g7 x dx st dst sg se ot er dr ddr da sm osm tb tu tc tl tg th cl rt vs ns vse nse es ex σ lay) :
    CallC w p loose mean mg mb 63 [.ref x] 8 32 lay (fun h₀ L m s Q => ∀ lay' h' tk', Lay w.params k0 k1 k2 k3 k4 k5 k6 k7 k8 k9 k10 k11 k12 k13 v0 v1 v2 v3 g0 g1 g2 g3 g4 g5 g6 g7 x dx st dst sg se ot er dr ddr da sm osm tb tu tc tl tg th cl rt vs ns vse nse es ex (σ.step ws[σ.at_]?) lay' → Fr h₀ L h' m → News h₀ L h' lay' → Q .none { s with heap := h', toks := tk' }) := by
  obtain ⟨i, ti, z, tz, dv, dn, tx, tt, vo, no, ve, ne, ro, rfl, ⟨rfl, rfl, rfl, rfl, rfl⟩, hr, D1, D2, D3, U⟩ := hL
  obtain ⟨tcc, hc, hc2⟩ := sgn_at hV σ.at_
  have hsd : σ.st ≠ .data := by rw [hst]; decide
  have hh := g.hd hdn hsd
  have z1 := g.n_le
  have z2 := g.at_le hdn hsd
  have z3 := g.er
  have z4 := g.ou
  have z5 := g.tx
  have z6 := PS.psi_le σ
  have y1 := DatAll.length D1
  have y2 := DatAll.length D2
  rw [Array.length_toList] at y1 y2
  have b2 : vs.size ≤ 1000 := by rw [hV.1]; omega
  have b4 : (if σ.hd then Value.ref dr else .none) = .ref dr := by rw [hh]; rfl
  have b7 : (tx_ σ.tx).length ≤ 1000 := by rw [len_]; omega
  intro dp un gd cn cs a ccd cll outer A₀ base h₀ L m s Q E B F X N T hk hd hu hret
  refine st_comment hA hr (sgn ws[σ.at_]?) tcc (by omega) b2 (by omega) hc hc2 b4 (by omega) (by omega) b7 (sgn_len _) dp un gd cn cs a ccd cll outer A₀ base h₀ L m s Q E B F X N T hk hd hu ⟨?_, ?_, ?_, ?_, ?_⟩
  · intro c60 ti' tt' tz' h' tk' F' N'
    have o0 := sg60 c60
    have e : σ.step ws[σ.at_]? = (σ.put [60]).to .lt := by simp [PS.step, hst, PS.abrupt, o0]
    refine hret _ _ _ ?_ F' N'
    rw [e]
    exact ⟨_, _, _, _, _, _, _, _, _, _, _, _, ro, rfl, ⟨(by simp only [PS.to, PS.put]; omega), rfl, rfl, rfl, (by rw [o0]; exact app_ _ _)⟩, hr, D1, D2, D3, U⟩
  · intro n60 c45 ti' tz' h' tk' F' N'
    have m60 := sn60 n60
    have o0 := sg45 c45
    have e : σ.step ws[σ.at_]? = (σ).to .edash := by simp [PS.step, hst, PS.abrupt, m60, o0]
    refine hret _ _ _ ?_ F' N'
    rw [e]
    exact ⟨_, _, _, _, _, _, _, _, _, _, _, _, ro, rfl, ⟨(by simp only [PS.to, PS.put]; omega), rfl, rfl, rfl, rfl⟩, hr, D1, D2, D3, U⟩
  · intro n60 n45 c0 ti' q ty ti2 tt' h' tk' F' N' O
    have m60 := sn60 n60
    have m45 := sn45 n45
    have o0 := sg0 c0
    have e : σ.step ws[σ.at_]? = ((σ.say "unexpected-null-character").put [65533]).to .com := by simp [PS.step, hst, PS.abrupt, m60, m45, o0]
    refine hret _ _ _ ?_ F' N'
    rw [e]
    exact ⟨_, _, _, _, _, _, _, _, _, _, _, _, ((q, _) :: ro), rfl, ⟨(by simp only [PS.to, PS.put, PS.say]; omega), by simp only [PS.to, PS.put, hst], rfl, rfl, (by rw [litRep]; exact app_ _ _)⟩, O, (da_keep D1), (da_err D2 (by omega)), (da_keep D3), (tups_cons rfl U)⟩
  · intro n60 n45 n0 cN ti' q ty ti2 q1 t1 q2 t2 h' tk' F' N' O
    have m60 := sn60 n60
    have m45 := sn45 n45
    have m0 := sn0 n0
    have o0 := sgN cN
    have e : σ.step ws[σ.at_]? = σ.fin := by simp [PS.step, hst, PS.abrupt, m60, m45, m0, o0]
    refine hret _ _ _ ?_ F' N'
    rw [e]
    exact ⟨_, _, _, _, _, _, _, _, _, _, _, _, ((q2, _) :: (q1, _) :: (q, _) :: ro), rfl, ⟨(by simp only [PS.fin]; omega), rfl, rfl, rfl, rfl⟩, O, (da_one (da_com (da_keep D1))), (da_keep (da_keep (da_err D2 (by omega)))), (da_keep (da_keep (da_keep D3))), (tups_cons rfl (tups_cons rfl (tups_cons rfl U)))⟩
  · intro n60 n45 n0 nN ti' tt' h' tk' F' N'
    have m60 := sn60 n60
    have m45 := sn45 n45
    have m0 := sn0 n0
    have mN := snN nN
    obtain ⟨n, hn⟩ := Option.ne_none_iff_exists'.mp mN
    have p60 : n ≠ 60 := fun h => m60 (by rw [hn, h])
    have p45 : n ≠ 45 := fun h => m45 (by rw [hn, h])
    have p0 : n ≠ 0 := fun h => m0 (by rw [hn, h])
    have e : σ.step ws[σ.at_]? = (σ.put [n]).to .com := by simp [PS.step, hst, PS.abrupt, hn, p60, p45, p0]
    refine hret _ _ _ ?_ F' N'
    rw [e]
    exact ⟨_, _, _, _, _, _, _, _, _, _, _, _, ro, rfl, ⟨(by simp only [PS.to, PS.put]; omega), by simp only [PS.to, PS.put, hst], rfl, rfl, (by rw [hn]; exact app_ _ _)⟩, hr, D1, D2, D3, U⟩
set_option maxRecDepth 100000 in
set_option maxHeartbeats 4000000 in
theorem fin_lt (hA : Apart x dx st dst sg se ot er dr ddr da sm) {ws : List Nat} (hV : SgnAre vs ws) {σ : PS} (g : σ.Good ws.length) (hst : σ.st = .lt) (hdn : σ.dn = false) {lay : Led} (hL : Lay w.params k0 k1 k2 k3 k4 k5 k6 k7 k8 k9 k10 k11 k12 k13 v0 v1 v2 v3 g0 g1 g2 g3 g4 g5 g6 g7 x dx st dst sg se ot er dr ddr da sm osm tb tu tc tl tg th cl rt vs ns vse nse es ex σ lay) :
    CallC w p loose mean mg mb 70 [.ref x] 8 32 lay (fun h₀ L m s Q => ∀ lay' h' tk', Lay w.params k0 k1 k2 k3 k4 k5 k6 k7 k8 k9 k10 k11 k12 k13 v0 v1 v2 v3 g0 g1 g2 g3 g4 g5 g6 g7 x dx st dst sg se ot er dr ddr da sm osm tb tu tc tl tg th cl rt vs ns vse nse es ex (σ.step ws[σ.at_]?) lay' → Fr h₀ L h' m → News h₀ L h' lay' → Q .none { s with heap := h', toks := tk' }) := by
  obtain ⟨i, ti, z, tz, dv, dn, tx, tt, vo, no, ve, ne, ro, rfl, ⟨rfl, rfl, rfl, rfl, rfl⟩, hr, D1, D2, D3, U⟩ := hL
  obtain ⟨tcc, hc, hc2⟩ := sgn_at hV σ.at_
  have hsd : σ.st ≠ .data := by rw [hst]; decide
  have hh := g.hd hdn hsd
  have z1 := g.n_le
  have z2 := g.at_le hdn hsd
  have z3 := g.er
  have z4 := g.ou
  have z5 := g.tx
  have z6 := PS.psi_le σ
  have y1 := DatAll.length D1
  have y2 := DatAll.length D2
  rw [Array.length_toList] at y1 y2
  have b2 : vs.size ≤ 1000 := by rw [hV.1]; omega
  have b4 : (if σ.hd then Value.ref dr else .none) = .ref dr := by rw [hh]; rfl
  have b7 : (tx_ σ.tx).length ≤ 1000 := by rw [len_]; omega
  intro dp un gd cn cs a ccd cll outer A₀ base h₀ L m s Q E B F X N T hk hd hu hret
  refine st_lt hA hr (sgn ws[σ.at_]?) tcc (by omega) b2 (by omega) hc hc2 b4 (by omega) (by omega) b7 (sgn_len _) dp un gd cn cs a ccd cll outer A₀ base h₀ L m s Q E B F X N T hk hd hu ⟨?_, ?_, ?_⟩
  · intro c33 ti' tt' tz' h' tk' F' N'
    have o0 := sg33 c33
    have e : σ.step ws[σ.at_]? = (σ.put [33]).to .bang := by simp [PS.step, hst, PS.abrupt, o0]
    refine hret _ _ _ ?_ F' N'
    rw [e]
    exact ⟨_, _, _, _, _, _, _, _, _, _, _, _, ro, rfl, ⟨(by simp only [PS.to, PS.put]; omega), rfl, rfl, rfl, (by rw [o0]; exact app_ _ _)⟩, hr, D1, D2, D3, U⟩
  · intro n33 c60 ti' tt' h' tk' F' N'
    have m33 := sn33 n33
    have o0 := sg60 c60
    have e : σ.step ws[σ.at_]? = (σ.put [60]).to .lt := by simp [PS.step, hst, PS.abrupt, m33, o0]
    refine hret _ _ _ ?_ F' N'
    rw [e]
    exact ⟨_, _, _, _, _, _, _, _, _, _, _, _, ro, rfl, ⟨(by simp only [PS.to, PS.put]; omega), by simp only [PS.to, PS.put, hst], rfl, rfl, (by rw [o0]; exact app_ _ _)⟩, hr, D1, D2, D3, U⟩
  · intro n33 n60 ti' tz' h' tk' F' N'
    have m33 := sn33 n33
    have m60 := sn60 n60
    have e : σ.step ws[σ.at_]? = (σ).again .com := by simp [PS.step, hst, PS.abrupt, m33, m60]
    refine hret _ _ _ ?_ F' N'
    rw [e]
    exact ⟨_, _, _, _, _, _, _, _, _, _, _, _, ro, rfl, ⟨(by simp only [PS.again, PS.put]; omega), rfl, rfl, rfl, rfl⟩, hr, D1, D2, D3, U⟩
set_option maxRecDepth 100000 in
set_option maxHeartbeats 4000000 in
theorem fin_bang (hA : Apart x dx st dst sg se ot er dr ddr da sm) {ws : List Nat} (hV : SgnAre vs ws) {σ : PS} (g : σ.Good ws.length) (hst : σ.st = .bang) (hdn : σ.dn = false) {lay : Led} (hL : Lay w.params k0 k1 k2 k3 k4 k5 k6 k7 k8 k9 k10 k11 k12 k13 v0 v1 v2 v3 g0 g1 g2 g3 g4 g5 g6 g7 x dx st dst sg se ot er dr ddr da sm osm tb tu tc tl tg th cl rt vs ns vse nse es ex σ lay) :
    CallC w p loose mean mg mb 77 [.ref x] 8 32 lay (fun h₀ L m s Q => ∀ lay' h' tk', Lay w.params k0 k1 k2 k3 k4 k5 k6 k7 k8 k9 k10 k11 k12 k13 v0 v1 v2 v3 g0 g1 g2 g3 g4 g5 g6 g7 x dx st dst sg se ot er dr ddr da sm osm tb tu tc tl tg th cl rt vs ns vse nse es ex (σ.step ws[σ.at_]?) lay' → Fr h₀ L h' m → News h₀ L h' lay' → Q .none { s with heap := h', toks := tk' }) := by
  obtain ⟨i, ti, z, tz, dv, dn, tx, tt, vo, no, ve, ne, ro, rfl, ⟨rfl, rfl, rfl, rfl, rfl⟩, hr, D1, D2, D3, U⟩ := hL
  obtain ⟨tcc, hc, hc2⟩ := sgn_at hV σ.at_
  have hsd : σ.st ≠ .data := by rw [hst]; decide
  have hh := g.hd hdn hsd
  have z1 := g.n_le
  have z2 := g.at_le hdn hsd
  have z3 := g.er
  have z4 := g.ou
  have z5 := g.tx
  have z6 := PS.psi_le σ
  have y1 := DatAll.length D1
  have y2 := DatAll.length D2
  rw [Array.length_toList] at y1 y2
  have b2 : vs.size ≤ 1000 := by rw [hV.1]; omega
  have b4 : (if σ.hd then Value.ref dr else .none) = .ref dr := by rw [hh]; rfl
  have b7 : (tx_ σ.tx).length ≤ 1000 := by rw [len_]; omega
  intro dp un gd cn cs a ccd cll outer A₀ base h₀ L m s Q E B F X N T hk hd hu hret
  refine st_bang hA hr (sgn ws[σ.at_]?) tcc (by omega) b2 (by omega) hc hc2 b4 (by omega) (by omega) b7 (sgn_len _) dp un gd cn cs a ccd cll outer A₀ base h₀ L m s Q E B F X N T hk hd hu ⟨?_, ?_⟩
  · intro c45 ti' tz' h' tk' F' N'
    have o0 := sg45 c45
    have e : σ.step ws[σ.at_]? = (σ).to .bdash := by simp [PS.step, hst, PS.abrupt, o0]
    refine hret _ _ _ ?_ F' N'
    rw [e]
    exact ⟨_, _, _, _, _, _, _, _, _, _, _, _, ro, rfl, ⟨(by simp only [PS.to, PS.put]; omega), rfl, rfl, rfl, rfl⟩, hr, D1, D2, D3, U⟩
  · intro n45 ti' tz' h' tk' F' N'
    have m45 := sn45 n45
    have e : σ.step ws[σ.at_]? = (σ).again .com := by simp [PS.step, hst, PS.abrupt, m45]
    refine hret _ _ _ ?_ F' N'
    rw [e]
    exact ⟨_, _, _, _, _, _, _, _, _, _, _, _, ro, rfl, ⟨(by simp only [PS.again, PS.put]; omega), rfl, rfl, rfl, rfl⟩, hr, D1, D2, D3, U⟩
set_option maxRecDepth 100000 in
set_option maxHeartbeats 4000000 in
theorem fin_bang_dash (hA : Apart x dx st dst sg se ot er dr ddr da sm) {ws : List Nat} (hV : SgnAre vs ws) {σ : PS} (g : σ.Good ws.length) (hst : σ.st = .bdash) (hdn : σ.dn = false) {lay : Led} (hL : Lay w.params k0 k1 k2 k3 k4 k5 k6 k7 k8 k9 k10 k11 k12 k13 v0 v1 v2 v3 g0 g1 g2 g3 g4 g5 g6 g7 x dx st dst sg se ot er dr ddr da sm osm tb tu tc tl tg th cl rt vs ns vse nse es ex σ lay) :
    CallC w p loose mean mg mb 84 [.ref x] 8 32 lay (fun h₀ L m s Q => ∀ lay' h' tk', Lay w.params k0 k1 k2 k3 k4 k5 k6 k7 k8 k9 k10 k11 k12 k13 v0 v1 v2 v3 g0 g1 g2 g3 g4 g5 g6 g7 x dx st dst sg se ot er dr ddr da sm osm tb tu tc tl tg th cl rt vs ns vse nse es ex (σ.step ws[σ.at_]?) lay' → Fr h₀ L h' m → News h₀ L h' lay' → Q .none { s with heap := h', toks := tk' }) := by
  obtain ⟨i, ti, z, tz, dv, dn, tx, tt, vo, no, ve, ne, ro, rfl, ⟨rfl, rfl, rfl, rfl, rfl⟩, hr, D1, D2, D3, U⟩ := hL
  obtain ⟨tcc, hc, hc2⟩ := sgn_at hV σ.at_
  have hsd : σ.st ≠ .data := by rw [hst]; decide
  have hh := g.hd hdn hsd
  have z1 := g.n_le
  have z2 := g.at_le hdn hsd
  have z3 := g.er
  have z4 := g.ou
  have z5 := g.tx
  have z6 := PS.psi_le σ
  have y1 := DatAll.length D1
  have y2 := DatAll.length D2
  rw [Array.length_toList] at y1 y2
  have b2 : vs.size ≤ 1000 := by rw [hV.1]; omega
  have b4 : (if σ.hd then Value.ref dr else .none) = .ref dr := by rw [hh]; rfl
  have b7 : (tx_ σ.tx).length ≤ 1000 := by rw [len_]; omega
  intro dp un gd cn cs a ccd cll outer A₀ base h₀ L m s Q E B F X N T hk hd hu hret
  refine st_bang_dash hA hr (sgn ws[σ.at_]?) tcc (by omega) b2 (by omega) hc hc2 b4 (by omega) (by omega) b7 (sgn_len _) dp un gd cn cs a ccd cll outer A₀ base h₀ L m s Q E B F X N T hk hd hu ⟨?_, ?_⟩
  · intro c45 ti' tz' h' tk' F' N'
    have o0 := sg45 c45
    have e : σ.step ws[σ.at_]? = (σ).to .bdd := by simp [PS.step, hst, PS.abrupt, o0]
    refine hret _ _ _ ?_ F' N'
    rw [e]
    exact ⟨_, _, _, _, _, _, _, _, _, _, _, _, ro, rfl, ⟨(by simp only [PS.to, PS.put]; omega), rfl, rfl, rfl, rfl⟩, hr, D1, D2, D3, U⟩
  · intro n45 ti' tz' h' tk' F' N'
    have m45 := sn45 n45
    have e : σ.step ws[σ.at_]? = (σ).again .edash := by simp [PS.step, hst, PS.abrupt, m45]
    refine hret _ _ _ ?_ F' N'
    rw [e]
    exact ⟨_, _, _, _, _, _, _, _, _, _, _, _, ro, rfl, ⟨(by simp only [PS.again, PS.put]; omega), rfl, rfl, rfl, rfl⟩, hr, D1, D2, D3, U⟩
set_option maxRecDepth 100000 in
set_option maxHeartbeats 4000000 in
theorem fin_bdd (hA : Apart x dx st dst sg se ot er dr ddr da sm) {ws : List Nat} (hV : SgnAre vs ws) {σ : PS} (g : σ.Good ws.length) (hst : σ.st = .bdd) (hdn : σ.dn = false) {lay : Led} (hL : Lay w.params k0 k1 k2 k3 k4 k5 k6 k7 k8 k9 k10 k11 k12 k13 v0 v1 v2 v3 g0 g1 g2 g3 g4 g5 g6 g7 x dx st dst sg se ot er dr ddr da sm osm tb tu tc tl tg th cl rt vs ns vse nse es ex σ lay) :
    CallC w p loose mean mg mb 91 [.ref x] 8 32 lay (fun h₀ L m s Q => ∀ lay' h' tk', Lay w.params k0 k1 k2 k3 k4 k5 k6 k7 k8 k9 k10 k11 k12 k13 v0 v1 v2 v3 g0 g1 g2 g3 g4 g5 g6 g7 x dx st dst sg se ot er dr ddr da sm osm tb tu tc tl tg th cl rt vs ns vse nse es ex (σ.step ws[σ.at_]?) lay' → Fr h₀ L h' m → News h₀ L h' lay' → Q .none { s with heap := h', toks := tk' }) := by
  obtain ⟨i, ti, z, tz, dv, dn, tx, tt, vo, no, ve, ne, ro, rfl, ⟨rfl, rfl, rfl, rfl, rfl⟩, hr, D1, D2, D3, U⟩ := hL
  obtain ⟨tcc, hc, hc2⟩ := sgn_at hV σ.at_
  have hsd : σ.st ≠ .data := by rw [hst]; decide
  have hh := g.hd hdn hsd
  have z1 := g.n_le
  have z2 := g.at_le hdn hsd
  have z3 := g.er
  have z4 := g.ou
  have z5 := g.tx
  have z6 := PS.psi_le σ
  have y1 := DatAll.length D1
  have y2 := DatAll.length D2
  rw [Array.length_toList] at y1 y2
  have b2 : vs.size ≤ 1000 := by rw [hV.1]; omega
  have b4 : (if σ.hd then Value.ref dr else .none) = .ref dr := by rw [hh]; rfl
  have b7 : (tx_ σ.tx).length ≤ 1000 := by rw [len_]; omega
  intro dp un gd cn cs a ccd cll outer A₀ base h₀ L m s Q E B F X N T hk hd hu hret
  refine st_bdd hA hr (sgn ws[σ.at_]?) tcc (by omega) b2 (by omega) hc hc2 b4 (by omega) (by omega) b7 (sgn_len _) dp un gd cn cs a ccd cll outer A₀ base h₀ L m s Q E B F X N T hk hd hu ⟨?_, ?_⟩
  · intro c0 ti' tz' h' tk' F' N'
    have o0 := bdd_y c0
    have e : σ.step ws[σ.at_]? = (σ).again .en := by simp only [PS.step, hst]; exact if_pos o0
    refine hret _ _ _ ?_ F' N'
    rw [e]
    exact ⟨_, _, _, _, _, _, _, _, _, _, _, _, ro, rfl, ⟨(by simp only [PS.again, PS.put]; omega), rfl, rfl, rfl, rfl⟩, hr, D1, D2, D3, U⟩
  · intro c0 ti' q ty ti2 tz' h' tk' F' N' O
    have o0 := bdd_n c0
    have e : σ.step ws[σ.at_]? = (σ.say "nested-comment").again .en := by simp only [PS.step, hst]; exact if_neg o0
    refine hret _ _ _ ?_ F' N'
    rw [e]
    exact ⟨_, _, _, _, _, _, _, _, _, _, _, _, ((q, _) :: ro), rfl, ⟨(by simp only [PS.again, PS.say]; omega), rfl, rfl, rfl, rfl⟩, O, (da_keep D1), (da_err D2 (by omega)), (da_keep D3), (tups_cons rfl U)⟩
set_option maxRecDepth 100000 in
set_option maxHeartbeats 4000000 in
theorem fin_end_dash (hA : Apart x dx st dst sg se ot er dr ddr da sm) {ws : List Nat} (hV : SgnAre vs ws) {σ : PS} (g : σ.Good ws.length) (hst : σ.st = .edash) (hdn : σ.dn = false) {lay : Led} (hL : Lay w.params k0 k1 k2 k3 k4 k5 k6 k7 k8 k9 k10 k11 k12 k13 v0 v1 v2 v3 g0 g1 g2 g3 g4 g5 g6 g7 x dx st dst sg se ot er dr ddr da sm osm tb tu tc tl tg th cl rt vs ns vse nse es ex σ lay) :
    CallC w p loose mean mg mb 98 [.ref x] 8 32 lay (fun h₀ L m s Q => ∀ lay' h' tk', Lay w.params k0 k1 k2 k3 k4 k5 k6 k7 k8 k9 k10 k11 k12 k13 v0 v1 v2 v3 g0 g1 g2 g3 g4 g5 g6 g7 x dx st dst sg se ot er dr ddr da sm osm tb tu tc tl tg th cl rt vs ns vse nse es ex (σ.step ws[σ.at_]?) lay' → Fr h₀ L h' m → News h₀ L h' lay' → Q .none { s with heap := h', toks := tk' }) := by
  obtain ⟨i, ti, z, tz, dv, dn, tx, tt, vo, no, ve, ne, ro, rfl, ⟨rfl, rfl, rfl, rfl, rfl⟩, hr, D1, D2, D3, U⟩ := hL
  obtain ⟨tcc, hc, hc2⟩ := sgn_at hV σ.at_
  have hsd : σ.st ≠ .data := by rw [hst]; decide
  have hh := g.hd hdn hsd
  have z1 := g.n_le
  have z2 := g.at_le hdn hsd
  have z3 := g.er
  have z4 := g.ou
  have z5 := g.tx
  have z6 := PS.psi_le σ
  have y1 := DatAll.length D1
  have y2 := DatAll.length D2
  rw [Array.length_toList] at y1 y2
  have b2 : vs.size ≤ 1000 := by rw [hV.1]; omega
  have b4 : (if σ.hd then Value.ref dr else .none) = .ref dr := by rw [hh]; rfl
  have b7 : (tx_ σ.tx).length ≤ 1000 := by rw [len_]; omega
  intro dp un gd cn cs a ccd cll outer A₀ base h₀ L m s Q E B F X N T hk hd hu hret
  refine st_end_dash hA hr (sgn ws[σ.at_]?) tcc (by omega) b2 (by omega) hc hc2 b4 (by omega) (by omega) b7 (sgn_len _) dp un gd cn cs a ccd cll outer A₀ base h₀ L m s Q E B F X N T hk hd hu ⟨?_, ?_, ?_⟩
  · intro c45 ti' tz' h' tk' F' N'
    have o0 := sg45 c45
    have e : σ.step ws[σ.at_]? = (σ).to .en := by simp [PS.step, hst, PS.abrupt, o0]
    refine hret _ _ _ ?_ F' N'
    rw [e]
    exact ⟨_, _, _, _, _, _, _, _, _, _, _, _, ro, rfl, ⟨(by simp only [PS.to, PS.put]; omega), rfl, rfl, rfl, rfl⟩, hr, D1, D2, D3, U⟩
  · intro n45 cN ti' q ty ti2 q1 t1 q2 t2 h' tk' F' N' O
    have m45 := sn45 n45
    have o0 := sgN cN
    have e : σ.step ws[σ.at_]? = σ.fin := by simp [PS.step, hst, PS.abrupt, m45, o0]
    refine hret _ _ _ ?_ F' N'
    rw [e]
    exact ⟨_, _, _, _, _, _, _, _, _, _, _, _, ((q2, _) :: (q1, _) :: (q, _) :: ro), rfl, ⟨(by simp only [PS.fin]; omega), rfl, rfl, rfl, rfl⟩, O, (da_one (da_com (da_keep D1))), (da_keep (da_keep (da_err D2 (by omega)))), (da_keep (da_keep (da_keep D3))), (tups_cons rfl (tups_cons rfl (tups_cons rfl U)))⟩
  · intro n45 nN ti' tt' tz' h' tk' F' N'
    have m45 := sn45 n45
    have mN := snN nN
    have e : σ.step ws[σ.at_]? = (σ.put [45]).again .com := by simp [PS.step, hst, PS.abrupt, m45, mN]
    refine hret _ _ _ ?_ F' N'
    rw [e]
    exact ⟨_, _, _, _, _, _, _, _, _, _, _, _, ro, rfl, ⟨(by simp only [PS.again, PS.put]; omega), rfl, rfl, rfl, (by rw [lit45]; exact app_ _ _)⟩, hr, D1, D2, D3, U⟩
set_option maxRecDepth 100000 in
set_option maxHeartbeats 4000000 in
theorem fin_end (hA : Apart x dx st dst sg se ot er dr ddr da sm) {ws : List Nat} (hV : SgnAre vs ws) {σ : PS} (g : σ.Good ws.length) (hst : σ.st = .en) (hdn : σ.dn = false) {lay : Led} (hL : Lay w.params k0 k1 k2 k3 k4 k5 k6 k7 k8 k9 k10 k11 k12 k13 v0 v1 v2 v3 g0 g1 g2 g3 g4 g5 g6 g7 x dx st dst sg se ot er dr ddr da sm osm tb tu tc tl tg th cl rt vs ns vse nse es ex σ lay) :
    CallC w p loose mean mg mb 105 [.ref x] 8 32 lay (fun h₀ L m s Q => ∀ lay' h' tk', Lay w.params k0 k1 k2 k3 k4 k5 k6 k7 k8 k9 k10 k11 k12 k13 v0 v1 v2 v3 g0 g1 g2 g3 g4 g5 g6 g7 x dx st dst sg se ot er dr ddr da sm osm tb tu tc tl tg th cl rt vs ns vse nse es ex (σ.step ws[σ.at_]?) lay' → Fr h₀ L h' m → News h₀ L h' lay' → Q .none { s with heap := h', toks := tk' }) := by
  obtain ⟨i, ti, z, tz, dv, dn, tx, tt, vo, no, ve, ne, ro, rfl, ⟨rfl, rfl, rfl, rfl, rfl⟩, hr, D1, D2, D3, U⟩ := hL
  obtain ⟨tcc, hc, hc2⟩ := sgn_at hV σ.at_
  have hsd : σ.st ≠ .data := by rw [hst]; decide
  have hh := g.hd hdn hsd
  have z1 := g.n_le
  have z2 := g.at_le hdn hsd
  have z3 := g.er
  have z4 := g.ou
  have z5 := g.tx
  have z6 := PS.psi_le σ
  have y1 := DatAll.length D1
  have y2 := DatAll.length D2
  rw [Array.length_toList] at y1 y2
  have b2 : vs.size ≤ 1000 := by rw [hV.1]; omega
  have b4 : (if σ.hd then Value.ref dr else .none) = .ref dr := by rw [hh]; rfl
  have b7 : (tx_ σ.tx).length ≤ 1000 := by rw [len_]; omega
  intro dp un gd cn cs a ccd cll outer A₀ base h₀ L m s Q E B F X N T hk hd hu hret
  refine st_end hA hr (sgn ws[σ.at_]?) tcc (by omega) b2 (by omega) hc hc2 b4 (by omega) (by omega) b7 (sgn_len _) dp un gd cn cs a ccd cll outer A₀ base h₀ L m s Q E B F X N T hk hd hu ⟨?_, ?_, ?_, ?_, ?_⟩
  · intro c62 ti' q1 t1 tz' h' tk' F' N' O
    have o0 := sg62 c62
    have e : σ.step ws[σ.at_]? = σ.close := by simp [PS.step, hst, PS.abrupt, o0]
    refine hret _ _ _ ?_ F' N'
    rw [e]
    exact ⟨_, _, _, _, _, _, _, _, _, _, _, _, ((q1, _) :: ro), rfl, ⟨(by simp only [PS.close]; omega), rfl, rfl, rfl, rfl⟩, O, (da_com D1), (da_keep D2), (da_keep D3), (tups_cons rfl U)⟩
  · intro n62 c33 ti' tz' h' tk' F' N'
    have m62 := sn62 n62
    have o0 := sg33 c33
    have e : σ.step ws[σ.at_]? = (σ).to .ebang := by simp [PS.step, hst, PS.abrupt, m62, o0]
    refine hret _ _ _ ?_ F' N'
    rw [e]
    exact ⟨_, _, _, _, _, _, _, _, _, _, _, _, ro, rfl, ⟨(by simp only [PS.to, PS.put]; omega), rfl, rfl, rfl, rfl⟩, hr, D1, D2, D3, U⟩
  · intro n62 n33 c45 ti' tt' h' tk' F' N'
    have m62 := sn62 n62
    have m33 := sn33 n33
    have o0 := sg45 c45
    have e : σ.step ws[σ.at_]? = (σ.put [45]).to .en := by simp [PS.step, hst, PS.abrupt, m62, m33, o0]
    refine hret _ _ _ ?_ F' N'
    rw [e]
    exact ⟨_, _, _, _, _, _, _, _, _, _, _, _, ro, rfl, ⟨(by simp only [PS.to, PS.put]; omega), by simp only [PS.to, PS.put, hst], rfl, rfl, (by rw [lit45]; exact app_ _ _)⟩, hr, D1, D2, D3, U⟩
  · intro n62 n33 n45 cN ti' q ty ti2 q1 t1 q2 t2 h' tk' F' N' O
    have m62 := sn62 n62
    have m33 := sn33 n33
    have m45 := sn45 n45
    have o0 := sgN cN
    have e : σ.step ws[σ.at_]? = σ.fin := by simp [PS.step, hst, PS.abrupt, m62, m33, m45, o0]
    refine hret _ _ _ ?_ F' N'
    rw [e]
    exact ⟨_, _, _, _, _, _, _, _, _, _, _, _, ((q2, _) :: (q1, _) :: (q, _) :: ro), rfl, ⟨(by simp only [PS.fin]; omega), rfl, rfl, rfl, rfl⟩, O, (da_one (da_com (da_keep D1))), (da_keep (da_keep (da_err D2 (by omega)))), (da_keep (da_keep (da_keep D3))), (tups_cons rfl (tups_cons rfl (tups_cons rfl U)))⟩
  · intro n62 n33 n45 nN ti' tt' tz' h' tk' F' N'
    have m62 := sn62 n62
    have m33 := sn33 n33
    have m45 := sn45 n45
    have mN := snN nN
    have e : σ.step ws[σ.at_]? = (σ.put [45, 45]).again .com := by simp [PS.step, hst, PS.abrupt, m62, m33, m45, mN]
    refine hret _ _ _ ?_ F' N'
    rw [e]
    exact ⟨_, _, _, _, _, _, _, _, _, _, _, _, ro, rfl, ⟨(by simp only [PS.again, PS.put]; omega), rfl, rfl, rfl, (by rw [lit2]; exact app_ _ _)⟩, hr, D1, D2, D3, U⟩
set_option maxRecDepth 100000 in
set_option maxHeartbeats 4000000 in
theorem fin_end_bang (hA : Apart x dx st dst sg se ot er dr ddr da sm) {ws : List Nat} (hV : SgnAre vs ws) {σ : PS} (g : σ.Good ws.length) (hst : σ.st = .ebang) (hdn : σ.dn = false) {lay : Led} (hL : Lay w.params k0 k1 k2 k3 k4 k5 k6 k7 k8 k9 k10 k11 k12 k13 v0 v1 v2 v3 g0 g1 g2 g3 g4 g5 g6 g7 x dx st dst sg se ot er dr ddr da sm osm tb tu tc tl tg th cl rt vs ns vse nse es ex σ lay) :
    CallC w p loose mean mg mb 112 [.ref x] 8 32 lay (fun h₀ L m s Q => ∀ lay' h' tk', Lay w.params k0 k1 k2 k3 k4 k5 k6 k7 k8 k9 k10 k11 k12 k13 v0 v1 v2 v3 g0 g1 g2 g3 g4 g5 g6 g7 x dx st dst sg se ot er dr ddr da sm osm tb tu tc tl tg th cl rt vs ns vse nse es ex (σ.step ws[σ.at_]?) lay' → Fr h₀ L h' m → News h₀ L h' lay' → Q .none { s with heap := h', toks := tk' }) := by
  obtain ⟨i, ti, z, tz, dv, dn, tx, tt, vo, no, ve, ne, ro, rfl, ⟨rfl, rfl, rfl, rfl, rfl⟩, hr, D1, D2, D3, U⟩ := hL
  obtain ⟨tcc, hc, hc2⟩ := sgn_at hV σ.at_
  have hsd : σ.st ≠ .data := by rw [hst]; decide
  have hh := g.hd hdn hsd
  have z1 := g.n_le
  have z2 := g.at_le hdn hsd
  have z3 := g.er
  have z4 := g.ou
  have z5 := g.tx
  have z6 := PS.psi_le σ
  have y1 := DatAll.length D1
  have y2 := DatAll.length D2
  rw [Array.length_toList] at y1 y2
  have b2 : vs.size ≤ 1000 := by rw [hV.1]; omega
  have b4 : (if σ.hd then Value.ref dr else .none) = .ref dr := by rw [hh]; rfl
  have b7 : (tx_ σ.tx).length ≤ 1000 := by rw [len_]; omega
  intro dp un gd cn cs a ccd cll outer A₀ base h₀ L m s Q E B F X N T hk hd hu hret
  refine st_end_bang hA hr (sgn ws[σ.at_]?) tcc (by omega) b2 (by omega) hc hc2 b4 (by omega) (by omega) b7 (sgn_len _) dp un gd cn cs a ccd cll outer A₀ base h₀ L m s Q E B F X N T hk hd hu ⟨?_, ?_, ?_, ?_⟩
  · intro c45 ti' tt' tz' h' tk' F' N'
    have o0 := sg45 c45
    have e : σ.step ws[σ.at_]? = (σ.put [45, 45, 33]).to .edash := by simp [PS.step, hst, PS.abrupt, o0]
    refine hret _ _ _ ?_ F' N'
    rw [e]
    exact ⟨_, _, _, _, _, _, _, _, _, _, _, _, ro, rfl, ⟨(by simp only [PS.to, PS.put]; omega), rfl, rfl, rfl, (by rw [lit3]; exact app_ _ _)⟩, hr, D1, D2, D3, U⟩
  · intro n45 c62 ti' q ty ti2 q1 t1 tz' h' tk' F' N' O
    have m45 := sn45 n45
    have o0 := sg62 c62
    have e : σ.step ws[σ.at_]? = (σ.say "incorrectly-closed-comment").close := by simp [PS.step, hst, PS.abrupt, m45, o0]
    refine hret _ _ _ ?_ F' N'
    rw [e]
    exact ⟨_, _, _, _, _, _, _, _, _, _, _, _, ((q1, _) :: (q, _) :: ro), rfl, ⟨(by simp only [PS.close, PS.say]; omega), rfl, rfl, rfl, rfl⟩, O, (da_com (da_keep D1)), (da_keep (da_err D2 (by omega))), (da_keep (da_keep D3)), (tups_cons rfl (tups_cons rfl U))⟩
  · intro n45 n62 cN ti' q ty ti2 q1 t1 q2 t2 h' tk' F' N' O
    have m45 := sn45 n45
    have m62 := sn62 n62
    have o0 := sgN cN
    have e : σ.step ws[σ.at_]? = σ.fin := by simp [PS.step, hst, PS.abrupt, m45, m62, o0]
    refine hret _ _ _ ?_ F' N'
    rw [e]
    exact ⟨_, _, _, _, _, _, _, _, _, _, _, _, ((q2, _) :: (q1, _) :: (q, _) :: ro), rfl, ⟨(by simp only [PS.fin]; omega), rfl, rfl, rfl, rfl⟩, O, (da_one (da_com (da_keep D1))), (da_keep (da_keep (da_err D2 (by omega)))), (da_keep (da_keep (da_keep D3))), (tups_cons rfl (tups_cons rfl (tups_cons rfl U)))⟩
  · intro n45 n62 nN ti' tt' tz' h' tk' F' N'
    have m45 := sn45 n45
    have m62 := sn62 n62
    have mN := snN nN
    have e : σ.step ws[σ.at_]? = (σ.put [45, 45, 33]).again .com := by simp [PS.step, hst, PS.abrupt, m45, m62, mN]
    refine hret _ _ _ ?_ F' N'
    rw [e]
    exact ⟨_, _, _, _, _, _, _, _, _, _, _, _, ro, rfl, ⟨(by simp only [PS.again, PS.put]; omega), rfl, rfl, rfl, (by rw [lit3]; exact app_ _ _)⟩, hr, D1, D2, D3, U⟩
end
section
open PySem PySem.W PySem.Calls PyProof.Rows
set_option linter.unusedVariables false
theorem calm10 : True := by
  w_top off
  first | walk1 | trivial
theorem fillS : PySem.Challenge.rw_nt0605_02 = PySem.Challenge.rw_nt0605_02 ∧ topK = topK := by
  k_fill
  exact ⟨rfl, rfl⟩


variable {w : World} {p : Program} {loose : List Str} {mean : ExcName → Option Value} {mg mb : Str → Option Value} {k0 k1 k2 k3 k4 k5 k6 k7 k8 k9 k10 k11 k12 k13 v0 v1 v2 v3 g0 g1 g2 g3 g4 g5 g6 g7 : Tok} {x dx st dst sg se ot er dr ddr da sm : Nat} {osm : Obj} {tb tu tc tl tg th : Tok}
  {i : Int} {ti : Tok} {z : Str} {tz : Tok} {dv : Value} {wa dn cl rt : Bool} {vs : Array Value} {ns : Nat} {vse : Array Value} {nse : Nat} {es : List Dat} {tx : Str} {tt : Tok} {vo : Array Value} {no : Nat} {ve : Array Value} {ne : Nat} {r ro ex : Led}
theorem lay_core {σ : PS} {lay : Led} (h : Lay w.params k0 k1 k2 k3 k4 k5 k6 k7 k8 k9 k10 k11 k12 k13 v0 v1 v2 v3 g0 g1 g2 g3 g4 g5 g6 g7 x dx st dst sg se ot er dr ddr da sm osm tb tu tc tl tg th cl rt vs ns vse nse es ex σ lay) : ∃ i ti z tz dv dn tx tt vo no ve ne r, lay = (core w.params k0 k1 k2 k3 k4 k5 k6 k7 k8 k9 k10 k11 k12 k13 v0 v1 v2 v3 g0 g1 g2 g3 g4 g5 g6 g7 x dx st dst sg se ot er dr ddr da sm osm tb tu tc tl tg th i ti z tz dv false dn cl rt vs ns vse nse tx tt vo no ve ne r) ∧ OwnOff r [dx, dst, sg, se, ot, er, ddr] := by
  obtain ⟨i, ti, z, tz, dv, dn, tx, tt, vo, no, ve, ne, ro, e, _, hr, _⟩ := h
  exact ⟨i, ti, z, tz, dv, dn, tx, tt, vo, no, ve, ne, ro ++ ex, e, hr⟩
theorem isSome_st (t : St) : (valueAt stPairs t.name).isSome = (t != .data) := by cases t <;> decide
set_option maxRecDepth 100000 in
set_option maxHeartbeats 4000000 in
theorem ready_s (hA : Apart x dx st dst sg se ot er dr ddr da sm) (hsm : Obj.IsDictOf (strKind PySem.Challenge.rw_nt0605_02.row.prog w) osm stPairs) (hlo : (sm == sysModules) = false) {ws : List Nat} (hV : SgnAre vs ws) {σ : PS} (g : σ.Good ws.length) {lay : Led} (hL : Lay w.params k0 k1 k2 k3 k4 k5 k6 k7 k8 k9 k10 k11 k12 k13 v0 v1 v2 v3 g0 g1 g2 g3 g4 g5 g6 g7 x dx st dst sg se ot er dr ddr da sm osm tb tu tc tl tg th cl rt vs ns vse nse es ex σ lay) :
    CallC w p loose mean mg mb 370 [.ref x] 4 20 lay (fun h₀ L m s Q => ∀ h' tk', Fr h₀ L h' m → News h₀ L h' lay → Q (.bool (σ.ready cl ws.length)) { s with heap := h', toks := tk' }) := by
  obtain ⟨i, ti, z, tz, dv, dn, tx, tt, vo, no, ve, ne, ro, rfl, ⟨rfl, rfl, rfl, rfl, rfl⟩, hr, D1, D2, D3, U⟩ := hL
  have z1 := g.n_le
  have b2 : vs.size ≤ 1000 := by rw [hV.1]; omega
  have e : (!σ.dn && (valueAt stPairs σ.st.name).isSome && (cl || decide ((σ.at_ : Int) < vs.size))) = σ.ready cl ws.length := by
    rw [isSome_st, hV.1]
    unfold PS.ready
    congr 2
    exact decide_eq_decide.mpr (by omega)
  rw [← e]
  exact ready_c hA hr hsm hlo rfl b2
set_option maxRecDepth 100000 in
set_option maxHeartbeats 4000000 in
theorem step_s (hA : Apart x dx st dst sg se ot er dr ddr da sm) (hsm : Obj.IsDictOf (strKind PySem.Challenge.rw_nt0605_02.row.prog w) osm stPairs) (hlo : (sm == sysModules) = false) {ws : List Nat} (hV : SgnAre vs ws) {σ : PS} (g : σ.Good ws.length) (hrd : σ.ready cl ws.length = true) {lay : Led} (hL : Lay w.params k0 k1 k2 k3 k4 k5 k6 k7 k8 k9 k10 k11 k12 k13 v0 v1 v2 v3 g0 g1 g2 g3 g4 g5 g6 g7 x dx st dst sg se ot er dr ddr da sm osm tb tu tc tl tg th cl rt vs ns vse nse es ex σ lay) :
    CallC w p loose mean mg mb 363 [.ref x] 12 48 lay (fun h₀ L m s Q => ∀ lay' h' tk', Lay w.params k0 k1 k2 k3 k4 k5 k6 k7 k8 k9 k10 k11 k12 k13 v0 v1 v2 v3 g0 g1 g2 g3 g4 g5 g6 g7 x dx st dst sg se ot er dr ddr da sm osm tb tu tc tl tg th cl rt vs ns vse nse es ex (σ.step ws[σ.at_]?) lay' → Fr h₀ L h' m → News h₀ L h' lay' → Q .none { s with heap := h', toks := tk' }) := by
  have hdn : σ.dn = false := by unfold PS.ready at hrd; revert hrd; cases σ.dn <;> simp
  have hnd : σ.st ≠ .data := by unfold PS.ready at hrd; intro h; rw [h] at hrd; simp at hrd
  have hL' := hL
  obtain ⟨i, ti, z, tz, dv, dn, tx, tt, vo, no, ve, ne, ro, rfl, ⟨rfl, rfl, rfl, rfl, rfl⟩, hr, D1, D2, D3, U⟩ := hL
  cases hst : σ.st
  · exact step_c hA hr hsm hlo rfl (f := 49) rfl (by k_is) (fun lay h => lay_core h) (by rw [← hst]; exact fin_start hA hV g hst hdn hL')
  · exact step_c hA hr hsm hlo rfl (f := 56) rfl (by k_is) (fun lay h => lay_core h) (by rw [← hst]; exact fin_start_dash hA hV g hst hdn hL')
  · exact step_c hA hr hsm hlo rfl (f := 63) rfl (by k_is) (fun lay h => lay_core h) (by rw [← hst]; exact fin_comment hA hV g hst hdn hL')
  · exact step_c hA hr hsm hlo rfl (f := 70) rfl (by k_is) (fun lay h => lay_core h) (by rw [← hst]; exact fin_lt hA hV g hst hdn hL')
  · exact step_c hA hr hsm hlo rfl (f := 77) rfl (by k_is) (fun lay h => lay_core h) (by rw [← hst]; exact fin_bang hA hV g hst hdn hL')
  · exact step_c hA hr hsm hlo rfl (f := 84) rfl (by k_is) (fun lay h => lay_core h) (by rw [← hst]; exact fin_bang_dash hA hV g hst hdn hL')
  · exact step_c hA hr hsm hlo rfl (f := 91) rfl (by k_is) (fun lay h => lay_core h) (by rw [← hst]; exact fin_bdd hA hV g hst hdn hL')
  · exact step_c hA hr hsm hlo rfl (f := 98) rfl (by k_is) (fun lay h => lay_core h) (by rw [← hst]; exact fin_end_dash hA hV g hst hdn hL')
  · exact step_c hA hr hsm hlo rfl (f := 105) rfl (by k_is) (fun lay h => lay_core h) (by rw [← hst]; exact fin_end hA hV g hst hdn hL')
  · exact step_c hA hr hsm hlo rfl (f := 112) rfl (by k_is) (fun lay h => lay_core h) (by rw [← hst]; exact fin_end_bang hA hV g hst hdn hL')
  · exact absurd hst hnd
local macro_rules | `(tactic| walk_at "call ref") => `(tactic| k_dflt ((first
  | ((with_reducible show wpAny _ _ (call (Value.ref 370) _) _ _ _); refine' (ready_s ‹_› ‹_› ‹_› ‹SgnAre _ _› ?g ?hL) _ _ _ _ _ _ _ _ _ _ _ _ _ _ _ _ _ ?B ?F ?X ?N ?T ?k ?d ?u ?_)
  | ((with_reducible show wpAny _ _ (call (Value.ref 363) _) _ _ _); refine' (step_s ‹_› ‹_› ‹_› ‹SgnAre _ _› ?g ?r ?hL) _ _ _ _ _ _ _ _ _ _ _ _ _ _ _ _ _ ?B ?F ?X ?N ?T ?k ?d ?u ?_)); (case N => k_asm); (case F => k_asm); (case B => k_asm); (case X => k_asm); (case T => k_asm); (case k => first | exact rfl | assumption); (case d => ktr_room); (case u => ktr_units); (case hL => assumption); (case g => assumption); (try case r => assumption); intro y'; intros; (try k_sweep)))
set_option maxRecDepth 100000 in
set_option maxHeartbeats 8000000 in
theorem run_s (hA : Apart x dx st dst sg se ot er dr ddr da sm) (hsm : Obj.IsDictOf (strKind PySem.Challenge.rw_nt0605_02.row.prog w) osm stPairs) (hlo : (sm == sysModules) = false) {ws : List Nat} (hV : SgnAre vs ws) {σ : PS} (g : σ.Good ws.length) {lay : Led} (hL : Lay w.params k0 k1 k2 k3 k4 k5 k6 k7 k8 k9 k10 k11 k12 k13 v0 v1 v2 v3 g0 g1 g2 g3 g4 g5 g6 g7 x dx st dst sg se ot er dr ddr da sm osm tb tu tc tl tg th cl rt vs ns vse nse es ex σ lay) :
    CallC w p loose mean mg mb 377 [.ref x] 16 64 lay (fun h₀ L m s Q => ∀ lay' h' tk', Lay w.params k0 k1 k2 k3 k4 k5 k6 k7 k8 k9 k10 k11 k12 k13 v0 v1 v2 v3 g0 g1 g2 g3 g4 g5 g6 g7 x dx st dst sg se ot er dr ddr da sm osm tb tu tc tl tg th cl rt vs ns vse nse es ex (σ.run ws cl (σ.mu ws.length)) lay' → Fr h₀ L h' m → News h₀ L h' lay' → Q (.bool (σ.run ws cl (σ.mu ws.length)).dn) { s with heap := h', toks := tk' }) := by
  intro dp un gd cn cs a ccd cll outer A₀ base h₀ L m s Q E B F X N T hk hd hu hret
  refine wpAny_call ?_
  k_dflt cell_enter
  walk1
  walk1
  (rename Fr _ _ _ _ => F')
  (rename News _ _ _ _ => N')
  refine While_inv2 (fun n m nx => ∃ σ' : PS, Lay w.params k0 k1 k2 k3 k4 k5 k6 k7 k8 k9 k10 k11 k12 k13 v0 v1 v2 v3 g0 g1 g2 g3 g4 g5 g6 g7 x dx st dst sg se ot er dr ddr da sm osm tb tu tc tl tg th cl rt vs ns vse nse es ex σ' nx ∧ σ'.Good ws.length ∧ σ'.mu ws.length = n ∧ σ'.run ws cl (σ'.mu ws.length) = σ.run ws cl (σ.mu ws.length) ∧ m = _) F' N' ⟨σ, hL, g, rfl, rfl, rfl⟩ ?_ (by passes_own)
  rintro n m₁ nx h₁ tk₁ F₁ N₁ ⟨σ', hL₁, g₁, hn, hrun, rfl⟩
  clear F' N' hL g
  have hL₂ := hL₁
  obtain ⟨i, ti, z, tz, dv, dn, tx, tt, vo, no, ve, ne, r, e1, ⟨e2, e3, e4, e5, e6⟩, hr, D1, D2, D3, U⟩ := hL₂
  subst e1
  (try k_fold)
  k_steps
  · have hrd : σ'.ready cl ws.length = true := by assumption
    obtain ⟨g₂, hlt⟩ := PS.ready_step hrd g₁
    exact ⟨_, _, _, _, _, rfl, by k_asm, by k_asm, by rw [← hn]; exact hlt, σ'.step ws[σ'.at_]?, by assumption, g₂, rfl, by rw [← hrun]; exact (PS.run_one hrd g₁).symm, rfl⟩
  · have hrd : σ'.ready cl ws.length = false := by assumption
    have e : σ.run ws cl (σ.mu ws.length) = σ' := by rw [← hrun, PS.run_stop hrd]
    rw [e] at hret
    rw [e5]
    exact hret _ _ _ hL₁ (by k_asm) (by k_asm)
end
section
open PySem PySem.W PySem.Calls PyProof.Rows
set_option linter.unusedVariables false
theorem calm11 : True := by
  w_top off
  first | walk1 | trivial
theorem fillF : PySem.Challenge.rw_nt0605_02 = PySem.Challenge.rw_nt0605_02 ∧ topK = topK := by
  k_fill
  exact ⟨rfl, rfl⟩


variable {w : World} {p : Program} {loose : List Str} {mean : ExcName → Option Value} {mg mb : Str → Option Value} {k0 k1 k2 k3 k4 k5 k6 k7 k8 k9 k10 k11 k12 k13 v0 v1 v2 v3 g0 g1 g2 g3 g4 g5 g6 g7 : Tok} {x dx st dst sg se ot er dr ddr da sm : Nat} {osm : Obj} {tb tu tc tl tg th : Tok}
  {i : Int} {ti : Tok} {z : Str} {tz : Tok} {dv : Value} {wa dn cl rt : Bool} {vs : Array Value} {ns : Nat} {vse : Array Value} {nse : Nat} {es : List Dat} {tx : Str} {tt : Tok} {vo : Array Value} {no : Nat} {ve : Array Value} {ne : Nat} {r ro ex : Led}
theorem lf_in {k : Int} (h : ([0, 9, 10, 12, 13].any fun x => x == k) = true) : ¬ k = 1 := by
  rintro rfl
  exact absurd h (by decide)
theorem lf_out {k : Int} (hA : k ≤ 31 → k = 0 ∨ k = 13 ∨ k = 10 ∨ k = 1) (h1 : k ≤ 31) (h : ([0, 9, 10, 12, 13].any fun x => x == k) = false) : k = 1 := by
  rcases hA h1 with rfl | rfl | rfl | rfl <;> first | rfl | exact absurd h (by decide)
set_option maxRecDepth 100000 in
set_option maxHeartbeats 8000000 in
theorem ierr_c {k : Int} {tk : Tok} (hk0 : 0 ≤ k) (hk1 : k ≤ 233) (hk2 : k ≤ 126 ∨ 160 ≤ k) (hk3 : k ≤ 31 → k = 0 ∨ k = 13 ∨ k = 10 ∨ k = 1) : CallC w p loose mean mg mb 179 [.int k tk] 4 20 r
    (fun h₀ L m s Q => (k = 1 → ∀ t h' tk', Fr h₀ L h' m → News h₀ L h' r → Q (.str (Str.ofString "control-character-in-input-stream") t) { s with heap := h', toks := tk' }) ∧ (¬ k = 1 → ∀ t h' tk', Fr h₀ L h' m → News h₀ L h' r → Q (.str (Str.ofString "") t) { s with heap := h', toks := tk' })) := by
  intro dp un gd cn cs a ccd cll outer A₀ base h₀ L m s Q E B F X N T hk hd hu hret
  refine wpAny_call ?_
  k_dflt cell_enter
  k_steps
  · have q : ¬ k = 1 := lf_in (by assumption)
    exact hret.2 q _ _ _ (by k_asm) (drop1 (by k_asm))
  · have q : k = 1 := lf_out hk3 (by assumption) (by assumption)
    exact hret.1 q _ _ _ (by k_asm) (drop1 (by k_asm))
  · have q : ¬ k = 1 := by omega
    exact hret.2 q _ _ _ (by k_asm) (by k_asm)
  · have q : ¬ k = 1 := by omega
    exact hret.2 q _ _ _ (by k_asm) (by k_asm)

structure FS where
  sg : List Nat
  rt : Bool
  er : List Dat
noncomputable def feed1 (f : FS) (c : Nat) : FS :=
  if c = 13 then { sg := f.sg ++ [10], rt := true, er := f.er }
  else if c ≠ 10 ∨ f.rt = false then { sg := f.sg ++ [c], rt := false, er := if c = 1 then f.er ++ [errD "control-character-in-input-stream" f.sg.length] else f.er }
  else { f with rt := false }
noncomputable def Ext (ro ex r : Led) (vse : Array Value) (er : List Dat) : Prop := ∃ ro', r = ro' ++ ex ∧ (∀ p ∈ ro, p ∈ ro') ∧ DatAll ro' vse.toList er ∧ Tups ro'
theorem ext_len {ro ex r : Led} {vse : Array Value} {er : List Dat} (h : Ext ro ex r vse er) : vse.size = er.length := by
  obtain ⟨_, _, _, D, _⟩ := h
  have := DatAll.length D
  rwa [Array.length_toList] at this
theorem ext_err {ro ex r : Led} {vse : Array Value} {er : List Dat} {q k' : Nat} {y : Str} {ty tu : Tok} {k : Int} (h : Ext ro ex r vse er) (hk : k = k') : Ext ro ex ((q, tupO [.str y ty, .int k tu]) :: r) (vse.push (.ref q)) (er ++ [.tuple [.str y, .int k']]) := by
  obtain ⟨ro', e, hs, D, U⟩ := h
  exact ⟨_ :: ro', by rw [e]; rfl, fun p hp => .tail _ (hs p hp), da_err D hk, tups_cons rfl U⟩
noncomputable def Alph (c : Nat) : Prop := c = 97 ∨ c = 45 ∨ c = 33 ∨ c = 62 ∨ c = 60 ∨ c = 0 ∨ c = 233 ∨ c = 13 ∨ c = 10 ∨ c = 1
theorem alph_i {c : Nat} (h : Alph c) : (0 : Int) ≤ (c : Int) ∧ (c : Int) ≤ 233 ∧ ((c : Int) ≤ 126 ∨ (160 : Int) ≤ (c : Int)) ∧ ((c : Int) ≤ 31 → (c : Int) = 0 ∨ (c : Int) = 13 ∨ (c : Int) = 10 ∨ (c : Int) = 1) := by
  rcases h with rfl | rfl | rfl | rfl | rfl | rfl | rfl | rfl | rfl | rfl <;> decide
theorem own_q {own l r : Led} {q : Nat} {o : Obj} (h : OwnOff own ((l ++ r).map (·.1))) (hq : ∀ p ∈ own, (p.1 : Nat) < q) : OwnOff own ((l ++ ((q, o) :: r)).map (·.1)) := by
  intro p hp b hb
  obtain ⟨e, he, rfl⟩ := List.mem_map.mp hb
  rcases List.mem_append.mp he with he | he
  · exact h p hp _ (List.mem_map.mpr ⟨e, List.mem_append_left _ he, rfl⟩)
  · rcases List.mem_cons.mp he with rfl | he
    · exact Nat.ne_of_lt (hq p hp)
    · exact h p hp _ (List.mem_map.mpr ⟨e, List.mem_append_right _ he, rfl⟩)
theorem sub_own {l r own : Led} : ∀ p ∈ (l ++ r) ++ own, p ∈ l ++ (r ++ own) := fun p hp => by rw [List.append_assoc] at hp; exact hp
theorem sub_own1 {l r own : Led} {q : Addr × Obj} : ∀ p ∈ (l ++ (q :: r)) ++ own, p ∈ q :: (l ++ (r ++ own)) := fun p hp => by
  simp only [List.mem_append, List.mem_cons] at hp ⊢
  rcases hp with (hp | hp | hp) | hp
  · exact .inr (.inl hp)
  · exact .inl hp
  · exact .inr (.inr (.inl hp))
  · exact .inr (.inr (.inr hp))
theorem allLt_app {q : Nat} : ∀ {l r : Led}, AllLt q (l ++ r) → AllLt q r
  | [], _, h => h
  | _ :: l, _, h => allLt_app (l := l) h.2
theorem off_app {own r : Led} {x dx st dst sg se ot er dr ddr da sm : Nat} {o1 o2 o3 o4 o5 o6 o7 o8 o9 oa ob oc : Obj} (h : OwnOff r [dx, dst, sg, se, ot, er, ddr])
    (ho : OwnOff own (((x, o1) :: (dx, o2) :: (st, o3) :: (dst, o4) :: (sg, o5) :: (se, o6) :: (ot, o7) :: (er, o8) :: (dr, o9) :: (ddr, oa) :: (da, ob) :: (sm, oc) :: r).map (·.1))) : OwnOff (r ++ own) [dx, dst, sg, se, ot, er, ddr] := by
  intro p hp b hb
  rcases List.mem_append.mp hp with hp | hp
  · exact h p hp b hb
  · refine ho p hp b ?_
    simp only [List.map_cons, List.mem_cons, List.not_mem_nil, or_false] at hb ⊢
    rcases hb with rfl | rfl | rfl | rfl | rfl | rfl | rfl <;> simp
theorem feed_len (ws : List Nat) (f : FS) (n : Nat) (h : ws.length ≤ n) : (ws.foldl feed1 f).sg.length ≤ f.sg.length + n := by
  induction ws generalizing f n with
  | nil => simp
  | cons c ws ih =>
    cases n with
    | zero => simp at h
    | succ n =>
      have := ih (feed1 f c) n (by simpa using h)
      have h2 : (feed1 f c).sg.length ≤ f.sg.length + 1 := by
        unfold feed1
        repeat' split
        all_goals simp
      rw [List.foldl_cons]
      omega
theorem feed_er (ws : List Nat) (f : FS) (h : f.er.length ≤ f.sg.length) : (ws.foldl feed1 f).er.length ≤ (ws.foldl feed1 f).sg.length := by
  induction ws generalizing f with
  | nil => exact h
  | cons c ws ih =>
    rw [List.foldl_cons]
    refine ih _ ?_
    unfold feed1
    repeat' split
    all_goals simp
    all_goals omega
theorem take_fold {ws : List Nat} {i c : Nat} {f : FS} (h : ws[i]? = some c) : (ws.take (i + 1)).foldl feed1 f = feed1 ((ws.take i).foldl feed1 f) c := by
  rw [List.take_add_one, h, List.foldl_append]
  rfl
theorem sg_push {vs : Array Value} {l : List Nat} (h : SgnAre vs l) (c : Nat) {t : Tok} {x : Str} (hx : x = tx_ [c] := by first | rfl | decide) : SgnAre (vs.push (.str x t)) (l ++ [c]) := by
  subst hx
  refine ⟨by simp [h.1], fun k n hk => ?_⟩
  by_cases hkl : k < l.length
  · rw [List.getElem?_append_left hkl] at hk
    obtain ⟨u, hu⟩ := h.2 k n hk
    exact ⟨u, by rw [Array.getElem?_push]; simp [h.1, hu]; intro e; omega⟩
  · have hkl2 : k = l.length := by
      have := (List.getElem?_eq_some_iff.mp hk).1
      simp at this
      omega
    subst hkl2
    simp at hk
    subst hk
    exact ⟨t, by rw [Array.getElem?_push]; simp [h.1]⟩
theorem cr_y {c : Nat} (h : (({ cps := #[c] } : Str) == Str.ofString "\x0d") = true) : c = 13 := by
  rw [show Str.ofString "\x0d" = Str.mk #[13] from by decide] at h
  simpa using h
theorem cr_n {c : Nat} (h : (({ cps := #[c] } : Str) == Str.ofString "\x0d") = false) : ¬ c = 13 := by
  rintro rfl
  exact absurd h (by decide)
theorem nl_y {c : Nat} (h : (({ cps := #[c] } : Str) != Str.ofString "\n") = false) : c = 10 := by
  rw [show Str.ofString "\n" = Str.mk #[10] from by decide] at h
  simpa using h
theorem nl_n {c : Nat} (h : (({ cps := #[c] } : Str) != Str.ofString "\n") = true) : ¬ c = 10 := by
  rintro rfl
  exact absurd h (by decide)
theorem rt_y {x : Str} (h : (x == Str.ofString "\x0d") = true) : (x == Str.ofString "\x0d") = true := h
theorem rt_n {x : Str} (h : (x == Str.ofString "\x0d") = false) : (x == Str.ofString "\x0d") = false := h
theorem lt_all {q : Nat} {l : Led} (h : AllLt q l) : ∀ p ∈ l, (p.1 : Nat) < q := ktn_ltOf h
end
section
open PySem PySem.W PySem.Calls PyProof.Rows
set_option linter.unusedVariables false
theorem calm12 : True := by
  w_top off
  first | walk1 | trivial
theorem fillG : PySem.Challenge.rw_nt0605_02 = PySem.Challenge.rw_nt0605_02 ∧ topK = topK := by
  k_fill
  exact ⟨rfl, rfl⟩


variable {w : World} {p : Program} {loose : List Str} {mean : ExcName → Option Value} {mg mb : Str → Option Value} {k0 k1 k2 k3 k4 k5 k6 k7 k8 k9 k10 k11 k12 k13 v0 v1 v2 v3 g0 g1 g2 g3 g4 g5 g6 g7 : Tok} {x dx st dst sg se ot er dr ddr da sm : Nat} {osm : Obj} {tb tu tc tl tg th : Tok}
  {i : Int} {ti : Tok} {z : Str} {tz : Tok} {dv : Value} {wa dn cl rt : Bool} {vs : Array Value} {ns : Nat} {vse : Array Value} {nse : Nat} {es : List Dat} {tx : Str} {tt : Tok} {vo : Array Value} {no : Nat} {ve : Array Value} {ne : Nat} {r ro ex : Led}
local macro_rules | `(tactic| walk_at "call ref") => `(tactic| k_dflt ((with_reducible show wpAny _ _ (call (Value.ref 179) _) _ _ _); (refine' (ierr_c ?p0 ?p1 ?p2 ?p3) _ _ _ _ _ _ _ _ _ _ _ _ _ _ _ _ _ ?B ?F ?X ?N ?T ?k ?d ?u ?_); (case N => k_asm); (case F => k_asm); (case B => k_asm); (case X => k_asm); (case T => k_asm); (case k => first | exact rfl | assumption); (case d => ktr_room); (case u => ktr_units); (case p0 => assumption); (case p1 => assumption); (case p2 => assumption); (case p3 => assumption); refine ⟨?_, ?_⟩ <;> (intro hq' t' h' tk' hF' hN'; (try k_sweep))))
inductive SfJ (P : Params) (k0 k1 k2 k3 k4 k5 k6 k7 k8 k9 k10 k11 k12 k13 v0 v1 v2 v3 g0 g1 g2 g3 g4 g5 g6 g7 : Tok) (x dx st dst sg se ot er dr ddr da sm : Nat) (osm : Obj) (tb tu tc tl tg th : Tok) (i : Int) (ti : Tok) (z : Str) (tz : Tok) (dv : Value) (wa dn : Bool) (tx : Str) (tt : Tok) (vo : Array Value) (no : Nat) (ve : Array Value) (ne : Nat) (ro ex : Led) (g : FS) (mm m : Str → Option Value) (nx : Led) : Prop
  | mk (rt' : Bool) (vs' : Array Value) (ns' : Nat) (vse' : Array Value) (nse' : Nat) (r' : Led) (e : nx = (core P k0 k1 k2 k3 k4 k5 k6 k7 k8 k9 k10 k11 k12 k13 v0 v1 v2 v3 g0 g1 g2 g3 g4 g5 g6 g7 x dx st dst sg se ot er dr ddr da sm osm tb tu tc tl tg th i ti z tz dv wa dn false rt' vs' ns' vse' nse' tx tt vo no ve ne r')) (hr : OwnOff r' [dx, dst, sg, se, ot, er, ddr]) (hV : SgnAre vs' g.sg) (hD : Ext ro ex r' vse' g.er) (hrt : rt' = g.rt) (hm : ∀ y, y ≠ Str.ofString "c" → y ≠ Str.ofString "code" → m y = mm y)
set_option maxRecDepth 100000 in
set_option maxHeartbeats 8000000 in
theorem sfeed_c (hA : Apart x dx st dst sg se ot er dr ddr da sm) (hr : OwnOff r [dx, dst, sg, se, ot, er, ddr]) {ws : List Nat} {tk : Tok} {f : FS} (hV : SgnAre vs f.sg) (hD : Ext ro ex r vse f.er) (hrt : rt = f.rt) (hal : ∀ c ∈ ws, Alph c) (hn : f.sg.length + ws.length ≤ 800) (hn2 : f.er.length ≤ f.sg.length) : CallC w p loose mean mg mb 200 [.ref st, .str (tx_ ws) tk] 6 32 (core w.params k0 k1 k2 k3 k4 k5 k6 k7 k8 k9 k10 k11 k12 k13 v0 v1 v2 v3 g0 g1 g2 g3 g4 g5 g6 g7 x dx st dst sg se ot er dr ddr da sm osm tb tu tc tl tg th i ti z tz dv wa dn false rt vs ns vse nse tx tt vo no ve ne r)
    (fun h₀ L m s Q => ∀ rt' vs' ns' vse' nse' r' h' tk', Fr h₀ L h' m → News h₀ L h' (core w.params k0 k1 k2 k3 k4 k5 k6 k7 k8 k9 k10 k11 k12 k13 v0 v1 v2 v3 g0 g1 g2 g3 g4 g5 g6 g7 x dx st dst sg se ot er dr ddr da sm osm tb tu tc tl tg th i ti z tz dv wa dn false rt' vs' ns' vse' nse' tx tt vo no ve ne r') → OwnOff r' [dx, dst, sg, se, ot, er, ddr] → SgnAre vs' (ws.foldl feed1 f).sg → Ext ro ex r' vse' (ws.foldl feed1 f).er → rt' = (ws.foldl feed1 f).rt → Q .none { s with heap := h', toks := tk' }) := by
  intro dp un gd cn cs a ccd cll outer A₀ base h₀ L m s Q E B F X N T hk hd hu hret
  refine wpAny_call ?_
  k_dflt cell_enter
  k_steps
  (rename Fr _ _ _ _ => lF)
  (rename News _ _ _ _ => lN)
  obtain ⟨mm, hself, lF⟩ : ∃ mm : Str → Option Value, mm (Str.ofString "self") = some (Value.ref st) ∧ Fr _ _ _ mm := ⟨_, rfl, lF⟩
  refine my_text (fun (jj : Nat) m nx => SfJ w.params k0 k1 k2 k3 k4 k5 k6 k7 k8 k9 k10 k11 k12 k13 v0 v1 v2 v3 g0 g1 g2 g3 g4 g5 g6 g7 x dx st dst sg se ot er dr ddr da sm osm tb tu tc tl tg th i ti z tz dv wa dn tx tt vo no ve ne ro ex ((ws.take jj).foldl feed1 f) mm m nx) rfl lF lN ⟨_, _, _, _, _, _, rfl, hr, hV, hD, hrt, fun _ _ _ => rfl⟩ ?_ ?_
  · rintro i9 c t m₁ nx h tk9 own hc hown ⟨rt', vs', ns', vse', nse', r', rfl, hr', hV', hD', hrt', hm⟩ F₁ N₁
    have F₂ : Fr _ _ h (fun y => if y = Str.ofString "c" then some (Value.str ⟨#[c]⟩ t) else if y = Str.ofString "self" then some (Value.ref st) else m₁ y) := fr_names F₁ (by
      intro y
      by_cases h1 : y = Str.ofString "c"
      · simp [h1]
      · by_cases h2 : y = Str.ofString "self"
        · subst h2; rw [if_neg h1, if_pos rfl, if_neg h1, hm _ (by decide) (by decide), hself]
        · simp [h1, h2])
    have N₂ : News _ _ h (core w.params k0 k1 k2 k3 k4 k5 k6 k7 k8 k9 k10 k11 k12 k13 v0 v1 v2 v3 g0 g1 g2 g3 g4 g5 g6 g7 x dx st dst sg se ot er dr ddr da sm osm tb tu tc tl tg th i ti z tz dv wa dn false rt' vs' ns' vse' nse' tx tt vo no ve ne (r' ++ own)) := N₁
    have hr₂ : OwnOff (r' ++ own) [dx, dst, sg, se, ot, er, ddr] := off_app hr' hown
    have hin : ws[i9]? = some c := by simpa using hc
    have hmem := hal c (List.mem_of_getElem? hin)
    obtain ⟨hk0, hk1, hk2, hk3⟩ := alph_i hmem
    have hlen : ((ws.take i9).foldl feed1 f).sg.length ≤ f.sg.length + i9 := feed_len _ _ _ (by simp; omega)
    have hlen2 : ((ws.take i9).foldl feed1 f).er.length ≤ ((ws.take i9).foldl feed1 f).sg.length := feed_er _ _ hn2
    have hi9 := (List.getElem?_eq_some_iff.mp hin).1
    have hs : vs'.size ≤ 1000 := by rw [hV'.1]; omega
    have hs2 : vse'.size ≤ 1000 := by have := ext_len hD'; omega
    clear F₁ N₁ hc hal
    obtain ⟨G, hG⟩ : ∃ G, G = (ws.take i9).foldl feed1 f := ⟨_, rfl⟩
    have hV1 := hV'
    have hD1 := hD'
    have hrt1 := hrt'
    rw [← hG] at hV1 hD1 hrt1
    (try k_fold)
    k_steps
    · have e1 := cr_y (by assumption)
      have eF : (ws.take (i9 + 1)).foldl feed1 f = { sg := G.sg ++ [10], rt := true, er := G.er } := by rw [take_fold hin]; simp [feed1, e1, ← hG]
      refine my_end _ (by assumption) (by assumption) ?hj ?ha (sub_own (l := [_, _, _, _, _, _, _, _, _, _, _, _]) (r := r'))
      case ha => exact hown
      case hj =>
        rw [eF]
        exact ⟨_, _, _, _, _, _, rfl, hr', sg_push hV1 10, hD1, rt_y (by assumption), by (intro y g1 g2; simp only [g1, g2, if_false]; split <;> first | (rename_i g3; rw [g3, hself]) | exact hm y g1 g2)⟩
    · have e1 := cr_n (by assumption)
      have e2 := nl_n (by assumption)
      have e3 : c = 1 := by omega
      have eF : (ws.take (i9 + 1)).foldl feed1 f = { sg := G.sg ++ [c], rt := false, er := G.er ++ [errD "control-character-in-input-stream" G.sg.length] } := by rw [take_fold hin]; simp [feed1, e3, ← hG]
      have hlt := lt_all (allLt_app (l := r') (by simp only [AllLt] at *; first | assumption | (rename _ ∧ _ => l9; exact l9.2.2.2.2.2.2.2.2.2.2.2.2)))
      refine my_end _ (by assumption) (by assumption) ?hj ?ha (sub_own1 (l := [_, _, _, _, _, _, _, _, _, _, _, _]) (r := r'))
      case ha => exact own_q (l := [_, _, _, _, _, _, _, _, _, _, _, _]) hown hlt
      case hj =>
        rw [eF]
        exact ⟨_, _, _, _, _, _, rfl, (by apply off_q <;> first | assumption | omega), sg_push hV1 c, ext_err hD1 (by rw [hV1.1]), rt_n (by assumption), by (intro y g1 g2; simp only [g1, g2, if_false]; split <;> first | (rename_i g3; rw [g3, hself]) | exact hm y g1 g2)⟩
    · have e1 := cr_n (by assumption)
      have e2 := nl_n (by assumption)
      have e3 : ¬ c = 1 := by omega
      have eF : (ws.take (i9 + 1)).foldl feed1 f = { sg := G.sg ++ [c], rt := false, er := G.er } := by rw [take_fold hin]; simp [feed1, e1, e2, e3, ← hG]
      refine my_end _ (by assumption) (by assumption) ?hj ?ha (sub_own (l := [_, _, _, _, _, _, _, _, _, _, _, _]) (r := r'))
      case ha => exact hown
      case hj =>
        rw [eF]
        exact ⟨_, _, _, _, _, _, rfl, hr', sg_push hV1 c, hD1, rt_n (by assumption), by (intro y g1 g2; simp only [g1, g2, if_false]; split <;> first | (rename_i g3; rw [g3, hself]) | exact hm y g1 g2)⟩
    · have e1 := cr_n (by assumption)
      have e2 := nl_y (by assumption)
      have eF : (ws.take (i9 + 1)).foldl feed1 f = { G with rt := false } := by rw [take_fold hin]; have e3 : G.rt = true := (by rw [← hrt1]; assumption); simp [feed1, e2, e3, ← hG]
      refine my_end _ (by assumption) (by assumption) ?hj ?ha (sub_own (l := [_, _, _, _, _, _, _, _, _, _, _, _]) (r := r'))
      case ha => exact hown
      case hj =>
        rw [eF]
        exact ⟨_, _, _, _, _, _, rfl, hr', hV1, hD1, rt_n (by assumption), by (intro y g1 g2; simp only [g1, g2, if_false]; split <;> first | (rename_i g3; rw [g3, hself]) | exact hm y g1 g2)⟩
    · exact absurd (nl_y (by assumption)) (by omega)
    · have e1 := cr_n (by assumption)
      have e2 := nl_y (by assumption)
      have e3 : ¬ c = 1 := by omega
      have eF : (ws.take (i9 + 1)).foldl feed1 f = { sg := G.sg ++ [c], rt := false, er := G.er } := by rw [take_fold hin]; have e4 : G.rt = false := (by rw [← hrt1]; assumption); simp [feed1, e2, e4, ← hG]
      refine my_end _ (by assumption) (by assumption) ?hj ?ha (sub_own (l := [_, _, _, _, _, _, _, _, _, _, _, _]) (r := r'))
      case ha => exact hown
      case hj =>
        rw [eF]
        exact ⟨_, _, _, _, _, _, rfl, hr', sg_push hV1 c, hD1, rt_n (by assumption), by (intro y g1 g2; simp only [g1, g2, if_false]; split <;> first | (rename_i g3; rw [g3, hself]) | exact hm y g1 g2)⟩
  · rintro m₁ nx h tk9 ⟨rt', vs', ns', vse', nse', r', rfl, hr', hV', hD', hrt', hm⟩ F₁ N₁
    have hz : ws.take (tx_ ws).cps.size = ws := by simp
    rw [hz] at hV' hD' hrt'
    clear lF lN
    k_steps
    exact hret _ _ _ _ _ _ _ _ (by k_asm) (by k_asm) hr' hV' hD' hrt'
end
section
open PySem PySem.W PySem.Calls PyProof.Rows
set_option linter.unusedVariables false
theorem calm13 : True := by
  w_top off
  first | walk1 | trivial
theorem fillH : PySem.Challenge.rw_nt0605_02 = PySem.Challenge.rw_nt0605_02 ∧ topK = topK := by
  k_fill
  exact ⟨rfl, rfl⟩


variable {w : World} {p : Program} {loose : List Str} {mean : ExcName → Option Value} {mg mb : Str → Option Value} {k0 k1 k2 k3 k4 k5 k6 k7 k8 k9 k10 k11 k12 k13 v0 v1 v2 v3 g0 g1 g2 g3 g4 g5 g6 g7 : Tok} {x dx st dst sg se ot er dr ddr da sm : Nat} {osm : Obj} {tb tu tc tl tg th : Tok}
  {i : Int} {ti : Tok} {z : Str} {tz : Tok} {dv : Value} {wa dn cl rt : Bool} {vs : Array Value} {ns : Nat} {vse : Array Value} {nse : Nat} {es : List Dat} {tx : Str} {tt : Tok} {vo : Array Value} {no : Nat} {ve : Array Value} {ne : Nat} {r ro ex : Led}
local macro_rules | `(tactic| walk_at "call ref") => `(tactic| k_dflt ((with_reducible show wpAny _ _ (call (Value.ref 200) _) _ _ _); (refine' (sfeed_c ‹_› ?hr ?p0 ?p1 ?p2 ?p3 ?p4 ?p5) _ _ _ _ _ _ _ _ _ _ _ _ _ _ _ _ _ ?B ?F ?X ?N ?T ?k ?d ?u ?_); (case N => k_asm); (case F => k_asm); (case B => k_asm); (case X => k_asm); (case T => k_asm); (case k => first | exact rfl | assumption); (case d => ktr_room); (case u => ktr_units); (case hr => assumption); (case p0 => assumption); (case p1 => assumption); (case p2 => assumption); (case p3 => assumption); (case p4 => assumption); (case p5 => assumption); intro rt' vs' ns' vse' nse' r' h' tk' hF' hN' hr' hV' hD' hR'; (try k_sweep)))
set_option maxRecDepth 100000 in
set_option maxHeartbeats 8000000 in
theorem feed_s (hA : Apart x dx st dst sg se ot er dr ddr da sm) {ws : List Nat} {tk : Tok} {f : FS} (hV : SgnAre vs f.sg) (hrt : rt = f.rt) (hal : ∀ c ∈ ws, Alph c) (hn : f.sg.length + ws.length ≤ 800) (hn2 : f.er.length ≤ f.sg.length) {σ : PS} {lay : Led} (hL : Lay w.params k0 k1 k2 k3 k4 k5 k6 k7 k8 k9 k10 k11 k12 k13 v0 v1 v2 v3 g0 g1 g2 g3 g4 g5 g6 g7 x dx st dst sg se ot er dr ddr da sm osm tb tu tc tl tg th (false) rt vs ns vse nse (f.er) ex σ lay) :
    CallC w p loose mean mg mb 243 [.ref x, .str (tx_ ws) tk] 8 44 lay (fun h₀ L m s Q => ∀ rt' vs' ns' vse' nse' lay' h' tk', Lay w.params k0 k1 k2 k3 k4 k5 k6 k7 k8 k9 k10 k11 k12 k13 v0 v1 v2 v3 g0 g1 g2 g3 g4 g5 g6 g7 x dx st dst sg se ot er dr ddr da sm osm tb tu tc tl tg th (false) (rt') (vs') (ns') (vse') (nse') ((ws.foldl feed1 f).er) ex σ lay' → SgnAre vs' (ws.foldl feed1 f).sg → rt' = (ws.foldl feed1 f).rt → Fr h₀ L h' m → News h₀ L h' lay' → Q .none { s with heap := h', toks := tk' }) := by
  obtain ⟨i, ti, z, tz, dv, dn, tx, tt, vo, no, ve, ne, ro, rfl, ⟨rfl, rfl, rfl, rfl, rfl⟩, hr, D1, D2, D3, U⟩ := hL
  have hX : Ext ro ex (ro ++ ex) vse f.er := ⟨ro, rfl, fun _ h => h, D3, U⟩
  intro dp un gd cn cs a ccd cll outer A₀ base h₀ L m s Q E B F X N T hk hd hu hret
  refine wpAny_call ?_
  k_dflt cell_enter
  k_steps
  (rename Ext _ _ _ _ (FS.er (List.foldl _ _ _)) => hX9)
  obtain ⟨ro9, e9, hS, D9, U9⟩ := hX9
  subst e9
  refine hret _ _ _ _ _ _ _ _ ⟨_, _, _, _, _, _, _, _, _, _, _, _, _, rfl, ⟨rfl, rfl, rfl, rfl, rfl⟩, by assumption, D1.mono hS, D2.mono hS, D9, U9⟩ (by assumption) (by assumption) (by k_asm) (by k_asm)
set_option maxRecDepth 100000 in
set_option maxHeartbeats 8000000 in
theorem end_s (hA : Apart x dx st dst sg se ot er dr ddr da sm) {σ : PS} {lay : Led} (hL : Lay w.params k0 k1 k2 k3 k4 k5 k6 k7 k8 k9 k10 k11 k12 k13 v0 v1 v2 v3 g0 g1 g2 g3 g4 g5 g6 g7 x dx st dst sg se ot er dr ddr da sm osm tb tu tc tl tg th cl rt vs ns vse nse es ex σ lay) :
    CallC w p loose mean mg mb 250 [.ref x] 8 44 lay (fun h₀ L m s Q => ∀ lay' h' tk', Lay w.params k0 k1 k2 k3 k4 k5 k6 k7 k8 k9 k10 k11 k12 k13 v0 v1 v2 v3 g0 g1 g2 g3 g4 g5 g6 g7 x dx st dst sg se ot er dr ddr da sm osm tb tu tc tl tg th (true) rt vs ns vse nse es ex σ lay' → Fr h₀ L h' m → News h₀ L h' lay' → Q .none { s with heap := h', toks := tk' }) := by
  obtain ⟨i, ti, z, tz, dv, dn, tx, tt, vo, no, ve, ne, ro, rfl, ⟨rfl, rfl, rfl, rfl, rfl⟩, hr, D1, D2, D3, U⟩ := hL
  intro dp un gd cn cs a ccd cll outer A₀ base h₀ L m s Q E B F X N T hk hd hu hret
  refine wpAny_call ?_
  k_dflt cell_enter
  k_steps
  exact hret _ _ _ ⟨_, _, _, _, _, _, _, _, _, _, _, _, _, rfl, ⟨rfl, rfl, rfl, rfl, rfl⟩, hr, D1, D2, D3, U⟩ (by k_asm) (by k_asm)
end
section
open PySem PySem.W PySem.Calls PyProof.Rows
set_option linter.unusedVariables false
theorem calm14 : True := by
  w_top off
  first | walk1 | trivial
theorem fillT : PySem.Challenge.rw_nt0605_02 = PySem.Challenge.rw_nt0605_02 ∧ topK = topK := by
  k_fill
  exact ⟨rfl, rfl⟩


variable {w : World} {p : Program} {loose : List Str} {mean : ExcName → Option Value} {mg mb : Str → Option Value} {k0 k1 k2 k3 k4 k5 k6 k7 k8 k9 k10 k11 k12 k13 v0 v1 v2 v3 g0 g1 g2 g3 g4 g5 g6 g7 : Tok} {x dx st dst sg se ot er dr ddr da sm : Nat} {osm : Obj} {tb tu tc tl tg th : Tok}
  {i : Int} {ti : Tok} {z : Str} {tz : Tok} {dv : Value} {wa dn cl rt : Bool} {vs : Array Value} {ns : Nat} {vse : Array Value} {nse : Nat} {es : List Dat} {tx : Str} {tt : Tok} {vo : Array Value} {no : Nat} {ve : Array Value} {ne : Nat} {r ro ex : Led}

noncomputable def AlphT (c : Nat) : Prop := Alph c
noncomputable def TextOk (x : Str) : Prop := x.length ≤ 24 ∧ ∀ c ∈ x.cps.toList, AlphT c
noncomputable def PartOk (x : Str) : Prop := x.length ≤ 4 ∧ ∀ c ∈ x.cps.toList, AlphT c
noncomputable def PartsAre (n : Nat) (arr : Array Value) : Prop := ∃ xs : List Str, StrsAre arr.toList xs ∧ xs.length = n ∧ ∀ x ∈ xs, PartOk x
theorem partOk_of {x : Str} (h : (decide (x.length ≤ 4) && x.cps.toList.all fun c => c == 97 || c == 45 || c == 33 || c == 62 || c == 60 || c == 0 || c == 233 || c == 13 || c == 10 || c == 1) = true) : PartOk x := by
  rw [Bool.and_eq_true, List.all_eq_true] at h
  refine ⟨of_decide_eq_true h.1, fun c hc => ?_⟩
  have := h.2 c hc
  simp only [Bool.or_eq_true, beq_iff_eq] at this
  rcases this with (((((((((rfl | rfl) | rfl) | rfl) | rfl) | rfl) | rfl) | rfl) | rfl) | rfl) <;> (unfold AlphT Alph; decide)
theorem parts_ok : ∀ x ∈ ([(Str.ofString "a"), (Str.ofString "-"), (Str.ofString "!"), (Str.ofString ">"), (Str.ofString "<"), (Str.ofString "\x00"), (Str.ofString "é"), (Str.ofString "--"), (Str.ofString "<!--"), (Str.ofString "--!"), (Str.ofString "-->"), (Str.ofString "--!>"), (Str.ofString "<!-"), (Str.ofString "<!"), (Str.ofString "---"), (Str.ofString "->"), (Str.ofString "\r"), (Str.ofString "\n"), (Str.ofString "\x01")] : List Str), PartOk x := by
  intro x hx
  refine partOk_of ?_
  revert x
  decide
theorem empty_al : ∀ c ∈ (Str.ofString "").cps.toList, AlphT c := by
  intro c hc
  rw [show (Str.ofString "").cps.toList = [] from by decide] at hc
  cases hc
theorem app_al {x y : Str} {n : Nat} (hx : x.length ≤ 4 * n) (ax : ∀ c ∈ x.cps.toList, AlphT c) (hy : PartOk y) : (x ++ y).length ≤ 4 * (n + 1) ∧ ∀ c ∈ (x ++ y).cps.toList, AlphT c := by
  refine ⟨?_, fun c hc => ?_⟩
  · have := hy.1
    rw [Str.length_append]; omega
  · rw [Str.cps_append, Array.toList_append] at hc
    rcases List.mem_append.mp hc with h | h
    · exact ax c h
    · exact hy.2 c h
theorem text_ok (x : Str) (n : Nat) (hn : n ≤ 24) (h : ∀ c ∈ x.cps.toList, AlphT c) : TextOk (Txt.slice x none (some (n : Int))) := by
  rw [tx_of x, slice_to]
  refine ⟨?_, fun c hc => h c ?_⟩
  · rw [len_]
    exact Nat.le_trans (by rw [List.length_take]; omega) hn
  · have : (tx_ (List.take n x.cps.toList)).cps.toList = List.take n x.cps.toList := by simp
    rw [this] at hc
    exact List.mem_of_mem_take hc
theorem rng_b (v : Int) : -1000 ≤ 12 - v.fmod 13 ∧ 12 - v.fmod 13 ≤ 1000 := by
  have h1 := Int.fmod_nonneg_of_pos v (b := 13) (by decide)
  have h2 := Int.fmod_lt_of_pos v (b := 13) (by decide)
  omega
theorem rng_i (v : Int) {i : Nat} (h : i < (12 - v.fmod 13).toNat) : (i : Int) < 13 - 1 := by
  have h1 := Int.fmod_nonneg_of_pos v (b := 13) (by decide)
  omega
theorem rng_n (v : Int) : 4 * (12 - v.fmod 13).toNat ≤ 1000 := by
  have h1 := Int.fmod_nonneg_of_pos v (b := 13) (by decide)
  omega
theorem mod_b (v : Int) : 0 ≤ v.fmod 19 ∧ v.fmod 19 < 19 := ⟨Int.fmod_nonneg_of_pos v (by decide), Int.fmod_lt_of_pos v (by decide)⟩
noncomputable abbrev CallS (w : World) (p : Program) (loose : List Str) (mean : ExcName → Option Value) (mg mb : Str → Option Value) (l : Addr) (f : Addr) (args : List Value) (d u : Nat) (news : Led) (Ret : Heap → Addr → (Str → Option Value) → Shared → (Value → Shared → Prop) → Prop) : Prop :=
  ∀ (dp un : Nat) (gd : Option (List Code)) (cn : Str) (cs : Scope) (a : Addr) (ccd : Value) (cl : List (Str × Addr)) (outer : List Env) (A₀ : Around) (base h₀ : Heap) (L : Addr) (m : Str → Option Value) (s : Shared) (Q E : Value → Shared → Prop) (xs : List Value) (ns : List Int),
    Below A₀ base outer h₀ → Fr h₀ L s.heap m → (topK w.params).In h₀ → News h₀ L s.heap news → Top p loose mean mg mb h₀ → cs.kind = .function → dp + d < recursionLimit → un + u < cLine → base.IsList l xs.toArray → IntsAre xs ns → ns.length ≤ 63 →
    Ret h₀ L m s Q →
    wpAny (model PySem.Challenge.rw_nt0605_02.row.prog w) (ktrTop dp un gd cn cs L a ccd cl outer) (call (.ref f) args) Q E s
theorem drop2 {h₀ h : Heap} {L : Addr} {q a b : Addr × Obj} {l : Led} (N : News h₀ L h (q :: a :: b :: l)) : News h₀ L h (q :: l) := fun p hp => N p (by
  rcases List.mem_cons.mp hp with rfl | hp
  · exact .head _
  · exact .tail _ (.tail _ (.tail _ hp)))
set_option maxRecDepth 100000 in
set_option maxHeartbeats 8000000 in
theorem digit_c {l : Nat} {k : Int} {tk : Tok} (hk0 : 0 ≤ k) (hk1 : k < 14) : CallS w p loose mean mg mb l 447 [.ref l, .int k tk] 4 20 r
    (fun h₀ L m s Q => ∀ v t h' tk', Fr h₀ L h' m → News h₀ L h' r → Q (.int v t) { s with heap := h', toks := tk' }) := by
  intro dp un gd cn cs a ccd cll outer A₀ base h₀ L m s Q E xs ns B F X N T hk hd hu hl hi hfit hret
  refine wpAny_call ?_
  k_dflt cell_enter
  k_steps
  · exact hret _ _ _ _ (by k_asm) (drop1 (by k_asm))
  · exact hret _ _ _ _ (by k_asm) (drop1 (by k_asm))
local macro_rules | `(tactic| walk_at "call ref") => `(tactic| k_dflt ((with_reducible show wpAny _ _ (call (Value.ref 447) _) _ _ _); (refine' (digit_c ?p0 ?p1) _ _ _ _ _ _ _ _ _ _ _ _ _ _ _ _ _ _ _ ?B ?F ?X ?N ?T ?k ?d ?u ?hl ?hi ?hf ?_); (case N => k_asm); (case F => k_asm); (case B => k_asm); (case X => k_asm); (case T => k_asm); (case k => first | exact rfl | assumption); (case d => ktr_room); (case u => ktr_units); (case hl => assumption); (case hi => assumption); (case hf => assumption); (case p0 => first | assumption | omega); (case p1 => first | assumption | omega); intro v' t' h' tk' hF' hN'; (try k_sweep)))
local macro_rules | `(tactic| walk_at "subscriptTail Name BinOp ref int") => `(tactic| k_dflt (refine' parts_item ?N ?m ?x ?h0 ?h1 ?z ?p ?_ ?f; (case N => k_asm); (case m => k_mem); (case x => assumption); (case h0 => exact (mod_b _).1); (case h1 => (rw [‹List.length _ = 19›]; exact (mod_b _).2)); (case z => (rw [‹List.length _ = 19›]; decide)); (case p => assumption); (case f => with_unfolding_all rfl); intro x' t' hP'; (have hPl := And.left hP')))
set_option maxRecDepth 100000 in
set_option maxHeartbeats 8000000 in
theorem text_c {l : Nat}  : CallS w p loose mean mg mb l 454 [.ref l] 8 32 r
    (fun h₀ L m s Q => ∀ (ws : List Nat) t h' tk', TextOk (tx_ ws) → Fr h₀ L h' m → News h₀ L h' r → Q (.str (tx_ ws) t) { s with heap := h', toks := tk' }) := by
  intro dp un gd cn cs a ccd cll outer A₀ base h₀ L m s Q E xs ns B F X N T hk hd hu hl hi hfit hret
  refine wpAny_call ?_
  k_dflt cell_enter
  k_steps
  unfold Hold
  (rename IsRange _ _ _ _ _ _ _ _ => hR)
  (rename Fr _ _ _ _ => lF)
  (rename News _ _ _ _ => lN)
  replace lN := drop2 lN
  obtain ⟨q, arr, mm, hP, hscr, hpar, htxt, lF, lN⟩ : ∃ (q : Nat) (arr : Array Value) (mm : Str → Option Value), PartsAre 19 arr ∧ mm (Str.ofString "script") = some (Value.ref l) ∧ mm (Str.ofString "parts") = some (Value.ref q) ∧ (∃ t, mm (Str.ofString "text") = some (Value.str (Str.ofString "") t)) ∧ Fr _ _ _ mm ∧ News _ _ _ ((q, listOf arr 0) :: r) := ⟨_, _, _, ⟨_, by kde_strs, rfl, parts_ok⟩, rfl, rfl, ⟨_, rfl⟩, lF, lN⟩
  obtain ⟨xs9, hxs9, hlen9, hok9⟩ := hP
  obtain ⟨t9, htxt⟩ := htxt
  refine my_range0 (fun jj m nx => nx = (q, listOf arr 0) :: r ∧ (∃ x t, m (Str.ofString "text") = some (Value.str x t) ∧ x.length ≤ 4 * jj ∧ ∀ c ∈ x.cps.toList, AlphT c) ∧ ∀ y, y ≠ Str.ofString "text" → y ≠ Str.ofString "k" → m y = mm y) rfl hR (rng_b _) lF lN ⟨rfl, ⟨_, _, htxt, by decide, empty_al⟩, fun _ _ _ => rfl⟩ ?_ ?_
  · rintro i9 t m₁ nx h tk9 own hi9 hown ⟨rfl, ⟨xt, tt9, hxt, hxl, hxa⟩, hm⟩ F₁ N₁
    have hi14 : (i9 : Int) < 13 - 1 := rng_i _ hi9
    have F₂ : Fr _ _ h (fun y => if y = Str.ofString "k" then some (Value.int (i9 : Int) t) else if y = Str.ofString "text" then some (Value.str xt tt9) else if y = Str.ofString "script" then some (Value.ref l) else if y = Str.ofString "parts" then some (Value.ref q) else m₁ y) := fr_names F₁ (by
      intro y
      by_cases h1 : y = Str.ofString "k"
      · simp only [h1, if_true]
      · by_cases h2 : y = Str.ofString "text"
        · subst h2; simp only [h1, if_false, if_true]; exact hxt.symm
        · by_cases h3 : y = Str.ofString "script"
          · subst h3; simp only [h1, h2, if_false, if_true]; rw [hm _ h2 h1, hscr]
          · by_cases h4 : y = Str.ofString "parts"
            · subst h4; simp only [h1, h2, h3, if_false, if_true]; rw [hm _ h2 h1, hpar]
            · simp only [h1, h2, h3, h4, if_false])
    have N₂ : News _ _ h ((q, listOf arr 0) :: (r ++ own)) := N₁
    have hxl2 : xt.length ≤ 100 := by omega
    clear F₁ N₁ lF lN hR
    (try k_fold)
    k_steps
    have hA9 := app_al hxl hxa (by assumption)
    refine my_end _ (by assumption) (by assumption) ?hj ?ha (sub_own (l := [_]) (r := r))
    case ha => exact hown
    case hj => exact ⟨rfl, ⟨_, _, rfl, hA9.1, hA9.2⟩, by (intro y g1 g2; simp only [g1, g2, if_false]; split <;> first | (rename_i g3; rw [g3, hscr]) | (split <;> first | (rename_i g3; rw [g3, hpar]) | exact hm y g1 g2))⟩
  · rintro m₁ nx h tk9 ⟨rfl, ⟨xt, tt9, hxt, hxl, hxa⟩, hm⟩ F₁ N₁
    have F₂ : Fr _ _ h (fun y => if y = Str.ofString "text" then some (Value.str xt tt9) else m₁ y) := fr_names F₁ (by
      intro y
      by_cases h2 : y = Str.ofString "text"
      · subst h2; simp only [if_true]; exact hxt.symm
      · simp only [h2, if_false])
    clear F₁ lF lN hR
    (try k_fold)
    have hxl2 : xt.length ≤ 1000 := Nat.le_trans hxl (rng_n _)
    k_steps
    exact hret (Txt.slice xt none (some (20 : Int))).cps.toList _ _ _ (text_ok xt 20 (by decide) hxa) (by k_asm) (drop1 (by k_asm))
end
section
open PySem PySem.W PySem.Calls PyProof.Rows
set_option linter.unusedVariables false
theorem calm15 : True := by
  w_top off
  first | walk1 | trivial
theorem fillE : PySem.Challenge.rw_nt0605_02 = PySem.Challenge.rw_nt0605_02 ∧ topK = topK := by
  k_fill
  exact ⟨rfl, rfl⟩


variable {w : World} {p : Program} {loose : List Str} {mean : ExcName → Option Value} {mg mb : Str → Option Value} {k0 k1 k2 k3 k4 k5 k6 k7 k8 k9 k10 k11 k12 k13 v0 v1 v2 v3 g0 g1 g2 g3 g4 g5 g6 g7 : Tok} {x dx st dst sg se ot er dr ddr da sm : Nat} {osm : Obj} {tb tu tc tl tg th : Tok}
  {i : Int} {ti : Tok} {z : Str} {tz : Tok} {dv : Value} {wa dn cl rt : Bool} {vs : Array Value} {ns : Nat} {vse : Array Value} {nse : Nat} {es : List Dat} {tx : Str} {tt : Tok} {vo : Array Value} {no : Nat} {ve : Array Value} {ne : Nat} {r ro ex : Led}
noncomputable def rowE (i : Nat) : List Nat := if i = 0 then [60, 33, 45, 45] else if i = 1 then [60, 33, 45] else if i = 2 then [60, 33] else if i = 3 then [60] else if i = 4 then [45, 45, 33] else if i = 5 then [45, 45] else [45]
noncomputable def rowS (i : Nat) : St := if i = 0 then .bdd else if i = 1 then .bdash else if i = 2 then .bang else if i = 3 then .lt else if i = 4 then .ebang else if i = 5 then .en else .edash
theorem rowE_le (i : Nat) : (rowE i).length ≤ 4 := by
  unfold rowE
  repeat' split
  all_goals decide
theorem st_none {ws : List Nat} (h0 : (tx_ ws == Str.ofString "") = true) : ws = [] := by
  rw [show Str.ofString "" = tx_ [] from by decide, tx_inj] at h0
  exact beq_iff_eq.mp h0
theorem st_some {ws : List Nat} (h0 : (tx_ ws == Str.ofString "") = false) : ¬ ws = [] := by
  rintro rfl
  exact absurd h0 (by decide)
theorem st_dash {ws : List Nat} (h0 : (tx_ ws == Str.ofString "-") = true) : ws = [45] := by
  rw [show Str.ofString "-" = tx_ [45] from by decide, tx_inj] at h0
  exact beq_iff_eq.mp h0
theorem st_ndash {ws : List Nat} (h0 : (tx_ ws == Str.ofString "-") = false) : ¬ ws = [45] := by
  rintro rfl
  exact absurd h0 (by decide)
theorem rev_no {ws e : List Nat} (h : ends ws e = false) : ¬ ws.reverse.take e.length = e.reverse := fun q => by
  rw [(ends_rev ws e).mpr q] at h
  cases h
theorem state_at {ws : List Nat} {i : Nat} (hi : i < 7) (h0 : ¬ ws = []) (h1 : ¬ ws = [45]) (hno : ∀ p, p < i → ends ws (rowE p) = false) (h : ends ws (rowE i) = true) : stR ws.reverse = rowS i := by
  have g0 : ¬ ws.reverse = [] := by simpa using h0
  have g1 : ¬ ws.reverse = [45] := fun e => h1 (by have := congrArg List.reverse e; simpa using this)
  have hy := (ends_rev ws _).mp h
  unfold stR
  rw [if_neg g0, if_neg g1]
  match i with
  | 0 => exact if_pos hy
  | 1 => exact (if_neg (rev_no (hno 0 (by decide)))).trans (if_pos hy)
  | 2 => exact (if_neg (rev_no (hno 0 (by decide)))).trans ((if_neg (rev_no (hno 1 (by decide)))).trans (if_pos hy))
  | 3 => exact (if_neg (rev_no (hno 0 (by decide)))).trans ((if_neg (rev_no (hno 1 (by decide)))).trans ((if_neg (rev_no (hno 2 (by decide)))).trans (if_pos hy)))
  | 4 => exact (if_neg (rev_no (hno 0 (by decide)))).trans ((if_neg (rev_no (hno 1 (by decide)))).trans ((if_neg (rev_no (hno 2 (by decide)))).trans ((if_neg (rev_no (hno 3 (by decide)))).trans (if_pos hy))))
  | 5 => exact (if_neg (rev_no (hno 0 (by decide)))).trans ((if_neg (rev_no (hno 1 (by decide)))).trans ((if_neg (rev_no (hno 2 (by decide)))).trans ((if_neg (rev_no (hno 3 (by decide)))).trans ((if_neg (rev_no (hno 4 (by decide)))).trans (if_pos hy)))))
  | 6 => exact (if_neg (rev_no (hno 0 (by decide)))).trans ((if_neg (rev_no (hno 1 (by decide)))).trans ((if_neg (rev_no (hno 2 (by decide)))).trans ((if_neg (rev_no (hno 3 (by decide)))).trans ((if_neg (rev_no (hno 4 (by decide)))).trans ((if_neg (rev_no (hno 5 (by decide)))).trans (if_pos hy))))))
  | i + 7 => omega
theorem state_no {ws : List Nat} (h0 : ¬ ws = []) (h1 : ¬ ws = [45]) (hno : ∀ p, p < 7 → ends ws (rowE p) = false) : stR ws.reverse = .com := by
  have g0 : ¬ ws.reverse = [] := by simpa using h0
  have g1 : ¬ ws.reverse = [45] := fun e => h1 (by have := congrArg List.reverse e; simpa using this)
  unfold stR
  rw [if_neg g0, if_neg g1]
  exact (if_neg (rev_no (hno 0 (by decide)))).trans ((if_neg (rev_no (hno 1 (by decide)))).trans ((if_neg (rev_no (hno 2 (by decide)))).trans ((if_neg (rev_no (hno 3 (by decide)))).trans ((if_neg (rev_no (hno 4 (by decide)))).trans ((if_neg (rev_no (hno 5 (by decide)))).trans (if_neg (rev_no (hno 6 (by decide)))))))))
noncomputable def RowsAre (nx : Led) (vs : List Value) : Prop := vs.length = 7 ∧ ∀ (i : Nat) (v : Value), vs[i]? = some v → ∃ (T : Addr) (t1 t2 : Tok), v = .ref T ∧ (T, tupO [.str (tx_ (rowE i)) t1, .str (rowS i).name t2]) ∈ nx
theorem rows_are {nx : Led} {a0 a1 a2 a3 a4 a5 a6 : Addr} {t0 t1 t2 t3 t4 t5 t6 u0 u1 u2 u3 u4 u5 u6 : Tok}
    (h0 : (a0, tupO [.str (Str.ofString "<!--") t0, .str (Str.ofString "comment less-than sign bang dash dash") u0]) ∈ nx)
    (h1 : (a1, tupO [.str (Str.ofString "<!-") t1, .str (Str.ofString "comment less-than sign bang dash") u1]) ∈ nx)
    (h2 : (a2, tupO [.str (Str.ofString "<!") t2, .str (Str.ofString "comment less-than sign bang") u2]) ∈ nx)
    (h3 : (a3, tupO [.str (Str.ofString "<") t3, .str (Str.ofString "comment less-than sign") u3]) ∈ nx)
    (h4 : (a4, tupO [.str (Str.ofString "--!") t4, .str (Str.ofString "comment end bang") u4]) ∈ nx)
    (h5 : (a5, tupO [.str (Str.ofString "--") t5, .str (Str.ofString "comment end") u5]) ∈ nx)
    (h6 : (a6, tupO [.str (Str.ofString "-") t6, .str (Str.ofString "comment end dash") u6]) ∈ nx) : RowsAre nx [.ref a0, .ref a1, .ref a2, .ref a3, .ref a4, .ref a5, .ref a6] := by
  refine ⟨rfl, fun i v h => ?_⟩
  have z0 : Str.ofString "<!--" = tx_ [60, 33, 45, 45] := by decide
  have z1 : Str.ofString "<!-" = tx_ [60, 33, 45] := by decide
  have z2 : Str.ofString "<!" = tx_ [60, 33] := by decide
  have z3 : Str.ofString "<" = tx_ [60] := by decide
  have z4 : Str.ofString "--!" = tx_ [45, 45, 33] := by decide
  have z5 : Str.ofString "--" = tx_ [45, 45] := by decide
  have z6 : Str.ofString "-" = tx_ [45] := by decide
  rw [z0] at h0
  rw [z1] at h1
  rw [z2] at h2
  rw [z3] at h3
  rw [z4] at h4
  rw [z5] at h5
  rw [z6] at h6
  match i with
  | 0 => exact ⟨a0, t0, u0, (Option.some.inj h).symm, h0⟩
  | 1 => exact ⟨a1, t1, u1, (Option.some.inj h).symm, h1⟩
  | 2 => exact ⟨a2, t2, u2, (Option.some.inj h).symm, h2⟩
  | 3 => exact ⟨a3, t3, u3, (Option.some.inj h).symm, h3⟩
  | 4 => exact ⟨a4, t4, u4, (Option.some.inj h).symm, h4⟩
  | 5 => exact ⟨a5, t5, u5, (Option.some.inj h).symm, h5⟩
  | 6 => exact ⟨a6, t6, u6, (Option.some.inj h).symm, h6⟩
  | i + 7 => simp at h
theorem news_r {h₀ h : Heap} {L : Addr} {l r : Led} (N : News h₀ L h (l ++ r)) : News h₀ L h r := fun p hp => N p (List.mem_append_right _ hp)
local macro_rules | `(tactic| walk_at "exec For Tuple Name cons nil") => `(tactic| ((rename Fr _ _ _ _ => lF'); (with_unfolding_all refine' For_turns lF' ?_; k_whole)))
set_option maxRecDepth 100000 in
set_option maxHeartbeats 8000000 in
theorem lstate_c {ws : List Nat} {tq : Tok} (hn : ws.length ≤ 24) : CallC w p loose mean mg mb 475 [.str (tx_ ws) tq] 8 32 r
    (fun h₀ L m s Q => ∀ t h' tk', Fr h₀ L h' m → News h₀ L h' r → Q (.str (stR ws.reverse).name t) { s with heap := h', toks := tk' }) := by
  intro dp un gd cn cs a ccd cll outer A₀ base h₀ L m s Q E B F X N T hk hd hu hret
  refine wpAny_call ?_
  k_dflt cell_enter
  have hl := len_ ws
  have hz : (tx_ ws).length ≤ 1000 := by omega
  have hE : ∀ e : List Nat, Txt.endswith (tx_ ws) (tx_ e) = ends ws e := ends_ ws
  k_steps
  · have e := st_none (by assumption)
    subst e
    exact hret _ _ _ (by k_asm) (by k_asm)
  · have e := st_dash (by assumption)
    subst e
    exact hret _ _ _ (by k_asm) (by k_asm)
  · unfold Hold
    have n0 := st_some (by assumption)
    have n1 := st_ndash (by assumption)
    (rename Fr _ _ _ _ => lF)
    (rename News _ _ _ _ => lN)
    obtain ⟨vsL, nL, nx, mm, htx, lF, hR, hm, hsub, lN⟩ : ∃ (vsL : List Value) (nL : Nat) (nx : Led) (mm : Str → Option Value), mm (Str.ofString "text") = some (Value.str (tx_ ws) tq) ∧ Fr _ _ _ mm ∧ RowsAre nx vsL ∧ (_, listOf vsL.toArray nL) ∈ nx ∧ (∀ p ∈ r, p ∈ nx) ∧ News _ _ _ nx :=
      ⟨_, _, _, _, rfl, lF, rows_are (by k_mem) (by k_mem) (by k_mem) (by k_mem) (by k_mem) (by k_mem) (by k_mem), List.Mem.head _, fun p hp => by repeat (first | exact hp | apply List.Mem.tail), lN⟩
    refine my_turns (vs := vsL) (fun jj m ny => ny = nx ∧ m (Str.ofString "text") = some (Value.str (tx_ ws) tq) ∧ ∀ p, p < jj → ends ws (rowE p) = false) rfl lF lN hm rfl rfl ⟨rfl, htx, fun p hp => absurd hp (Nat.not_lt_zero _)⟩ (fun i m ny hj => by rw [hj.1]; exact hm) ?_ ?_
    · rintro i9 v m₁ ny h tk9 I oI _ hi9 hoff ⟨rfl, htx2, hno⟩ F₁ N₁
      obtain ⟨T9, t1, t2, rfl, hT⟩ := hR.2 i9 v hi9
      have hi7 : i9 < 7 := by have := (List.getElem?_eq_some_iff.mp hi9).1; rw [hR.1] at this; exact this
      have hTup : IsTup h T9 #[.str (tx_ (rowE i9)) t1, .str (rowS i9).name t2] := News.isTup N₁ (.tail _ hT)
      have F₂ : Fr _ _ h (fun y => if y = Str.ofString "text" then some (Value.str (tx_ ws) tq) else m₁ y) := fr_names F₁ (by
        intro y
        by_cases h2 : y = Str.ofString "text"
        · subst h2; simp only [if_true]; exact htx2.symm
        · simp only [h2, if_false])
      clear F₁ lF lN
      have hE1 := hE (rowE i9)
      have hE2 : (tx_ (rowE i9)).length = (rowE i9).length := len_ _
      have hE3 : (rowE i9).length ≤ 4 := rowE_le i9
      (try k_fold)
      k_steps
      · (rename Txt.endswith _ _ = true => h5)
        rw [state_at hi7 n0 n1 hno (hE1 ▸ h5)] at hret
        (try dsimp only)
        refine TurnEnd.ret ?_
        k_steps
        exact hret _ _ _ (by k_asm) (fun p hp => (by k_asm : News _ _ _ _) p (.tail _ (hsub p hp)))
      · (rename Txt.endswith _ _ = false => h5)
        refine TurnEnd.next (by k_asm) (by k_asm) hoff ⟨rfl, by simp only [if_true]; rfl, fun p hp => ?_⟩
        by_cases h : p < i9
        · exact hno p h
        · have : p = i9 := by omega
          subst this
          rw [← hE1]
          exact h5
    · rintro m₁ ny h tk9 ⟨rfl, htx2, hno⟩ F₁ N₁
      have F₂ : Fr _ _ h (fun y => if y = Str.ofString "text" then some (Value.str (tx_ ws) tq) else m₁ y) := fr_names F₁ (by
        intro y
        by_cases h2 : y = Str.ofString "text"
        · subst h2; simp only [if_true]; exact htx2.symm
        · simp only [h2, if_false])
      clear F₁ lF lN
      (try k_fold)
      k_steps
      rw [state_no n0 n1 (by rw [← hR.1]; exact hno)] at hret
      exact hret _ _ _ (by k_asm) (fun p hp => (by k_asm : News _ _ _ _) p (hsub p hp))
end
section
open PySem PySem.W PySem.Calls PyProof.Rows
set_option linter.unusedVariables false
theorem calm16 : True := by
  w_top off
  first | walk1 | trivial
theorem fillJ : PySem.Challenge.rw_nt0605_02 = PySem.Challenge.rw_nt0605_02 ∧ topK = topK := by
  k_fill
  exact ⟨rfl, rfl⟩


variable {w : World} {p : Program} {loose : List Str} {mean : ExcName → Option Value} {mg mb : Str → Option Value} {k0 k1 k2 k3 k4 k5 k6 k7 k8 k9 k10 k11 k12 k13 v0 v1 v2 v3 g0 g1 g2 g3 g4 g5 g6 g7 : Tok} {x dx st dst sg se ot er dr ddr da sm : Nat} {osm : Obj} {tb tu tc tl tg th : Tok}
  {i : Int} {ti : Tok} {z : Str} {tz : Tok} {dv : Value} {wa dn cl rt : Bool} {vs : Array Value} {ns : Nat} {vse : Array Value} {nse : Nat} {es : List Dat} {tx : Str} {tt : Tok} {vo : Array Value} {no : Nat} {ve : Array Value} {ne : Nat} {r ro ex : Led}
theorem vN : Str.ofString "" = tx_ [] := by decide
theorem v45 : Str.ofString "-" = tx_ [45] := by decide
theorem v2_ : Str.ofString "--" = tx_ [45, 45] := by decide
theorem v3_ : Str.ofString "--!" = tx_ [45, 45, 33] := by decide
noncomputable def endL (i : Nat) : List Nat := if i = 0 then [45, 45, 33] else if i = 1 then [45, 45] else [45]
theorem endL_le (i : Nat) : (endL i).length ≤ 3 := by
  unfold endL
  repeat' split
  all_goals decide
noncomputable def EndsAre (arr : Array Value) : Prop := arr.size = 3 ∧ ∀ (i : Nat) (v : Value), arr[i]? = some v → ∃ t, i < 3 ∧ v = .str (tx_ (endL i)) t
theorem endsAre {t1 t2 t3 : Tok} : EndsAre #[.str (Str.ofString "--!") t1, .str (Str.ofString "--") t2, .str (Str.ofString "-") t3] := by
  refine ⟨rfl, fun i v h => ?_⟩
  match i with
  | 0 => simp at h; exact ⟨t1, by decide, by rw [← h, v3_]; rfl⟩
  | 1 => simp at h; exact ⟨t2, by decide, by rw [← h, v2_]; rfl⟩
  | 2 => simp at h; exact ⟨t3, by decide, by rw [← h, v45]; rfl⟩
  | i + 3 => simp at h
theorem tail_at {ws : List Nat} {i : Nat} (hi : i < 3) (hno : ∀ p, p < i → ends ws (endL p) = false) (h : ends ws (endL i) = true) : tailL ws = ws.take (ws.length - (endL i).length) ∧ (endL i).length ≤ ws.length := by
  refine ⟨?_, ?_⟩
  · match i with
    | 0 => unfold tailL; rw [if_pos (show ends ws [45, 45, 33] = true from h)]; rfl
    | 1 => have h0 : ends ws [45, 45, 33] = false := hno 0 (by decide)
           unfold tailL; rw [if_neg (by rw [h0]; decide), if_pos (show ends ws [45, 45] = true from h)]; rfl
    | 2 => have h0 : ends ws [45, 45, 33] = false := hno 0 (by decide)
           have h1 : ends ws [45, 45] = false := hno 1 (by decide)
           unfold tailL; rw [if_neg (by rw [h0]; decide), if_neg (by rw [h1]; decide), if_pos (show ends ws [45] = true from h)]; rfl
    | i + 3 => omega
  · unfold ends at h
    rw [Bool.and_eq_true] at h
    exact of_decide_eq_true h.1
theorem tail_no {ws : List Nat} (hno : ∀ p, p < 3 → ends ws (endL p) = false) : tailL ws = ws := by
  have h0 : ends ws [45, 45, 33] = false := hno 0 (by decide)
  have h1 : ends ws [45, 45] = false := hno 1 (by decide)
  have h2 : ends ws [45] = false := hno 2 (by decide)
  unfold tailL
  rw [h0, h1, h2]
  rfl
theorem readL_yes {ws b : List Nat} {n : Nat} (h8 : ¬ ws.take 1 = [62]) (h9 : ¬ ws.take 2 = [45, 62]) (h : (List.range ws.length).findSome? (hit ws) = some (n, b)) : readL ws = (true, n, b) := by
  unfold readL
  rw [if_neg h8, if_neg h9, h]
theorem readL_no {ws : List Nat} (h8 : ¬ ws.take 1 = [62]) (h9 : ¬ ws.take 2 = [45, 62]) (h : (List.range ws.length).findSome? (hit ws) = none) : readL ws = (false, ws.length, tailL ws) := by
  unfold readL
  rw [if_neg h8, if_neg h9, h]
theorem sl_to {ws e : List Nat} {n : Nat} {y : Str} (hy : y = tx_ e) : (Txt.slice (tx_ ws) none (some (n : Int)) == y) = (ws.take n == e) := by rw [hy, slice_to, tx_inj]
theorem sl_mid {ws e : List Nat} {a b : Nat} {y : Str} (hy : y = tx_ e) : (Txt.slice (tx_ ws) (some (a : Int)) (some ((a : Int) + (b : Int))) == y) = ((ws.take (a + b)).drop a == e) := by
  rw [hy, show ((a : Int) + (b : Int)) = ((a + b : Nat) : Int) from rfl, slice_, tx_inj]
theorem litGt : Str.ofString ">" = tx_ [62] := by decide
theorem litDGt : Str.ofString "->" = tx_ [45, 62] := by decide
theorem litDDGt : Str.ofString "-->" = tx_ [45, 45, 62] := by decide
theorem litDDBGt : Str.ofString "--!>" = tx_ [45, 45, 33, 62] := by decide
theorem drop_own {h₀ h : Heap} {L : Addr} {q : Addr × Obj} {l own : Led} (N : News h₀ L h (q :: (l ++ own))) : News h₀ L h (q :: l) := fun p hp => N p (by
  rcases List.mem_cons.mp hp with rfl | hp
  · exact .head _
  · exact .tail _ (List.mem_append_left _ hp))
theorem hold_range {prog : Program} {w : World} {A : Around} {E : Value → Shared → Prop} {s : Shared} {r : Addr} {b : Int} {t₀ u₀ v₀ : Tok} {Q : Value → Shared → Prop} (_ : IsRange s.heap r 0 b 1 t₀ u₀ v₀) (h : Hold (wpAny (model prog w) A (pyIter (.ref r)) Q E s)) : wpAny (model prog w) A (pyIter (.ref r)) Q E s := h
local macro_rules | `(tactic| walk_at "pyIter ref") => `(tactic| (first | (refine hold_range (by assumption) ?_) | (refine hold ?_)))
theorem cl_a1 {ws : List Nat} (h : ws.take 1 = [62]) : closeT ws = (1, [], abrT) := by unfold closeT; rw [if_pos h]
theorem cl_a2 {ws : List Nat} (h1 : ¬ ws.take 1 = [62]) (h : ws.take 2 = [45, 62]) : closeT ws = (2, [], abrT) := by unfold closeT; rw [if_neg h1, if_pos h]
theorem lit_pl : tx_ pl = Str.ofString "-->" := by decide
theorem lit_wr : tx_ wr = Str.ofString "--!>" := by decide
theorem sl_int {ws : List Nat} {k : Int} (h : 0 ≤ k) : tx_ (ws.take k.toNat) = Txt.slice (tx_ ws) none (some k) := by
  rw [← slice_to, Int.toNat_of_nonneg h]
theorem cl_pl {ws : List Nat} (h1 : ¬ ws.take 1 = [62]) (h2 : ¬ ws.take 2 = [45, 62]) (hp : 0 ≤ Txt.find (tx_ ws) (Str.ofString "-->")) (hw : Txt.find (tx_ ws) (Str.ofString "--!>") < 0 ∨ Txt.find (tx_ ws) (Str.ofString "-->") < Txt.find (tx_ ws) (Str.ofString "--!>")) :
    closeT ws = (Txt.find (tx_ ws) (Str.ofString "-->") + 3, ws.take (Txt.find (tx_ ws) (Str.ofString "-->")).toNat, Str.ofString "") := by
  unfold closeT
  rw [if_neg h1, if_neg h2, lit_pl, lit_wr, if_pos ⟨hp, hw⟩]
theorem cl_wr {ws : List Nat} (h1 : ¬ ws.take 1 = [62]) (h2 : ¬ ws.take 2 = [45, 62]) (hn : ¬ (0 ≤ Txt.find (tx_ ws) (Str.ofString "-->") ∧ (Txt.find (tx_ ws) (Str.ofString "--!>") < 0 ∨ Txt.find (tx_ ws) (Str.ofString "-->") < Txt.find (tx_ ws) (Str.ofString "--!>")))) (hw : 0 ≤ Txt.find (tx_ ws) (Str.ofString "--!>")) :
    closeT ws = (Txt.find (tx_ ws) (Str.ofString "--!>") + 4, ws.take (Txt.find (tx_ ws) (Str.ofString "--!>")).toNat, incT) := by
  unfold closeT
  rw [if_neg h1, if_neg h2, lit_pl, lit_wr, if_neg hn, if_pos hw]
theorem cl_no {ws : List Nat} (h1 : ¬ ws.take 1 = [62]) (h2 : ¬ ws.take 2 = [45, 62]) (hp : ¬ 0 ≤ Txt.find (tx_ ws) (Str.ofString "-->")) (hw : ¬ 0 ≤ Txt.find (tx_ ws) (Str.ofString "--!>")) : closeT ws = (-1, tailL ws, Str.ofString "") := by
  unfold closeT
  rw [if_neg h1, if_neg h2, lit_pl, lit_wr, if_neg (fun q => hp q.1), if_neg hw]
set_option maxRecDepth 100000 in
set_option maxHeartbeats 8000000 in
theorem lclose_c {ws : List Nat} {tq : Tok} (hn : ws.length ≤ 24) : CallC w p loose mean mg mb 468 [.str (tx_ ws) tq] 8 32 r
    (fun h₀ L m s Q => ∀ q t1 t2 t3 h' tk', 0 < tk' → Fr h₀ L h' m → News h₀ L h' ((q, tupO [.int (closeT ws).1 t1, .str (tx_ (closeT ws).2.1) t2, .str (closeT ws).2.2 t3]) :: r) → Q (.ref q) { s with heap := h', toks := tk' }) := by
  intro dp un gd cn cs a ccd cll outer A₀ base h₀ L m s Q E B F X N T hk hd hu hret
  refine wpAny_call ?_
  k_dflt cell_enter
  have hl := len_ ws
  have hz : (tx_ ws).length ≤ 1000 := by omega
  have E1 : (Txt.slice (tx_ ws) none (some 1) == Str.ofString ">") = (ws.take 1 == [62]) := sl_to litGt
  have E2 : (Txt.slice (tx_ ws) none (some 2) == Str.ofString "->") = (ws.take 2 == [45, 62]) := sl_to litDGt
  k_steps
  · (rename (_ == _) = true => h9)
    rw [E1, beq_iff_eq] at h9
    rw [cl_a1 h9] at hret
    dsimp only at hret
    rw [← vN] at hret
    exact hret _ _ _ _ _ _ (Nat.succ_pos _) (by k_asm) (by k_asm)
  · (rename (_ == Str.ofString ">") = false => h8)
    (rename (_ == _) = true => h9)
    rw [E1, beq_eq_false_iff_ne] at h8
    rw [E2, beq_iff_eq] at h9
    rw [cl_a2 h8 h9] at hret
    dsimp only at hret
    rw [← vN] at hret
    exact hret _ _ _ _ _ _ (Nat.succ_pos _) (by k_asm) (by k_asm)
  · skip
    (rename (_ == Str.ofString ">") = false => h8)
    (rename (_ == Str.ofString "->") = false => h9)
    rw [E1, beq_eq_false_iff_ne] at h8
    rw [E2, beq_eq_false_iff_ne] at h9
    have e := cl_pl h8 h9 (by assumption) (.inl (by assumption))
    rw [e] at hret
    dsimp only at hret
    rw [sl_int (by assumption)] at hret
    exact hret _ _ _ _ _ _ (Nat.succ_pos _) (by k_asm) (by k_asm)
  · skip
    (rename (_ == Str.ofString ">") = false => h8)
    (rename (_ == Str.ofString "->") = false => h9)
    rw [E1, beq_eq_false_iff_ne] at h8
    rw [E2, beq_eq_false_iff_ne] at h9
    have e := cl_pl h8 h9 (by assumption) (.inr (by assumption))
    rw [e] at hret
    dsimp only at hret
    rw [sl_int (by assumption)] at hret
    exact hret _ _ _ _ _ _ (Nat.succ_pos _) (by k_asm) (by k_asm)
  · skip
    (rename (_ == Str.ofString ">") = false => h8)
    (rename (_ == Str.ofString "->") = false => h9)
    rw [E1, beq_eq_false_iff_ne] at h8
    rw [E2, beq_eq_false_iff_ne] at h9
    have e := cl_wr h8 h9 (by omega) (by omega)
    rw [e] at hret
    dsimp only at hret
    rw [sl_int (by omega)] at hret
    exact hret _ _ _ _ _ _ (Nat.succ_pos _) (by k_asm) (by k_asm)
  · skip
    (rename (_ == Str.ofString ">") = false => h8)
    (rename (_ == Str.ofString "->") = false => h9)
    rw [E1, beq_eq_false_iff_ne] at h8
    rw [E2, beq_eq_false_iff_ne] at h9
    have e := cl_wr h8 h9 (by omega) (by omega)
    rw [e] at hret
    dsimp only at hret
    rw [sl_int (by omega)] at hret
    exact hret _ _ _ _ _ _ (Nat.succ_pos _) (by k_asm) (by k_asm)
  · unfold Hold
    (rename (_ == Str.ofString ">") = false => h8)
    (rename (_ == Str.ofString "->") = false => h9)
    rw [E1, beq_eq_false_iff_ne] at h8
    rw [E2, beq_eq_false_iff_ne] at h9
    have e := cl_no h8 h9 (by assumption) (by assumption)
    rw [e] at hret
    dsimp only at hret
    (rename Fr _ _ _ _ => lF)
    (rename News _ _ _ _ => lN)
    (rename ∀ p ∈ r, _ => hlt)
    obtain ⟨mm, htx, lF⟩ : ∃ (mm : Str → Option Value), mm (Str.ofString "text") = some (Value.str (tx_ ws) tq) ∧ Fr _ _ _ mm := ⟨_, rfl, lF⟩
    obtain ⟨arr, n3, harr, lN⟩ : ∃ (arr : Array Value) (n3 : Nat), EndsAre arr ∧ News _ _ _ ((_, listOf arr n3) :: r) := ⟨_, _, endsAre, lN⟩
    have hE : ∀ e : List Nat, Txt.endswith (tx_ ws) (tx_ e) = ends ws e := ends_ ws
    refine my_list (fun jj m ny => ny = r ∧ (∀ p, p < jj → ends ws (endL p) = false) ∧ ∀ y, y ≠ Str.ofString "ending" → m y = mm y) rfl lF lN hlt ⟨rfl, fun p hp => absurd hp (Nat.not_lt_zero _), fun _ _ => rfl⟩ ?_ ?_
    · rintro i9 v m₁ ny h tk9 own hi9 hown ⟨rfl, hno2, hm2⟩ F₁ N₁
      obtain ⟨t, hi8, rfl⟩ := harr.2 i9 v hi9
      have F₂ : Fr _ _ h (fun y => if y = Str.ofString "ending" then some (Value.str (tx_ (endL i9)) t) else if y = Str.ofString "text" then some (Value.str (tx_ ws) tq) else m₁ y) := fr_names F₁ (by
        intro y
        by_cases h1 : y = Str.ofString "ending"
        · simp only [h1, if_true]
        · by_cases h2 : y = Str.ofString "text"
          · subst h2; simp only [h1, if_false, if_true]; rw [hm2 _ h1, htx]
          · simp only [h1, h2, if_false])
      clear F₁ lF lN
      have hE1 := hE (endL i9)
      have hE2 : (tx_ (endL i9)).length = (endL i9).length := len_ _
      have hE3 : (endL i9).length ≤ 3 := endL_le i9
      (try k_fold)
      k_steps
      · (rename Txt.endswith _ _ = true => h5)
        obtain ⟨q1, q2⟩ := tail_at hi8 hno2 (hE1 ▸ h5)
        have q3 : ((ws.length - (endL i9).length : Nat) : Int) = ((tx_ ws).length : Int) - ((tx_ (endL i9)).length : Int) := by omega
        rw [q1, ← slice_to, q3] at hret
        exact hret _ _ _ _ _ _ (Nat.succ_pos _) (by k_asm) (drop_own (by k_asm))
      · (rename Txt.endswith _ _ = false => h5)
        refine my_end ny (by assumption) (by assumption) ?hj ?ha (fun p hp => hp)
        case ha => exact hown
        case hj => exact ⟨rfl, (fun p hp => by
          by_cases h : p < i9
          · exact hno2 p h
          · have : p = i9 := by omega
            subst this
            rw [← hE1]
            exact h5), by (intro y g1; simp only [g1, if_false]; split <;> first | (rename_i g3; rw [g3, htx]) | exact hm2 y g1)⟩
    · rintro m₁ ny h tk9 ⟨rfl, hno2, hm2⟩ F₁ N₁
      have F₂ : Fr _ _ h (fun y => if y = Str.ofString "text" then some (Value.str (tx_ ws) tq) else m₁ y) := fr_names F₁ (by
        intro y
        by_cases h2 : y = Str.ofString "text"
        · subst h2; simp only [if_true]; rw [hm2 _ (by decide), htx]
        · simp only [h2, if_false])
      clear F₁ lF lN
      (try k_fold)
      k_steps
      rw [tail_no (fun p hp => hno2 p (by rw [harr.1]; exact hp))] at hret
      exact hret _ _ _ _ _ _ (Nat.succ_pos _) (by k_asm) (by k_asm)
structure CloseIs (v : List Nat) (e : Int) (b : List Nat) (f : Str) : Prop where
  eq : closeT v = (e, b, f)
theorem CloseIs.le {v : List Nat} {e : Int} {b : List Nat} {f : Str} (h : CloseIs v e b f) : (e = -1 ∨ (1 ≤ e ∧ e ≤ v.length)) ∧ b.length ≤ v.length ∧ (e = -1 → f = Str.ofString "") := by
  have h := h.eq
  rcases close_read v with ⟨n, b', f', q1, q2, _⟩ | ⟨q1, q2⟩
  · rw [q1] at h
    injection h with h1 h
    injection h with h2 h3
    obtain ⟨e1, r1, r2, _⟩ := readL_closed (v := v) (by rw [q2])
    rw [q2] at r1
    dsimp only at r1
    have := readL_len v
    rw [q2] at this
    dsimp only at this
    exact ⟨.inr (by omega), by rw [← h2]; exact this, fun h => by omega⟩
  · rw [q1] at h
    injection h with h1 h
    injection h with h2 h3
    have e2 := (readL_open q2).2.1
    have := readL_len v
    rw [e2] at this
    exact ⟨.inl h1.symm, by rw [← h2]; exact this, fun _ => h3.symm⟩
theorem lclose_d {ws : List Nat} {tq : Tok} (hn : ws.length ≤ 24) : CallC w p loose mean mg mb 468 [.str (tx_ ws) tq] 8 32 r
    (fun h₀ L m s Q => ∀ e b f, CloseIs ws e b f → ∀ q t1 t2 t3 h' tk', 0 < tk' → Fr h₀ L h' m → News h₀ L h' ((q, tupO [.int e t1, .str (tx_ b) t2, .str f t3]) :: r) → Q (.ref q) { s with heap := h', toks := tk' }) := by
  intro dp un gd cn cs a ccd cll outer A₀ base h₀ L m s Q E B F X N T hk hd hu hret
  exact lclose_c hn dp un gd cn cs a ccd cll outer A₀ base h₀ L m s Q E B F X N T hk hd hu (fun q t1 t2 t3 h' tk' hp F N => hret _ _ _ ⟨rfl⟩ q t1 t2 t3 h' tk' hp F N)
end
section
open PySem PySem.W PySem.Calls PyProof.Rows
set_option linter.unusedVariables false
theorem calm17 : True := by
  w_top off
  first | walk1 | trivial
theorem fillK : PySem.Challenge.rw_nt0605_02 = PySem.Challenge.rw_nt0605_02 ∧ topK = topK := by
  k_fill
  exact ⟨rfl, rfl⟩


variable {w : World} {p : Program} {loose : List Str} {mean : ExcName → Option Value} {mg mb : Str → Option Value} {k0 k1 k2 k3 k4 k5 k6 k7 k8 k9 k10 k11 k12 k13 v0 v1 v2 v3 g0 g1 g2 g3 g4 g5 g6 g7 : Tok} {x dx st dst sg se ot er dr ddr da sm : Nat} {osm : Obj} {tb tu tc tl tg th : Tok}
  {i : Int} {ti : Tok} {z : Str} {tz : Tok} {dv : Value} {wa dn cl rt : Bool} {vs : Array Value} {ns : Nat} {vse : Array Value} {nse : Nat} {es : List Dat} {tx : Str} {tt : Tok} {vo : Array Value} {no : Nat} {ve : Array Value} {ne : Nat} {r ro ex : Led}
theorem updF_cell {r : Led} {L' : Nat} {o : Obj} (h : ∀ p ∈ r, p.1 < L') : UpdF (L' + 1) o ((L' + 1, o) :: r) (fun o' => (L' + 1, o') :: r) := UpdF.head fun p hp => Nat.ne_of_lt (Nat.lt_succ_of_lt (h p hp))
theorem ltS {a b : Nat} (h : a ≤ b) : a ≤ b := h
theorem ctl_y {c : Nat} (h : (tx_ [c] == Str.ofString "\x01") = true) : c = 1 := by
  rw [show Str.ofString "\x01" = tx_ [1] from by decide, tx_inj] at h
  simpa using h
theorem ctl_n {c : Nat} (h : (tx_ [c] == Str.ofString "\x01") = false) : ¬ c = 1 := by
  rintro rfl
  exact absurd h (by decide)
theorem ctrl_y {v : List Nat} {k : Nat} (h : v[k]? = some 1) : ctrlU v (k + 1) = ctrlU v k ++ [errD "control-character-in-input-stream" k] := by
  show ctrlU v k ++ _ = _
  rw [h, if_pos rfl]
theorem ctrl_n {v : List Nat} {k c : Nat} (h : v[k]? = some c) (hc : ¬ c = 1) : ctrlU v (k + 1) = ctrlU v k := by
  show ctrlU v k ++ _ = _
  rw [h, if_neg (fun e => hc (Option.some.inj e)), List.append_nil]
theorem body_ok {v : List Nat} {e : Int} {b : List Nat} {f : Str} (h : CloseIs v e b f) (hv : v.length ≤ 24) : (tx_ b).length ≤ 1000 := by
  have := h.le.2.1
  rw [len_]; omega
theorem nl_e : Str.ofString "\n" = tx_ [10] := by decide
theorem cr_e : Str.ofString "\x0d" = ⟨#[13]⟩ := by decide
theorem nl_e2 : Str.ofString "\n" = ⟨#[10]⟩ := by decide
theorem crlf_e : Str.ofString "\x0d\n" = tx_ [13, 10] := by decide
theorem nest_y {v : List Nat} {k c : Nat} (hc : v[k]? = some c) (h4 : 4 ≤ k) (hs : (v.take k).drop (k - 4) = [60, 33, 45, 45]) (h62 : ¬ c = 62) : nestAt v k = [errD "nested-comment" k] := by
  unfold nestAt
  rw [if_pos ⟨h4, hs, by rw [hc]; simpa using h62⟩]
theorem nest_n1 {v : List Nat} {k : Nat} (h4 : ¬ 4 ≤ k) : nestAt v k = [] := by
  unfold nestAt
  rw [if_neg (fun q => h4 q.1)]
theorem nest_n2 {v : List Nat} {k : Nat} (hs : ¬ (v.take k).drop (k - 4) = [60, 33, 45, 45]) : nestAt v k = [] := by
  unfold nestAt
  rw [if_neg (fun q => hs q.2.1)]
theorem nest_n3 {v : List Nat} {k c : Nat} (hc : v[k]? = some c) (h62 : c = 62) : nestAt v k = [] := by
  unfold nestAt
  rw [if_neg (fun q => q.2.2 (by rw [hc, h62]))]
theorem null_y {v : List Nat} {k c : Nat} (hc : v[k]? = some c) (h : c = 0) : nullAt v k = [errD "unexpected-null-character" k] := by
  unfold nullAt
  rw [if_pos (by rw [hc, h])]
theorem null_n {v : List Nat} {k c : Nat} (hc : v[k]? = some c) (h : ¬ c = 0) : nullAt v k = [] := by
  unfold nullAt
  rw [if_neg (fun q => h (by rw [hc] at q; exact Option.some.inj q))]
theorem sg_lit {c n : Nat} {y : Str} (hy : y = tx_ [n]) : (tx_ [c] == y) = (c == n) := by
  rw [hy, tx_inj]
  by_cases h : c = n
  · subst h; simp
  · rw [beq_eq_false_iff_ne.mpr h, beq_eq_false_iff_ne.mpr (fun e => h (List.cons.inj e).1)]
theorem tup_off {h₀ h : Heap} {L : Addr} {q n : Nat} {arr : Array Value} {l ro : Led} (N : News h₀ L h ((q, listOf arr n) :: l)) (U : Tups ro) (hs : ∀ p ∈ ro, p ∈ l) : ∀ p ∈ ro, p.1 ≠ q := by
  intro p hp e
  have h1 := (N (q, listOf arr n) (.head _)).1
  have h2 := (N p (.tail _ (hs p hp))).1
  rw [e, h1] at h2
  have h3 := U p hp
  rw [← Option.some.inj h2] at h3
  injection h3 with h4
  exact absurd h4 (by decide)
theorem errsU_len (v : List Nat) : ∀ k, (errsU v k).length ≤ 2 * k
  | 0 => Nat.le_refl _
  | k + 1 => by
    have h := errsU_len v k
    have h1 : (nestAt v k).length ≤ 1 := by unfold nestAt; split <;> simp
    have h2 : (nullAt v k).length ≤ 1 := by unfold nullAt; split <;> simp
    show (errsU v k ++ nestAt v k ++ nullAt v k).length ≤ _
    rw [List.length_append, List.length_append]
    omega
theorem da_errN {r : Led} {q : Nat} {vs : Array Value} {ds : List Dat} {y : Str} {ty tu : Tok} {k : Int} (D : DatAll r vs.toList ds) : DatAll ((q, tupO [.str y ty, .int k tu]) :: r) (vs.push (.ref q)).toList (ds ++ [.tuple [.str y, .int k]]) := by
  rw [Array.toList_push]
  exact DatAll.append (da_keep D) (DatAll.one (DatIn.tuple (.head _) (.cons (.str _ _) (.cons (.int _ _) .nil))))
theorem re_assoc {h₀ h : Heap} {L : Addr} {pre own own0 r : Led} (N : News h₀ L h (pre ++ (own ++ (own0 ++ r)))) : News h₀ L h ((pre ++ (own ++ own0)) ++ r) := fun p hp => N p (by
  simp only [List.append_assoc] at hp
  exact hp)
theorem due_y1 {v b0 : List Nat} {e0 : Int} {f0 : Str} {es : List Dat} {b : Bool} (h : CloseIs v e0 b0 f0) (he : 0 ≤ e0) (hf : (f0 != Str.ofString "") = true) : dueD v es b =
    .tuple [.list [comD (b0.map rep)], .list (errsU (v.take e0.toNat) (v.take e0.toNat).length ++ [.tuple [.str f0, .int (e0 - 1)]]), .list es, .str (Str.ofString "data"), .int e0, .str (Str.ofString ""), .bool false, .bool false] := by
  unfold dueD
  rw [h.eq]
  dsimp only
  rw [if_pos he, if_neg (bne_iff_ne.mp hf)]
theorem due_y2 {v b0 : List Nat} {e0 : Int} {f0 : Str} {es : List Dat} {b : Bool} (h : CloseIs v e0 b0 f0) (he : 0 ≤ e0) (hf : (f0 != Str.ofString "") = false) : dueD v es b =
    .tuple [.list [comD (b0.map rep)], .list (errsU (v.take e0.toNat) (v.take e0.toNat).length), .list es, .str (Str.ofString "data"), .int e0, .str (Str.ofString ""), .bool false, .bool false] := by
  have hf' : f0 = Str.ofString "" := by simpa using hf
  unfold dueD
  rw [h.eq]
  dsimp only
  rw [if_pos he, if_pos hf', List.append_nil]
theorem due_n1 {v b0 : List Nat} {e0 : Int} {f0 : Str} {es : List Dat} {b : Bool} (h : CloseIs v e0 b0 f0) (he : ¬ 0 ≤ e0) (hb : b = true) : dueD v es b =
    .tuple [.list [comD (b0.map rep), eofD], .list (errsU v v.length ++ [errD "eof-in-comment" v.length]), .list es, .str (Str.ofString ""), .int ((v.length : Int) + 1), .str (Str.ofString ""), .bool true, .bool true] := by
  unfold dueD
  rw [h.eq]
  dsimp only
  rw [if_neg he, if_pos hb]
theorem due_n2 {v b0 : List Nat} {e0 : Int} {f0 : Str} {es : List Dat} {b : Bool} (h : CloseIs v e0 b0 f0) (he : ¬ 0 ≤ e0) (hb : b = false) : dueD v es b =
    .tuple [.list [], .list (errsU v v.length), .list es, .str (stR v.reverse).name, .int (v.length : Int), .str (tx_ (b0.map rep)), .bool false, .bool false] := by
  subst hb
  unfold dueD
  rw [h.eq]
  dsimp only
  rw [if_neg he, if_neg (by decide)]
theorem list_in {l : Led} {a n : Nat} {arr : Array Value} {ds : List Dat} (hm : (a, listOf arr n) ∈ l) (D : DatAll l arr.toList ds) : DatIn l (.ref a) (.list ds) := DatIn.list (by simpa using hm) D
theorem gt_n {c : Nat} (h : (tx_ [c] != Str.ofString ">") = true) : ¬ c = 62 := by
  rintro rfl
  exact absurd h (by decide)
theorem gt_y {c : Nat} (h : (tx_ [c] != Str.ofString ">") = false) : c = 62 := by
  rw [show Str.ofString ">" = tx_ [62] from by decide, bne, tx_inj] at h
  simpa using h
theorem nul_y {c : Nat} (h : (tx_ [c] == Str.ofString "\x00") = true) : c = 0 := by
  rw [show Str.ofString "\x00" = tx_ [0] from by decide, tx_inj] at h
  simpa using h
theorem nul_n {c : Nat} (h : (tx_ [c] == Str.ofString "\x00") = false) : ¬ c = 0 := by
  rintro rfl
  exact absurd h (by decide)
inductive RdIs (v : List Nat) (e0 : Int) (s : Shared) (h₀ : Heap) (L : Addr) (m : Str → Option Value) (news : Led) (v' : Value) (s' : Shared) : Prop
  | mk (rd : List Nat) (tr : Tok) (h' : Heap) (tk' : Nat) (e1 : v' = .str (tx_ rd) tr) (e2 : s' = { s with heap := h', toks := tk' }) (r1 : 0 ≤ e0 → rd = v.take e0.toNat) (r2 : ¬ 0 ≤ e0 → rd = v) (F : Fr h₀ L h' m) (N : News h₀ L h' news)
theorem join_rd {M : Model} {A : Around} {c : Sem Value} {Q E : Value → Shared → Prop} {s : Shared} {h₀ : Heap} {L : Addr} {m : Str → Option Value} {news : Led} {v : List Nat} {e0 : Int} (_ : Fr h₀ L s.heap m) (_ : News h₀ L s.heap news) (h1 : wpAny M A c (RdIs v e0 s h₀ L m news) E s)
    (h2 : ∀ rd tr h' tk', (0 ≤ e0 → rd = v.take e0.toNat) → (¬ 0 ≤ e0 → rd = v) → Fr h₀ L h' m → News h₀ L h' news → Q (.str (tx_ rd) tr) { s with heap := h', toks := tk' }) : wpAny M A c Q E s := by
  refine wpAny_mono h1 (fun v' s' h => ?_) (fun _ _ e => e)
  obtain ⟨rd, tr, h', tk', rfl, rfl, r1, r2, F, N⟩ := h
  exact h2 rd tr h' tk' r1 r2 F N
/-- the errors' list has grown -/
inductive GrowIs (s : Shared) (h₀ : Heap) (L : Addr) (m : Str → Option Value) (eL : Nat) (ds : List Dat) (B T own9 : Led) (f : Flow) (s' : Shared) : Prop
  | mk (own : Led) (arr : Array Value) (n : Nat) (h' : Heap) (tk' : Nat) (e1 : f = .next) (e2 : s' = { s with heap := h', toks := tk' }) (D : DatAll own arr.toList ds) (U : Tups own) (O : OwnOff own9 (own.map (·.1))) (F : Fr h₀ L h' m) (N : News h₀ L h' ((eL, listOf arr n) :: (B ++ (own ++ (T ++ own9)))))
theorem join_grow {M : Model} {A : Around} {c : Sem Flow} {Q : Flow → Shared → Prop} {E : Value → Shared → Prop} {s : Shared} {h₀ : Heap} {L : Addr} {m : Str → Option Value} (eL : Nat) (ds : List Dat) (B T own9 : Led) (_ : Fr h₀ L s.heap m) (h1 : wpAny M A c (GrowIs s h₀ L m eL ds B T own9) E s)
    (h2 : ∀ own arr n h' tk', DatAll own arr.toList ds → Tups own → OwnOff own9 (own.map (·.1)) → Fr h₀ L h' m → News h₀ L h' ((eL, listOf arr n) :: (B ++ (own ++ (T ++ own9)))) → Q .next { s with heap := h', toks := tk' }) : wpAny M A c Q E s := by
  refine wpAny_mono h1 (fun v' s' h => ?_) (fun _ _ e => e)
  obtain ⟨own, arr, n, h', tk', rfl, rfl, D, U, O, F, N⟩ := h
  exact h2 own arr n h' tk' D U O F N
theorem grow_off {h₀ h : Heap} {L : Addr} {eL n : Nat} {arr : Array Value} {B own T : Led} (N : News h₀ L h ((eL, listOf arr n) :: (B ++ (own ++ T)))) (U : Tups own) (hB : ∀ p ∈ B, p.1 ≠ eL) (hT : ∀ p ∈ T, p.1 ≠ eL) : ∀ p ∈ B ++ (own ++ T), p.1 ≠ eL := by
  intro p hp
  have ho := tup_off N U (fun p hp => List.mem_append_right _ (List.mem_append_left _ hp))
  rcases List.mem_append.mp hp with hp | hp
  · exact hB p hp
  · rcases List.mem_append.mp hp with hp | hp
    · exact ho p hp
    · exact hT p hp
theorem grow_in {h₀ h : Heap} {L : Addr} {e q : Addr × Obj} {B own T : Led} (N : News h₀ L h (q :: e :: (B ++ (own ++ T)))) : News h₀ L h (e :: (B ++ ((q :: own) ++ T))) := fun p hp => N p (by
  simp only [List.mem_cons, List.mem_append] at hp ⊢
  rcases hp with hp | hp | (hp | hp) | hp
  · exact .inr (.inl hp)
  · exact .inr (.inr (.inl hp))
  · exact .inl hp
  · exact .inr (.inr (.inr (.inl hp)))
  · exact .inr (.inr (.inr (.inr hp))))
theorem ow_cons {own9 own : Led} {q : Nat} {o : Obj} (h : OwnOff own9 (own.map (·.1))) (hq : ∀ p ∈ own9, (p.1 : Nat) < q) : OwnOff own9 (((q, o) :: own).map (·.1)) := by
  intro p hp b hb
  simp only [List.map_cons, List.mem_cons] at hb
  rcases hb with rfl | hb
  · exact Nat.ne_of_lt (hq p hp)
  · exact h p hp b hb
theorem ow_all {own9 own own' T B : Led} {eL : Nat} {o o' : Obj} (h : OwnOff own9 (((eL, o) :: (B ++ (own ++ T))).map (·.1))) (O : OwnOff own9 (own'.map (·.1))) : OwnOff own9 (((eL, o') :: (B ++ (own' ++ T))).map (·.1)) := by
  intro p hp b hb
  simp only [List.map_cons, List.map_append, List.mem_cons, List.mem_append] at hb
  rcases hb with rfl | hb | hb | hb
  · exact h p hp _ (.head _)
  · exact h p hp b (by simp only [List.map_cons, List.map_append, List.mem_cons, List.mem_append]; exact .inr (.inl hb))
  · exact O p hp b hb
  · exact h p hp b (by simp only [List.map_cons, List.map_append, List.mem_cons, List.mem_append]; exact .inr (.inr (.inr hb)))
theorem ow_own {own9 own T B : Led} {eL : Nat} {o : Obj} (h : OwnOff own9 (((eL, o) :: (B ++ (own ++ T))).map (·.1))) : OwnOff own9 (own.map (·.1)) := fun p hp b hb =>
  h p hp b (by simp only [List.map_cons, List.map_append, List.mem_cons, List.mem_append]; exact .inr (.inr (.inl hb)))
theorem ow_re {h₀ h : Heap} {L : Addr} {e : Addr × Obj} {B own T own9 : Led} (N : News h₀ L h ((e :: (B ++ (own ++ T))) ++ own9)) : News h₀ L h (e :: (B ++ (own ++ (T ++ own9)))) := fun p hp => N p (by
  simp only [List.cons_append, List.append_assoc]
  exact hp)
theorem ow_sub {e : Addr × Obj} {B own T own9 : Led} : ∀ p ∈ (e :: (B ++ (own ++ T))) ++ own9, p ∈ e :: (B ++ (own ++ (T ++ own9))) := fun p hp => by
  simp only [List.cons_append, List.append_assoc] at hp
  exact hp
inductive ErrJ (eL : Nat) (B own0 r : Led) (rd : List Nat) (mm : Str → Option Value) (jj : Nat) (m : Str → Option Value) (nx : Led) : Prop
  | mk (own : Led) (arr : Array Value) (n : Nat) (e : nx = (eL, listOf arr n) :: (B ++ (own ++ (own0 ++ r)))) (D : DatAll own arr.toList (errsU rd jj)) (U : Tups own) (hm : ∀ y, y ≠ Str.ofString "k" → m y = mm y)
inductive DueN (h₀ h : Heap) (L : Addr) (b : Bool) (e0 : Int) (b0 : List Nat) (f0 : Str) (D9 : Addr) (ys : List Value) (oc : Obj) (L' : Addr) (own0 r : Led) (rd : List Nat) (tr : Tok) : Prop
  | mk (eL qc : Addr) (tC : Obj) (mm : Str → Option Value) (te tb tf : Tok) (hlt : ∀ p ∈ ((qc, tC) :: (D9, LCg.lst ys) :: (L' + 1, oc) :: (own0 ++ r) : Led), (p.1 : Nat) < eL) (N : News h₀ L h ((eL, listOf #[] 0) :: ([(qc, tC), (D9, LCg.lst ys), (L' + 1, oc)] ++ ([] ++ (own0 ++ r)))))
    (e1 : mm (Str.ofString "read") = some (Value.str (tx_ rd) tr)) (e2 : mm (Str.ofString "errors") = some (Value.ref eL)) (e3 : mm (Str.ofString "is_end") = some (Value.bool b)) (e4 : mm (Str.ofString "end") = some (Value.int e0 te)) (e5 : mm (Str.ofString "body") = some (Value.str (tx_ (b0.map rep)) tb)) (e6 : mm (Str.ofString "fault") = some (Value.str f0 tf)) (e7 : mm (Str.ofString "stream") = some (Value.ref D9)) (F : Fr h₀ L h mm)
theorem rd_le {v rd : List Nat} {e0 : Int} (r1 : 0 ≤ e0 → rd = v.take e0.toNat) (r2 : ¬ 0 ≤ e0 → rd = v) : rd.length ≤ v.length := by
  by_cases h : 0 ≤ e0
  · rw [r1 h]; exact List.length_take_le' _ _
  · rw [r2 h]; exact Nat.le_refl _
local macro_rules | `(tactic| walk_at "call ref") => `(tactic| k_dflt ((first
  | ((with_reducible show wpAny _ _ (call (Value.ref 468) _) _ _ _); refine' (lclose_d ?p0) _ _ _ _ _ _ _ _ _ _ _ _ _ _ _ _ _ ?B ?F ?X ?N ?T ?k ?d ?u ?_)
  | ((with_reducible show wpAny _ _ (call (Value.ref 475) _) _ _ _); refine' (lstate_c ?p0) _ _ _ _ _ _ _ _ _ _ _ _ _ _ _ _ _ ?B ?F ?X ?N ?T ?k ?d ?u ?_)); (case N => k_asm); (case F => k_asm); (case B => k_asm); (case X => k_asm); (case T => k_asm); (case k => first | exact rfl | assumption); (case d => ktr_room); (case u => ktr_units); (case p0 => assumption); intro y'; intros; (try k_sweep)))
local macro_rules | `(tactic| walk_at "execs cons") => `(tactic| (with_reducible refine wpAny_execs_cons ?_))
local macro_rules | `(tactic| walk_at "eval ListComp") => `(tactic| (refine hold ?_))
local macro_rules | `(tactic| walk_at "exec Assign cons ListComp") => `(tactic| (refine hold ?_))
local macro_rules | `(tactic| walk_at "call builtin:str.replace") => `(tactic| (k_dflt (refine' my_replace ?u ?uv ?yz ?x ?z ?_; (case u => omega); (case uv => omega); (case yz => decide); (case x => first | assumption | omega | exact body_ok ‹CloseIs _ _ _ _› ‹_ ≤ 24›); (case z => decide)); intro t' k' hk'; (try dsimp only at hk'); (try rw [‹Txt.replace (Txt.replace _ _ _) _ _ = _›]); (try rw [replace_rep _ (y := Str.ofString "\x00") (z := Str.ofString "�") (by decide) (by decide)])))
local macro_rules | `(tactic| walk_at "storeName") => `(tactic| (k_dflt (refine' storeX_C ?F ?N ?hc ?U ?hd ?_ ?hk ?hx; (case hx => exact rfl); (case F => k_asm); (case N => k_asm); (case hc => exact rfl); (case U => exact updF_cell ‹_›); (case hd => assumption); (case hk => exact rfl)); intro h' o' F' N' d'))
local macro_rules | `(tactic| walk_at "CompEnd") => `(tactic| (refine hold ?_))
local macro_rules | `(tactic| walk_at "call builtin:list.append") => `(tactic| (k_dflt (refine' append_K ?k1 ?k2 ?k3 ?_ ?z; (case k1 => k_asm); (case k2 => k_asm); (case k3 => first | (refine Upd.tail ?a (Upd.head ?b); (case a => k_ne); (case b => assumption)) | (refine Upd.tail ?a (Upd.tail ?c (Upd.head ?b)); (case a => k_ne); (case c => k_ne); (case b => assumption))); (case z => (rw [sizeLine_eq]; (try simp only [Array.size_push]); omega)); k_whole); intro h' F' N'; (try k_sweep)))
local macro_rules | `(tactic| walk_at "subscriptTail Name Name str int") => `(tactic| k_dflt (refine' my_sign ?a ?b ?_ ?c ?d; (case a => assumption); (case b => first | assumption | omega); (case c => with_unfolding_all rfl); (case d => intro _; with_unfolding_all rfl)))
local macro_rules | `(tactic| walk_at "eval IfExp") => `(tactic| (refine hold ?_))
set_option maxRecDepth 100000 in
set_option maxHeartbeats 8000000 in
theorem due_c {ws : List Nat} {tq : Tok} {b : Bool} (hn : ws.length ≤ 24) : CallC w p loose mean mg mb 480 [.str (tx_ ws) tq, .bool b] 12 48 r
    (fun h₀ L m s Q => ∀ q own h' tk', Fr h₀ L h' m → News h₀ L h' (own ++ r) → DatIn own (.ref q) (dueD (nrm false ws) (ctrlU (nrm false ws) (nrm false ws).length) b) → Q (.ref q) { s with heap := h', toks := tk' }) := by
  intro dp un gd cn cs a ccd cll outer A₀ base h₀ L m s Q E B F X N T hk hd hu hret
  refine wpAny_call ?_
  k_dflt ((refine' def_toks ?k1 ?k2 ?k3 ?k4 ?k5 ?kA ?kF ?kK ?k6 ?k7 ?k8 ?k9 ?kB ?kD ?_ ?c2 ?c3 ?c4); (case kA => exact rfl); (case kF => exact rfl); (case kK => assumption); (case k1 => k_asm); (case k2 => k_asm); (case k3 => k_asm); (case k4 => k_asm); (case k5 => k_asm); (case k6 => k_is); (case k7 => k_is); (case k8 => ktr_room); (case k9 => exact BindsTo.of_eq rfl); (case kB => exact locs rfl); (case kD => decide +kernel); (case c2 => exact rfl); (case c3 => exact rfl); (case c4 => exact rfl); k_whole; intro g' L' h' tk' cells' htk' FG' F' N' Y' B' X' T' l1; (have htk2 : 0 < tk' := Nat.lt_of_lt_of_le (Nat.succ_pos _) htk'); clear htk'; (try k_lt l1); k_cells Y'; (try simp only [List.cons_append, List.nil_append] at N'); (try dsimp only); (try k_fold))
  have hl := len_ ws
  have hz : (tx_ ws).length ≤ 1000 := by omega
  have hR1 : (Txt.replace (tx_ ws) (Str.ofString "\x0d\n") (Str.ofString "\n")).length ≤ 1000 := by
    rw [crlf_e, nl_e]
    exact Nat.le_trans (crlf_len ws) (by omega)
  have hR2 : Txt.replace (Txt.replace (tx_ ws) (Str.ofString "\x0d\n") (Str.ofString "\n")) (Str.ofString "\x0d") (Str.ofString "\n") = tx_ (nrm false ws) := by
    rw [crlf_e, nl_e, cr_e]
    exact nrm_replace ws
  have hvn : (nrm false ws).length ≤ 24 := Nat.le_trans (nrm_len false ws) hn
  generalize nrm false ws = v at hR2 hret hvn
  have hl2 := len_ v
  have hz2 : (tx_ v).length ≤ 1000 := by omega
  have hz3 : v.length ≤ 1000 := by omega
  k_steps
  unfold Hold
  (rename Obj.data _ = Data.cell _ => hcell)
  k_dflt (refine LCt.Assign_ListComp_T (F₀ := by k_asm) (by rfl) (by with_unfolding_all rfl) (by with_unfolding_all rfl) (by decide) (by rfl) (by decide) (by rfl) (by rfl) (by rfl) ?_)
  k_steps
  (try unfold Hold)
  (rename IsRange _ _ _ _ _ _ _ _ => hR)
  (rename Fr _ _ _ _ => lF)
  (rename News _ _ _ _ => lN)
  obtain ⟨oc, tv, hcell, lN⟩ : ∃ (oc : Obj) (tv : Tok), oc.data = .cell (some (.str (tx_ v) tv)) ∧ News _ _ _ ((L' + 1, oc) :: r) := ⟨_, _, hcell, lN⟩
  refine LCt.CompSrcT.range rfl lF lN hR (small_one (by omega) (by omega) (by omega) (by omega)) (n := v.length) (by rw [len_, rangeSize_nat]; omega) (by rw [sizeLine_eq]; omega) ?_
  intro g9
  refine restT (n := v.length) (fun jj ys nx => ∃ own, nx = (L' + 1, oc) :: (own ++ r) ∧ DatAll own ys (ctrlU v jj) ∧ Tups own) ?_ ?_ v.length 0 [] _ (by omega) ⟨[], rfl, .nil, tups_nil⟩
  · rintro i9 ys nx vv I oI C oC D m₂ h tk9 E' hi9 ⟨own, rfl, DY, UY⟩ ⟨t9, rfl⟩ hC hx F₁ N₁ off ne
    obtain ⟨c9, hc9⟩ : ∃ c, v[i9]? = some c := ⟨_, List.getElem?_eq_getElem hi9⟩
    rw [Int.zero_add] at hx
    clear hR
    (try k_fold)
    k_steps
    · (try unfold Hold)
      have e1 := ctl_y (by assumption)
      rw [e1] at hc9
      (rename Fr _ _ _ _ => lF1)
      (rename News _ _ _ _ => lN1)
      (rename Addr => q1)
      obtain ⟨u1, u2, lN1⟩ : ∃ (u1 u2 : Tok), News _ _ _ ((q1, tupO [.str (Str.ofString "control-character-in-input-stream") u1, .int (i9 : Int) u2]) :: _) := ⟨_, _, lN1⟩
      (rename _ ∧ _ => l9)
      obtain ⟨n1, n2, n3, _⟩ := l9
      refine LCg.CompEnd.intro lF1 lN1 ((L' + 1, oc) :: ((q1, tupO [.str (Str.ofString "control-character-in-input-stream") u1, .int (i9 : Int) u2]) :: (own ++ r))) ?_ ?_ trivial ⟨(q1, _) :: own, rfl, ?_, tups_cons rfl UY⟩
      · intro p hp
        simp only [List.mem_cons, List.mem_append] at hp ⊢
        rcases hp with rfl | rfl | rfl | rfl | rfl | hp | hp <;> simp_all
      · exact LCg.Off3.of fun p hp => by
          rcases List.mem_cons.mp hp with rfl | hp
          · exact off.mem _ (.head _)
          · rcases List.mem_cons.mp hp with rfl | hp
            · exact ⟨Ne.symm (Nat.ne_of_lt n1), Ne.symm (Nat.ne_of_lt n2), Ne.symm (Nat.ne_of_lt n3)⟩
            · exact off.mem _ (.tail _ hp)
      · rw [ctrl_y hc9]
        exact DatAll.append (da_keep DY) (DatAll.one (DatIn.tuple (.head _) (.cons (.str _ _) (.cons (.int _ _) .nil))))
    · (try unfold Hold)
      have e1 := ctl_n (by assumption)
      (rename Fr _ _ _ _ => lF1)
      (rename News _ _ _ _ => lN1)
      refine LCg.CompEnd.intro lF1 lN1 ((L' + 1, oc) :: (own ++ r)) (fun p hp => hp) off trivial ⟨own, rfl, ?_, UY⟩
      rw [ctrl_n hc9 e1]
      exact DY
  · rintro ys nx ⟨own0, rfl, DY, UY⟩
    intro D9 h9 tk9 F₁ N₁ o9
    clear lF lN
    dsimp only
    (try k_fold)
    k_steps
    unfold Hold
    (rename CloseIs _ _ _ _ => hcl)
    (rename Int => e0)
    (rename List Nat => b0)
    (rename Str => f0)
    (rename Fr _ _ _ _ => lF)
    (rename News _ _ _ _ => lN)
    refine join_rd (v := v) (e0 := e0) lF lN ?_ ?_
    · clear hR
      refine IfExp_ ?_
      k_steps
      · exact RdIs.mk (v.take e0.toNat) _ _ _ (by rw [sl_int (by assumption)]) rfl (fun _ => rfl) (fun h => absurd (by assumption) h) (by k_asm) (by k_asm)
      · exact RdIs.mk v _ _ _ rfl rfl (fun h => absurd h (by assumption)) (fun _ => rfl) (by k_asm) (by k_asm)
    intro rd tr h8 tk8 r1 r2 F₂ N₂
    clear lF lN hR
    have hrl := rd_le r1 r2
    have hlr := len_ rd
    have hzr : (tx_ rd).length ≤ 1000 := by omega
    have hzr2 : rd.length ≤ 1000 := by omega
    dsimp only
    (try k_fold)
    k_steps
    unfold Hold
    (rename IsRange _ _ _ _ _ _ _ _ => hR)
    (rename Fr _ _ _ _ => lF)
    (rename News _ _ _ _ => lN)
    (rename _ ∧ _ => l9)
    obtain ⟨eL, qc, tC, mm, te, tb, tf, hltB, lN, hm_read, hm_errors, hm_is_end, hm_end, hm_body, hm_fault, hm_stream, lF⟩ : DueN _ _ _ b e0 b0 f0 D9 ys oc L' own0 r rd tr := ⟨_, _, _, _, _, _, _, lt_all l9, lN, rfl, rfl, rfl, rfl, rfl, rfl, rfl, lF⟩
    have hB : ∀ p ∈ ([(qc, tC), (D9, LCg.lst ys), (L' + 1, oc)] : Led), p.1 ≠ eL := fun p hp => Nat.ne_of_lt (hltB p (List.mem_append_left (own0 ++ r) hp))
    have hT : ∀ p ∈ own0 ++ r, p.1 ≠ eL := fun p hp => Nat.ne_of_lt (hltB p (.tail _ (.tail _ (.tail _ hp))))
    refine my_range0 (fun jj m nx => ErrJ eL [(qc, tC), (D9, LCg.lst ys), (L' + 1, oc)] own0 r rd mm jj m nx) rfl hR (by omega) lF lN ⟨[], #[], 0, rfl, .nil, tups_nil, fun _ _ => rfl⟩ ?_ ?_
    · rintro i9 t m₁ nx h tk9 own9 hi9 hown ⟨own, arr, n, rfl, DE, UE, hm⟩ F₁ N₁
      have hi8 : i9 < rd.length := by omega
      obtain ⟨c9, hc9⟩ : ∃ c, rd[i9]? = some c := ⟨_, List.getElem?_eq_getElem hi8⟩
      have F₃ : Fr _ _ h (fun y => if y = Str.ofString "k" then some (Value.int (i9 : Int) t) else if y = Str.ofString "read" then some (Value.str (tx_ rd) tr) else if y = Str.ofString "errors" then some (Value.ref eL) else m₁ y) := fr_names F₁ (by
        intro y
        by_cases h1 : y = Str.ofString "k"
        · simp only [h1, if_true]
        · by_cases h2 : y = Str.ofString "read"
          · subst h2; simp only [h1, if_false, if_true]; rw [hm _ h1, hm_read]
          · by_cases h3 : y = Str.ofString "errors"
            · subst h3; simp only [h1, h2, if_false, if_true]; rw [hm _ h1, hm_errors]
            · simp only [h1, h2, h3, if_false])
      have N₃ := ow_re N₁
      have hT9 : ∀ p ∈ (own0 ++ r) ++ own9, p.1 ≠ eL := fun p hp => (List.mem_append.mp hp).elim (hT p) (fun hp => hown p hp eL (.head _))
      have hall : ∀ p ∈ ((qc, tC) :: (D9, LCg.lst ys) :: (L' + 1, oc) :: (own ++ ((own0 ++ r) ++ own9)) : Led), p.1 ≠ eL := grow_off N₃ UE hB hT9
      replace N₃ : News _ _ h ((eL, listOf arr n) :: (qc, tC) :: (D9, LCg.lst ys) :: (L' + 1, oc) :: (own ++ ((own0 ++ r) ++ own9))) := N₃
      have hsz : arr.size ≤ 1000 := by
        have h1 := DatAll.length DE
        have h2 := errsU_len rd i9
        rw [Array.length_toList] at h1
        omega
      have hO := ow_own hown
      have E3 : 4 ≤ i9 → (Txt.slice (tx_ rd) (some ((i9 : Int) - 4)) (some (i9 : Int)) == Str.ofString "<!--") = ((rd.take i9).drop (i9 - 4) == [60, 33, 45, 45]) := fun h4 => by
        rw [show (i9 : Int) - 4 = ((i9 - 4 : Nat) : Int) by omega, slice_, show Str.ofString "<!--" = tx_ [60, 33, 45, 45] from by decide, tx_inj]
      clear F₁ N₁ lF lN hR
      (try k_fold)
      walk1
      refine join_grow eL (errsU rd i9 ++ nestAt rd i9) [(qc, tC), (D9, LCg.lst ys), (L' + 1, oc)] (own0 ++ r) own9 F₃ ?_ ?_
      · (try k_fold)
        k_steps
        · (rename (_ == Str.ofString "<!--") = true => g1)
          (rename (_ != _) = true => g2)
          (rename _ ∧ _ => l8)
          (rename News _ _ _ _ => lN2)
          (rename Fr _ _ _ _ => lF2)
          have g0 : 4 ≤ i9 := by omega
          rw [E3 g0, beq_iff_eq] at g1
          refine GrowIs.mk ((_, _) :: own) _ _ _ _ rfl rfl ?_ (tups_cons rfl UE) (ow_cons hO (fun p hp => lt_all l8.2.2.2.2 p (List.mem_append_right _ (List.mem_append_right _ hp)))) lF2 (grow_in (B := [(qc, tC), (D9, LCg.lst ys), (L' + 1, oc)]) lN2)
          rw [nest_y hc9 g0 g1 (gt_n g2)]
          exact da_errN DE
        · (rename (_ == Str.ofString "<!--") = true => g1)
          (rename (_ != _) = false => g2)
          (rename News _ _ _ _ => lN2)
          (rename Fr _ _ _ _ => lF2)
          refine GrowIs.mk own arr n _ _ rfl rfl ?_ UE hO lF2 lN2
          rw [nest_n3 hc9 (gt_y g2), List.append_nil]
          exact DE
        · (rename (_ == Str.ofString "<!--") = false => g1)
          (rename News _ _ _ _ => lN2)
          (rename Fr _ _ _ _ => lF2)
          have g0 : 4 ≤ i9 := by omega
          rw [E3 g0, beq_eq_false_iff_ne] at g1
          refine GrowIs.mk own arr n _ _ rfl rfl ?_ UE hO lF2 lN2
          rw [nest_n2 g1, List.append_nil]
          exact DE
        · (rename News _ _ _ _ => lN2)
          (rename Fr _ _ _ _ => lF2)
          refine GrowIs.mk own arr n _ _ rfl rfl ?_ UE hO lF2 lN2
          rw [nest_n1 (by omega), List.append_nil]
          exact DE
      intro own2 arr2 n2 h7 tk7 DE2 UE2 O2 F₄ N₄
      clear F₃ N₃ hall hsz
      have hall : ∀ p ∈ ((qc, tC) :: (D9, LCg.lst ys) :: (L' + 1, oc) :: (own2 ++ ((own0 ++ r) ++ own9)) : Led), p.1 ≠ eL := grow_off N₄ UE2 hB hT9
      replace N₄ : News _ _ h7 ((eL, listOf arr2 n2) :: (qc, tC) :: (D9, LCg.lst ys) :: (L' + 1, oc) :: (own2 ++ ((own0 ++ r) ++ own9))) := N₄
      have hsz : arr2.size ≤ 1000 := by
        have h1 := DatAll.length DE2
        have h2 := errsU_len rd i9
        have h3 : (nestAt rd i9).length ≤ 1 := by unfold nestAt; split <;> simp
        rw [Array.length_toList, List.length_append] at h1
        omega
      (try dsimp only)
      (try k_fold)
      k_steps
      · (rename (_ == _) = true => g1)
        (rename _ ∧ _ => l8)
        (rename News _ _ _ _ => lN2)
        (rename Fr _ _ _ _ => lF2)
        refine my_end ((eL, _) :: ([(qc, tC), (D9, LCg.lst ys), (L' + 1, oc)] ++ (((_, _) :: own2) ++ (own0 ++ r)))) lF2 (grow_in (B := [(qc, tC), (D9, LCg.lst ys), (L' + 1, oc)]) lN2) ?hj ?ha ow_sub
        case ha => exact ow_all hown (ow_cons O2 (fun p hp => lt_all l8.2.2.2.2 p (List.mem_append_right _ (List.mem_append_right _ hp))))
        case hj =>
          refine ⟨_, _, _, rfl, ?_, tups_cons rfl UE2, (by intro y g1; simp only [g1, if_false]; split <;> first | (rename_i g3; rw [g3, hm_read]) | (split <;> first | (rename_i g3; rw [g3, hm_errors]) | exact hm y g1))⟩
          show DatAll _ _ (errsU rd i9 ++ nestAt rd i9 ++ nullAt rd i9)
          rw [null_y hc9 (nul_y g1)]
          exact da_errN DE2
      · (rename (_ == _) = false => g1)
        (rename News _ _ _ _ => lN2)
        (rename Fr _ _ _ _ => lF2)
        refine my_end ((eL, _) :: ([(qc, tC), (D9, LCg.lst ys), (L' + 1, oc)] ++ (own2 ++ (own0 ++ r)))) lF2 lN2 ?hj ?ha ow_sub
        case ha => exact ow_all hown O2
        case hj =>
          refine ⟨_, _, _, rfl, ?_, UE2, (by intro y g1; simp only [g1, if_false]; split <;> first | (rename_i g3; rw [g3, hm_read]) | (split <;> first | (rename_i g3; rw [g3, hm_errors]) | exact hm y g1))⟩
          show DatAll _ _ (errsU rd i9 ++ nestAt rd i9 ++ nullAt rd i9)
          rw [null_n hc9 (nul_n g1), List.append_nil]
          exact DE2
    · rintro m₁ nx h tk9 ⟨own, arr, n, rfl, DE, UE, hm⟩ F₁ N₁
      have F₃ : Fr _ _ h (fun y => if y = Str.ofString "errors" then some (Value.ref eL) else if y = Str.ofString "is_end" then some (Value.bool b) else if y = Str.ofString "end" then some (Value.int e0 te) else if y = Str.ofString "body" then some (Value.str (tx_ (b0.map rep)) tb) else
        if y = Str.ofString "fault" then some (Value.str f0 tf) else if y = Str.ofString "stream" then some (Value.ref D9) else m₁ y) := fr_names F₁ (by
        intro y
        repeat' split
        all_goals first | rfl | (rename_i e9; rw [e9, hm _ (by decide)]; first | exact hm_errors.symm | exact hm_is_end.symm | exact hm_end.symm | exact hm_body.symm | exact hm_fault.symm | exact hm_stream.symm))
      have hall : ∀ p ∈ ((qc, tC) :: (D9, LCg.lst ys) :: (L' + 1, oc) :: (own ++ (own0 ++ r)) : Led), p.1 ≠ eL := grow_off (B := [(qc, tC), (D9, LCg.lst ys), (L' + 1, oc)]) N₁ UE hB hT
      have N₃ : News _ _ h ((eL, listOf arr n) :: (qc, tC) :: (D9, LCg.lst ys) :: (L' + 1, oc) :: (own ++ (own0 ++ r))) := N₁
      have DE3 : DatAll own arr.toList (errsU rd rd.length) := by
        have e : ((tx_ rd).length : Int).toNat = rd.length := by omega
        rw [e] at DE
        exact DE
      have hsz : arr.size ≤ 1000 := by
        have h1 := DatAll.length DE3
        have h2 := errsU_len rd rd.length
        rw [Array.length_toList] at h1
        omega
      clear F₁ N₁ lF lN hR DE
      (try k_fold)
      k_steps
      · have g0 : 0 ≤ e0 := by assumption
        (rename (_ != _) = true => g1)
        (rename Fr _ _ _ _ => lF2)
        (rename News _ _ _ _ => lN2)
        have lN3 : News _ _ _ ((_ :: _ :: _ :: _ :: _ :: _ :: _ :: _ :: (own ++ own0)) ++ r) := re_assoc (pre := [_, _, _, _, _, _, _, _]) lN2
        clear lN2
        refine hret _ _ _ _ lF2 lN3 ?_
        rw [due_y1 hcl g0 g1, ← r1 g0]
        refine DatIn.tuple (vs := [_, _, _, _, _, _, _, _]) (.head _) (.cons (DatIn.list (vs := [_]) (n := 0) (by k_mem) (.cons (DatIn.tuple (vs := [_, _]) (by k_mem) (.cons (.str _ _) (.cons (.str _ _) .nil))) .nil)) (.cons (list_in (by k_mem) (by rw [Array.toList_push]; exact DatAll.append (DE3.mono (fun p hp => .tail _ (.tail _ (.tail _ (.tail _ (.tail _ (.tail _ (.tail _ (.tail _ (List.mem_append_left _ hp)))))))))) (DatAll.one (DatIn.tuple (vs := [_, _]) (by k_mem) (.cons (.str _ _) (.cons (.int _ _) .nil)))))) (.cons (DatIn.list (n := ys.length) (.tail _ (.tail _ (.tail _ (.tail _ (.tail _ (.tail _ (.head _))))))) (DY.mono (fun p hp => .tail _ (.tail _ (.tail _ (.tail _ (.tail _ (.tail _ (.tail _ (.tail _ (List.mem_append_right _ hp))))))))))) (.cons (.str _ _) (.cons (.int _ _) (.cons (.str _ _) (.cons (.bool _) (.cons (.bool _) .nil))))))))
      · have g0 : 0 ≤ e0 := by assumption
        (rename (_ != _) = false => g1)
        (rename Fr _ _ _ _ => lF2)
        (rename News _ _ _ _ => lN2)
        have lN3 : News _ _ _ ((_ :: _ :: _ :: _ :: _ :: _ :: _ :: (own ++ own0)) ++ r) := re_assoc (pre := [_, _, _, _, _, _, _]) lN2
        clear lN2
        refine hret _ _ _ _ lF2 lN3 ?_
        rw [due_y2 hcl g0 g1, ← r1 g0]
        refine DatIn.tuple (vs := [_, _, _, _, _, _, _, _]) (.head _) (.cons (DatIn.list (vs := [_]) (n := 0) (by k_mem) (.cons (DatIn.tuple (vs := [_, _]) (by k_mem) (.cons (.str _ _) (.cons (.str _ _) .nil))) .nil)) (.cons (list_in (by k_mem) (DE3.mono (fun p hp => .tail _ (.tail _ (.tail _ (.tail _ (.tail _ (.tail _ (.tail _ (List.mem_append_left _ hp)))))))))) (.cons (DatIn.list (n := ys.length) (.tail _ (.tail _ (.tail _ (.tail _ (.tail _ (.head _)))))) (DY.mono (fun p hp => .tail _ (.tail _ (.tail _ (.tail _ (.tail _ (.tail _ (.tail _ (List.mem_append_right _ hp)))))))))) (.cons (.str _ _) (.cons (.int _ _) (.cons (.str _ _) (.cons (.bool _) (.cons (.bool _) .nil))))))))
      · have g0 : ¬ 0 ≤ e0 := by assumption
        have g1 : b = true := by assumption
        have g2 := r2 g0
        (rename Fr _ _ _ _ => lF2)
        (rename News _ _ _ _ => lN2)
        have lN3 : News _ _ _ ((_ :: _ :: _ :: _ :: _ :: _ :: _ :: _ :: _ :: (own ++ own0)) ++ r) := re_assoc (pre := [_, _, _, _, _, _, _, _, _]) lN2
        clear lN2
        refine hret _ _ _ _ lF2 lN3 ?_
        rw [due_n1 hcl g0 g1]
        refine DatIn.tuple (vs := [_, _, _, _, _, _, _, _]) (.head _) (.cons (DatIn.list (vs := [_, _]) (n := 0) (by k_mem) (.cons (DatIn.tuple (vs := [_, _]) (by k_mem) (.cons (.str _ _) (.cons (.str _ _) .nil))) (.cons (DatIn.tuple (vs := [_]) (by k_mem) (.cons (.str _ _) .nil)) .nil))) (.cons (list_in (by k_mem) (by rw [Array.toList_push]; exact DatAll.append ((g2 ▸ DE3).mono (fun p hp => .tail _ (.tail _ (.tail _ (.tail _ (.tail _ (.tail _ (.tail _ (.tail _ (.tail _ (List.mem_append_left _ hp))))))))))) (DatAll.one (DatIn.tuple (vs := [_, _]) (by k_mem) (.cons (.str _ _) (.cons (by rw [len_]; exact .int _ _) .nil)))))) (.cons (DatIn.list (n := ys.length) (.tail _ (.tail _ (.tail _ (.tail _ (.tail _ (.tail _ (.tail _ (.head _)))))))) (DY.mono (fun p hp => .tail _ (.tail _ (.tail _ (.tail _ (.tail _ (.tail _ (.tail _ (.tail _ (.tail _ (List.mem_append_right _ hp)))))))))))) (.cons (.str _ _) (.cons (by rw [len_]; exact .int _ _) (.cons (.str _ _) (.cons (.bool _) (.cons (.bool _) .nil))))))))
      · have g0 : ¬ 0 ≤ e0 := by assumption
        have g1 : b = false := by assumption
        have g2 := r2 g0
        (rename Fr _ _ _ _ => lF2)
        (rename News _ _ _ _ => lN2)
        have lN3 : News _ _ _ ((_ :: _ :: _ :: _ :: _ :: _ :: (own ++ own0)) ++ r) := re_assoc (pre := [_, _, _, _, _, _]) lN2
        clear lN2
        refine hret _ _ _ _ lF2 lN3 ?_
        rw [due_n2 hcl g0 g1]
        refine DatIn.tuple (vs := [_, _, _, _, _, _, _, _]) (.head _) (.cons (DatIn.list (vs := []) (n := 0) (by k_mem) .nil) (.cons (list_in (by k_mem) ((g2 ▸ DE3).mono (fun p hp => .tail _ (.tail _ (.tail _ (.tail _ (.tail _ (.tail _ (List.mem_append_left _ hp))))))))) (.cons (DatIn.list (n := ys.length) (.tail _ (.tail _ (.tail _ (.tail _ (.head _))))) (DY.mono (fun p hp => .tail _ (.tail _ (.tail _ (.tail _ (.tail _ (.tail _ (List.mem_append_right _ hp))))))))) (.cons (.str _ _) (.cons (by rw [len_]; exact .int _ _) (.cons (.str _ _) (.cons (.bool _) (.cons (.bool _) .nil))))))))
end
section
open PySem PySem.W PySem.Calls PyProof.Rows
set_option linter.unusedVariables false
theorem calm18 : True := by
  w_top off
  first | walk1 | trivial
theorem fillU : PySem.Challenge.rw_nt0605_02 = PySem.Challenge.rw_nt0605_02 ∧ topK = topK := by
  k_fill
  exact ⟨rfl, rfl⟩


variable {w : World} {p : Program} {loose : List Str} {mean : ExcName → Option Value} {mg mb : Str → Option Value} {k0 k1 k2 k3 k4 k5 k6 k7 k8 k9 k10 k11 k12 k13 v0 v1 v2 v3 g0 g1 g2 g3 g4 g5 g6 g7 : Tok} {x dx st dst sg se ot er dr ddr da sm : Nat} {osm : Obj} {tb tu tc tl tg th : Tok}
  {i : Int} {ti : Tok} {z : Str} {tz : Tok} {dv : Value} {wa dn cl rt : Bool} {vs : Array Value} {ns : Nat} {vse : Array Value} {nse : Nat} {es : List Dat} {tx : Str} {tt : Tok} {vo : Array Value} {no : Nat} {ve : Array Value} {ne : Nat} {r ro ex : Led}
theorem fold_sg : ∀ (ws : List Nat) (f : FS), (ws.foldl feed1 f).sg = f.sg ++ nrm f.rt ws
  | [], f => by simp [nrm]
  | c :: ws, f => by
    rw [List.foldl_cons, fold_sg ws, nrm_cons]
    unfold feed1
    by_cases h1 : c = 13
    · rw [if_pos h1, if_pos h1]; simp
    · rw [if_neg h1, if_neg h1]
      by_cases h2 : c = 10 ∧ f.rt = true
      · rw [if_pos h2, if_neg (by rw [h2.1, h2.2]; simp)]
      · rw [if_neg h2, if_pos (by by_cases h3 : c = 10
                                  · exact .inr (by simpa using fun e => h2 ⟨h3, e⟩)
                                  · exact .inl h3)]
        simp
theorem ctrlU_app (v u : List Nat) : ∀ k, k ≤ v.length → ctrlU (v ++ u) k = ctrlU v k
  | 0, _ => rfl
  | k + 1, h => by
    show ctrlU (v ++ u) k ++ _ = ctrlU v k ++ _
    rw [ctrlU_app v u k (by omega), List.getElem?_append_left (by omega)]
theorem ctrlU_snoc (v : List Nat) (c : Nat) : ctrlU (v ++ [c]) (v ++ [c]).length = ctrlU v v.length ++ (if c = 1 then [errD "control-character-in-input-stream" v.length] else []) := by
  rw [List.length_append, List.length_singleton]
  show ctrlU (v ++ [c]) v.length ++ _ = _
  rw [ctrlU_app v [c] _ (Nat.le_refl _)]
  congr 1
  simp
theorem fold_er : ∀ (ws : List Nat) (f : FS), f.er = ctrlU f.sg f.sg.length → (ws.foldl feed1 f).er = ctrlU (ws.foldl feed1 f).sg (ws.foldl feed1 f).sg.length
  | [], f, h => h
  | c :: ws, f, h => by
    rw [List.foldl_cons]
    refine fold_er ws _ ?_
    unfold feed1
    by_cases h1 : c = 13
    · rw [if_pos h1]
      show f.er = ctrlU (f.sg ++ [10]) (f.sg ++ [10]).length
      rw [ctrlU_snoc, h]; simp
    · rw [if_neg h1]
      by_cases h2 : c ≠ 10 ∨ f.rt = false
      · rw [if_pos h2]
        show (if c = 1 then f.er ++ [errD "control-character-in-input-stream" f.sg.length] else f.er) = ctrlU (f.sg ++ [c]) (f.sg ++ [c]).length
        rw [ctrlU_snoc, h]
        split <;> simp
      · rw [if_neg h2]
        exact h
noncomputable def F0 : FS := ⟨[], false, []⟩
/-- what the stream holds behind the text fed -/
theorem fed_sg (ws : List Nat) : (ws.foldl feed1 F0).sg = nrm false ws := by rw [fold_sg]; rfl
theorem fed_er (ws : List Nat) : (ws.foldl feed1 F0).er = ctrlU (nrm false ws) (nrm false ws).length := by rw [fold_er ws F0 rfl, fed_sg]
theorem fed_app (ws p : List Nat) : ((ws ++ p).foldl feed1 F0) = p.foldl feed1 (ws.foldl feed1 F0) := List.foldl_append ..
theorem nrm_in : ∀ (rt : Bool) (l : List Nat) (c : Nat), c ∈ nrm rt l → c ∈ l ∨ c = 10
  | _, [], c, h => by simp [nrm] at h
  | rt, d :: t, c, h => by
    rw [nrm_cons] at h
    split at h
    · rcases List.mem_cons.mp h with h | h
      · exact .inr h
      · exact (nrm_in _ t c h).imp (.tail _) id
    · split at h
      · exact (nrm_in _ t c h).imp (.tail _) id
      · rcases List.mem_cons.mp h with h | h
        · exact .inl (h ▸ .head _)
        · exact (nrm_in _ t c h).imp (.tail _) id
theorem okE (c : String) (k : Nat) (h : PyData.strOk (Str.ofString c) = true) : okD 2 (errD c k) = true := by
  have a2 : okD 1 (.int (k : Int)) = true := rfl
  have a1 : okD 1 (.str (Str.ofString c)) = true := h
  show (List.all _ (okD 1)) = true
  simp only [List.all_cons, List.all_nil, a1, a2, Bool.and_true]
theorem ok_ctrl (v : List Nat) : ∀ k, ∀ d ∈ ctrlU v k, okD 2 d = true
  | 0, d, h => absurd h (List.not_mem_nil)
  | k + 1, d, h => by
    rcases List.mem_append.mp h with h | h
    · exact ok_ctrl v k d h
    · split at h
      · rw [List.mem_singleton.mp h]; exact okE _ _ (by decide +kernel)
      · exact absurd h (List.not_mem_nil)
theorem ok_errs (v : List Nat) : ∀ k, ∀ d ∈ errsU v k, okD 2 d = true
  | 0, d, h => absurd h (List.not_mem_nil)
  | k + 1, d, h => by
    rcases List.mem_append.mp h with h | h
    · rcases List.mem_append.mp h with h | h
      · exact ok_errs v k d h
      · unfold nestAt at h
        split at h
        · rw [List.mem_singleton.mp h]; exact okE _ _ (by decide +kernel)
        · exact absurd h (List.not_mem_nil)
    · unfold nullAt at h
      split at h
      · rw [List.mem_singleton.mp h]; exact okE _ _ (by decide +kernel)
      · exact absurd h (List.not_mem_nil)
theorem ok_lst {L : List Dat} (h : ∀ d ∈ L, okD 2 d = true) : okD 7 (.list L) = true := by
  simp only [okD, List.all_eq_true]
  exact fun d hd => okD_mono 2 6 d (by decide) (h d hd)
theorem ok_snoc {L : List Dat} {d : Dat} (h : ∀ d ∈ L, okD 2 d = true) (hd : okD 2 d = true) : ∀ e ∈ L ++ [d], okD 2 e = true := by
  intro e he
  rcases List.mem_append.mp he with he | he
  · exact h e he
  · rw [List.mem_singleton.mp he]; exact hd
theorem ok_name (t : St) : PyData.strOk t.name = true := by cases t <;> decide +kernel
theorem ok_t8 {a b c : List Dat} {x y : Str} {k : Int} {p q : Bool} (ha : ∀ d ∈ a, okD 2 d = true) (hb : ∀ d ∈ b, okD 2 d = true) (hc : ∀ d ∈ c, okD 2 d = true) (hx : PyData.strOk x = true) (hy : PyData.strOk y = true) :
    okD 8 (.tuple [.list a, .list b, .list c, .str x, .int k, .str y, .bool p, .bool q]) = true := by
  have a1 := ok_lst ha
  have a2 := ok_lst hb
  have a3 := ok_lst hc
  have a4 : okD 7 (.str x) = true := hx
  have a5 : okD 7 (.int k) = true := rfl
  have a6 : okD 7 (.str y) = true := hy
  have a7 : okD 7 (.bool p) = true := rfl
  have a8 : okD 7 (.bool q) = true := rfl
  show (List.all _ (okD 7)) = true
  simp only [List.all_cons, List.all_nil, a1, a2, a3, a4, a5, a6, a7, a8, Bool.and_true]
theorem ok_nil : ∀ d ∈ ([] : List Dat), okD 2 d = true := fun d h => absurd h (List.not_mem_nil)
theorem close_sub {v : List Nat} {c : Nat} (h : c ∈ (closeT v).2.1) : c ∈ v := by
  rcases close_read v with ⟨n, b, f, q1, q2, _⟩ | ⟨q1, q2⟩
  · rw [q1] at h
    exact readL_sub (by rw [q2]; exact h)
  · rw [q1] at h
    have e := (readL_open q2).2.1
    exact readL_sub (by rw [e]; exact h)
theorem close_fault (v : List Nat) : (closeT v).2.2 = Str.ofString "" ∨ (closeT v).2.2 = abrT ∨ (closeT v).2.2 = incT := by
  rcases close_read v with ⟨n, b, f, q1, q2, ⟨h, _⟩ | ⟨h, _⟩ | ⟨h, _⟩⟩ | ⟨q1, q2⟩ <;> rw [q1] <;> simp [*]
theorem ok_text {l : List Nat} (h : ∀ c ∈ l, c < 1114112) : PyData.strOk (tx_ l) = true := by
  unfold PyData.strOk
  simp only [Array.all_eq_true_iff_forall_mem, decide_eq_true_iff]
  intro c hc
  exact h c (by simpa using hc)
theorem rep_lt {l : List Nat} (h : ∀ c ∈ l, c < 1114112) : ∀ c ∈ l.map rep, c < 1114112 := by
  intro c hc
  obtain ⟨d, hd, rfl⟩ := List.mem_map.mp hc
  unfold rep
  split
  · decide
  · exact h d hd
theorem ok_due {v : List Nat} {es : List Dat} {b : Bool} (hv : ∀ c ∈ v, c < 1114112) (hes : ∀ d ∈ es, okD 2 d = true) : okD 8 (dueD v es b) = true := by
  have hb : ∀ c ∈ (closeT v).2.1.map rep, c < 1114112 := rep_lt fun c hc => hv c (close_sub hc)
  have hcom := ok_com (fun c hc => hv c (close_sub hc) : ∀ c ∈ (closeT v).2.1, c < 1114112)
  have hcm : okD 2 (comD ((closeT v).2.1.map rep)) = true := ok_com hb
  unfold dueD
  split
  · refine ok_t8 (ok_snoc ok_nil hcm) ?_ hes (by decide +kernel) (by decide +kernel)
    intro d hd
    rcases List.mem_append.mp hd with hd | hd
    · exact ok_errs _ _ d hd
    · split at hd
      · exact absurd hd (List.not_mem_nil)
      · rw [List.mem_singleton.mp hd]
        have a1 : okD 1 (.str (closeT v).2.2) = true := by
          show PyData.strOk _ = true
          rcases close_fault v with h | h | h <;> rw [h] <;> decide +kernel
        have a2 : okD 1 (.int ((closeT v).1 - 1)) = true := rfl
        show (List.all _ (okD 1)) = true
        simp only [List.all_cons, List.all_nil, a1, a2, Bool.and_true]
  · split
    · exact ok_t8 (ok_snoc (ok_snoc ok_nil hcm) ok_eof) (ok_snoc (ok_errs _ _) (okE _ _ (by decide +kernel))) hes (by decide +kernel) (by decide +kernel)
    · exact ok_t8 ok_nil (ok_errs _ _) hes (ok_name _) (ok_text hb)
end
section
open PySem PySem.W PySem.Calls PyProof.Rows
set_option linter.unusedVariables false
theorem calm19 : True := by
  w_top off
  first | walk1 | trivial
theorem fillPc : PySem.Challenge.rw_nt0605_02 = PySem.Challenge.rw_nt0605_02 ∧ topK = topK := by
  k_fill
  exact ⟨rfl, rfl⟩


variable {w : World} {p : Program} {loose : List Str} {mean : ExcName → Option Value} {mg mb : Str → Option Value} {k0 k1 k2 k3 k4 k5 k6 k7 k8 k9 k10 k11 k12 k13 v0 v1 v2 v3 g0 g1 g2 g3 g4 g5 g6 g7 : Tok} {x dx st dst sg se ot er dr ddr da sm : Nat} {osm : Obj} {tb tu tc tl tg th : Tok}
  {i : Int} {ti : Tok} {z : Str} {tz : Tok} {dv : Value} {wa dn cl rt : Bool} {vs : Array Value} {ns : Nat} {vse : Array Value} {nse : Nat} {es : List Dat} {tx : Str} {tt : Tok} {vo : Array Value} {no : Nat} {ve : Array Value} {ne : Nat} {r ro ex : Led}
/-- a list of texts -/
noncomputable def TextsAre (arr : Array Value) (ps : List (List Nat)) : Prop := arr.size = ps.length ∧ ∀ (i : Nat) (v : Value), arr[i]? = some v → ∃ (p : List Nat) (t : Tok), ps[i]? = some p ∧ v = .str (tx_ p) t
inductive PcJ (q : Nat) (r : Led) (fs : List Nat) (k : Nat) (mm m : Str → Option Value) (nx : Led) : Prop
  | mk (arr : Array Value) (nn : Nat) (ps : List (List Nat)) (e : nx = (q, listOf arr nn) :: r) (T : TextsAre arr ps) (ne : ps ≠ []) (fl : ps.flatten = fs) (le : ps.length ≤ k) (hm : ∀ y, y ≠ Str.ofString "k" → y ≠ Str.ofString "cut" → m y = mm y)
theorem texts_one {t : Tok} : TextsAre #[.str (Str.ofString "") t] [[]] := ⟨rfl, fun i v h => by
  cases i with
  | zero => exact ⟨[], t, rfl, by simpa [show Str.ofString "" = tx_ [] from by decide] using h.symm⟩
  | succ i => simp at h⟩
theorem texts_push {arr : Array Value} {ps : List (List Nat)} {t : Tok} (h : TextsAre arr ps) : TextsAre (arr.push (.str (Str.ofString "") t)) (ps ++ [[]]) := by
  refine ⟨by rw [Array.size_push, List.length_append, h.1]; rfl, fun i v hv => ?_⟩
  rw [Array.getElem?_push] at hv
  split at hv
  · rename_i e
    refine ⟨[], t, ?_, by rw [← Option.some.inj hv, show Str.ofString "" = tx_ [] from by decide]⟩
    rw [e, h.1]; simp
  · obtain ⟨p, t, q1, q2⟩ := h.2 i v hv
    exact ⟨p, t, by rw [List.getElem?_append_left (List.getElem?_eq_some_iff.mp q1).1]; exact q1, q2⟩
theorem texts_at {arr : Array Value} {ps : List (List Nat)} {p : List Nat} (h : TextsAre arr (ps ++ [p])) : 0 < arr.size ∧ ∃ t, arr[(-1 + (arr.size : Int)).toNat]? = some (.str (tx_ p) t) := by
  have hs : arr.size = ps.length + 1 := by rw [h.1, List.length_append]; rfl
  refine ⟨by omega, ?_⟩
  have e : (-1 + (arr.size : Int)).toNat = ps.length := by omega
  rw [e]
  have hlt : ps.length < arr.size := by omega
  obtain ⟨q, t, q1, q2⟩ := h.2 ps.length arr[ps.length] (Array.getElem?_eq_getElem hlt)
  have : q = p := by simpa using q1.symm
  subst this
  exact ⟨t, by rw [Array.getElem?_eq_getElem hlt, q2]⟩
theorem texts_set {arr : Array Value} {ps : List (List Nat)} {p p' : List Nat} {t : Tok} {x : Str} (h : TextsAre arr (ps ++ [p])) (hx : x = tx_ p') : TextsAre (arr.setIfInBounds (arr.size - 1) (.str x t)) (ps ++ [p']) := by
  subst hx
  have hs : arr.size = ps.length + 1 := by rw [h.1, List.length_append]; rfl
  refine ⟨by rw [Array.size_setIfInBounds, hs, List.length_append]; rfl, fun i v hv => ?_⟩
  rw [Array.getElem?_setIfInBounds] at hv
  split at hv
  · rename_i e
    rw [if_pos (by omega)] at hv
    refine ⟨p', t, ?_, (Option.some.inj hv).symm⟩
    rw [← e, show arr.size - 1 = ps.length by omega]
    simp
  · rename_i e
    obtain ⟨q, t', q1, q2⟩ := h.2 i v hv
    have hi := (List.getElem?_eq_some_iff.mp q1).1
    simp only [List.length_append, List.length_cons, List.length_nil] at hi
    refine ⟨q, t', ?_, q2⟩
    rw [List.getElem?_append_left (by omega)] at q1 ⊢
    exact q1
section
variable {prog : Program} {w : World} {A : Around} {E : Value → Shared → Prop} {s : Shared} {h₀ : Heap} {L l : Addr} {m : Str → Option Value} {news : Led} {its : Array Value} {n : Nat}
theorem last_item {value slice : PySem.Expr} {u : Tok} {v : Value} {Q : Value → Shared → Prop} (N : News h₀ L s.heap news) (hm : (l, listOf its n) ∈ news) (h0 : 0 < its.size) (hx : its[(-1 + (its.size : Int)).toNat]? = some v) (h : Q v s)
    (hs : subscripted slice false (.ref l) (.int (-1) u) = operate [.ref l, .int (-1) u] (getItem (.ref l) (.int (-1) u)) := by with_unfolding_all rfl) :
    wpAny (model prog w) A (subscriptTail value slice (.ref l) (.int (-1) u)) Q E s :=
  tail_any (News.isList N hm).typeIs slot_list_getitem.lookup (wpAny_getItem_list_neg (News.isList N hm) (by decide) (by omega) (by decide) hx h) hs
theorem last_set {t : Tok} {v : Value} {Q : Unit → Shared → Prop} (F : Fr h₀ L s.heap m) (N : News h₀ L s.heap ((l, listOf its n) :: news)) (hne : ∀ p ∈ news, p.1 ≠ l) (h0 : 0 < its.size)
    (h : ∀ h', Fr h₀ L h' m → News h₀ L h' ((l, listOf (its.setIfInBounds (its.size - 1) v) n) :: news) → Q () { s with heap := h' }) : wpAny (model prog w) A (setItem (.ref l) (.int (-1) t) v) Q E s := by
  have z := N _ (.head _)
  have hl : s.heap.IsList l its := News.isList N (.head _)
  have ho : s.heap.get? l = some (listOf its n) := z.1
  unfold setItem
  try with_reducible refine wpAny_holding ?_
  first | refine wpAny_bind (wpAny_pure ?_) | skip
  refine wpAny_bind (wpAny_sequenceKey hl.typeIs (by decide) ?_)
  refine wpAny_bind (wpAny_callSpecial?_slot (name := Str.ofString "__setitem__") hl.typeIs slot_list_setitem
    (wpAny_call_entry slot_list_setitem hl.typeIs entry_list_setitem ?_ (args_list_setitem _ _ _)))
  show wpAny _ _ (Builtin.List.listSubscript? (.int (-1) t) >>= _) _ _ s
  refine wpAny_bind (wpAny_listSubscript_int (fitsIndex_neg (by decide) (by decide)) ?_)
  show wpAny _ _ ((Builtin.List.listItems (.ref l) >>= fun xs => pure ((seqIndex? (Int.negSucc 0) xs.size).bind fun i => xs[i]?.map (i, ·))) >>= _) _ _ s
  refine wpAny_bind (wpAny_bind ?_)
  show wpAny _ _ (seqItems? (.ref l) >>= _) _ _ s
  refine wpAny_bind (wpAny_seqItems ho rfl (wpAny_pure (wpAny_pure ?_)))
  rw [seqIndex_neg (by decide) (by omega : -(its.size : Int) ≤ Int.negSucc 0)]
  have e : (Int.negSucc 0 + (its.size : Int)).toNat = its.size - 1 := by omega
  have hx : its[its.size - 1]? = some its[its.size - 1] := Array.getElem?_eq_getElem (by omega)
  rw [e]
  simp only [Option.bind_some, hx, Option.map_some]
  show wpAny _ _ (setSeqItemAt l (its.size - 1) v >>= _) _ _ s
  have fin := h _ (F.change (Heap.SameBut.update ..) z.2.1 z.2.2) (ki_turn (pre := []) (·.setIfInBounds (its.size - 1) v) N (fun p hp => absurd hp (List.not_mem_nil)) hne rfl (by simp))
  refine wpAny_bind (wpAny_setSeqItemAt ho rfl ?_)
  first
    | exact wpAny_bind (wpAny_pure (wpAny_pure ⟨.none, rfl, wpAny_pure fin⟩))
    | exact wpAny_pure ⟨.none, rfl, wpAny_pure fin⟩
end
theorem three_ok {i : Nat} (hi : i ≤ 24) : (3 : Int) ^ ((i : Int).toNat) ≠ 0 ∧ ((3 : Int) ^ ((i : Int).toNat)).natAbs.log2 < 9000 := by
  rw [Int.toNat_natCast]
  have e : ((3 : Int) ^ i).natAbs = 3 ^ i := by rw [Int.natAbs_pow]; rfl
  have h0 : 3 ^ i ≠ 0 := Nat.pos_iff_ne_zero.mp (Nat.pow_pos (by decide))
  refine ⟨fun h => ?_, ?_⟩
  · rw [h] at e
    exact h0 e.symm
  · rw [e, Nat.log2_lt h0]
    have h1 : 3 ^ i ≤ 3 ^ 24 := Nat.pow_le_pow_right (by decide) hi
    have h2 : 3 ^ 24 < 2 ^ 40 := by decide
    exact Nat.lt_of_le_of_lt h1 (Nat.lt_of_lt_of_le h2 (Nat.pow_le_pow_right (by decide) (by decide)))
inductive Mod3 (v : Int) : Prop
  | mk (h0 : 0 ≤ v) (h2 : v ≤ 2)
theorem my_mod3 {prog : Program} {w : World} {A : Around} {E : Value → Shared → Prop} {s : Shared} {a : Int} {t u : Tok} {Q : Value → Shared → Prop} (h : ∀ v : Int, Mod3 v → Q (.int v s.toks) { s with toks := s.toks + 1 }) : wpAny (model prog w) A (binaryOp .Mod (.int a t) (.int 3 u)) Q E s :=
  mod_int (by decide) (h _ ⟨Int.fmod_nonneg_of_pos a (by decide), Int.le_of_lt_add_one (Int.fmod_lt_of_pos a (by decide))⟩)
local macro_rules | `(tactic| walk_at "binaryOp Mod int int") => `(tactic| ((refine my_mod3 ?_); intro v' hv'))
local macro_rules | `(tactic| walk_at "binaryOp FloorDiv int int") => `(tactic| (refine' floordiv_int ?e ?_ (Or.inl (PyProof.noPylong_of_log2 ?p)); (case e => exact (three_ok (by assumption)).1); (case p => exact (three_ok (by assumption)).2)))
local macro_rules | `(tactic| walk_at "subscriptTail") => `(tactic| k_dflt (refine' last_item ?a ?b ?c ?d ?_ ?f; (case a => k_asm); (case b => k_mem); (case c => assumption); (case d => assumption); (case f => with_unfolding_all rfl)))
local macro_rules | `(tactic| walk_at "setItem ref int") => `(tactic| (k_dflt (refine' last_set ?a ?b ?c ?d ?_; (case a => k_asm); (case b => k_asm); (case c => assumption); (case d => assumption)); intro h' F' N'; (try k_sweep)))
local macro_rules | `(tactic| walk_at "subscriptTail Name Name str int") => `(tactic| k_dflt (refine' my_sign ?a ?b ?_ ?c ?d; (case a => assumption); (case b => first | assumption | omega); (case c => with_unfolding_all rfl); (case d => intro _; with_unfolding_all rfl)))
set_option maxRecDepth 100000 in
set_option maxHeartbeats 8000000 in
theorem pieces_c {ws : List Nat} {tq tn : Tok} {nb : Int} (hn : ws.length ≤ 24) : CallC w p loose mean mg mb 461 [.str (tx_ ws) tq, .int nb tn] 8 40 r
    (fun h₀ L m s Q => ∀ q arr nn ps h' tk', TextsAre arr ps → ps.flatten = ws → ps.length ≤ 60 → (∀ p ∈ r, (p.1 : Nat) < q) → Fr h₀ L h' m → News h₀ L h' ((q, listOf arr nn) :: r) → Q (.ref q) { s with heap := h', toks := tk' }) := by
  intro dp un gd cn cs a ccd cll outer A₀ base h₀ L m s Q E B F X N T hk hd hu hret
  refine wpAny_call ?_
  k_dflt cell_enter
  have hl := len_ ws
  have hz : (tx_ ws).length ≤ 1000 := by omega
  have hz2 : ws.length ≤ 1000 := by omega
  k_steps
  unfold Hold
  (rename IsRange _ _ _ _ _ _ _ _ => hR)
  (rename Fr _ _ _ _ => lF)
  (rename News _ _ _ _ => lN)
  (rename ∀ p ∈ r, _ => hlt)
  obtain ⟨q, nn, mm, arr0, ht0, hpc, htx, hnb, lF, lN, hlt⟩ : ∃ (q nn : Nat) (mm : Str → Option Value) (arr0 : Array Value), TextsAre arr0 [[]] ∧ mm (Str.ofString "pieces") = some (Value.ref q) ∧ mm (Str.ofString "text") = some (Value.str (tx_ ws) tq) ∧ mm (Str.ofString "number") = some (Value.int nb tn) ∧ Fr _ _ _ mm ∧ News _ _ _ ((q, listOf arr0 nn) :: r) ∧ ∀ p ∈ r, (p.1 : Nat) < q := ⟨_, _, _, _, texts_one, rfl, rfl, rfl, lF, lN, hlt⟩
  refine my_range0 (fun jj m nx => PcJ q r (ws.take jj) (1 + 2 * jj) mm m nx) rfl hR (by omega) lF lN ⟨_, _, _, rfl, ht0, by simp, by simp, by simp, fun _ _ _ => rfl⟩ ?_ ?_
  · rintro i9 t m₁ nx h tk9 own hi9 hown ⟨arr, nn, ps, rfl, hT, hne, hfl, hpl, hm⟩ F₁ N₁
    have hi8 : i9 < ws.length := by omega
    obtain ⟨c9, hc9⟩ : ∃ c, ws[i9]? = some c := ⟨_, List.getElem?_eq_getElem hi8⟩
    have F₂ : Fr _ _ h (fun y => if y = Str.ofString "k" then some (Value.int (i9 : Int) t) else if y = Str.ofString "text" then some (Value.str (tx_ ws) tq) else if y = Str.ofString "pieces" then some (Value.ref q) else if y = Str.ofString "number" then some (Value.int nb tn) else m₁ y) := fr_names F₁ (by
      intro y
      repeat' split
      all_goals first | rfl | (rename_i e9; rw [e9, hm _ (by decide) (by decide)]; first | exact htx.symm | exact hpc.symm | exact hnb.symm))
    have N₂ : News _ _ h ((q, listOf arr nn) :: (r ++ own)) := N₁
    have hsz : arr.size ≤ 1000 := by rw [hT.1]; omega
    have hneq : ∀ p ∈ r ++ own, p.1 ≠ q := fun p hp => (List.mem_append.mp hp).elim (fun hp => Nat.ne_of_lt (hlt p hp)) (fun hp => hown p hp q (.head _))
    obtain ⟨ps0, p9, rfl⟩ : ∃ ps0 p9, ps = ps0 ++ [p9] := ⟨_, _, (List.dropLast_concat_getLast hne).symm⟩
    obtain ⟨hpos, t9, hlast⟩ := texts_at hT
    have hp9 : p9.length ≤ 24 := by
      have h1 : p9.length ≤ (ps0 ++ [p9]).flatten.length := by simp
      rw [hfl] at h1
      exact Nat.le_trans h1 (Nat.le_trans (List.length_take_le' _ _) hn)
    have hl9 := len_ p9
    have hz9 : (tx_ p9).length ≤ 1000 := by omega
    have hi24 : i9 ≤ 24 := by omega
    clear F₁ N₁ lF lN hR
    (try k_fold)
    k_steps
    unfold Hold
    (rename IsRange _ _ _ _ _ _ _ _ => hR2)
    (rename Fr _ _ _ _ => lF2)
    (rename News _ _ _ _ => lN2)
    (rename Mod3 _ => hv9)
    (rename Int => v9)
    obtain ⟨hv0, hv2⟩ := hv9
    obtain ⟨arr2, hT2, lN2⟩ : ∃ arr2, TextsAre arr2 (ps0 ++ [p9 ++ [c9]]) ∧ News _ _ _ ((q, listOf arr2 nn) :: (r ++ own)) := ⟨_, texts_set hT (app_ _ _), lN2⟩
    have hfl2 : (ps0 ++ [p9 ++ [c9]]).flatten = ws.take (i9 + 1) := by
      rw [List.take_add_one, hc9, ← hfl]
      simp
    have hpl2 : (ps0 ++ [p9 ++ [c9]]).length ≤ 1 + 2 * i9 := by simpa using hpl
    refine my_range0 (fun jj m nx => PcJ q (r ++ own) (ws.take (i9 + 1)) (1 + 2 * i9 + jj) m₁ m nx) rfl hR2 (by omega) lF2 lN2 ⟨_, _, _, rfl, hT2, by simp, hfl2, hpl2, (fun y g1 g2 => by simp only [g1, g2, if_false]; (repeat' split) <;> first | rfl | (rename_i e9; rw [e9, hm _ (by decide) (by decide)]; first | exact htx.symm | exact hpc.symm | exact hnb.symm))⟩ ?_ ?_
    · rintro j9 t5 m₂ nx h5 tk5 own5 hj9 hown5 ⟨arr5, nn5, ps5, rfl, hT5, hne5, hfl5, hpl5, hm5⟩ F₅ N₅
      have hq5 : m₂ (Str.ofString "pieces") = some (Value.ref q) := by rw [hm5 _ (by decide) (by decide), hm _ (by decide) (by decide), hpc]
      have F₆ : Fr _ _ h5 (fun y => if y = Str.ofString "cut" then some (Value.int (j9 : Int) t5) else if y = Str.ofString "pieces" then some (Value.ref q) else m₂ y) := fr_names F₅ (by
        intro y
        repeat' split
        all_goals first | rfl | (rename_i e9; rw [e9]; exact hq5.symm))
      have N₆ : News _ _ h5 ((q, listOf arr5 nn5) :: ((r ++ own) ++ own5)) := N₅
      have hneq5 : ∀ p ∈ (r ++ own) ++ own5, p.1 ≠ q := fun p hp => (List.mem_append.mp hp).elim (hneq p) (fun hp => hown5 p hp q (.head _))
      have hs5 : arr5.size ≤ 1000 := by rw [hT5.1]; omega
      clear F₅ N₅ lF2 lN2 hR2
      (try k_fold)
      k_steps
      refine my_end ((q, _) :: (r ++ own)) (by k_asm) (by k_asm) ?hj ?ha (fun p hp => hp)
      case ha => exact hown5
      case hj =>
        refine ⟨_, _, ps5 ++ [[]], rfl, texts_push hT5, by simp, by rw [← hfl5]; simp, by rw [List.length_append]; simp only [List.length_cons, List.length_nil]; omega, ?_⟩
        intro y g1 g2
        first | exact hm5 y g1 g2 | (simp only [g2, if_false]; split <;> first | (rename_i g3; rw [g3, ← hm5 _ (by decide) (by decide), hq5]) | exact hm5 y g1 g2)
    · rintro m₂ nx h5 tk5 ⟨arr5, nn5, ps5, rfl, hT5, hne5, hfl5, hpl5, hm5⟩ F₅ N₅
      have e2 : (v9).toNat ≤ 2 := by omega
      (try k_fold)
      k_steps
      refine my_end ((q, _) :: r) (by k_asm) (by k_asm) ?hj ?ha (fun p hp => hp)
      case ha => exact hown
      case hj =>
        exact ⟨_, _, ps5, rfl, hT5, hne5, hfl5, by omega, fun y g1 g2 => by rw [hm5 y g1 g2, hm y g1 g2]⟩
  · rintro m₁ nx h tk9 ⟨arr, nn, ps, rfl, hT, hne, hfl, hpl, hm⟩ F₁ N₁
    have F₂ : Fr _ _ h (fun y => if y = Str.ofString "pieces" then some (Value.ref q) else m₁ y) := fr_names F₁ (by
      intro y
      repeat' split
      all_goals first | rfl | (rename_i e9; rw [e9, hm _ (by decide) (by decide)]; exact hpc.symm))
    clear F₁ lF lN hR
    (try k_fold)
    k_steps
    have e : ((tx_ ws).length : Int).toNat = ws.length := by omega
    rw [e] at hfl hpl
    rw [List.take_length] at hfl
    exact hret _ _ _ ps _ _ hT hfl (by omega) hlt (by k_asm) (by k_asm)
end
section
open PySem PySem.W PySem.Calls PyProof.Rows
set_option linter.unusedVariables false
theorem calm20 : True := by
  w_top off
  first | walk1 | trivial
theorem fillO : PySem.Challenge.rw_nt0605_02 = PySem.Challenge.rw_nt0605_02 ∧ topK = topK := by
  k_fill
  exact ⟨rfl, rfl⟩


variable {w : World} {p : Program} {loose : List Str} {mean : ExcName → Option Value} {mg mb : Str → Option Value} {k0 k1 k2 k3 k4 k5 k6 k7 k8 k9 k10 k11 k12 k13 v0 v1 v2 v3 g0 g1 g2 g3 g4 g5 g6 g7 : Tok} {x dx st dst sg se ot er dr ddr da sm : Nat} {osm : Obj} {tb tu tc tl tg th : Tok}
  {i : Int} {ti : Tok} {z : Str} {tz : Tok} {dv : Value} {wa dn cl rt : Bool} {vs : Array Value} {ns : Nat} {vse : Array Value} {nse : Nat} {es : List Dat} {tx : Str} {tt : Tok} {vo : Array Value} {no : Nat} {ve : Array Value} {ne : Nat} {r ro ex : Led}
theorem told_a {σ : PS} {es : List Dat} (h : σ.dn = true) (_ : True) : toldD σ es = .tuple [.list σ.ou, .list σ.er, .list es, .str (Str.ofString ""), .int σ.at_, .str (Str.ofString ""), .bool true, .bool true] := by
  unfold toldD
  rw [h, if_pos rfl, if_pos (.inl rfl)]
theorem told_b {σ : PS} {es : List Dat} (h : σ.dn = false) (h2 : σ.st = .data) : toldD σ es = .tuple [.list σ.ou, .list σ.er, .list es, .str (Str.ofString "data"), .int σ.at_, .str (Str.ofString ""), .bool false, .bool false] := by
  unfold toldD
  rw [h, h2, if_neg (by decide), if_pos (.inr rfl)]
  rfl
theorem told_c {σ : PS} {es : List Dat} (h : σ.dn = false) (h2 : σ.st ≠ .data) : toldD σ es = .tuple [.list σ.ou, .list σ.er, .list es, .str σ.st.name, .int σ.at_, .str (tx_ σ.tx), .bool false, .bool false] := by
  unfold toldD
  rw [h, if_neg (by decide), if_neg (fun q => q.elim (by decide) h2)]
theorem name_data {t : St} (h : t ≠ .data) : (t.name == Str.ofString "data") = false := by cases t <;> first | exact absurd rfl h | decide
local macro_rules | `(tactic| walk_at "call ref") => `(tactic| ((with_reducible show wpAny _ _ (call (Value.ref 377) _) _ _ _); (refine hold ?_)))
set_option maxRecDepth 100000 in
set_option maxHeartbeats 8000000 in
theorem told_s (hA : Apart x dx st dst sg se ot er dr ddr da sm) (hsm : Obj.IsDictOf (strKind PySem.Challenge.rw_nt0605_02.row.prog w) osm stPairs) (hlo : (sm == sysModules) = false) {ws : List Nat} (hV : SgnAre vs ws) {σ : PS} (g : σ.Good ws.length) (gd2 : (σ.run ws cl (σ.mu ws.length)).Good ws.length) {lay : Led} (hL : Lay w.params k0 k1 k2 k3 k4 k5 k6 k7 k8 k9 k10 k11 k12 k13 v0 v1 v2 v3 g0 g1 g2 g3 g4 g5 g6 g7 x dx st dst sg se ot er dr ddr da sm osm tb tu tc tl tg th cl rt vs ns vse nse es ex σ lay) :
    CallC w p loose mean mg mb 487 [.ref x] 20 80 lay (fun h₀ L m s Q => ∀ q tup lay' h' tk', Lay w.params k0 k1 k2 k3 k4 k5 k6 k7 k8 k9 k10 k11 k12 k13 v0 v1 v2 v3 g0 g1 g2 g3 g4 g5 g6 g7 x dx st dst sg se ot er dr ddr da sm osm tb tu tc tl tg th cl rt vs ns vse nse es ex (σ.run ws cl (σ.mu ws.length)) lay' → DatIn ((q, tup) :: lay') (.ref q) (toldD (σ.run ws cl (σ.mu ws.length)) es) → Fr h₀ L h' m → News h₀ L h' ((q, tup) :: lay') → Q (.ref q) { s with heap := h', toks := tk' }) := by
  intro dp un gd cn cs a ccd cll outer A₀ base h₀ L m s Q E B F X N T hk hd hu hret
  (have hL' := hL); (obtain ⟨ia, tia, za, tza, dva, dna, txa, tta, voa, noa, vea, nea, roa, e1a, ⟨e2a, e3a, e4a, e5a, e6a⟩, hra, D1a, D2a, D3a, Ua⟩ := hL'); subst e1a
  refine wpAny_call ?_
  k_dflt cell_enter
  k_steps
  unfold Hold
  k_dflt ((refine' (run_s hA hsm hlo hV g hL) _ _ _ _ _ _ _ _ _ _ _ _ _ _ _ _ _ ?zbB ?zbF ?zbX ?zbN ?zbT ?zbk ?zbd ?zbu ?_); (case zbF => k_asm); (case zbN => k_asm); (case zbB => k_asm); (case zbX => k_asm); (case zbT => k_asm); (case zbk => first | exact rfl | assumption); (case zbd => ktr_room); (case zbu => ktr_units))
  intro lay1 h1 tk1 hL2 hF1 hN1
  generalize (σ.run ws cl (σ.mu ws.length)) = σ1 at hL2 gd2 hret ⊢
  clear hL
  (have hL2' := hL2); (obtain ⟨ib, tib, zb, tzb, dvb, dnb, txb, ttb, vob, nob, veb, neb, rob, e1b, ⟨e2b, e3b, e4b, e5b, e6b⟩, hrb, D1b, D2b, D3b, Ub⟩ := hL2'); subst e1b
  (try k_sweep)
  by_cases c1 : σ1.dn = true
  · have c2 : True := trivial
    rw [c1] at e5b
    subst e5b
    (try k_fold)
    k_steps
    (rename Fr _ _ _ _ => lF)
    (rename News _ _ _ _ => lN)
    refine hret _ _ _ _ _ hL2 ?_ lF lN
    rw [told_a (by assumption) (by assumption), ← e2b]
    exact DatIn.tuple (vs := [_, _, _, _, _, _, _, _]) (.head _) (.cons (list_in (by k_mem) (D1b.mono (fun p hp => by repeat (first | exact List.mem_append_left _ hp | apply List.Mem.tail)))) (.cons (list_in (by k_mem) (D2b.mono (fun p hp => by repeat (first | exact List.mem_append_left _ hp | apply List.Mem.tail)))) (.cons (list_in (by k_mem) (D3b.mono (fun p hp => by repeat (first | exact List.mem_append_left _ hp | apply List.Mem.tail)))) (.cons (.str _ _) (.cons (.int _ _) (.cons (.str _ _) (.cons (.bool _) (.cons (by rw [c1]; exact .bool _) .nil))))))))
  have c1 : σ1.dn = false := by simpa using c1
  rw [c1] at e5b
  by_cases c2 : σ1.st = .data
  · rw [c2] at e3b
    subst e5b
    have e3d : zb = Str.ofString "data" := e3b
    clear e3b
    subst e3d
    (try k_fold)
    k_steps
    (rename Fr _ _ _ _ => lF)
    (rename News _ _ _ _ => lN)
    refine hret _ _ _ _ _ hL2 ?_ lF lN
    rw [told_b (by assumption) (by assumption), ← e2b]
    exact DatIn.tuple (vs := [_, _, _, _, _, _, _, _]) (.head _) (.cons (list_in (by k_mem) (D1b.mono (fun p hp => by repeat (first | exact List.mem_append_left _ hp | apply List.Mem.tail)))) (.cons (list_in (by k_mem) (D2b.mono (fun p hp => by repeat (first | exact List.mem_append_left _ hp | apply List.Mem.tail)))) (.cons (list_in (by k_mem) (D3b.mono (fun p hp => by repeat (first | exact List.mem_append_left _ hp | apply List.Mem.tail)))) (.cons (.str _ _) (.cons (.int _ _) (.cons (.str _ _) (.cons (.bool _) (.cons (by rw [c1]; exact .bool _) .nil))))))))
  have c3 := gd2.hd c1 c2
  rw [c3] at e4b
  have e4d : dvb = .ref dr := e4b
  clear e4b
  have e3d : (zb == Str.ofString "data") = false := by rw [e3b]; exact name_data c2
  have hz9 : (zb != Str.ofString "data") = true := by rw [bne, e3d]; rfl
  subst e5b
  subst e4d
  (try k_fold)
  k_steps
  · skip
    (rename Fr _ _ _ _ => lF)
    (rename News _ _ _ _ => lN)
    refine hret _ _ _ _ _ hL2 ?_ lF lN
    rw [told_c (by assumption) (by assumption), ← e2b, ← e3b, ← e6b]
    exact DatIn.tuple (vs := [_, _, _, _, _, _, _, _]) (.head _) (.cons (list_in (by k_mem) (D1b.mono (fun p hp => by repeat (first | exact List.mem_append_left _ hp | apply List.Mem.tail)))) (.cons (list_in (by k_mem) (D2b.mono (fun p hp => by repeat (first | exact List.mem_append_left _ hp | apply List.Mem.tail)))) (.cons (list_in (by k_mem) (D3b.mono (fun p hp => by repeat (first | exact List.mem_append_left _ hp | apply List.Mem.tail)))) (.cons (.str _ _) (.cons (.int _ _) (.cons (.str _ _) (.cons (.bool _) (.cons (by rw [c1]; exact .bool _) .nil))))))))
end
section
open PySem PySem.W PySem.Calls PyProof.Rows
set_option linter.unusedVariables false
theorem calm21 : True := by
  w_top off
  first | walk1 | trivial
theorem fillY : PySem.Challenge.rw_nt0605_02 = PySem.Challenge.rw_nt0605_02 ∧ topK = topK := by
  k_fill
  exact ⟨rfl, rfl⟩


variable {w : World} {p : Program} {loose : List Str} {mean : ExcName → Option Value} {mg mb : Str → Option Value} {k0 k1 k2 k3 k4 k5 k6 k7 k8 k9 k10 k11 k12 k13 v0 v1 v2 v3 g0 g1 g2 g3 g4 g5 g6 g7 : Tok} {x dx st dst sg se ot er dr ddr da sm : Nat} {osm : Obj} {tb tu tc tl tg th : Tok}
  {i : Int} {ti : Tok} {z : Str} {tz : Tok} {dv : Value} {wa dn cl rt : Bool} {vs : Array Value} {ns : Nat} {vse : Array Value} {nse : Nat} {es : List Dat} {tx : Str} {tt : Tok} {vo : Array Value} {no : Nat} {ve : Array Value} {ne : Nat} {r ro ex : Led}
theorem core_of {P : Params} {h₀ h : Heap} {L : Addr} {l : Led} (N : News h₀ L h l) (h1 : (x, instObj 380 dx) ∈ l) (h2 : (dx, (tokO P k0 k1 k2 k3 k4 k5 k6 k7 k8 k9 k10 k11 k12 k13 sm st i ti z tz tb ot er dv tu tc tl wa dn)) ∈ l) (h3 : (st, instObj 217 dst) ∈ l) (h4 : (dst, strO P v0 v1 v2 v3 sg cl rt se) ∈ l) (h5 : (sg, listOf vs ns) ∈ l) (h6 : (se, listOf vse nse) ∈ l)
    (h7 : (ot, listOf vo no) ∈ l) (h8 : (er, listOf ve ne) ∈ l) (h9 : (dr, instObj 436 ddr) ∈ l) (h10 : (ddr, draO P g0 g1 g2 g3 g4 g5 g6 g7 tg th tx tt da) ∈ l) (h11 : (da, listOf #[] 0) ∈ l) (h12 : (sm, osm) ∈ l) (hr : ∀ p ∈ r, p ∈ l) : News h₀ L h (core P k0 k1 k2 k3 k4 k5 k6 k7 k8 k9 k10 k11 k12 k13 v0 v1 v2 v3 g0 g1 g2 g3 g4 g5 g6 g7 x dx st dst sg se ot er dr ddr da sm osm tb tu tc tl tg th i ti z tz dv wa dn cl rt vs ns vse nse tx tt vo no ve ne r) := by
  intro p hp
  simp only [core, List.mem_cons] at hp
  rcases hp with rfl | rfl | rfl | rfl | rfl | rfl | rfl | rfl | rfl | rfl | rfl | rfl | hp
  · exact N _ h1
  · exact N _ h2
  · exact N _ h3
  · exact N _ h4
  · exact N _ h5
  · exact N _ h6
  · exact N _ h7
  · exact N _ h8
  · exact N _ h9
  · exact N _ h10
  · exact N _ h11
  · exact N _ h12
  · exact N _ (hr _ hp)
theorem gen_q {M : Model} {A : Around} {body : List Stmt} {env : Env} {Q : Flow → Shared → Prop} {E : Value → Shared → Prop} {s : Shared} {h₀ : Heap} {L : Addr} {m : Str → Option Value} (_ : Fr h₀ L s.heap m) (hE : PassesOwn M A env E) (hq : ∀ h tk m', Fr h₀ L h m' → Q (.ret (.bool true)) { s with heap := h, toks := tk })
    (h : ∀ (Q' : Flow → Shared → Prop) (E' : Value → Shared → Prop), PassesOwn M A env E' → (∀ h tk m', Fr h₀ L h m' → Q' (.ret (.bool true)) { s with heap := h, toks := tk }) → wpAny M A (execs body env) Q' E' s) : wpAny M A (execs body env) Q E s := h Q E hE hq
theorem off_ins {q : Nat} {o : Obj} {adr : List Addr} (h : OwnOff (ro ++ ex) adr) (hq : ∀ b ∈ adr, q ≠ b) : OwnOff (ro ++ (q, o) :: ex) adr := by
  intro p hp
  rcases List.mem_append.mp hp with hp | hp
  · exact h p (List.mem_append_left _ hp)
  · rcases List.mem_cons.mp hp with rfl | hp
    · exact hq
    · exact h p (List.mem_append_right _ hp)
theorem off_del {q : Addr × Obj} {adr : List Addr} (h : OwnOff (ro ++ q :: ex) adr) : OwnOff (ro ++ ex) adr := by
  intro p hp
  rcases List.mem_append.mp hp with hp | hp
  · exact h p (List.mem_append_left _ hp)
  · exact h p (List.mem_append_right _ (.tail _ hp))
theorem off_adr {q : Nat} (h1 : q ≠ dx) (h2 : q ≠ dst) (h3 : q ≠ sg) (h4 : q ≠ se) (h5 : q ≠ ot) (h6 : q ≠ er) (h7 : q ≠ ddr) : ∀ b ∈ ([dx, dst, sg, se, ot, er, ddr] : List Addr), q ≠ b := by
  intro b hb
  simp only [List.mem_cons, List.not_mem_nil, or_false] at hb
  rcases hb with rfl | rfl | rfl | rfl | rfl | rfl | rfl <;> assumption
theorem dict_ne : (Value.type "dict" : Value) ≠ .type "tuple" := by intro e; injection e with e; exact absurd e (by decide)
theorem tup_neq {h₀ h : Heap} {L : Addr} {l : Led} {q b : Nat} {xs : List Value} {o : Obj} (N : News h₀ L h l) (h1 : (q, tupO xs) ∈ l) (h2 : (b, o) ∈ l) (hc : o.cls ≠ .type "tuple") : q ≠ b := by
  intro e
  have e1 := (N _ h1).1
  have e2 := (N _ h2).1
  dsimp only at e1 e2
  rw [e, e2] at e1
  exact hc (congrArg Obj.cls (Option.some.inj e1))
theorem sgn_nil : SgnAre #[] [] := ⟨rfl, fun k n h => by simp at h⟩
theorem off_nil {l : List Addr} : OwnOff [] l := fun p hp => absurd hp (List.not_mem_nil)
theorem run_good {ws : List Nat} {cl : Bool} : ∀ (k : Nat) (σ : PS), σ.Good ws.length → (σ.run ws cl k).Good ws.length
  | 0, σ, g => g
  | k + 1, σ, g => by
    unfold PS.run
    split
    · exact run_good k _ (PS.ready_step (by assumption) g).1
    · exact g
theorem lay_ex {σ : PS} {lay : Led} (hL : Lay w.params k0 k1 k2 k3 k4 k5 k6 k7 k8 k9 k10 k11 k12 k13 v0 v1 v2 v3 g0 g1 g2 g3 g4 g5 g6 g7 x dx st dst sg se ot er dr ddr da sm osm tb tu tc tl tg th cl rt vs ns vse nse es ex σ lay) : ∀ p ∈ ex, p ∈ lay := by
  obtain ⟨i, ti, z, tz, dv, dn, tx, tt, vo, no, ve, ne, ro, rfl, _, _, _, _, _, _⟩ := hL
  intro p hp
  exact List.mem_append_right [_, _, _, _, _, _, _, _, _, _, _, _] (List.mem_append_right _ hp)
/-- what the loop's own object stands off from -/
structure OffI (I x st dr da sm : Nat) (ex : Led) : Prop where
  hx : x ≠ I
  hst : st ≠ I
  hdr : dr ≠ I
  hda : da ≠ I
  hsm : sm ≠ I
  hex : ∀ p ∈ ex, p.1 ≠ I
theorem lay_put {σ : PS} {lay : Led} {I : Nat} {oI : Obj} {h₀ h : Heap} {L : Addr} {G : Prop} (hL : Lay w.params k0 k1 k2 k3 k4 k5 k6 k7 k8 k9 k10 k11 k12 k13 v0 v1 v2 v3 g0 g1 g2 g3 g4 g5 g6 g7 x dx st dst sg se ot er dr ddr da sm osm tb tu tc tl tg th cl rt vs ns vse nse es ex σ lay) (hoff : ∀ p ∈ lay, p.1 ≠ I) (N : News h₀ L h ((I, oI) :: lay))
    (k : ∀ lay2, Lay w.params k0 k1 k2 k3 k4 k5 k6 k7 k8 k9 k10 k11 k12 k13 v0 v1 v2 v3 g0 g1 g2 g3 g4 g5 g6 g7 x dx st dst sg se ot er dr ddr da sm osm tb tu tc tl tg th cl rt vs ns vse nse es (((I, oI) :: ex)) σ lay2 → News h₀ L h lay2 → OffI I x st dr da sm ex → G) : G := by
  have hE := lay_ex hL
  obtain ⟨i, ti, z, tz, dv, dn, tx, tt, vo, no, ve, ne, ro, rfl, e2, hr, D1, D2, D3, U⟩ := hL
  have hm : ∀ p ∈ (core w.params k0 k1 k2 k3 k4 k5 k6 k7 k8 k9 k10 k11 k12 k13 v0 v1 v2 v3 g0 g1 g2 g3 g4 g5 g6 g7 x dx st dst sg se ot er dr ddr da sm osm tb tu tc tl tg th i ti z tz dv false dn cl rt vs ns vse nse tx tt vo no ve ne (ro ++ (I, oI) :: ex)), p ∈ (I, oI) :: (core w.params k0 k1 k2 k3 k4 k5 k6 k7 k8 k9 k10 k11 k12 k13 v0 v1 v2 v3 g0 g1 g2 g3 g4 g5 g6 g7 x dx st dst sg se ot er dr ddr da sm osm tb tu tc tl tg th i ti z tz dv false dn cl rt vs ns vse nse tx tt vo no ve ne (ro ++ ex)) := by
    intro p hp
    have hp2 : p ∈ ([_, _, _, _, _, _, _, _, _, _, _, _] ++ (ro ++ (I, oI) :: ex) : Led) := hp
    rcases List.mem_append.mp hp2 with h | h
    · exact .tail _ (List.mem_append_left (ro ++ ex) h)
    · rcases List.mem_append.mp h with h | h
      · exact .tail _ (List.mem_append_right [_, _, _, _, _, _, _, _, _, _, _, _] (List.mem_append_left _ h))
      · rcases List.mem_cons.mp h with rfl | h
        · exact .head _
        · exact .tail _ (List.mem_append_right [_, _, _, _, _, _, _, _, _, _, _, _] (List.mem_append_right _ h))
  have q := fun (b : Nat) (o : Obj) (hm : (b, o) ∈ (core w.params k0 k1 k2 k3 k4 k5 k6 k7 k8 k9 k10 k11 k12 k13 v0 v1 v2 v3 g0 g1 g2 g3 g4 g5 g6 g7 x dx st dst sg se ot er dr ddr da sm osm tb tu tc tl tg th i ti z tz dv false dn cl rt vs ns vse nse tx tt vo no ve ne (ro ++ ex))) => hoff (b, o) hm
  refine k _ ⟨i, ti, z, tz, dv, dn, tx, tt, vo, no, ve, ne, ro, rfl, e2, off_ins hr (off_adr (Ne.symm (q _ _ (by k_mem))) (Ne.symm (q _ _ (by k_mem))) (Ne.symm (q _ _ (by k_mem))) (Ne.symm (q _ _ (by k_mem))) (Ne.symm (q _ _ (by k_mem))) (Ne.symm (q _ _ (by k_mem))) (Ne.symm (q _ _ (by k_mem)))), D1, D2, D3, U⟩ (fun p hp => N p (hm p hp))
    ⟨q _ _ (by k_mem), q _ _ (by k_mem), q _ _ (by k_mem), q _ _ (by k_mem), q _ _ (by k_mem), fun p hp => hoff p (hE p hp)⟩
theorem lay_cut {σ : PS} {lay : Led} {I : Nat} {oI : Obj} {h₀ h : Heap} {L : Addr} {G : Prop} (hL : Lay w.params k0 k1 k2 k3 k4 k5 k6 k7 k8 k9 k10 k11 k12 k13 v0 v1 v2 v3 g0 g1 g2 g3 g4 g5 g6 g7 x dx st dst sg se ot er dr ddr da sm osm tb tu tc tl tg th cl rt vs ns vse nse es (((I, oI) :: ex)) σ lay) (hI : oI.cls = .type "list_iterator") (N : News h₀ L h lay) (O : OffI I x st dr da sm ex)
    (k : ∀ nx, Lay w.params k0 k1 k2 k3 k4 k5 k6 k7 k8 k9 k10 k11 k12 k13 v0 v1 v2 v3 g0 g1 g2 g3 g4 g5 g6 g7 x dx st dst sg se ot er dr ddr da sm osm tb tu tc tl tg th cl rt vs ns vse nse es ex σ nx → News h₀ L h ((I, oI) :: nx) → (∀ p ∈ nx, p.1 ≠ I) → G) : G := by
  have hIm := lay_ex hL _ (.head _)
  obtain ⟨i, ti, z, tz, dv, dn, tx, tt, vo, no, ve, ne, ro, rfl, e2, hr, D1, D2, D3, U⟩ := hL
  have hq := fun (b : Nat) (hb : b ∈ ([dx, dst, sg, se, ot, er, ddr] : List Addr)) => hr (I, oI) (List.mem_append_right _ (.head _)) b hb
  have hro : ∀ p ∈ ro, p.1 ≠ I := by
    intro p hp e
    have h1 := (N _ hIm).1
    have h2 := (N p (List.mem_append_right [_, _, _, _, _, _, _, _, _, _, _, _] (List.mem_append_left _ hp))).1
    rw [e] at h2
    rw [h1] at h2
    have h3 := U p hp
    rw [← Option.some.inj h2, hI] at h3
    injection h3 with h4
    exact absurd h4 (by decide)
  refine k (core w.params k0 k1 k2 k3 k4 k5 k6 k7 k8 k9 k10 k11 k12 k13 v0 v1 v2 v3 g0 g1 g2 g3 g4 g5 g6 g7 x dx st dst sg se ot er dr ddr da sm osm tb tu tc tl tg th i ti z tz dv false dn cl rt vs ns vse nse tx tt vo no ve ne (ro ++ ex)) ⟨i, ti, z, tz, dv, dn, tx, tt, vo, no, ve, ne, ro, rfl, e2, off_del hr, D1, D2, D3, U⟩ (fun p hp => ?_) (fun p hp => ?_)
  · rcases List.mem_cons.mp hp with rfl | hp
    · exact N _ hIm
    · have hp2 : p ∈ ([_, _, _, _, _, _, _, _, _, _, _, _] ++ (ro ++ ex) : Led) := hp
      rcases List.mem_append.mp hp2 with h | h
      · exact N p (List.mem_append_left (ro ++ (I, oI) :: ex) h)
      · rcases List.mem_append.mp h with h | h
        · exact N p (List.mem_append_right [_, _, _, _, _, _, _, _, _, _, _, _] (List.mem_append_left _ h))
        · exact N p (List.mem_append_right [_, _, _, _, _, _, _, _, _, _, _, _] (List.mem_append_right _ (.tail _ h)))
  · simp only [core, List.mem_cons] at hp
    rcases hp with rfl | rfl | rfl | rfl | rfl | rfl | rfl | rfl | rfl | rfl | rfl | rfl | hp
    · exact O.hx
    · exact Ne.symm (hq _ (by simp))
    · exact O.hst
    · exact Ne.symm (hq _ (by simp))
    · exact Ne.symm (hq _ (by simp))
    · exact Ne.symm (hq _ (by simp))
    · exact Ne.symm (hq _ (by simp))
    · exact Ne.symm (hq _ (by simp))
    · exact O.hdr
    · exact Ne.symm (hq _ (by simp))
    · exact O.hda
    · exact O.hsm
    · rcases List.mem_append.mp hp with hp | hp
      · exact hro p hp
      · exact O.hex p hp
theorem off_lt {own : Led} {k a1 a2 a3 a4 a5 a6 a7 : Nat} (h : ∀ p ∈ own, (p.1 : Nat) < k) (h1 : k < a1) (h2 : k < a2) (h3 : k < a3) (h4 : k < a4) (h5 : k < a5) (h6 : k < a6) (h7 : k < a7) : OwnOff own [a1, a2, a3, a4, a5, a6, a7] := by
  intro p hp b hb
  have := h p hp
  simp only [List.mem_cons, List.not_mem_nil, or_false] at hb
  rcases hb with rfl | rfl | rfl | rfl | rfl | rfl | rfl
  · exact Nat.ne_of_lt (Nat.lt_trans this h1)
  · exact Nat.ne_of_lt (Nat.lt_trans this h2)
  · exact Nat.ne_of_lt (Nat.lt_trans this h3)
  · exact Nat.ne_of_lt (Nat.lt_trans this h4)
  · exact Nat.ne_of_lt (Nat.lt_trans this h5)
  · exact Nat.ne_of_lt (Nat.lt_trans this h6)
  · exact Nat.ne_of_lt (Nat.lt_trans this h7)
theorem start_toks {P : Params} {pp : Program} {h₀ h : Heap} {L : Addr} {G : Prop} (N : News h₀ L h (core P k0 k1 k2 k3 k4 k5 k6 k7 k8 k9 k10 k11 k12 k13 v0 v1 v2 v3 g0 g1 g2 g3 g4 g5 g6 g7 x dx st dst sg se ot er dr ddr da sm osm tb tu tc tl tg th 0 ti (Str.ofString "comment start") tz (.ref dr) false false false false #[] 0 #[] 0 (Str.ofString "") tt #[] 0 #[] 0 ex)) (hA : Apart x dx st dst sg se ot er dr ddr da sm) (hr : OwnOff ex [dx, dst, sg, se, ot, er, ddr]) (hs : Obj.IsDictOf (strKind pp w) osm stPairs) (hl : (sm == sysModules) = false)
    (k : ∀ (k0 k1 k2 k3 k4 k5 k6 k7 k8 k9 k10 k11 k12 k13 v0 v1 v2 v3 g0 g1 g2 g3 g4 g5 g6 g7 tb tu tc tl tg th : Tok) (x' dx st dst sg se ot er dr ddr da sm : Nat) (osm : Obj) (lay : Led), x' = x → Lay P k0 k1 k2 k3 k4 k5 k6 k7 k8 k9 k10 k11 k12 k13 v0 v1 v2 v3 g0 g1 g2 g3 g4 g5 g6 g7 x' dx st dst sg se ot er dr ddr da sm osm tb tu tc tl tg th false false #[] 0 #[] 0 [] ex PS.init lay → Apart x' dx st dst sg se ot er dr ddr da sm → Obj.IsDictOf (strKind pp w) osm stPairs → (sm == sysModules) = false → News h₀ L h lay → G) : G :=
  k _ _ _ _ _ _ _ _ _ _ _ _ _ _ _ _ _ _ _ _ _ _ _ _ _ _ _ _ _ _ _ _ _ _ _ _ _ _ _ _ _ _ _ _ _ _ rfl ⟨_, _, _, _, _, _, _, _, _, _, _, _, [], rfl, ⟨rfl, rfl, rfl, rfl, litN⟩, hr, .nil, .nil, .nil, tups_nil⟩ hA hs hl N
theorem text_facts2 {ws : List Nat} (h : TextOk (tx_ ws)) : ws.length ≤ 24 ∧ ∀ c ∈ ws, Alph c := by
  have h1 := h.1
  rw [len_] at h1
  exact ⟨h1, fun c hc => h.2 c (by simpa using hc)⟩
theorem alph_lt {c : Nat} (h : Alph c) : c < 1114112 := by rcases h with rfl | rfl | rfl | rfl | rfl | rfl | rfl | rfl | rfl | rfl <;> decide
theorem nrm_lt {ws : List Nat} (h : ∀ c ∈ ws, Alph c) : ∀ c ∈ nrm false ws, c < 1114112 := fun c hc => (nrm_in false ws c hc).elim (fun q => alph_lt (h c q)) (fun q => by rw [q]; decide)
theorem nrm_more (ws p : List Nat) : nrm false (ws ++ p) = nrm false ws ++ nrm (ws.foldl feed1 F0).rt p := by
  rw [← fed_sg, fed_app, fold_sg, fed_sg]
theorem take_flat {ps : List (List Nat)} {i : Nat} {p : List Nat} (h : ps[i]? = some p) : (ps.take (i + 1)).flatten = (ps.take i).flatten ++ p := by
  rw [List.take_add_one, h]
  simp
theorem flat_le {ps : List (List Nat)} {ws : List Nat} (h : ps.flatten = ws) (i : Nat) : (ps.take i).flatten.length ≤ ws.length := by
  have e : ps.flatten = (ps.take i).flatten ++ (ps.drop i).flatten := by rw [← List.flatten_append, List.take_append_drop]
  rw [← h, e, List.length_append]
  exact Nat.le_add_right _ _
theorem flat_in {ps : List (List Nat)} {ws p : List Nat} {i : Nat} (h : ps.flatten = ws) (hp : ps[i]? = some p) : ∀ c ∈ p, c ∈ ws := fun c hc => by
  rw [← h]
  exact List.mem_flatten.mpr ⟨p, List.mem_of_getElem? hp, hc⟩
theorem flat_take {ps : List (List Nat)} {ws : List Nat} (h : ps.flatten = ws) (i : Nat) : ∀ c ∈ (ps.take i).flatten, c ∈ ws := fun c hc => by
  obtain ⟨p, hp, hc⟩ := List.mem_flatten.mp hc
  rw [← h]
  exact List.mem_flatten.mpr ⟨p, List.mem_of_mem_take hp, hc⟩
theorem er_le (ws : List Nat) (f : FS) (h : f.er.length ≤ f.sg.length) : (ws.foldl feed1 f).er.length ≤ (ws.foldl feed1 f).sg.length := feed_er ws f h
end
section
open PySem PySem.W PySem.Calls PyProof.Rows
set_option linter.unusedVariables false
theorem calm22 : True := by
  w_top off
  first | walk1 | trivial
theorem fillZ : PySem.Challenge.rw_nt0605_02 = PySem.Challenge.rw_nt0605_02 ∧ topK = topK := by
  k_fill
  exact ⟨rfl, rfl⟩


variable {w : World} {p : Program} {loose : List Str} {mean : ExcName → Option Value} {mg mb : Str → Option Value} {k0 k1 k2 k3 k4 k5 k6 k7 k8 k9 k10 k11 k12 k13 v0 v1 v2 v3 g0 g1 g2 g3 g4 g5 g6 g7 : Tok} {x dx st dst sg se ot er dr ddr da sm : Nat} {osm : Obj} {tb tu tc tl tg th : Tok}
  {i : Int} {ti : Tok} {z : Str} {tz : Tok} {dv : Value} {wa dn cl rt : Bool} {vs : Array Value} {ns : Nat} {vse : Array Value} {nse : Nat} {es : List Dat} {tx : Str} {tt : Tok} {vo : Array Value} {no : Nat} {ve : Array Value} {ne : Nat} {r ro ex : Led}
noncomputable def IntsArr (arr : Array Value) : Prop := ∀ (i : Nat) (v : Value), arr[i]? = some v → ∃ (k : Int) (t : Tok), v = .int k t
theorem ints_three {a b c : Int} {t1 t2 t3 : Tok} : IntsArr #[.int a t1, .int b t2, .int c t3] := by
  intro i v h
  match i with
  | 0 => exact ⟨a, t1, (Option.some.inj h).symm⟩
  | 1 => exact ⟨b, t2, (Option.some.inj h).symm⟩
  | 2 => exact ⟨c, t3, (Option.some.inj h).symm⟩
  | i + 3 => simp at h
inductive PieceJ (P : Params) (k0 k1 k2 k3 k4 k5 k6 k7 k8 k9 k10 k11 k12 k13 v0 v1 v2 v3 g0 g1 g2 g3 g4 g5 g6 g7 : Tok) (x dx st dst sg se ot er dr ddr da sm : Nat) (osm : Obj) (tb tu tc tl tg th : Tok) (ws : List Nat) (ps : List (List Nat)) (qP : Nat) (vsL : List Value) (nn : Nat) (own : Led) (mm : Str → Option Value) (jj : Nat) (m : Str → Option Value) (nx : Led) : Prop
  | mk (rt : Bool) (vs : Array Value) (ns : Nat) (vse : Array Value) (nse : Nat) (σ : PS) (tf : Tok)
    (hL : Lay P k0 k1 k2 k3 k4 k5 k6 k7 k8 k9 k10 k11 k12 k13 v0 v1 v2 v3 g0 g1 g2 g3 g4 g5 g6 g7 x dx st dst sg se ot er dr ddr da sm osm tb tu tc tl tg th false rt vs ns vse nse ((ps.take jj).flatten.foldl feed1 F0).er ((qP, listOf vsL.toArray nn) :: own) σ nx)
    (hV : SgnAre vs (nrm false (ps.take jj).flatten)) (hrt : rt = ((ps.take jj).flatten.foldl feed1 F0).rt) (hI : Inv (nrm false (ps.take jj).flatten) σ)
    (hmt : m (Str.ofString "t") = some (.ref x)) (hmf : m (Str.ofString "fed") = some (.str (tx_ (ps.take jj).flatten) tf)) (hmx : m (Str.ofString "text") = mm (Str.ofString "text"))
local macro_rules | `(tactic| walk_at "exec For Name Call cons nil") => `(tactic| ((rename Fr _ _ _ _ => lF'); (with_unfolding_all refine' For_turns lF' ?_; k_whole)))
local macro_rules | `(tactic| walk_at "compareOp NotEq ref ref") => `(tactic| (refine hold ?_))
local macro_rules | `(tactic| k_qdec) => `(tactic| decide +kernel)
local macro_rules | `(tactic| walk_at "call ref") => `(tactic| k_dflt (first
  | ((first | (with_reducible show wpAny _ _ (call (Value.ref 487) _) _ _ _) | (with_reducible show wpAny _ _ (call (Value.ref 480) _) _ _ _) | (with_reducible show wpAny _ _ (call (Value.ref 250) _) _ _ _) | (with_reducible show wpAny _ _ (call (Value.ref 243) _) _ _ _)); (refine hold ?_))
  | ((first
    | ((with_reducible show wpAny _ _ (call (Value.ref 454) _) _ _ _); refine' text_c _ _ _ _ _ _ _ _ _ _ _ _ _ _ _ _ _ _ _ ?B ?F ?X ?N ?T ?k ?d ?u ?hl ?hi ?hf ?_)
    | ((with_reducible show wpAny _ _ (call (Value.ref 447) _) _ _ _); refine' digit_c ?p0 ?p1 _ _ _ _ _ _ _ _ _ _ _ _ _ _ _ _ _ _ _ ?B ?F ?X ?N ?T ?k ?d ?u ?hl ?hi ?hf ?_)
    | ((with_reducible show wpAny _ _ (call (Value.ref 119) _) _ _ _); refine' states_c _ _ _ _ _ _ _ _ _ _ _ _ _ _ _ _ _ ?B ?F ?X ?N ?T ?k ?d ?u ?_)
    | ((with_reducible show wpAny _ _ (call (Value.ref 380) _) _ _ _); refine' tok_c _ _ _ _ _ _ _ _ _ _ _ _ _ _ _ _ _ ?B ?F ?X ?N ?T ?k ?d ?u ?_)
    | ((with_reducible show wpAny _ _ (call (Value.ref 436) _) _ _ _); refine' draft_c _ _ _ _ _ _ _ _ _ _ _ _ _ _ _ _ _ ?B ?F ?X ?N ?T ?k ?d ?u ?_)
    | ((with_reducible show wpAny _ _ (call (Value.ref 461) _) _ _ _); refine' (pieces_c ?p0) _ _ _ _ _ _ _ _ _ _ _ _ _ _ _ _ _ ?B ?F ?X ?N ?T ?k ?d ?u ?_)); (case F => k_asm); (case N => k_asm); (case B => k_asm); (case X => k_asm); (case T => k_asm); (case k => first | exact rfl | assumption); (case d => ktr_room); (case u => ktr_units); (try case hl => assumption); (try case hi => assumption); (try case hf => assumption); (try case p0 => first | assumption | omega); (try case p1 => omega); intro y'; intros; (try ((rename ∀ p ∈ _, Prod.fst p < _ => lt'); k_lt lt')); (try k_sweep))))
set_option maxRecDepth 100000 in
set_option maxHeartbeats 8000000 in
theorem mainT : PySem.Challenge.rw_nt0605_02.Holds := by
  w_on
  refine holds_law saidE fun said => ?_
  refine holds_open (q := topV) (loose := []) (Xt := fun s => xlAt topV [] s && recOk (RowW.records (OpenRow.toRowW PySem.Challenge.rw_nt0605_02.row)) s) (XP := XL topV []) (Yf := Hook.obs HK) (Ya := Hook.val HK) (YP := Hook.says HK) (N := topN) leftE (Hook.of HK) (Hook.keeps HK) (fun s e => xl_of s (Bool.and_eq_true_iff.mp e).1) XL.keeps (by rfl) (by rfl) (by rfl) (fun s e => recFacts_of (Bool.and_eq_true_iff.mp e).2) (by rfl) (by first | assumption | decide +kernel) (by decide +kernel) ⟨rfl, rfl, rfl, rfl, rfl, by decide +kernel⟩ ?hw ?hc
  case hw => w_witness2
  clear said
  w_strict (
    k_go0
    refine gen_q (by k_asm) (by passes_own) ?zq1 ?zq2
    case zq1 =>
      intro h9 tk9 m9 F9
      (try dsimp only)
      k_steps
    case zq2 =>
    intro qk ek hE9 hq
    (rename ¬ (_ < _) => hc9)
    (have hlen9 := Int.ofNat_le.mp (Int.not_lt.mp hc9))
    k_steps
    unfold Hold
    (rename List Nat => ws)
    (rename World => w)
    (rename TextOk _ => hT9)
    obtain ⟨hn9, hal9⟩ := text_facts2 hT9
    (rename Fr _ _ _ _ => lF)
    (rename News _ _ _ _ => lN)
    obtain ⟨arrL, nL, mm, tx9, hints, htx, lF, lN⟩ : ∃ (arrL : Array Value) (nL : Nat) (mm : Str → Option Value) (tx9 : Tok), IntsArr arrL ∧ mm (Str.ofString "text") = some (.str (tx_ ws) tx9) ∧ Fr _ _ _ mm ∧ News _ _ _ [(_, listOf arrL nL)] := ⟨_, _, _, _, ints_three, rfl, lF, lN⟩
    refine my_list (fun jj m nx => nx = [] ∧ m (Str.ofString "text") = some (.str (tx_ ws) tx9)) rfl lF lN (fun p hp => absurd hp (List.not_mem_nil)) ⟨rfl, htx⟩ ?_ ?_
    · rintro i9 v m₁ nx h tk9 own hi9 hown ⟨rfl, hmx⟩ F₁ N₁
      obtain ⟨nb, tnb, rfl⟩ := hints i9 v hi9
      have F₂ : Fr _ _ h (fun y => if y = Str.ofString "number" then some (Value.int nb tnb) else if y = Str.ofString "text" then some (Value.str (tx_ ws) tx9) else m₁ y) := fr_names F₁ (by
        intro y
        (repeat' split) <;> first | rfl | (rename_i e9; rw [e9]; exact hmx.symm))
      have N₂ : News _ _ h own := N₁
      clear F₁ N₁ lF lN hints
      (try k_fold)
      k_steps
      unfold Hold
      (rename Fr _ _ _ _ => lF)
      (rename News _ _ _ _ => lN)
      (rename Obj.IsDictOf _ _ _ => hsm8)
      have hsm9 : Obj.IsDictOf (strKind PySem.Challenge.rw_nt0605_02.row.prog _) _ stPairs := hsm8
      (rename (_ == sysModules) = false => hlo9)
      (rename TextsAre _ _ => hTx)
      (rename List.flatten _ = ws => hfl)
      (rename List (List Nat) => ps)
      (rename Array Value => arr)
      (rename ∀ p ∈ own, _ => hlow)
      (rename _ ∧ _ => l9)
      rename_i qP nn h8 tk8 hpl8
      obtain ⟨vsL, rfl⟩ : ∃ vsL : List Value, arr = vsL.toArray := ⟨arr.toList, by simp⟩
      have N5 := core_of (r := (qP, listOf vsL.toArray nn) :: own) lN (by k_mem) (by k_mem) (by k_mem) (by k_mem) (by k_mem) (by k_mem) (by k_mem) (by k_mem) (by k_mem) (by k_mem) (by k_mem) (by k_mem) (fun p hp => by
        rcases List.mem_cons.mp hp with rfl | hp
        · exact .head _
        · repeat (first | exact hp | apply List.Mem.tail))
      refine start_toks N5 (by constructor <;> first | assumption | omega) (off_cons (off_adr (by omega) (by omega) (by omega) (by omega) (by omega) (by omega) (by omega)) (off_lt hlow (by omega) (by omega) (by omega) (by omega) (by omega) (by omega) (by omega))) hsm9 hlo9 ?_
      clear lN N5 hsm8 hsm9 hlo9 l9
      rintro k0 k1 k2 k3 k4 k5 k6 k7 k8 k9 k10 k11 k12 k13 v0 v1 v2 v3 g0 g1 g2 g3 g4 g5 g6 g7 tb tu tc tl tg th x dx st dst sg se ot er dr ddr da sm osm lay1 rfl hL1 hA1 hsm1 hlo1 lN
      obtain ⟨mm, tf0, hmt, hmf, hmx, lF⟩ : ∃ (mm : Str → Option Value) (tf0 : Tok), mm (Str.ofString "t") = some (.ref x) ∧ mm (Str.ofString "fed") = some (.str (tx_ []) tf0) ∧ mm (Str.ofString "text") = some (.str (tx_ ws) tx9) ∧ Fr _ _ _ mm := ⟨_, _, rfl, by rw [← litN]; rfl, rfl, lF⟩
      refine my_turns (vs := vsL) (ax := qP) (lo := listOf vsL.toArray nn) (fun jj m nx => PieceJ w.params k0 k1 k2 k3 k4 k5 k6 k7 k8 k9 k10 k11 k12 k13 v0 v1 v2 v3 g0 g1 g2 g3 g4 g5 g6 g7 x dx st dst sg se ot er dr ddr da sm osm tb tu tc tl tg th ws ps qP vsL nn own mm jj m nx) rfl lF lN (lay_ex hL1 _ (.head _)) rfl rfl ⟨false, #[], 0, #[], 0, PS.init, tf0, hL1, sgn_nil, rfl, inv_init, hmt, hmf, rfl⟩ (fun i m nx hj => by obtain ⟨rt, vs, ns, vse, nse, σ, tf, hL, _, _, _, _, _, _⟩ := hj; exact lay_ex hL _ (.head _)) ?_ ?_
      · rintro j9 v m₂ nx h5 tk5 I oI hcI hj9 hoff ⟨rt, vs, ns, vse, nse, σ, tf, hL, hV, hrt, hI, hmt1, hmf1, hmx1⟩ F₁ N₁
        obtain ⟨p9, t9, hp9, rfl⟩ := hTx.2 j9 v (by simpa using hj9)
        have hfd := take_flat hp9
        have hle := flat_le hfl (j9 + 1)
        have halq : ∀ c ∈ (ps.take (j9 + 1)).flatten, Alph c := fun c hc => hal9 c (flat_take hfl _ c hc)
        rw [hfd] at hle halq
        have halp : ∀ c ∈ p9, Alph c := fun c hc => halq c (List.mem_append_right _ hc)
        generalize hfe : (ps.take j9).flatten = fed at hL hV hrt hI hmf1 hfd hle halq
        have hl1 : fed.length + p9.length ≤ 24 := by
          rw [List.length_append] at hle
          omega
        have hz1 : (tx_ fed).length ≤ 1000 := by rw [len_]; omega
        have hz2 : (tx_ p9).length ≤ 1000 := by rw [len_]; omega
        have hfl24 : (fed ++ p9).length ≤ 24 := by rw [List.length_append]; omega
        have F₂ : Fr _ _ h5 (fun y => if y = Str.ofString "t" then some (Value.ref x) else if y = Str.ofString "fed" then some (Value.str (tx_ fed) tf) else if y = Str.ofString "text" then some (Value.str (tx_ ws) tx9) else m₂ y) := fr_names F₁ (by
          intro y
          (repeat' split) <;> first | rfl | (rename_i e9; rw [e9]; first | exact hmt1.symm | exact hmf1.symm | exact (hmx1.trans hmx).symm))
        refine lay_put hL hoff N₁ ?_
        clear F₁ N₁ hL hoff lF lN hL1
        intro lay2 hL2 N₂ hO
        have hVf : SgnAre vs (fed.foldl feed1 F0).sg := by rw [fed_sg]; exact hV
        (have hL2' := hL2); (obtain ⟨ic, tic, zc, tzc, dvc, dnc, txc, ttc, voc, noc, vec, nec, roc, e1c, ⟨e2c, e3c, e4c, e5c, e6c⟩, hrc, D1c, D2c, D3c, Uc⟩ := hL2'); subst e1c
        walk1
        walk1
        (try dsimp only)
        (try k_fold)
        k_steps
        unfold Hold
        k_dflt ((refine' (feed_s (f := fed.foldl feed1 F0) hA1 hVf hrt halp ?zdhn ?zdh2 hL2) _ _ _ _ _ _ _ _ _ _ _ _ _ _ _ _ _ ?zdB ?zdF ?zdX ?zdN ?zdT ?zdk ?zdd ?zdu ?_); (case zdF => k_asm); (case zdN => k_asm); (case zdB => k_asm); (case zdX => k_asm); (case zdT => k_asm); (case zdk => first | exact rfl | assumption); (case zdd => ktr_room); (case zdu => ktr_units))
        (case zdhn => (rw [fed_sg]; have h8 := nrm_len false fed; omega))
        (case zdh2 => exact er_le fed F0 (Nat.le_refl _))
        intro rt3 vs3 ns3 vse3 nse3 lay3 h3 tk3 hL3 hV3 hrt3 hF3 hN3
        rw [← fed_app] at hL3 hV3 hrt3
        rw [fed_sg] at hV3
        clear hL2 hrc
        (try k_sweep)
        k_steps
        unfold Hold
        have hI2 : σ.Good (nrm false (fed ++ p9)).length ∧ Inv (nrm false (fed ++ p9)) (σ.run (nrm false (fed ++ p9)) false (σ.mu (nrm false (fed ++ p9)).length)) := by
          have h8 := nrm_len false (fed ++ p9)
          rw [nrm_more] at h8 ⊢
          exact inv_feed hI (by omega)
        k_dflt ((refine' (told_s hA1 hsm1 hlo1 hV3 hI2.1 hI2.2.1 hL3) _ _ _ _ _ _ _ _ _ _ _ _ _ _ _ _ _ ?zeB ?zeF ?zeX ?zeN ?zeT ?zek ?zed ?zeu ?_); (case zeF => k_asm); (case zeN => k_asm); (case zeB => k_asm); (case zeX => k_asm); (case zeT => k_asm); (case zek => first | exact rfl | assumption); (case zed => ktr_room); (case zeu => ktr_units))
        intro q4 tup4 lay4 h4 tk4 hL4 hD4 hF4 hN4
        have hI3 := hI2.2
        rw [told_due hI3, fed_er] at hD4
        generalize σ.run (nrm false (fed ++ p9)) false (σ.mu (nrm false (fed ++ p9)).length) = σ2 at hL4 hI3 hD4
        clear hL3
        (try k_sweep)
        k_steps
        unfold Hold
        rw [app_]
        k_dflt ((refine' (due_c hfl24) _ _ _ _ _ _ _ _ _ _ _ _ _ _ _ _ _ ?zfB ?zfF ?zfX ?zfN ?zfT ?zfk ?zfd ?zfu ?_); (case zfF => k_asm); (case zfN => k_asm); (case zfB => k_asm); (case zfX => k_asm); (case zfT => k_asm); (case zfk => first | exact rfl | assumption); (case zfd => ktr_room); (case zfu => ktr_units))
        intro q5 own5 h7 tk7 hF7 hN7 hD7
        (try k_sweep)
        k_steps
        unfold Hold
        refine same_ne (d := dueD (nrm false (fed ++ p9)) (ctrlU (nrm false (fed ++ p9)) (nrm false (fed ++ p9)).length) false) hN7 (hD4.mono (fun p hp => List.mem_append_right _ hp)) (hD7.mono (fun p hp => List.mem_append_left _ hp)) (ok_due (nrm_lt halq) (ok_ctrl _ _)) (by ktr_units) ?_
        k_steps
        (rename Fr _ _ _ _ => lF7)
        have N8 : News _ _ _ lay4 := fun p hp => hN7 p (List.mem_append_right _ (.tail _ hp))
        refine lay_cut hL4 hcI N8 hO ?_
        intro nx9 hL9 N9 hoff9
        refine TurnEnd.next lF7 N9 hoff9 (PieceJ.mk rt3 vs3 ns3 vse3 nse3 σ2 _ (by rw [hfd]; exact hL9) (by rw [hfd]; exact hV3) (by rw [hfd]; exact hrt3) (by rw [hfd]; exact hI3) rfl (by rw [hfd, ← app_]; rfl) (by rw [hmx]; rfl))
      · rintro m₂ nx h5 tk5 ⟨rt, vs, ns, vse, nse, σ, tf, hL, hV, hrt, hI, hmt1, hmf1, hmx1⟩ F₁ N₁
        have hfull : (ps.take vsL.length).flatten = ws := by
          have h8 : vsL.length = ps.length := by have := hTx.1; simpa using this
          rw [h8, List.take_length, hfl]
        rw [hfull] at hL hV hI hmf1
        have F₂ : Fr _ _ h5 (fun y => if y = Str.ofString "t" then some (Value.ref x) else if y = Str.ofString "fed" then some (Value.str (tx_ ws) tf) else if y = Str.ofString "text" then some (Value.str (tx_ ws) tx9) else m₂ y) := fr_names F₁ (by
          intro y
          (repeat' split) <;> first | rfl | (rename_i e9; rw [e9]; first | exact hmt1.symm | exact hmf1.symm | exact (hmx1.trans hmx).symm))
        clear F₁ lF lN hL1 hfull
        have hL2 := hL
        clear hL
        (have hL2' := hL2); (obtain ⟨ic, tic, zc, tzc, dvc, dnc, txc, ttc, voc, noc, vec, nec, roc, e1c, ⟨e2c, e3c, e4c, e5c, e6c⟩, hrc, D1c, D2c, D3c, Uc⟩ := hL2'); subst e1c
        dsimp only
        (try k_fold)
        k_steps
        unfold Hold
        k_dflt ((refine' (end_s hA1 hL2) _ _ _ _ _ _ _ _ _ _ _ _ _ _ _ _ _ ?zgB ?zgF ?zgX ?zgN ?zgT ?zgk ?zgd ?zgu ?_); (case zgF => k_asm); (case zgN => k_asm); (case zgB => k_asm); (case zgX => k_asm); (case zgT => k_asm); (case zgk => first | exact rfl | assumption); (case zgd => ktr_room); (case zgu => ktr_units))
        intro lay3 h3 tk3 hL3 hF3 hN3
        clear hL2 hrc
        (try k_sweep)
        k_steps
        unfold Hold
        k_dflt ((refine' (told_s hA1 hsm1 hlo1 hV hI.1 (run_good _ _ hI.1) hL3) _ _ _ _ _ _ _ _ _ _ _ _ _ _ _ _ _ ?zhB ?zhF ?zhX ?zhN ?zhT ?zhk ?zhd ?zhu ?_); (case zhF => k_asm); (case zhN => k_asm); (case zhB => k_asm); (case zhX => k_asm); (case zhT => k_asm); (case zhk => first | exact rfl | assumption); (case zhd => ktr_room); (case zhu => ktr_units))
        intro q4 tup4 lay4 h4 tk4 hL4 hD4 hF4 hN4
        rw [told_end hI, fed_er] at hD4
        generalize σ.run (nrm false ws) true (σ.mu (nrm false ws).length) = σ2 at hL4 hD4
        clear hL3
        (try k_sweep)
        k_steps
        unfold Hold
        k_dflt ((refine' (due_c hn9) _ _ _ _ _ _ _ _ _ _ _ _ _ _ _ _ _ ?ziB ?ziF ?ziX ?ziN ?ziT ?zik ?zid ?ziu ?_); (case ziF => k_asm); (case ziN => k_asm); (case ziB => k_asm); (case ziX => k_asm); (case ziT => k_asm); (case zik => first | exact rfl | assumption); (case zid => ktr_room); (case ziu => ktr_units))
        intro q5 own5 h7 tk7 hF7 hN7 hD7
        (try k_sweep)
        k_steps
        unfold Hold
        refine same_ne (d := dueD (nrm false ws) (ctrlU (nrm false ws) (nrm false ws).length) true) hN7 (hD4.mono (fun p hp => List.mem_append_right _ hp)) (hD7.mono (fun p hp => List.mem_append_left _ hp)) (ok_due (nrm_lt hal9) (ok_ctrl _ _)) (by ktr_units) ?_
        have N8 : News _ _ _ lay4 := fun p hp => hN7 p (List.mem_append_right _ (.tail _ hp))
        clear hN7 hD4 hD7
        (have hL4' := hL4); (obtain ⟨ie, tie, ze, tze, dve, dne, txe, tte, voe, noe, vee, nee, roe, e1e, ⟨e2e, e3e, e4e, e5e, e6e⟩, hre, D1e, D2e, D3e, Ue⟩ := hL4'); subst e1e
        k_steps
        (rename Fr _ _ _ _ => lF9)
        (rename News _ _ _ _ => lN9)
        exact my_end [] lF9 lN9 ⟨rfl, rfl⟩ (fun p hp b hb => absurd hb (List.not_mem_nil)) (fun p hp => List.mem_append_right [_, _, _, _, _, _, _, _, _, _, _, _] (List.mem_append_right _ (.tail _ hp)))
    · rintro m₁ nx h tk9 ⟨rfl, hmx⟩ F₁ N₁
      clear lF lN
      (try k_fold)
      k_steps
      exact hq _ _ _ (by k_asm))
end
end Mine
end
theorem PySem.Challenge.cw_nt0605_02_holds : PySem.Challenge.rw_nt0605_02.Holds :=
  Mine.mainT
