import PyProof.Rows.All
import Wide.All
import OpenK.AllK
import Wide.FinOn
import Lean
import PySem.Challenge.RW_on0169_01
open PySem PySem.W PyProof.Rows PySem.Calls
set_option Elab.async false
set_option maxRecDepth 100000
set_option maxHeartbeats 8000000
set_option linter.all false
set_option linter.unusedVariables false
namespace Mine
noncomputable abbrev pr : Program := PySem.Challenge.rw_on0169_01.row.toRowW.1
noncomputable abbrev B : List Stmt := PySem.Challenge.pw_on0169_01.main.body
noncomputable def sAt (l : List Stmt) (i : Nat) : Stmt := l.getD i (.Pass ⟨0, 0, 0, 0⟩)
noncomputable def fA : Stmt → Arguments
  | .FunctionDef _ a .. => a
  | _ => ⟨[], [], none, [], [], none, []⟩
noncomputable def fB : Stmt → List Stmt
  | .FunctionDef _ _ b .. => b
  | _ => []
noncomputable def fS : Stmt → Scope
  | .FunctionDef _ _ _ _ _ _ s .. => s
  | _ => default
noncomputable def cB : Stmt → List Stmt
  | .ClassDef _ _ _ b .. => b
  | _ => []
noncomputable def t0 : Stmt := by
  refine (?f : (?K = sAt B 0) → Stmt) ?pf
  case pf => conv => rhs; whnf
  case f => exact fun _ => ?K
noncomputable def t1 : Stmt := by
  refine (?f : (?K = sAt B 1) → Stmt) ?pf
  case pf => conv => rhs; whnf
  case f => exact fun _ => ?K
noncomputable def t2 : Stmt := by
  refine (?f : (?K = sAt B 2) → Stmt) ?pf
  case pf => conv => rhs; whnf
  case f => exact fun _ => ?K
noncomputable def t3 : Stmt := by
  refine (?f : (?K = sAt B 3) → Stmt) ?pf
  case pf => conv => rhs; whnf
  case f => exact fun _ => ?K
noncomputable def t4 : Stmt := by
  refine (?f : (?K = sAt B 4) → Stmt) ?pf
  case pf => conv => rhs; whnf
  case f => exact fun _ => ?K
noncomputable def t5 : Stmt := by
  refine (?f : (?K = sAt B 5) → Stmt) ?pf
  case pf => conv => rhs; whnf
  case f => exact fun _ => ?K
noncomputable def t6 : Stmt := by
  refine (?f : (?K = sAt B 6) → Stmt) ?pf
  case pf => conv => rhs; whnf
  case f => exact fun _ => ?K
noncomputable def t7 : Stmt := by
  refine (?f : (?K = sAt B 7) → Stmt) ?pf
  case pf => conv => rhs; whnf
  case f => exact fun _ => ?K
noncomputable def t8 : Stmt := by
  refine (?f : (?K = sAt B 8) → Stmt) ?pf
  case pf => conv => rhs; whnf
  case f => exact fun _ => ?K
noncomputable def t9 : Stmt := by
  refine (?f : (?K = sAt B 9) → Stmt) ?pf
  case pf => conv => rhs; whnf
  case f => exact fun _ => ?K
noncomputable def t10 : Stmt := by
  refine (?f : (?K = sAt B 10) → Stmt) ?pf
  case pf => conv => rhs; whnf
  case f => exact fun _ => ?K
noncomputable def t11 : Stmt := by
  refine (?f : (?K = sAt B 11) → Stmt) ?pf
  case pf => conv => rhs; whnf
  case f => exact fun _ => ?K
noncomputable def t12 : Stmt := by
  refine (?f : (?K = sAt B 12) → Stmt) ?pf
  case pf => conv => rhs; whnf
  case f => exact fun _ => ?K
noncomputable def t13 : Stmt := by
  refine (?f : (?K = sAt B 13) → Stmt) ?pf
  case pf => conv => rhs; whnf
  case f => exact fun _ => ?K
noncomputable def t14 : Stmt := by
  refine (?f : (?K = sAt B 14) → Stmt) ?pf
  case pf => conv => rhs; whnf
  case f => exact fun _ => ?K
noncomputable def t15 : Stmt := by
  refine (?f : (?K = sAt B 15) → Stmt) ?pf
  case pf => conv => rhs; whnf
  case f => exact fun _ => ?K
noncomputable def t16 : Stmt := by
  refine (?f : (?K = sAt B 16) → Stmt) ?pf
  case pf => conv => rhs; whnf
  case f => exact fun _ => ?K
noncomputable def t17 : Stmt := by
  refine (?f : (?K = sAt B 17) → Stmt) ?pf
  case pf => conv => rhs; whnf
  case f => exact fun _ => ?K
noncomputable def t18 : Stmt := by
  refine (?f : (?K = sAt B 18) → Stmt) ?pf
  case pf => conv => rhs; whnf
  case f => exact fun _ => ?K
noncomputable def t19 : Stmt := by
  refine (?f : (?K = sAt B 19) → Stmt) ?pf
  case pf => conv => rhs; whnf
  case f => exact fun _ => ?K
noncomputable def t20 : Stmt := by
  refine (?f : (?K = sAt B 20) → Stmt) ?pf
  case pf => conv => rhs; whnf
  case f => exact fun _ => ?K
noncomputable def t21 : Stmt := by
  refine (?f : (?K = sAt B 21) → Stmt) ?pf
  case pf => conv => rhs; whnf
  case f => exact fun _ => ?K
noncomputable def t22 : Stmt := by
  refine (?f : (?K = sAt B 22) → Stmt) ?pf
  case pf => conv => rhs; whnf
  case f => exact fun _ => ?K
noncomputable def t23 : Stmt := by
  refine (?f : (?K = sAt B 23) → Stmt) ?pf
  case pf => conv => rhs; whnf
  case f => exact fun _ => ?K
noncomputable def t24 : Stmt := by
  refine (?f : (?K = sAt B 24) → Stmt) ?pf
  case pf => conv => rhs; whnf
  case f => exact fun _ => ?K
noncomputable def t25 : Stmt := by
  refine (?f : (?K = sAt B 25) → Stmt) ?pf
  case pf => conv => rhs; whnf
  case f => exact fun _ => ?K
noncomputable def a0 : Arguments := by
  refine (?f : (?K = fA (sAt B 0)) → Arguments) ?pf
  case pf => conv => rhs; whnf
  case f => exact fun _ => ?K
noncomputable def b0 : List Stmt := by
  refine (?f : (?K = fB (sAt B 0)) → List Stmt) ?pf
  case pf => conv => rhs; whnf
  case f => exact fun _ => ?K
noncomputable def c0 : Scope := by
  refine (?f : (?K = fS (sAt B 0)) → Scope) ?pf
  case pf => conv => rhs; whnf; (try dsimp only)
  case f => exact fun _ => ?K
noncomputable def a2 : Arguments := by
  refine (?f : (?K = fA (sAt B 2)) → Arguments) ?pf
  case pf => conv => rhs; whnf
  case f => exact fun _ => ?K
noncomputable def b2 : List Stmt := by
  refine (?f : (?K = fB (sAt B 2)) → List Stmt) ?pf
  case pf => conv => rhs; whnf
  case f => exact fun _ => ?K
noncomputable def c2 : Scope := by
  refine (?f : (?K = fS (sAt B 2)) → Scope) ?pf
  case pf => conv => rhs; whnf; (try dsimp only)
  case f => exact fun _ => ?K
noncomputable def a4 : Arguments := by
  refine (?f : (?K = fA (sAt B 4)) → Arguments) ?pf
  case pf => conv => rhs; whnf
  case f => exact fun _ => ?K
noncomputable def b4 : List Stmt := by
  refine (?f : (?K = fB (sAt B 4)) → List Stmt) ?pf
  case pf => conv => rhs; whnf
  case f => exact fun _ => ?K
noncomputable def c4 : Scope := by
  refine (?f : (?K = fS (sAt B 4)) → Scope) ?pf
  case pf => conv => rhs; whnf; (try dsimp only)
  case f => exact fun _ => ?K
noncomputable def a5 : Arguments := by
  refine (?f : (?K = fA (sAt B 5)) → Arguments) ?pf
  case pf => conv => rhs; whnf
  case f => exact fun _ => ?K
noncomputable def b5 : List Stmt := by
  refine (?f : (?K = fB (sAt B 5)) → List Stmt) ?pf
  case pf => conv => rhs; whnf
  case f => exact fun _ => ?K
noncomputable def c5 : Scope := by
  refine (?f : (?K = fS (sAt B 5)) → Scope) ?pf
  case pf => conv => rhs; whnf; (try dsimp only)
  case f => exact fun _ => ?K
noncomputable def a6 : Arguments := by
  refine (?f : (?K = fA (sAt B 6)) → Arguments) ?pf
  case pf => conv => rhs; whnf
  case f => exact fun _ => ?K
noncomputable def b6 : List Stmt := by
  refine (?f : (?K = fB (sAt B 6)) → List Stmt) ?pf
  case pf => conv => rhs; whnf
  case f => exact fun _ => ?K
noncomputable def c6 : Scope := by
  refine (?f : (?K = fS (sAt B 6)) → Scope) ?pf
  case pf => conv => rhs; whnf; (try dsimp only)
  case f => exact fun _ => ?K
noncomputable def a7 : Arguments := by
  refine (?f : (?K = fA (sAt B 7)) → Arguments) ?pf
  case pf => conv => rhs; whnf
  case f => exact fun _ => ?K
noncomputable def b7 : List Stmt := by
  refine (?f : (?K = fB (sAt B 7)) → List Stmt) ?pf
  case pf => conv => rhs; whnf
  case f => exact fun _ => ?K
noncomputable def c7 : Scope := by
  refine (?f : (?K = fS (sAt B 7)) → Scope) ?pf
  case pf => conv => rhs; whnf; (try dsimp only)
  case f => exact fun _ => ?K
noncomputable def a8 : Arguments := by
  refine (?f : (?K = fA (sAt B 8)) → Arguments) ?pf
  case pf => conv => rhs; whnf
  case f => exact fun _ => ?K
noncomputable def b8 : List Stmt := by
  refine (?f : (?K = fB (sAt B 8)) → List Stmt) ?pf
  case pf => conv => rhs; whnf
  case f => exact fun _ => ?K
noncomputable def c8 : Scope := by
  refine (?f : (?K = fS (sAt B 8)) → Scope) ?pf
  case pf => conv => rhs; whnf; (try dsimp only)
  case f => exact fun _ => ?K
noncomputable def a9 : Arguments := by
  refine (?f : (?K = fA (sAt B 9)) → Arguments) ?pf
  case pf => conv => rhs; whnf
  case f => exact fun _ => ?K
noncomputable def b9 : List Stmt := by
  refine (?f : (?K = fB (sAt B 9)) → List Stmt) ?pf
  case pf => conv => rhs; whnf
  case f => exact fun _ => ?K
noncomputable def c9 : Scope := by
  refine (?f : (?K = fS (sAt B 9)) → Scope) ?pf
  case pf => conv => rhs; whnf; (try dsimp only)
  case f => exact fun _ => ?K
noncomputable def a11 : Arguments := by
  refine (?f : (?K = fA (sAt B 11)) → Arguments) ?pf
  case pf => conv => rhs; whnf
  case f => exact fun _ => ?K
noncomputable def b11 : List Stmt := by
  refine (?f : (?K = fB (sAt B 11)) → List Stmt) ?pf
  case pf => conv => rhs; whnf
  case f => exact fun _ => ?K
noncomputable def c11 : Scope := by
  refine (?f : (?K = fS (sAt B 11)) → Scope) ?pf
  case pf => conv => rhs; whnf; (try dsimp only)
  case f => exact fun _ => ?K
noncomputable def a12 : Arguments := by
  refine (?f : (?K = fA (sAt B 12)) → Arguments) ?pf
  case pf => conv => rhs; whnf
  case f => exact fun _ => ?K
noncomputable def b12 : List Stmt := by
  refine (?f : (?K = fB (sAt B 12)) → List Stmt) ?pf
  case pf => conv => rhs; whnf
  case f => exact fun _ => ?K
noncomputable def c12 : Scope := by
  refine (?f : (?K = fS (sAt B 12)) → Scope) ?pf
  case pf => conv => rhs; whnf; (try dsimp only)
  case f => exact fun _ => ?K
noncomputable def a13 : Arguments := by
  refine (?f : (?K = fA (sAt B 13)) → Arguments) ?pf
  case pf => conv => rhs; whnf
  case f => exact fun _ => ?K
noncomputable def b13 : List Stmt := by
  refine (?f : (?K = fB (sAt B 13)) → List Stmt) ?pf
  case pf => conv => rhs; whnf
  case f => exact fun _ => ?K
noncomputable def c13 : Scope := by
  refine (?f : (?K = fS (sAt B 13)) → Scope) ?pf
  case pf => conv => rhs; whnf; (try dsimp only)
  case f => exact fun _ => ?K
noncomputable def a14 : Arguments := by
  refine (?f : (?K = fA (sAt B 14)) → Arguments) ?pf
  case pf => conv => rhs; whnf
  case f => exact fun _ => ?K
noncomputable def b14 : List Stmt := by
  refine (?f : (?K = fB (sAt B 14)) → List Stmt) ?pf
  case pf => conv => rhs; whnf
  case f => exact fun _ => ?K
noncomputable def c14 : Scope := by
  refine (?f : (?K = fS (sAt B 14)) → Scope) ?pf
  case pf => conv => rhs; whnf; (try dsimp only)
  case f => exact fun _ => ?K
noncomputable def a15 : Arguments := by
  refine (?f : (?K = fA (sAt B 15)) → Arguments) ?pf
  case pf => conv => rhs; whnf
  case f => exact fun _ => ?K
noncomputable def b15 : List Stmt := by
  refine (?f : (?K = fB (sAt B 15)) → List Stmt) ?pf
  case pf => conv => rhs; whnf
  case f => exact fun _ => ?K
noncomputable def c15 : Scope := by
  refine (?f : (?K = fS (sAt B 15)) → Scope) ?pf
  case pf => conv => rhs; whnf; (try dsimp only)
  case f => exact fun _ => ?K
noncomputable def a16 : Arguments := by
  refine (?f : (?K = fA (sAt B 16)) → Arguments) ?pf
  case pf => conv => rhs; whnf
  case f => exact fun _ => ?K
noncomputable def b16 : List Stmt := by
  refine (?f : (?K = fB (sAt B 16)) → List Stmt) ?pf
  case pf => conv => rhs; whnf
  case f => exact fun _ => ?K
noncomputable def c16 : Scope := by
  refine (?f : (?K = fS (sAt B 16)) → Scope) ?pf
  case pf => conv => rhs; whnf; (try dsimp only)
  case f => exact fun _ => ?K
noncomputable def a18x0 : Arguments := by
  refine (?f : (?K = fA (sAt (cB (sAt B 18)) 0)) → Arguments) ?pf
  case pf => conv => rhs; whnf
  case f => exact fun _ => ?K
noncomputable def b18x0 : List Stmt := by
  refine (?f : (?K = fB (sAt (cB (sAt B 18)) 0)) → List Stmt) ?pf
  case pf => conv => rhs; whnf
  case f => exact fun _ => ?K
noncomputable def c18x0 : Scope := by
  refine (?f : (?K = fS (sAt (cB (sAt B 18)) 0)) → Scope) ?pf
  case pf => conv => rhs; whnf; (try dsimp only)
  case f => exact fun _ => ?K
noncomputable def a18x1 : Arguments := by
  refine (?f : (?K = fA (sAt (cB (sAt B 18)) 1)) → Arguments) ?pf
  case pf => conv => rhs; whnf
  case f => exact fun _ => ?K
noncomputable def b18x1 : List Stmt := by
  refine (?f : (?K = fB (sAt (cB (sAt B 18)) 1)) → List Stmt) ?pf
  case pf => conv => rhs; whnf
  case f => exact fun _ => ?K
noncomputable def c18x1 : Scope := by
  refine (?f : (?K = fS (sAt (cB (sAt B 18)) 1)) → Scope) ?pf
  case pf => conv => rhs; whnf; (try dsimp only)
  case f => exact fun _ => ?K
noncomputable def a18x2 : Arguments := by
  refine (?f : (?K = fA (sAt (cB (sAt B 18)) 2)) → Arguments) ?pf
  case pf => conv => rhs; whnf
  case f => exact fun _ => ?K
noncomputable def b18x2 : List Stmt := by
  refine (?f : (?K = fB (sAt (cB (sAt B 18)) 2)) → List Stmt) ?pf
  case pf => conv => rhs; whnf
  case f => exact fun _ => ?K
noncomputable def c18x2 : Scope := by
  refine (?f : (?K = fS (sAt (cB (sAt B 18)) 2)) → Scope) ?pf
  case pf => conv => rhs; whnf; (try dsimp only)
  case f => exact fun _ => ?K
noncomputable def a19x0 : Arguments := by
  refine (?f : (?K = fA (sAt (cB (sAt B 19)) 0)) → Arguments) ?pf
  case pf => conv => rhs; whnf
  case f => exact fun _ => ?K
noncomputable def b19x0 : List Stmt := by
  refine (?f : (?K = fB (sAt (cB (sAt B 19)) 0)) → List Stmt) ?pf
  case pf => conv => rhs; whnf
  case f => exact fun _ => ?K
noncomputable def c19x0 : Scope := by
  refine (?f : (?K = fS (sAt (cB (sAt B 19)) 0)) → Scope) ?pf
  case pf => conv => rhs; whnf; (try dsimp only)
  case f => exact fun _ => ?K
noncomputable def a19x1 : Arguments := by
  refine (?f : (?K = fA (sAt (cB (sAt B 19)) 1)) → Arguments) ?pf
  case pf => conv => rhs; whnf
  case f => exact fun _ => ?K
noncomputable def b19x1 : List Stmt := by
  refine (?f : (?K = fB (sAt (cB (sAt B 19)) 1)) → List Stmt) ?pf
  case pf => conv => rhs; whnf
  case f => exact fun _ => ?K
noncomputable def c19x1 : Scope := by
  refine (?f : (?K = fS (sAt (cB (sAt B 19)) 1)) → Scope) ?pf
  case pf => conv => rhs; whnf; (try dsimp only)
  case f => exact fun _ => ?K
noncomputable def a19x2 : Arguments := by
  refine (?f : (?K = fA (sAt (cB (sAt B 19)) 2)) → Arguments) ?pf
  case pf => conv => rhs; whnf
  case f => exact fun _ => ?K
noncomputable def b19x2 : List Stmt := by
  refine (?f : (?K = fB (sAt (cB (sAt B 19)) 2)) → List Stmt) ?pf
  case pf => conv => rhs; whnf
  case f => exact fun _ => ?K
noncomputable def c19x2 : Scope := by
  refine (?f : (?K = fS (sAt (cB (sAt B 19)) 2)) → Scope) ?pf
  case pf => conv => rhs; whnf; (try dsimp only)
  case f => exact fun _ => ?K
noncomputable def a19x3 : Arguments := by
  refine (?f : (?K = fA (sAt (cB (sAt B 19)) 3)) → Arguments) ?pf
  case pf => conv => rhs; whnf
  case f => exact fun _ => ?K
noncomputable def b19x3 : List Stmt := by
  refine (?f : (?K = fB (sAt (cB (sAt B 19)) 3)) → List Stmt) ?pf
  case pf => conv => rhs; whnf
  case f => exact fun _ => ?K
noncomputable def c19x3 : Scope := by
  refine (?f : (?K = fS (sAt (cB (sAt B 19)) 3)) → Scope) ?pf
  case pf => conv => rhs; whnf; (try dsimp only)
  case f => exact fun _ => ?K
noncomputable def a19x4 : Arguments := by
  refine (?f : (?K = fA (sAt (cB (sAt B 19)) 4)) → Arguments) ?pf
  case pf => conv => rhs; whnf
  case f => exact fun _ => ?K
noncomputable def b19x4 : List Stmt := by
  refine (?f : (?K = fB (sAt (cB (sAt B 19)) 4)) → List Stmt) ?pf
  case pf => conv => rhs; whnf
  case f => exact fun _ => ?K
noncomputable def c19x4 : Scope := by
  refine (?f : (?K = fS (sAt (cB (sAt B 19)) 4)) → Scope) ?pf
  case pf => conv => rhs; whnf; (try dsimp only)
  case f => exact fun _ => ?K
noncomputable def a19x5 : Arguments := by
  refine (?f : (?K = fA (sAt (cB (sAt B 19)) 5)) → Arguments) ?pf
  case pf => conv => rhs; whnf
  case f => exact fun _ => ?K
noncomputable def b19x5 : List Stmt := by
  refine (?f : (?K = fB (sAt (cB (sAt B 19)) 5)) → List Stmt) ?pf
  case pf => conv => rhs; whnf
  case f => exact fun _ => ?K
noncomputable def c19x5 : Scope := by
  refine (?f : (?K = fS (sAt (cB (sAt B 19)) 5)) → Scope) ?pf
  case pf => conv => rhs; whnf; (try dsimp only)
  case f => exact fun _ => ?K
noncomputable def a19x6 : Arguments := by
  refine (?f : (?K = fA (sAt (cB (sAt B 19)) 6)) → Arguments) ?pf
  case pf => conv => rhs; whnf
  case f => exact fun _ => ?K
noncomputable def b19x6 : List Stmt := by
  refine (?f : (?K = fB (sAt (cB (sAt B 19)) 6)) → List Stmt) ?pf
  case pf => conv => rhs; whnf
  case f => exact fun _ => ?K
noncomputable def c19x6 : Scope := by
  refine (?f : (?K = fS (sAt (cB (sAt B 19)) 6)) → Scope) ?pf
  case pf => conv => rhs; whnf; (try dsimp only)
  case f => exact fun _ => ?K
noncomputable def a20x0 : Arguments := by
  refine (?f : (?K = fA (sAt (cB (sAt B 20)) 0)) → Arguments) ?pf
  case pf => conv => rhs; whnf
  case f => exact fun _ => ?K
noncomputable def b20x0 : List Stmt := by
  refine (?f : (?K = fB (sAt (cB (sAt B 20)) 0)) → List Stmt) ?pf
  case pf => conv => rhs; whnf
  case f => exact fun _ => ?K
noncomputable def c20x0 : Scope := by
  refine (?f : (?K = fS (sAt (cB (sAt B 20)) 0)) → Scope) ?pf
  case pf => conv => rhs; whnf; (try dsimp only)
  case f => exact fun _ => ?K
noncomputable def a20x1 : Arguments := by
  refine (?f : (?K = fA (sAt (cB (sAt B 20)) 1)) → Arguments) ?pf
  case pf => conv => rhs; whnf
  case f => exact fun _ => ?K
noncomputable def b20x1 : List Stmt := by
  refine (?f : (?K = fB (sAt (cB (sAt B 20)) 1)) → List Stmt) ?pf
  case pf => conv => rhs; whnf
  case f => exact fun _ => ?K
noncomputable def c20x1 : Scope := by
  refine (?f : (?K = fS (sAt (cB (sAt B 20)) 1)) → Scope) ?pf
  case pf => conv => rhs; whnf; (try dsimp only)
  case f => exact fun _ => ?K
noncomputable def a20x2 : Arguments := by
  refine (?f : (?K = fA (sAt (cB (sAt B 20)) 2)) → Arguments) ?pf
  case pf => conv => rhs; whnf
  case f => exact fun _ => ?K
noncomputable def b20x2 : List Stmt := by
  refine (?f : (?K = fB (sAt (cB (sAt B 20)) 2)) → List Stmt) ?pf
  case pf => conv => rhs; whnf
  case f => exact fun _ => ?K
noncomputable def c20x2 : Scope := by
  refine (?f : (?K = fS (sAt (cB (sAt B 20)) 2)) → Scope) ?pf
  case pf => conv => rhs; whnf; (try dsimp only)
  case f => exact fun _ => ?K
noncomputable def a20x3 : Arguments := by
  refine (?f : (?K = fA (sAt (cB (sAt B 20)) 3)) → Arguments) ?pf
  case pf => conv => rhs; whnf
  case f => exact fun _ => ?K
noncomputable def b20x3 : List Stmt := by
  refine (?f : (?K = fB (sAt (cB (sAt B 20)) 3)) → List Stmt) ?pf
  case pf => conv => rhs; whnf
  case f => exact fun _ => ?K
noncomputable def c20x3 : Scope := by
  refine (?f : (?K = fS (sAt (cB (sAt B 20)) 3)) → Scope) ?pf
  case pf => conv => rhs; whnf; (try dsimp only)
  case f => exact fun _ => ?K
noncomputable def a20x4 : Arguments := by
  refine (?f : (?K = fA (sAt (cB (sAt B 20)) 4)) → Arguments) ?pf
  case pf => conv => rhs; whnf
  case f => exact fun _ => ?K
noncomputable def b20x4 : List Stmt := by
  refine (?f : (?K = fB (sAt (cB (sAt B 20)) 4)) → List Stmt) ?pf
  case pf => conv => rhs; whnf
  case f => exact fun _ => ?K
noncomputable def c20x4 : Scope := by
  refine (?f : (?K = fS (sAt (cB (sAt B 20)) 4)) → Scope) ?pf
  case pf => conv => rhs; whnf; (try dsimp only)
  case f => exact fun _ => ?K
noncomputable def a20x5 : Arguments := by
  refine (?f : (?K = fA (sAt (cB (sAt B 20)) 5)) → Arguments) ?pf
  case pf => conv => rhs; whnf
  case f => exact fun _ => ?K
noncomputable def b20x5 : List Stmt := by
  refine (?f : (?K = fB (sAt (cB (sAt B 20)) 5)) → List Stmt) ?pf
  case pf => conv => rhs; whnf
  case f => exact fun _ => ?K
noncomputable def c20x5 : Scope := by
  refine (?f : (?K = fS (sAt (cB (sAt B 20)) 5)) → Scope) ?pf
  case pf => conv => rhs; whnf; (try dsimp only)
  case f => exact fun _ => ?K
noncomputable def a22 : Arguments := by
  refine (?f : (?K = fA (sAt B 22)) → Arguments) ?pf
  case pf => conv => rhs; whnf
  case f => exact fun _ => ?K
noncomputable def b22 : List Stmt := by
  refine (?f : (?K = fB (sAt B 22)) → List Stmt) ?pf
  case pf => conv => rhs; whnf
  case f => exact fun _ => ?K
noncomputable def c22 : Scope := by
  refine (?f : (?K = fS (sAt B 22)) → Scope) ?pf
  case pf => conv => rhs; whnf; (try dsimp only)
  case f => exact fun _ => ?K
noncomputable def a23 : Arguments := by
  refine (?f : (?K = fA (sAt B 23)) → Arguments) ?pf
  case pf => conv => rhs; whnf
  case f => exact fun _ => ?K
noncomputable def b23 : List Stmt := by
  refine (?f : (?K = fB (sAt B 23)) → List Stmt) ?pf
  case pf => conv => rhs; whnf
  case f => exact fun _ => ?K
noncomputable def c23 : Scope := by
  refine (?f : (?K = fS (sAt B 23)) → Scope) ?pf
  case pf => conv => rhs; whnf; (try dsimp only)
  case f => exact fun _ => ?K
noncomputable def a24 : Arguments := by
  refine (?f : (?K = fA (sAt B 24)) → Arguments) ?pf
  case pf => conv => rhs; whnf
  case f => exact fun _ => ?K
noncomputable def b24 : List Stmt := by
  refine (?f : (?K = fB (sAt B 24)) → List Stmt) ?pf
  case pf => conv => rhs; whnf
  case f => exact fun _ => ?K
noncomputable def c24 : Scope := by
  refine (?f : (?K = fS (sAt B 24)) → Scope) ?pf
  case pf => conv => rhs; whnf; (try dsimp only)
  case f => exact fun _ => ?K
noncomputable def a25 : Arguments := by
  refine (?f : (?K = fA (sAt B 25)) → Arguments) ?pf
  case pf => conv => rhs; whnf
  case f => exact fun _ => ?K
noncomputable def b25 : List Stmt := by
  refine (?f : (?K = fB (sAt B 25)) → List Stmt) ?pf
  case pf => conv => rhs; whnf
  case f => exact fun _ => ?K
noncomputable def c25 : Scope := by
  refine (?f : (?K = fS (sAt B 25)) → Scope) ?pf
  case pf => conv => rhs; whnf; (try dsimp only)
  case f => exact fun _ => ?K
noncomputable def o43 : Params → Obj := fun P => { cls := Value.type "tuple", data := Data.seq #[] }
noncomputable def o44 : Params → Obj := fun P => { cls := Value.none, data := Data.fields #[] }
noncomputable def o45 : Params → Obj := fun P => { cls := Value.type "code", data := Data.fields #[Value.str (Str.ofString "<module>") 182, Value.str (Str.ofString "<module>") 183, Value.str (Str.ofString "/claim/cut.py") 184, Value.int 1 0, Value.int 0 0, Value.int 0 0, Value.int 0 0, Value.int 0 0, Value.ref 11, Value.bool false, Value.int 181 0, Value.ref 12, Value.none, Value.none, Value.none, Value.none, Value.int 185 0, Value.int 1 0, Value.str (Str.ofString "/claim/cut.py") 186] }
noncomputable def o46 : Params → Obj := fun P => { cls := Value.type "frame", slots := #[some (Value.ref 13), some (Value.ref 3), some (Value.ref 3), none, some (Value.str (Str.ofString "__main__") 164), none, some (Value.ref 0)] }
noncomputable def o49 : Params → Obj := fun P => { cls := Value.type "dict", data := Data.dict #[{ hash := PyData.keyHash P (Str.ofString "__name__"), key := Value.str (Str.ofString "__name__") 165, val := Value.str (Str.ofString "grammarmill.lexlook") 265 }, { hash := PyData.keyHash P (Str.ofString "__doc__"), key := Value.str (Str.ofString "__doc__") 166, val := Value.none }, { hash := PyData.keyHash P (Str.ofString "__package__"), key := Value.str (Str.ofString "__package__") 167, val := Value.none }, { hash := PyData.keyHash P (Str.ofString "__loader__"), key := Value.str (Str.ofString "__loader__") 168, val := Value.builtin "__main__.__loader__#opaque" }, { hash := PyData.keyHash P (Str.ofString "__spec__"), key := Value.str (Str.ofString "__spec__") 169, val := Value.none }, { hash := PyData.keyHash P (Str.ofString "__annotations__"), key := Value.str (Str.ofString "__annotations__") 170, val := Value.ref 6 }, { hash := PyData.keyHash P (Str.ofString "__builtins__"), key := Value.str (Str.ofString "__builtins__") 171, val := Value.ref 4 }, { hash := PyData.keyHash P (Str.ofString "__file__"), key := Value.str (Str.ofString "__file__") 173, val := Value.str (Str.ofString "/claim/cut.py") 172 }, { hash := PyData.keyHash P (Str.ofString "__cached__"), key := Value.str (Str.ofString "__cached__") 174, val := Value.none }, { hash := PyData.keyHash P (Str.ofString "_wall"), key := Value.str (Str.ofString "_wall") 193, val := Value.ref 21 }, { hash := PyData.keyHash P (Str.ofString "spine"), key := Value.str (Str.ofString "spine") 204, val := Value.ref 28 }, { hash := PyData.keyHash P (Str.ofString "can_be_empty"), key := Value.str (Str.ofString "can_be_empty") 214, val := Value.ref 35 }, { hash := PyData.keyHash P (Str.ofString "least_length"), key := Value.str (Str.ofString "least_length") 225, val := Value.ref 42 }, { hash := PyData.keyHash P (Str.ofString "most_length"), key := Value.str (Str.ofString "most_length") 235, val := Value.ref 49 }, { hash := PyData.keyHash P (Str.ofString "most_of_row"), key := Value.str (Str.ofString "most_of_row") 246, val := Value.ref 56 }, { hash := PyData.keyHash P (Str.ofString "most_of_loop"), key := Value.str (Str.ofString "most_of_loop") 256, val := Value.ref 63 }, { hash := PyData.keyHash P (Str.ofString "fixed_length"), key := Value.str (Str.ofString "fixed_length") 264, val := Value.ref 70 }, { hash := PyData.keyHash P (Str.ofString "kinds_of"), key := Value.str (Str.ofString "kinds_of") 276, val := Value.ref 77 }, { hash := PyData.keyHash P (Str.ofString "entered"), key := Value.str (Str.ofString "entered") 289, val := Value.ref 84 }, { hash := PyData.keyHash P (Str.ofString "can_match"), key := Value.str (Str.ofString "can_match") 297, val := Value.ref 91 }] 20 }
noncomputable def o50 : Params → Obj := fun P => { cls := Value.none, data := Data.fields #[Value.int 1 0, Value.int 0 0, Value.ref 20, Value.int 5 0, Value.int 0 0, Value.ref 27, Value.int 15 0, Value.int 0 0, Value.ref 34, Value.int 33 0, Value.int 0 0, Value.ref 41, Value.int 59 0, Value.int 0 0, Value.ref 48, Value.int 77 0, Value.int 0 0, Value.ref 55, Value.int 89 0, Value.int 0 0, Value.ref 62, Value.int 110 0, Value.int 0 0, Value.ref 69, Value.int 116 0, Value.int 0 0, Value.ref 76, Value.int 123 0, Value.int 0 0, Value.ref 83, Value.int 137 0, Value.int 0 0, Value.ref 90] }
noncomputable def o51 : Params → Obj := fun P => { cls := Value.type "tuple", data := Data.seq #[] }
noncomputable def o52 : Params → Obj := fun P => { cls := Value.none, data := Data.fields #[] }
noncomputable def o53 : Params → Obj := fun P => { cls := Value.type "tuple", data := Data.seq #[Value.str (Str.ofString "k") 190] }
noncomputable def o54 : Params → Obj := fun P => { cls := Value.type "tuple", data := Data.seq #[] }
noncomputable def o55 : Params → Obj := by
  refine (?f : (?K = (fun P => { cls := Value.none, data := Data.func { name := Str.ofString "_wall", qualname := Str.ofString "_wall", params := a0, body := FuncBody.stmts b0, scope := c0, globals := 0, closure := [], defaults := Value.none, kwdefaults := Value.none } } : Params → Obj)) → Params → Obj) ?pf
  case pf => (delta a0 b0 c0; rfl)
  case f => exact fun _ => ?K
noncomputable def o56 : Params → Obj := fun P => { cls := Value.type "code", data := Data.fields #[Value.str (Str.ofString "_wall") 187, Value.str (Str.ofString "_wall") 188, Value.str (Str.ofString "/claim/cut.py") 189, Value.int 1 0, Value.int 1 0, Value.int 0 0, Value.int 0 0, Value.int 3 0, Value.ref 15, Value.bool true, Value.int 181 0, Value.ref 16, Value.none, Value.ref 17, Value.ref 18, Value.ref 19, Value.int 191 0, Value.int 1 0, Value.str (Str.ofString "/claim/cut.py") 192] }
noncomputable def o57 : Params → Obj := by
  refine (?f : (?K = (fun P => { cls := Value.type "function", data := Data.func { name := Str.ofString "_wall", qualname := Str.ofString "_wall", params := a0, body := FuncBody.stmts b0, scope := c0, globals := 3, closure := [], defaults := Value.none, kwdefaults := Value.none, pyModule := Value.str (Str.ofString "__main__") 164, code := Value.ref 20 } } : Params → Obj)) → Params → Obj) ?pf
  case pf => (delta a0 b0 c0; rfl)
  case f => exact fun _ => ?K
noncomputable def o58 : Params → Obj := fun P => { cls := Value.type "tuple", data := Data.seq #[] }
noncomputable def o59 : Params → Obj := fun P => { cls := Value.none, data := Data.fields #[] }
noncomputable def o60 : Params → Obj := fun P => { cls := Value.type "tuple", data := Data.seq #[Value.str (Str.ofString "node") 199, Value.str (Str.ofString "parts") 200, Value.str (Str.ofString "here") 201] }
noncomputable def o61 : Params → Obj := fun P => { cls := Value.type "tuple", data := Data.seq #[] }
noncomputable def o62 : Params → Obj := by
  refine (?f : (?K = (fun P => { cls := Value.none, data := Data.func { name := Str.ofString "spine", qualname := Str.ofString "spine", params := a2, body := FuncBody.stmts b2, scope := c2, globals := 0, closure := [], defaults := Value.none, kwdefaults := Value.none } } : Params → Obj)) → Params → Obj) ?pf
  case pf => (delta a2 b2 c2; rfl)
  case f => exact fun _ => ?K
noncomputable def o63 : Params → Obj := fun P => { cls := Value.type "code", data := Data.fields #[Value.str (Str.ofString "spine") 196, Value.str (Str.ofString "spine") 197, Value.str (Str.ofString "/claim/cut.py") 198, Value.int 5 0, Value.int 1 0, Value.int 0 0, Value.int 0 0, Value.int 3 0, Value.ref 22, Value.bool true, Value.int 181 0, Value.ref 23, Value.none, Value.ref 24, Value.ref 25, Value.ref 26, Value.int 202 0, Value.int 5 0, Value.str (Str.ofString "/claim/cut.py") 203] }
noncomputable def o64 : Params → Obj := by
  refine (?f : (?K = (fun P => { cls := Value.type "function", data := Data.func { name := Str.ofString "spine", qualname := Str.ofString "spine", params := a2, body := FuncBody.stmts b2, scope := c2, globals := 3, closure := [], defaults := Value.none, kwdefaults := Value.none, pyModule := Value.str (Str.ofString "grammarmill.regex") 194, code := Value.ref 27 } } : Params → Obj)) → Params → Obj) ?pf
  case pf => (delta a2 b2 c2; rfl)
  case f => exact fun _ => ?K
noncomputable def o65 : Params → Obj := fun P => { cls := Value.type "tuple", data := Data.seq #[] }
noncomputable def o66 : Params → Obj := fun P => { cls := Value.none, data := Data.fields #[] }
noncomputable def o67 : Params → Obj := fun P => { cls := Value.type "tuple", data := Data.seq #[Value.str (Str.ofString "node") 210, Value.str (Str.ofString "part") 211] }
noncomputable def o68 : Params → Obj := fun P => { cls := Value.type "tuple", data := Data.seq #[] }
noncomputable def o69 : Params → Obj := by
  refine (?f : (?K = (fun P => { cls := Value.none, data := Data.func { name := Str.ofString "can_be_empty", qualname := Str.ofString "can_be_empty", params := a4, body := FuncBody.stmts b4, scope := c4, globals := 0, closure := [], defaults := Value.none, kwdefaults := Value.none } } : Params → Obj)) → Params → Obj) ?pf
  case pf => (delta a4 b4 c4; rfl)
  case f => exact fun _ => ?K
noncomputable def o70 : Params → Obj := fun P => { cls := Value.type "code", data := Data.fields #[Value.str (Str.ofString "can_be_empty") 207, Value.str (Str.ofString "can_be_empty") 208, Value.str (Str.ofString "/claim/cut.py") 209, Value.int 15 0, Value.int 1 0, Value.int 0 0, Value.int 0 0, Value.int 3 0, Value.ref 29, Value.bool true, Value.int 181 0, Value.ref 30, Value.none, Value.ref 31, Value.ref 32, Value.ref 33, Value.int 212 0, Value.int 15 0, Value.str (Str.ofString "/claim/cut.py") 213] }
noncomputable def o71 : Params → Obj := by
  refine (?f : (?K = (fun P => { cls := Value.type "function", data := Data.func { name := Str.ofString "can_be_empty", qualname := Str.ofString "can_be_empty", params := a4, body := FuncBody.stmts b4, scope := c4, globals := 3, closure := [], defaults := Value.none, kwdefaults := Value.none, pyModule := Value.str (Str.ofString "grammarmill.regtools") 205, code := Value.ref 34 } } : Params → Obj)) → Params → Obj) ?pf
  case pf => (delta a4 b4 c4; rfl)
  case f => exact fun _ => ?K
noncomputable def o72 : Params → Obj := fun P => { cls := Value.type "tuple", data := Data.seq #[] }
noncomputable def o73 : Params → Obj := fun P => { cls := Value.none, data := Data.fields #[] }
noncomputable def o74 : Params → Obj := fun P => { cls := Value.type "tuple", data := Data.seq #[Value.str (Str.ofString "node") 218, Value.str (Str.ofString "length") 219, Value.str (Str.ofString "part") 220, Value.str (Str.ofString "more") 221, Value.str (Str.ofString "other") 222] }
noncomputable def o75 : Params → Obj := fun P => { cls := Value.type "tuple", data := Data.seq #[] }
noncomputable def o76 : Params → Obj := by
  refine (?f : (?K = (fun P => { cls := Value.none, data := Data.func { name := Str.ofString "least_length", qualname := Str.ofString "least_length", params := a5, body := FuncBody.stmts b5, scope := c5, globals := 0, closure := [], defaults := Value.none, kwdefaults := Value.none } } : Params → Obj)) → Params → Obj) ?pf
  case pf => (delta a5 b5 c5; rfl)
  case f => exact fun _ => ?K
noncomputable def o77 : Params → Obj := fun P => { cls := Value.type "code", data := Data.fields #[Value.str (Str.ofString "least_length") 215, Value.str (Str.ofString "least_length") 216, Value.str (Str.ofString "/claim/cut.py") 217, Value.int 33 0, Value.int 1 0, Value.int 0 0, Value.int 0 0, Value.int 3 0, Value.ref 36, Value.bool true, Value.int 181 0, Value.ref 37, Value.none, Value.ref 38, Value.ref 39, Value.ref 40, Value.int 223 0, Value.int 33 0, Value.str (Str.ofString "/claim/cut.py") 224] }
noncomputable def o78 : Params → Obj := by
  refine (?f : (?K = (fun P => { cls := Value.type "function", data := Data.func { name := Str.ofString "least_length", qualname := Str.ofString "least_length", params := a5, body := FuncBody.stmts b5, scope := c5, globals := 3, closure := [], defaults := Value.none, kwdefaults := Value.none, pyModule := Value.str (Str.ofString "grammarmill.regtools") 205, code := Value.ref 41 } } : Params → Obj)) → Params → Obj) ?pf
  case pf => (delta a5 b5 c5; rfl)
  case f => exact fun _ => ?K
noncomputable def o79 : Params → Obj := fun P => { cls := Value.type "tuple", data := Data.seq #[] }
noncomputable def o80 : Params → Obj := fun P => { cls := Value.none, data := Data.fields #[] }
noncomputable def o81 : Params → Obj := fun P => { cls := Value.type "tuple", data := Data.seq #[Value.str (Str.ofString "node") 229, Value.str (Str.ofString "length") 230, Value.str (Str.ofString "part") 231, Value.str (Str.ofString "other") 232] }
noncomputable def o82 : Params → Obj := fun P => { cls := Value.type "tuple", data := Data.seq #[] }
noncomputable def o83 : Params → Obj := by
  refine (?f : (?K = (fun P => { cls := Value.none, data := Data.func { name := Str.ofString "most_length", qualname := Str.ofString "most_length", params := a6, body := FuncBody.stmts b6, scope := c6, globals := 0, closure := [], defaults := Value.none, kwdefaults := Value.none } } : Params → Obj)) → Params → Obj) ?pf
  case pf => (delta a6 b6 c6; rfl)
  case f => exact fun _ => ?K
noncomputable def o84 : Params → Obj := fun P => { cls := Value.type "code", data := Data.fields #[Value.str (Str.ofString "most_length") 226, Value.str (Str.ofString "most_length") 227, Value.str (Str.ofString "/claim/cut.py") 228, Value.int 59 0, Value.int 1 0, Value.int 0 0, Value.int 0 0, Value.int 3 0, Value.ref 43, Value.bool true, Value.int 181 0, Value.ref 44, Value.none, Value.ref 45, Value.ref 46, Value.ref 47, Value.int 233 0, Value.int 59 0, Value.str (Str.ofString "/claim/cut.py") 234] }
noncomputable def o85 : Params → Obj := by
  refine (?f : (?K = (fun P => { cls := Value.type "function", data := Data.func { name := Str.ofString "most_length", qualname := Str.ofString "most_length", params := a6, body := FuncBody.stmts b6, scope := c6, globals := 3, closure := [], defaults := Value.none, kwdefaults := Value.none, pyModule := Value.str (Str.ofString "grammarmill.regtools") 205, code := Value.ref 48 } } : Params → Obj)) → Params → Obj) ?pf
  case pf => (delta a6 b6 c6; rfl)
  case f => exact fun _ => ?K
noncomputable def o86 : Params → Obj := fun P => { cls := Value.type "tuple", data := Data.seq #[] }
noncomputable def o87 : Params → Obj := fun P => { cls := Value.none, data := Data.fields #[] }
noncomputable def o88 : Params → Obj := fun P => { cls := Value.type "tuple", data := Data.seq #[Value.str (Str.ofString "parts") 239, Value.str (Str.ofString "length") 240, Value.str (Str.ofString "is_endless") 241, Value.str (Str.ofString "part") 242, Value.str (Str.ofString "more") 243] }
noncomputable def o89 : Params → Obj := fun P => { cls := Value.type "tuple", data := Data.seq #[] }
noncomputable def o90 : Params → Obj := by
  refine (?f : (?K = (fun P => { cls := Value.none, data := Data.func { name := Str.ofString "most_of_row", qualname := Str.ofString "most_of_row", params := a7, body := FuncBody.stmts b7, scope := c7, globals := 0, closure := [], defaults := Value.none, kwdefaults := Value.none } } : Params → Obj)) → Params → Obj) ?pf
  case pf => (delta a7 b7 c7; rfl)
  case f => exact fun _ => ?K
noncomputable def o91 : Params → Obj := fun P => { cls := Value.type "code", data := Data.fields #[Value.str (Str.ofString "most_of_row") 236, Value.str (Str.ofString "most_of_row") 237, Value.str (Str.ofString "/claim/cut.py") 238, Value.int 77 0, Value.int 1 0, Value.int 0 0, Value.int 0 0, Value.int 3 0, Value.ref 50, Value.bool true, Value.int 181 0, Value.ref 51, Value.none, Value.ref 52, Value.ref 53, Value.ref 54, Value.int 244 0, Value.int 77 0, Value.str (Str.ofString "/claim/cut.py") 245] }
noncomputable def o92 : Params → Obj := by
  refine (?f : (?K = (fun P => { cls := Value.type "function", data := Data.func { name := Str.ofString "most_of_row", qualname := Str.ofString "most_of_row", params := a7, body := FuncBody.stmts b7, scope := c7, globals := 3, closure := [], defaults := Value.none, kwdefaults := Value.none, pyModule := Value.str (Str.ofString "grammarmill.regtools") 205, code := Value.ref 55 } } : Params → Obj)) → Params → Obj) ?pf
  case pf => (delta a7 b7 c7; rfl)
  case f => exact fun _ => ?K
noncomputable def o93 : Params → Obj := fun P => { cls := Value.type "tuple", data := Data.seq #[] }
noncomputable def o94 : Params → Obj := fun P => { cls := Value.none, data := Data.fields #[] }
noncomputable def o95 : Params → Obj := fun P => { cls := Value.type "tuple", data := Data.seq #[Value.str (Str.ofString "node") 250, Value.str (Str.ofString "length") 251, Value.str (Str.ofString "low") 252, Value.str (Str.ofString "high") 253] }
noncomputable def o96 : Params → Obj := fun P => { cls := Value.type "tuple", data := Data.seq #[] }
noncomputable def o97 : Params → Obj := by
  refine (?f : (?K = (fun P => { cls := Value.none, data := Data.func { name := Str.ofString "most_of_loop", qualname := Str.ofString "most_of_loop", params := a8, body := FuncBody.stmts b8, scope := c8, globals := 0, closure := [], defaults := Value.none, kwdefaults := Value.none } } : Params → Obj)) → Params → Obj) ?pf
  case pf => (delta a8 b8 c8; rfl)
  case f => exact fun _ => ?K
noncomputable def o98 : Params → Obj := fun P => { cls := Value.type "code", data := Data.fields #[Value.str (Str.ofString "most_of_loop") 247, Value.str (Str.ofString "most_of_loop") 248, Value.str (Str.ofString "/claim/cut.py") 249, Value.int 89 0, Value.int 2 0, Value.int 0 0, Value.int 0 0, Value.int 3 0, Value.ref 57, Value.bool true, Value.int 181 0, Value.ref 58, Value.none, Value.ref 59, Value.ref 60, Value.ref 61, Value.int 254 0, Value.int 89 0, Value.str (Str.ofString "/claim/cut.py") 255] }
noncomputable def o99 : Params → Obj := by
  refine (?f : (?K = (fun P => { cls := Value.type "function", data := Data.func { name := Str.ofString "most_of_loop", qualname := Str.ofString "most_of_loop", params := a8, body := FuncBody.stmts b8, scope := c8, globals := 3, closure := [], defaults := Value.none, kwdefaults := Value.none, pyModule := Value.str (Str.ofString "grammarmill.regtools") 205, code := Value.ref 62 } } : Params → Obj)) → Params → Obj) ?pf
  case pf => (delta a8 b8 c8; rfl)
  case f => exact fun _ => ?K
noncomputable def o100 : Params → Obj := fun P => { cls := Value.type "tuple", data := Data.seq #[] }
noncomputable def o101 : Params → Obj := fun P => { cls := Value.none, data := Data.fields #[] }
noncomputable def o102 : Params → Obj := fun P => { cls := Value.type "tuple", data := Data.seq #[Value.str (Str.ofString "node") 260, Value.str (Str.ofString "least") 261] }
noncomputable def o103 : Params → Obj := fun P => { cls := Value.type "tuple", data := Data.seq #[] }
noncomputable def o104 : Params → Obj := by
  refine (?f : (?K = (fun P => { cls := Value.none, data := Data.func { name := Str.ofString "fixed_length", qualname := Str.ofString "fixed_length", params := a9, body := FuncBody.stmts b9, scope := c9, globals := 0, closure := [], defaults := Value.none, kwdefaults := Value.none } } : Params → Obj)) → Params → Obj) ?pf
  case pf => (delta a9 b9 c9; rfl)
  case f => exact fun _ => ?K
noncomputable def o105 : Params → Obj := fun P => { cls := Value.type "code", data := Data.fields #[Value.str (Str.ofString "fixed_length") 257, Value.str (Str.ofString "fixed_length") 258, Value.str (Str.ofString "/claim/cut.py") 259, Value.int 110 0, Value.int 1 0, Value.int 0 0, Value.int 0 0, Value.int 3 0, Value.ref 64, Value.bool true, Value.int 181 0, Value.ref 65, Value.none, Value.ref 66, Value.ref 67, Value.ref 68, Value.int 262 0, Value.int 110 0, Value.str (Str.ofString "/claim/cut.py") 263] }
noncomputable def o106 : Params → Obj := by
  refine (?f : (?K = (fun P => { cls := Value.type "function", data := Data.func { name := Str.ofString "fixed_length", qualname := Str.ofString "fixed_length", params := a9, body := FuncBody.stmts b9, scope := c9, globals := 3, closure := [], defaults := Value.none, kwdefaults := Value.none, pyModule := Value.str (Str.ofString "grammarmill.regtools") 205, code := Value.ref 69 } } : Params → Obj)) → Params → Obj) ?pf
  case pf => (delta a9 b9 c9; rfl)
  case f => exact fun _ => ?K
noncomputable def o107 : Params → Obj := fun P => { cls := Value.type "tuple", data := Data.seq #[] }
noncomputable def o108 : Params → Obj := fun P => { cls := Value.none, data := Data.fields #[] }
noncomputable def o109 : Params → Obj := fun P => { cls := Value.type "tuple", data := Data.seq #[Value.str (Str.ofString "file") 270, Value.str (Str.ofString "kinds") 271, Value.str (Str.ofString "rule") 272, Value.str (Str.ofString "kind") 273] }
noncomputable def o110 : Params → Obj := fun P => { cls := Value.type "tuple", data := Data.seq #[] }
noncomputable def o111 : Params → Obj := by
  refine (?f : (?K = (fun P => { cls := Value.none, data := Data.func { name := Str.ofString "kinds_of", qualname := Str.ofString "kinds_of", params := a11, body := FuncBody.stmts b11, scope := c11, globals := 0, closure := [], defaults := Value.none, kwdefaults := Value.none } } : Params → Obj)) → Params → Obj) ?pf
  case pf => (delta a11 b11 c11; rfl)
  case f => exact fun _ => ?K
noncomputable def o112 : Params → Obj := fun P => { cls := Value.type "code", data := Data.fields #[Value.str (Str.ofString "kinds_of") 267, Value.str (Str.ofString "kinds_of") 268, Value.str (Str.ofString "/claim/cut.py") 269, Value.int 116 0, Value.int 1 0, Value.int 0 0, Value.int 0 0, Value.int 3 0, Value.ref 71, Value.bool true, Value.int 181 0, Value.ref 72, Value.none, Value.ref 73, Value.ref 74, Value.ref 75, Value.int 274 0, Value.int 116 0, Value.str (Str.ofString "/claim/cut.py") 275] }
noncomputable def o113 : Params → Obj := by
  refine (?f : (?K = (fun P => { cls := Value.type "function", data := Data.func { name := Str.ofString "kinds_of", qualname := Str.ofString "kinds_of", params := a11, body := FuncBody.stmts b11, scope := c11, globals := 3, closure := [], defaults := Value.none, kwdefaults := Value.none, pyModule := Value.str (Str.ofString "grammarmill.lexlook") 265, code := Value.ref 76 } } : Params → Obj)) → Params → Obj) ?pf
  case pf => (delta a11 b11 c11; rfl)
  case f => exact fun _ => ?K
noncomputable def o114 : Params → Obj := fun P => { cls := Value.type "tuple", data := Data.seq #[] }
noncomputable def o115 : Params → Obj := fun P => { cls := Value.none, data := Data.fields #[] }
noncomputable def o116 : Params → Obj := fun P => { cls := Value.type "tuple", data := Data.seq #[Value.str (Str.ofString "file") 280, Value.str (Str.ofString "seen") 281, Value.str (Str.ofString "waiting") 282, Value.str (Str.ofString "condition") 283, Value.str (Str.ofString "rule") 284, Value.str (Str.ofString "name") 285, Value.str (Str.ofString "goal") 286] }
noncomputable def o117 : Params → Obj := fun P => { cls := Value.type "tuple", data := Data.seq #[] }
noncomputable def o118 : Params → Obj := by
  refine (?f : (?K = (fun P => { cls := Value.none, data := Data.func { name := Str.ofString "entered", qualname := Str.ofString "entered", params := a12, body := FuncBody.stmts b12, scope := c12, globals := 0, closure := [], defaults := Value.none, kwdefaults := Value.none } } : Params → Obj)) → Params → Obj) ?pf
  case pf => (delta a12 b12 c12; rfl)
  case f => exact fun _ => ?K
noncomputable def o119 : Params → Obj := fun P => { cls := Value.type "code", data := Data.fields #[Value.str (Str.ofString "entered") 277, Value.str (Str.ofString "entered") 278, Value.str (Str.ofString "/claim/cut.py") 279, Value.int 123 0, Value.int 1 0, Value.int 0 0, Value.int 0 0, Value.int 3 0, Value.ref 78, Value.bool true, Value.int 181 0, Value.ref 79, Value.none, Value.ref 80, Value.ref 81, Value.ref 82, Value.int 287 0, Value.int 123 0, Value.str (Str.ofString "/claim/cut.py") 288] }
noncomputable def o120 : Params → Obj := by
  refine (?f : (?K = (fun P => { cls := Value.type "function", data := Data.func { name := Str.ofString "entered", qualname := Str.ofString "entered", params := a12, body := FuncBody.stmts b12, scope := c12, globals := 3, closure := [], defaults := Value.none, kwdefaults := Value.none, pyModule := Value.str (Str.ofString "grammarmill.lexlook") 265, code := Value.ref 83 } } : Params → Obj)) → Params → Obj) ?pf
  case pf => (delta a12 b12 c12; rfl)
  case f => exact fun _ => ?K
noncomputable def o121 : Params → Obj := fun P => { cls := Value.type "tuple", data := Data.seq #[] }
noncomputable def o122 : Params → Obj := fun P => { cls := Value.none, data := Data.fields #[] }
noncomputable def o123 : Params → Obj := fun P => { cls := Value.type "tuple", data := Data.seq #[Value.str (Str.ofString "pattern") 293, Value.str (Str.ofString "longest") 294] }
noncomputable def o124 : Params → Obj := fun P => { cls := Value.type "tuple", data := Data.seq #[] }
noncomputable def o125 : Params → Obj := by
  refine (?f : (?K = (fun P => { cls := Value.none, data := Data.func { name := Str.ofString "can_match", qualname := Str.ofString "can_match", params := a13, body := FuncBody.stmts b13, scope := c13, globals := 0, closure := [], defaults := Value.none, kwdefaults := Value.none } } : Params → Obj)) → Params → Obj) ?pf
  case pf => (delta a13 b13 c13; rfl)
  case f => exact fun _ => ?K
noncomputable def o126 : Params → Obj := fun P => { cls := Value.type "code", data := Data.fields #[Value.str (Str.ofString "can_match") 290, Value.str (Str.ofString "can_match") 291, Value.str (Str.ofString "/claim/cut.py") 292, Value.int 137 0, Value.int 1 0, Value.int 0 0, Value.int 0 0, Value.int 3 0, Value.ref 85, Value.bool true, Value.int 181 0, Value.ref 86, Value.none, Value.ref 87, Value.ref 88, Value.ref 89, Value.int 295 0, Value.int 137 0, Value.str (Str.ofString "/claim/cut.py") 296] }
noncomputable def o127 : Params → Obj := by
  refine (?f : (?K = (fun P => { cls := Value.type "function", data := Data.func { name := Str.ofString "can_match", qualname := Str.ofString "can_match", params := a13, body := FuncBody.stmts b13, scope := c13, globals := 3, closure := [], defaults := Value.none, kwdefaults := Value.none, pyModule := Value.str (Str.ofString "grammarmill.lexlook") 265, code := Value.ref 90 } } : Params → Obj)) → Params → Obj) ?pf
  case pf => (delta a13 b13 c13; rfl)
  case f => exact fun _ => ?K
noncomputable def o128 : Params → Obj := fun P => { cls := Value.type "dict", data := Data.dict #[{ hash := PyData.keyHash P (Str.ofString "__name__"), key := Value.str (Str.ofString "__name__") 165, val := Value.str (Str.ofString "grammarmill.lexfile") 321 }, { hash := PyData.keyHash P (Str.ofString "__doc__"), key := Value.str (Str.ofString "__doc__") 166, val := Value.none }, { hash := PyData.keyHash P (Str.ofString "__package__"), key := Value.str (Str.ofString "__package__") 167, val := Value.none }, { hash := PyData.keyHash P (Str.ofString "__loader__"), key := Value.str (Str.ofString "__loader__") 168, val := Value.builtin "__main__.__loader__#opaque" }, { hash := PyData.keyHash P (Str.ofString "__spec__"), key := Value.str (Str.ofString "__spec__") 169, val := Value.none }, { hash := PyData.keyHash P (Str.ofString "__annotations__"), key := Value.str (Str.ofString "__annotations__") 170, val := Value.ref 6 }, { hash := PyData.keyHash P (Str.ofString "__builtins__"), key := Value.str (Str.ofString "__builtins__") 171, val := Value.ref 4 }, { hash := PyData.keyHash P (Str.ofString "__file__"), key := Value.str (Str.ofString "__file__") 173, val := Value.str (Str.ofString "/claim/cut.py") 172 }, { hash := PyData.keyHash P (Str.ofString "__cached__"), key := Value.str (Str.ofString "__cached__") 174, val := Value.none }, { hash := PyData.keyHash P (Str.ofString "_wall"), key := Value.str (Str.ofString "_wall") 193, val := Value.ref 21 }, { hash := PyData.keyHash P (Str.ofString "spine"), key := Value.str (Str.ofString "spine") 204, val := Value.ref 28 }, { hash := PyData.keyHash P (Str.ofString "can_be_empty"), key := Value.str (Str.ofString "can_be_empty") 214, val := Value.ref 35 }, { hash := PyData.keyHash P (Str.ofString "least_length"), key := Value.str (Str.ofString "least_length") 225, val := Value.ref 42 }, { hash := PyData.keyHash P (Str.ofString "most_length"), key := Value.str (Str.ofString "most_length") 235, val := Value.ref 49 }, { hash := PyData.keyHash P (Str.ofString "most_of_row"), key := Value.str (Str.ofString "most_of_row") 246, val := Value.ref 56 }, { hash := PyData.keyHash P (Str.ofString "most_of_loop"), key := Value.str (Str.ofString "most_of_loop") 256, val := Value.ref 63 }, { hash := PyData.keyHash P (Str.ofString "fixed_length"), key := Value.str (Str.ofString "fixed_length") 264, val := Value.ref 70 }, { hash := PyData.keyHash P (Str.ofString "kinds_of"), key := Value.str (Str.ofString "kinds_of") 276, val := Value.ref 77 }, { hash := PyData.keyHash P (Str.ofString "entered"), key := Value.str (Str.ofString "entered") 289, val := Value.ref 84 }, { hash := PyData.keyHash P (Str.ofString "can_match"), key := Value.str (Str.ofString "can_match") 297, val := Value.ref 91 }, { hash := PyData.keyHash P (Str.ofString "is_searched"), key := Value.str (Str.ofString "is_searched") 304, val := Value.ref 98 }, { hash := PyData.keyHash P (Str.ofString "warnings_of"), key := Value.str (Str.ofString "warnings_of") 310, val := Value.ref 103 }, { hash := PyData.keyHash P (Str.ofString "costs_of"), key := Value.str (Str.ofString "costs_of") 320, val := Value.ref 110 }, { hash := PyData.keyHash P (Str.ofString "LexStep"), key := Value.str (Str.ofString "LexStep") 367, val := Value.ref 142 }] 24 }
noncomputable def o129 : Params → Obj := fun P => { cls := Value.none, data := Data.fields #[Value.int 1 0, Value.int 0 0, Value.ref 20, Value.int 5 0, Value.int 0 0, Value.ref 27, Value.int 15 0, Value.int 0 0, Value.ref 34, Value.int 33 0, Value.int 0 0, Value.ref 41, Value.int 59 0, Value.int 0 0, Value.ref 48, Value.int 77 0, Value.int 0 0, Value.ref 55, Value.int 89 0, Value.int 0 0, Value.ref 62, Value.int 110 0, Value.int 0 0, Value.ref 69, Value.int 116 0, Value.int 0 0, Value.ref 76, Value.int 123 0, Value.int 0 0, Value.ref 83, Value.int 137 0, Value.int 0 0, Value.ref 90, Value.int 142 0, Value.int 0 0, Value.ref 97, Value.int 146 0, Value.int 0 0, Value.ref 102, Value.int 162 0, Value.int 0 0, Value.ref 109, Value.int 175 0, Value.int 0 0, Value.ref 116] }
noncomputable def o130 : Params → Obj := fun P => { cls := Value.type "tuple", data := Data.seq #[] }
noncomputable def o131 : Params → Obj := fun P => { cls := Value.none, data := Data.fields #[] }
noncomputable def o132 : Params → Obj := fun P => { cls := Value.type "tuple", data := Data.seq #[Value.str (Str.ofString "pattern") 301] }
noncomputable def o133 : Params → Obj := fun P => { cls := Value.type "tuple", data := Data.seq #[] }
noncomputable def o134 : Params → Obj := by
  refine (?f : (?K = (fun P => { cls := Value.none, data := Data.func { name := Str.ofString "is_searched", qualname := Str.ofString "is_searched", params := a14, body := FuncBody.stmts b14, scope := c14, globals := 0, closure := [], defaults := Value.none, kwdefaults := Value.none } } : Params → Obj)) → Params → Obj) ?pf
  case pf => (delta a14 b14 c14; rfl)
  case f => exact fun _ => ?K
noncomputable def o135 : Params → Obj := fun P => { cls := Value.type "code", data := Data.fields #[Value.str (Str.ofString "is_searched") 298, Value.str (Str.ofString "is_searched") 299, Value.str (Str.ofString "/claim/cut.py") 300, Value.int 142 0, Value.int 1 0, Value.int 0 0, Value.int 0 0, Value.int 3 0, Value.ref 92, Value.bool true, Value.int 181 0, Value.ref 93, Value.none, Value.ref 94, Value.ref 95, Value.ref 96, Value.int 302 0, Value.int 142 0, Value.str (Str.ofString "/claim/cut.py") 303] }
noncomputable def o136 : Params → Obj := by
  refine (?f : (?K = (fun P => { cls := Value.type "function", data := Data.func { name := Str.ofString "is_searched", qualname := Str.ofString "is_searched", params := a14, body := FuncBody.stmts b14, scope := c14, globals := 3, closure := [], defaults := Value.none, kwdefaults := Value.none, pyModule := Value.str (Str.ofString "grammarmill.lexlook") 265, code := Value.ref 97 } } : Params → Obj)) → Params → Obj) ?pf
  case pf => (delta a14 b14 c14; rfl)
  case f => exact fun _ => ?K
noncomputable def o137 : Params → Obj := fun P => { cls := Value.type "tuple", data := Data.seq #[] }
noncomputable def o138 : Params → Obj := fun P => { cls := Value.none, data := Data.fields #[] }
noncomputable def o139 : Params → Obj := by
  refine (?f : (?K = (fun P => { cls := Value.none, data := Data.func { name := Str.ofString "warnings_of", qualname := Str.ofString "warnings_of", params := a15, body := FuncBody.stmts b15, scope := c15, globals := 0, closure := [], defaults := Value.none, kwdefaults := Value.none } } : Params → Obj)) → Params → Obj) ?pf
  case pf => (delta a15 b15 c15; rfl)
  case f => exact fun _ => ?K
noncomputable def o140 : Params → Obj := fun P => { cls := Value.type "code", data := Data.fields #[Value.str (Str.ofString "warnings_of") 305, Value.str (Str.ofString "warnings_of") 306, Value.str (Str.ofString "/claim/cut.py") 307, Value.int 146 0, Value.int 1 0, Value.int 0 0, Value.int 0 0, Value.int 3 0, Value.ref 99, Value.bool true, Value.int 181 0, Value.ref 100, Value.none, Value.none, Value.none, Value.ref 101, Value.int 308 0, Value.int 146 0, Value.str (Str.ofString "/claim/cut.py") 309] }
noncomputable def o141 : Params → Obj := by
  refine (?f : (?K = (fun P => { cls := Value.type "function", data := Data.func { name := Str.ofString "warnings_of", qualname := Str.ofString "warnings_of", params := a15, body := FuncBody.stmts b15, scope := c15, globals := 3, closure := [], defaults := Value.none, kwdefaults := Value.none, pyModule := Value.str (Str.ofString "grammarmill.lexlook") 265, code := Value.ref 102 } } : Params → Obj)) → Params → Obj) ?pf
  case pf => (delta a15 b15 c15; rfl)
  case f => exact fun _ => ?K
noncomputable def o142 : Params → Obj := fun P => { cls := Value.type "tuple", data := Data.seq #[] }
noncomputable def o143 : Params → Obj := fun P => { cls := Value.none, data := Data.fields #[] }
noncomputable def o144 : Params → Obj := fun P => { cls := Value.type "tuple", data := Data.seq #[Value.str (Str.ofString "file") 314, Value.str (Str.ofString "found") 315, Value.str (Str.ofString "rule") 316, Value.str (Str.ofString "word") 317] }
noncomputable def o145 : Params → Obj := fun P => { cls := Value.type "tuple", data := Data.seq #[] }
noncomputable def o146 : Params → Obj := by
  refine (?f : (?K = (fun P => { cls := Value.none, data := Data.func { name := Str.ofString "costs_of", qualname := Str.ofString "costs_of", params := a16, body := FuncBody.stmts b16, scope := c16, globals := 0, closure := [], defaults := Value.none, kwdefaults := Value.none } } : Params → Obj)) → Params → Obj) ?pf
  case pf => (delta a16 b16 c16; rfl)
  case f => exact fun _ => ?K
noncomputable def o147 : Params → Obj := fun P => { cls := Value.type "code", data := Data.fields #[Value.str (Str.ofString "costs_of") 311, Value.str (Str.ofString "costs_of") 312, Value.str (Str.ofString "/claim/cut.py") 313, Value.int 162 0, Value.int 1 0, Value.int 0 0, Value.int 0 0, Value.int 3 0, Value.ref 104, Value.bool true, Value.int 181 0, Value.ref 105, Value.none, Value.ref 106, Value.ref 107, Value.ref 108, Value.int 318 0, Value.int 162 0, Value.str (Str.ofString "/claim/cut.py") 319] }
noncomputable def o148 : Params → Obj := by
  refine (?f : (?K = (fun P => { cls := Value.type "function", data := Data.func { name := Str.ofString "costs_of", qualname := Str.ofString "costs_of", params := a16, body := FuncBody.stmts b16, scope := c16, globals := 3, closure := [], defaults := Value.none, kwdefaults := Value.none, pyModule := Value.str (Str.ofString "grammarmill.lexlook") 265, code := Value.ref 109 } } : Params → Obj)) → Params → Obj) ?pf
  case pf => (delta a16 b16 c16; rfl)
  case f => exact fun _ => ?K
noncomputable def o149 : Params → Obj := fun P => { cls := Value.type "tuple", data := Data.seq #[] }
noncomputable def o150 : Params → Obj := fun P => { cls := Value.type "builtin_function_or_method", data := Data.fields #[Value.builtin "type.__prepare__", Value.type "type"] }
noncomputable def o151 : Params → Obj := fun P => { cls := Value.type "dict", data := Data.dict #[{ hash := PyData.keyHash P (Str.ofString "__module__"), key := Value.str (Str.ofString "__module__") 330, val := Value.str (Str.ofString "grammarmill.lexfile") 321 }, { hash := PyData.keyHash P (Str.ofString "__qualname__"), key := Value.str (Str.ofString "__qualname__") 332, val := Value.str (Str.ofString "LexStep") 331 }, { hash := PyData.keyHash P (Str.ofString "__firstlineno__"), key := Value.str (Str.ofString "__firstlineno__") 334, val := Value.int 175 333 }, { hash := PyData.keyHash P (Str.ofString "__init__"), key := Value.str (Str.ofString "__init__") 343, val := Value.ref 125 }, { hash := PyData.keyHash P (Str.ofString "told"), key := Value.str (Str.ofString "told") 350, val := Value.ref 132 }, { hash := PyData.keyHash P (Str.ofString "show"), key := Value.str (Str.ofString "show") 357, val := Value.ref 139 }, { hash := PyData.keyHash P (Str.ofString "__static_attributes__"), key := Value.str (Str.ofString "__static_attributes__") 360, val := Value.ref 140 }] 7 }
noncomputable def o152 : Params → Obj := fun P => { cls := Value.type "tuple", data := Data.seq #[] }
noncomputable def o153 : Params → Obj := fun P => { cls := Value.none, data := Data.fields #[Value.int 177 0, Value.int 4 0, Value.ref 124, Value.int 181 0, Value.int 4 0, Value.ref 131, Value.int 184 0, Value.int 4 0, Value.ref 138] }
noncomputable def o154 : Params → Obj := fun P => { cls := Value.type "code", data := Data.fields #[Value.str (Str.ofString "LexStep") 325, Value.str (Str.ofString "LexStep") 326, Value.str (Str.ofString "/claim/cut.py") 327, Value.int 175 0, Value.int 0 0, Value.int 0 0, Value.int 0 0, Value.int 0 0, Value.ref 114, Value.bool false, Value.int 181 0, Value.ref 115, Value.none, Value.none, Value.none, Value.none, Value.int 328 0, Value.int 175 0, Value.str (Str.ofString "/claim/cut.py") 329] }
noncomputable def o155 : Params → Obj := fun P => { cls := Value.type "frame", slots := #[some (Value.ref 116), some (Value.ref 3), some (Value.ref 113), none, some (Value.str (Str.ofString "grammarmill.lexfile") 321), none, some (Value.ref 0)] }
noncomputable def o156 : Params → Obj := fun P => { cls := Value.type "tuple", data := Data.seq #[Value.none] }
noncomputable def o157 : Params → Obj := fun P => { cls := Value.type "tuple", data := Data.seq #[] }
noncomputable def o158 : Params → Obj := fun P => { cls := Value.none, data := Data.fields #[] }
noncomputable def o159 : Params → Obj := fun P => { cls := Value.type "tuple", data := Data.seq #[Value.str (Str.ofString "self") 338, Value.str (Str.ofString "word") 339, Value.str (Str.ofString "worth") 340] }
noncomputable def o160 : Params → Obj := fun P => { cls := Value.type "tuple", data := Data.seq #[] }
noncomputable def o161 : Params → Obj := by
  refine (?f : (?K = (fun P => { cls := Value.none, data := Data.func { name := Str.ofString "__init__", qualname := Str.ofString "LexStep.__init__", params := a18x0, body := FuncBody.stmts b18x0, scope := c18x0, globals := 0, closure := [], defaults := Value.none, kwdefaults := Value.none } } : Params → Obj)) → Params → Obj) ?pf
  case pf => (delta a18x0 b18x0 c18x0; rfl)
  case f => exact fun _ => ?K
noncomputable def o162 : Params → Obj := fun P => { cls := Value.type "code", data := Data.fields #[Value.str (Str.ofString "__init__") 335, Value.str (Str.ofString "LexStep.__init__") 336, Value.str (Str.ofString "/claim/cut.py") 337, Value.int 177 0, Value.int 3 0, Value.int 0 0, Value.int 0 0, Value.int 3 0, Value.ref 119, Value.bool true, Value.int 181 0, Value.ref 120, Value.none, Value.ref 121, Value.ref 122, Value.ref 123, Value.int 341 0, Value.int 177 0, Value.str (Str.ofString "/claim/cut.py") 342] }
noncomputable def o163 : Params → Obj := by
  refine (?f : (?K = (fun P => { cls := Value.type "function", data := Data.func { name := Str.ofString "__init__", qualname := Str.ofString "LexStep.__init__", params := a18x0, body := FuncBody.stmts b18x0, scope := c18x0, globals := 3, closure := [], defaults := Value.ref 118, kwdefaults := Value.none, pyModule := Value.str (Str.ofString "grammarmill.lexfile") 321, code := Value.ref 124 } } : Params → Obj)) → Params → Obj) ?pf
  case pf => (delta a18x0 b18x0 c18x0; rfl)
  case f => exact fun _ => ?K
noncomputable def o164 : Params → Obj := fun P => { cls := Value.type "tuple", data := Data.seq #[] }
noncomputable def o165 : Params → Obj := fun P => { cls := Value.none, data := Data.fields #[] }
noncomputable def o166 : Params → Obj := fun P => { cls := Value.type "tuple", data := Data.seq #[Value.str (Str.ofString "self") 347] }
noncomputable def o167 : Params → Obj := fun P => { cls := Value.type "tuple", data := Data.seq #[] }
noncomputable def o168 : Params → Obj := by
  refine (?f : (?K = (fun P => { cls := Value.none, data := Data.func { name := Str.ofString "told", qualname := Str.ofString "LexStep.told", params := a18x1, body := FuncBody.stmts b18x1, scope := c18x1, globals := 0, closure := [], defaults := Value.none, kwdefaults := Value.none } } : Params → Obj)) → Params → Obj) ?pf
  case pf => (delta a18x1 b18x1 c18x1; rfl)
  case f => exact fun _ => ?K
noncomputable def o169 : Params → Obj := fun P => { cls := Value.type "code", data := Data.fields #[Value.str (Str.ofString "told") 344, Value.str (Str.ofString "LexStep.told") 345, Value.str (Str.ofString "/claim/cut.py") 346, Value.int 181 0, Value.int 1 0, Value.int 0 0, Value.int 0 0, Value.int 3 0, Value.ref 126, Value.bool true, Value.int 181 0, Value.ref 127, Value.none, Value.ref 128, Value.ref 129, Value.ref 130, Value.int 348 0, Value.int 181 0, Value.str (Str.ofString "/claim/cut.py") 349] }
noncomputable def o170 : Params → Obj := by
  refine (?f : (?K = (fun P => { cls := Value.type "function", data := Data.func { name := Str.ofString "told", qualname := Str.ofString "LexStep.told", params := a18x1, body := FuncBody.stmts b18x1, scope := c18x1, globals := 3, closure := [], defaults := Value.none, kwdefaults := Value.none, pyModule := Value.str (Str.ofString "grammarmill.lexfile") 321, code := Value.ref 131 } } : Params → Obj)) → Params → Obj) ?pf
  case pf => (delta a18x1 b18x1 c18x1; rfl)
  case f => exact fun _ => ?K
noncomputable def o171 : Params → Obj := fun P => { cls := Value.type "tuple", data := Data.seq #[] }
noncomputable def o172 : Params → Obj := fun P => { cls := Value.none, data := Data.fields #[] }
noncomputable def o173 : Params → Obj := fun P => { cls := Value.type "tuple", data := Data.seq #[Value.str (Str.ofString "self") 354] }
noncomputable def o174 : Params → Obj := fun P => { cls := Value.type "tuple", data := Data.seq #[] }
noncomputable def o175 : Params → Obj := by
  refine (?f : (?K = (fun P => { cls := Value.none, data := Data.func { name := Str.ofString "show", qualname := Str.ofString "LexStep.show", params := a18x2, body := FuncBody.stmts b18x2, scope := c18x2, globals := 0, closure := [], defaults := Value.none, kwdefaults := Value.none } } : Params → Obj)) → Params → Obj) ?pf
  case pf => (delta a18x2 b18x2 c18x2; rfl)
  case f => exact fun _ => ?K
noncomputable def o176 : Params → Obj := fun P => { cls := Value.type "code", data := Data.fields #[Value.str (Str.ofString "show") 351, Value.str (Str.ofString "LexStep.show") 352, Value.str (Str.ofString "/claim/cut.py") 353, Value.int 184 0, Value.int 1 0, Value.int 0 0, Value.int 0 0, Value.int 3 0, Value.ref 133, Value.bool true, Value.int 181 0, Value.ref 134, Value.none, Value.ref 135, Value.ref 136, Value.ref 137, Value.int 355 0, Value.int 184 0, Value.str (Str.ofString "/claim/cut.py") 356] }
noncomputable def o177 : Params → Obj := by
  refine (?f : (?K = (fun P => { cls := Value.type "function", data := Data.func { name := Str.ofString "show", qualname := Str.ofString "LexStep.show", params := a18x2, body := FuncBody.stmts b18x2, scope := c18x2, globals := 3, closure := [], defaults := Value.none, kwdefaults := Value.none, pyModule := Value.str (Str.ofString "grammarmill.lexfile") 321, code := Value.ref 138 } } : Params → Obj)) → Params → Obj) ?pf
  case pf => (delta a18x2 b18x2 c18x2; rfl)
  case f => exact fun _ => ?K
noncomputable def o178 : Params → Obj := fun P => { cls := Value.type "tuple", data := Data.seq #[Value.str (Str.ofString "word") 358, Value.str (Str.ofString "worth") 359] }
noncomputable def o179 : Params → Obj := fun P => { cls := Value.type "dict", data := Data.dict #[{ hash := PyData.keyHash P (Str.ofString "__module__"), key := Value.str (Str.ofString "__module__") 330, val := Value.str (Str.ofString "grammarmill.lexfile") 321 }, { hash := PyData.keyHash P (Str.ofString "__firstlineno__"), key := Value.str (Str.ofString "__firstlineno__") 334, val := Value.int 175 333 }, { hash := PyData.keyHash P (Str.ofString "__init__"), key := Value.str (Str.ofString "__init__") 343, val := Value.ref 125 }, { hash := PyData.keyHash P (Str.ofString "told"), key := Value.str (Str.ofString "told") 350, val := Value.ref 132 }, { hash := PyData.keyHash P (Str.ofString "show"), key := Value.str (Str.ofString "show") 357, val := Value.ref 139 }, { hash := PyData.keyHash P (Str.ofString "__static_attributes__"), key := Value.str (Str.ofString "__static_attributes__") 360, val := Value.ref 140 }, { hash := PyData.keyHash P (Str.ofString "__dict__"), key := Value.str (Str.ofString "__dict__") 362, val := Value.ref 143 }, { hash := PyData.keyHash P (Str.ofString "__weakref__"), key := Value.str (Str.ofString "__weakref__") 364, val := Value.ref 144 }, { hash := PyData.keyHash P (Str.ofString "__doc__"), key := Value.str (Str.ofString "__doc__") 365, val := Value.none }] 4 }
noncomputable def o180 : Params → Obj := fun P => { cls := Value.type "type", data := Data.cls { name := Str.ofString "LexStep", bases := [Value.type "object"], mro := [Value.ref 142, Value.type "object"], ns := 141, qualname := Str.ofString "LexStep" }, slots := #[none, none, some (Value.str (Str.ofString "LexStep") 323), some (Value.str (Str.ofString "LexStep") 331), some (Value.builtin "object.__new__"), some (Value.bool true)] }
noncomputable def o181 : Params → Obj := fun P => { cls := Value.type "getset_descriptor", data := Data.fields #[Value.str (Str.ofString "__dict__") 361, Value.ref 142, Value.builtin "function.__dict__", Value.builtin "function.__dict__#set"] }
noncomputable def o182 : Params → Obj := fun P => { cls := Value.type "getset_descriptor", data := Data.fields #[Value.str (Str.ofString "__weakref__") 363, Value.ref 142, Value.builtin "ExceptionGroup.__weakref__", Value.none] }
noncomputable def o183 : Params → Obj := fun P => { cls := Value.type "super", data := Data.fields #[Value.ref 142, Value.ref 142, Value.ref 142] }
noncomputable def o184 : Params → Obj := fun P => { cls := Value.type "builtin_function_or_method", data := Data.fields #[Value.builtin "object.__init_subclass__", Value.ref 142] }
noncomputable def o185 : Params → Obj := fun P => { cls := Value.type "dict", data := Data.dict #[{ hash := PyData.keyHash P (Str.ofString "__name__"), key := Value.str (Str.ofString "__name__") 165, val := Value.str (Str.ofString "grammarmill.lexfile") 321 }, { hash := PyData.keyHash P (Str.ofString "__doc__"), key := Value.str (Str.ofString "__doc__") 166, val := Value.none }, { hash := PyData.keyHash P (Str.ofString "__package__"), key := Value.str (Str.ofString "__package__") 167, val := Value.none }, { hash := PyData.keyHash P (Str.ofString "__loader__"), key := Value.str (Str.ofString "__loader__") 168, val := Value.builtin "__main__.__loader__#opaque" }, { hash := PyData.keyHash P (Str.ofString "__spec__"), key := Value.str (Str.ofString "__spec__") 169, val := Value.none }, { hash := PyData.keyHash P (Str.ofString "__annotations__"), key := Value.str (Str.ofString "__annotations__") 170, val := Value.ref 6 }, { hash := PyData.keyHash P (Str.ofString "__builtins__"), key := Value.str (Str.ofString "__builtins__") 171, val := Value.ref 4 }, { hash := PyData.keyHash P (Str.ofString "__file__"), key := Value.str (Str.ofString "__file__") 173, val := Value.str (Str.ofString "/claim/cut.py") 172 }, { hash := PyData.keyHash P (Str.ofString "__cached__"), key := Value.str (Str.ofString "__cached__") 174, val := Value.none }, { hash := PyData.keyHash P (Str.ofString "_wall"), key := Value.str (Str.ofString "_wall") 193, val := Value.ref 21 }, { hash := PyData.keyHash P (Str.ofString "spine"), key := Value.str (Str.ofString "spine") 204, val := Value.ref 28 }, { hash := PyData.keyHash P (Str.ofString "can_be_empty"), key := Value.str (Str.ofString "can_be_empty") 214, val := Value.ref 35 }, { hash := PyData.keyHash P (Str.ofString "least_length"), key := Value.str (Str.ofString "least_length") 225, val := Value.ref 42 }, { hash := PyData.keyHash P (Str.ofString "most_length"), key := Value.str (Str.ofString "most_length") 235, val := Value.ref 49 }, { hash := PyData.keyHash P (Str.ofString "most_of_row"), key := Value.str (Str.ofString "most_of_row") 246, val := Value.ref 56 }, { hash := PyData.keyHash P (Str.ofString "most_of_loop"), key := Value.str (Str.ofString "most_of_loop") 256, val := Value.ref 63 }, { hash := PyData.keyHash P (Str.ofString "fixed_length"), key := Value.str (Str.ofString "fixed_length") 264, val := Value.ref 70 }, { hash := PyData.keyHash P (Str.ofString "kinds_of"), key := Value.str (Str.ofString "kinds_of") 276, val := Value.ref 77 }, { hash := PyData.keyHash P (Str.ofString "entered"), key := Value.str (Str.ofString "entered") 289, val := Value.ref 84 }, { hash := PyData.keyHash P (Str.ofString "can_match"), key := Value.str (Str.ofString "can_match") 297, val := Value.ref 91 }, { hash := PyData.keyHash P (Str.ofString "is_searched"), key := Value.str (Str.ofString "is_searched") 304, val := Value.ref 98 }, { hash := PyData.keyHash P (Str.ofString "warnings_of"), key := Value.str (Str.ofString "warnings_of") 310, val := Value.ref 103 }, { hash := PyData.keyHash P (Str.ofString "costs_of"), key := Value.str (Str.ofString "costs_of") 320, val := Value.ref 110 }, { hash := PyData.keyHash P (Str.ofString "LexStep"), key := Value.str (Str.ofString "LexStep") 367, val := Value.ref 142 }, { hash := PyData.keyHash P (Str.ofString "LexRule"), key := Value.str (Str.ofString "LexRule") 448, val := Value.ref 201 }] 25 }
noncomputable def o186 : Params → Obj := fun P => { cls := Value.none, data := Data.fields #[Value.int 1 0, Value.int 0 0, Value.ref 20, Value.int 5 0, Value.int 0 0, Value.ref 27, Value.int 15 0, Value.int 0 0, Value.ref 34, Value.int 33 0, Value.int 0 0, Value.ref 41, Value.int 59 0, Value.int 0 0, Value.ref 48, Value.int 77 0, Value.int 0 0, Value.ref 55, Value.int 89 0, Value.int 0 0, Value.ref 62, Value.int 110 0, Value.int 0 0, Value.ref 69, Value.int 116 0, Value.int 0 0, Value.ref 76, Value.int 123 0, Value.int 0 0, Value.ref 83, Value.int 137 0, Value.int 0 0, Value.ref 90, Value.int 142 0, Value.int 0 0, Value.ref 97, Value.int 146 0, Value.int 0 0, Value.ref 102, Value.int 162 0, Value.int 0 0, Value.ref 109, Value.int 175 0, Value.int 0 0, Value.ref 116, Value.int 186 0, Value.int 0 0, Value.ref 152] }
noncomputable def o187 : Params → Obj := fun P => { cls := Value.type "tuple", data := Data.seq #[] }
noncomputable def o188 : Params → Obj := fun P => { cls := Value.type "builtin_function_or_method", data := Data.fields #[Value.builtin "type.__prepare__", Value.type "type"] }
noncomputable def o189 : Params → Obj := fun P => { cls := Value.type "dict", data := Data.dict #[{ hash := PyData.keyHash P (Str.ofString "__module__"), key := Value.str (Str.ofString "__module__") 375, val := Value.str (Str.ofString "grammarmill.lexfile") 321 }, { hash := PyData.keyHash P (Str.ofString "__qualname__"), key := Value.str (Str.ofString "__qualname__") 377, val := Value.str (Str.ofString "LexRule") 376 }, { hash := PyData.keyHash P (Str.ofString "__firstlineno__"), key := Value.str (Str.ofString "__firstlineno__") 379, val := Value.int 186 378 }, { hash := PyData.keyHash P (Str.ofString "__init__"), key := Value.str (Str.ofString "__init__") 391, val := Value.ref 160 }, { hash := PyData.keyHash P (Str.ofString "is_end"), key := Value.str (Str.ofString "is_end") 398, val := Value.ref 167 }, { hash := PyData.keyHash P (Str.ofString "is_live"), key := Value.str (Str.ofString "is_live") 406, val := Value.ref 174 }, { hash := PyData.keyHash P (Str.ofString "has_step"), key := Value.str (Str.ofString "has_step") 415, val := Value.ref 181 }, { hash := PyData.keyHash P (Str.ofString "kind"), key := Value.str (Str.ofString "kind") 423, val := Value.ref 188 }, { hash := PyData.keyHash P (Str.ofString "goals"), key := Value.str (Str.ofString "goals") 429, val := Value.ref 193 }, { hash := PyData.keyHash P (Str.ofString "told"), key := Value.str (Str.ofString "told") 435, val := Value.ref 198 }, { hash := PyData.keyHash P (Str.ofString "__static_attributes__"), key := Value.str (Str.ofString "__static_attributes__") 441, val := Value.ref 199 }] 11 }
noncomputable def o190 : Params → Obj := fun P => { cls := Value.type "tuple", data := Data.seq #[] }
noncomputable def o191 : Params → Obj := fun P => { cls := Value.none, data := Data.fields #[Value.int 188 0, Value.int 4 0, Value.ref 159, Value.int 195 0, Value.int 4 0, Value.ref 166, Value.int 198 0, Value.int 4 0, Value.ref 173, Value.int 201 0, Value.int 4 0, Value.ref 180, Value.int 207 0, Value.int 4 0, Value.ref 187, Value.int 213 0, Value.int 4 0, Value.ref 192, Value.int 216 0, Value.int 4 0, Value.ref 197] }
noncomputable def o192 : Params → Obj := fun P => { cls := Value.type "code", data := Data.fields #[Value.str (Str.ofString "LexRule") 370, Value.str (Str.ofString "LexRule") 371, Value.str (Str.ofString "/claim/cut.py") 372, Value.int 186 0, Value.int 0 0, Value.int 0 0, Value.int 0 0, Value.int 0 0, Value.ref 150, Value.bool false, Value.int 181 0, Value.ref 151, Value.none, Value.none, Value.none, Value.none, Value.int 373 0, Value.int 186 0, Value.str (Str.ofString "/claim/cut.py") 374] }
noncomputable def o193 : Params → Obj := fun P => { cls := Value.type "frame", slots := #[some (Value.ref 152), some (Value.ref 3), some (Value.ref 149), none, some (Value.str (Str.ofString "grammarmill.lexfile") 321), none, some (Value.ref 0)] }
noncomputable def o194 : Params → Obj := fun P => { cls := Value.type "tuple", data := Data.seq #[] }
noncomputable def o195 : Params → Obj := fun P => { cls := Value.none, data := Data.fields #[] }
noncomputable def o196 : Params → Obj := fun P => { cls := Value.type "tuple", data := Data.seq #[Value.str (Str.ofString "self") 383, Value.str (Str.ofString "number") 384, Value.str (Str.ofString "conditions") 385, Value.str (Str.ofString "pattern") 386, Value.str (Str.ofString "steps") 387, Value.str (Str.ofString "line") 388] }
noncomputable def o197 : Params → Obj := fun P => { cls := Value.type "tuple", data := Data.seq #[] }
noncomputable def o198 : Params → Obj := by
  refine (?f : (?K = (fun P => { cls := Value.none, data := Data.func { name := Str.ofString "__init__", qualname := Str.ofString "LexRule.__init__", params := a19x0, body := FuncBody.stmts b19x0, scope := c19x0, globals := 0, closure := [], defaults := Value.none, kwdefaults := Value.none } } : Params → Obj)) → Params → Obj) ?pf
  case pf => (delta a19x0 b19x0 c19x0; rfl)
  case f => exact fun _ => ?K
noncomputable def o199 : Params → Obj := fun P => { cls := Value.type "code", data := Data.fields #[Value.str (Str.ofString "__init__") 380, Value.str (Str.ofString "LexRule.__init__") 381, Value.str (Str.ofString "/claim/cut.py") 382, Value.int 188 0, Value.int 6 0, Value.int 0 0, Value.int 0 0, Value.int 3 0, Value.ref 154, Value.bool true, Value.int 181 0, Value.ref 155, Value.none, Value.ref 156, Value.ref 157, Value.ref 158, Value.int 389 0, Value.int 188 0, Value.str (Str.ofString "/claim/cut.py") 390] }
noncomputable def o200 : Params → Obj := by
  refine (?f : (?K = (fun P => { cls := Value.type "function", data := Data.func { name := Str.ofString "__init__", qualname := Str.ofString "LexRule.__init__", params := a19x0, body := FuncBody.stmts b19x0, scope := c19x0, globals := 3, closure := [], defaults := Value.none, kwdefaults := Value.none, pyModule := Value.str (Str.ofString "grammarmill.lexfile") 321, code := Value.ref 159 } } : Params → Obj)) → Params → Obj) ?pf
  case pf => (delta a19x0 b19x0 c19x0; rfl)
  case f => exact fun _ => ?K
noncomputable def o201 : Params → Obj := fun P => { cls := Value.type "tuple", data := Data.seq #[] }
noncomputable def o202 : Params → Obj := fun P => { cls := Value.none, data := Data.fields #[] }
noncomputable def o203 : Params → Obj := fun P => { cls := Value.type "tuple", data := Data.seq #[Value.str (Str.ofString "self") 395] }
noncomputable def o204 : Params → Obj := fun P => { cls := Value.type "tuple", data := Data.seq #[] }
noncomputable def o205 : Params → Obj := by
  refine (?f : (?K = (fun P => { cls := Value.none, data := Data.func { name := Str.ofString "is_end", qualname := Str.ofString "LexRule.is_end", params := a19x1, body := FuncBody.stmts b19x1, scope := c19x1, globals := 0, closure := [], defaults := Value.none, kwdefaults := Value.none } } : Params → Obj)) → Params → Obj) ?pf
  case pf => (delta a19x1 b19x1 c19x1; rfl)
  case f => exact fun _ => ?K
noncomputable def o206 : Params → Obj := fun P => { cls := Value.type "code", data := Data.fields #[Value.str (Str.ofString "is_end") 392, Value.str (Str.ofString "LexRule.is_end") 393, Value.str (Str.ofString "/claim/cut.py") 394, Value.int 195 0, Value.int 1 0, Value.int 0 0, Value.int 0 0, Value.int 3 0, Value.ref 161, Value.bool true, Value.int 181 0, Value.ref 162, Value.none, Value.ref 163, Value.ref 164, Value.ref 165, Value.int 396 0, Value.int 195 0, Value.str (Str.ofString "/claim/cut.py") 397] }
noncomputable def o207 : Params → Obj := by
  refine (?f : (?K = (fun P => { cls := Value.type "function", data := Data.func { name := Str.ofString "is_end", qualname := Str.ofString "LexRule.is_end", params := a19x1, body := FuncBody.stmts b19x1, scope := c19x1, globals := 3, closure := [], defaults := Value.none, kwdefaults := Value.none, pyModule := Value.str (Str.ofString "grammarmill.lexfile") 321, code := Value.ref 166 } } : Params → Obj)) → Params → Obj) ?pf
  case pf => (delta a19x1 b19x1 c19x1; rfl)
  case f => exact fun _ => ?K
noncomputable def o208 : Params → Obj := fun P => { cls := Value.type "tuple", data := Data.seq #[] }
noncomputable def o209 : Params → Obj := fun P => { cls := Value.none, data := Data.fields #[] }
noncomputable def o210 : Params → Obj := fun P => { cls := Value.type "tuple", data := Data.seq #[Value.str (Str.ofString "self") 402, Value.str (Str.ofString "condition") 403] }
noncomputable def o211 : Params → Obj := fun P => { cls := Value.type "tuple", data := Data.seq #[] }
noncomputable def o212 : Params → Obj := by
  refine (?f : (?K = (fun P => { cls := Value.none, data := Data.func { name := Str.ofString "is_live", qualname := Str.ofString "LexRule.is_live", params := a19x2, body := FuncBody.stmts b19x2, scope := c19x2, globals := 0, closure := [], defaults := Value.none, kwdefaults := Value.none } } : Params → Obj)) → Params → Obj) ?pf
  case pf => (delta a19x2 b19x2 c19x2; rfl)
  case f => exact fun _ => ?K
noncomputable def o213 : Params → Obj := fun P => { cls := Value.type "code", data := Data.fields #[Value.str (Str.ofString "is_live") 399, Value.str (Str.ofString "LexRule.is_live") 400, Value.str (Str.ofString "/claim/cut.py") 401, Value.int 198 0, Value.int 2 0, Value.int 0 0, Value.int 0 0, Value.int 3 0, Value.ref 168, Value.bool true, Value.int 181 0, Value.ref 169, Value.none, Value.ref 170, Value.ref 171, Value.ref 172, Value.int 404 0, Value.int 198 0, Value.str (Str.ofString "/claim/cut.py") 405] }
noncomputable def o214 : Params → Obj := by
  refine (?f : (?K = (fun P => { cls := Value.type "function", data := Data.func { name := Str.ofString "is_live", qualname := Str.ofString "LexRule.is_live", params := a19x2, body := FuncBody.stmts b19x2, scope := c19x2, globals := 3, closure := [], defaults := Value.none, kwdefaults := Value.none, pyModule := Value.str (Str.ofString "grammarmill.lexfile") 321, code := Value.ref 173 } } : Params → Obj)) → Params → Obj) ?pf
  case pf => (delta a19x2 b19x2 c19x2; rfl)
  case f => exact fun _ => ?K
noncomputable def o215 : Params → Obj := fun P => { cls := Value.type "tuple", data := Data.seq #[] }
noncomputable def o216 : Params → Obj := fun P => { cls := Value.none, data := Data.fields #[] }
noncomputable def o217 : Params → Obj := fun P => { cls := Value.type "tuple", data := Data.seq #[Value.str (Str.ofString "self") 410, Value.str (Str.ofString "word") 411, Value.str (Str.ofString "step") 412] }
noncomputable def o218 : Params → Obj := fun P => { cls := Value.type "tuple", data := Data.seq #[] }
noncomputable def o219 : Params → Obj := by
  refine (?f : (?K = (fun P => { cls := Value.none, data := Data.func { name := Str.ofString "has_step", qualname := Str.ofString "LexRule.has_step", params := a19x3, body := FuncBody.stmts b19x3, scope := c19x3, globals := 0, closure := [], defaults := Value.none, kwdefaults := Value.none } } : Params → Obj)) → Params → Obj) ?pf
  case pf => (delta a19x3 b19x3 c19x3; rfl)
  case f => exact fun _ => ?K
noncomputable def o220 : Params → Obj := fun P => { cls := Value.type "code", data := Data.fields #[Value.str (Str.ofString "has_step") 407, Value.str (Str.ofString "LexRule.has_step") 408, Value.str (Str.ofString "/claim/cut.py") 409, Value.int 201 0, Value.int 2 0, Value.int 0 0, Value.int 0 0, Value.int 3 0, Value.ref 175, Value.bool true, Value.int 181 0, Value.ref 176, Value.none, Value.ref 177, Value.ref 178, Value.ref 179, Value.int 413 0, Value.int 201 0, Value.str (Str.ofString "/claim/cut.py") 414] }
noncomputable def o221 : Params → Obj := by
  refine (?f : (?K = (fun P => { cls := Value.type "function", data := Data.func { name := Str.ofString "has_step", qualname := Str.ofString "LexRule.has_step", params := a19x3, body := FuncBody.stmts b19x3, scope := c19x3, globals := 3, closure := [], defaults := Value.none, kwdefaults := Value.none, pyModule := Value.str (Str.ofString "grammarmill.lexfile") 321, code := Value.ref 180 } } : Params → Obj)) → Params → Obj) ?pf
  case pf => (delta a19x3 b19x3 c19x3; rfl)
  case f => exact fun _ => ?K
noncomputable def o222 : Params → Obj := fun P => { cls := Value.type "tuple", data := Data.seq #[] }
noncomputable def o223 : Params → Obj := fun P => { cls := Value.none, data := Data.fields #[] }
noncomputable def o224 : Params → Obj := fun P => { cls := Value.type "tuple", data := Data.seq #[Value.str (Str.ofString "self") 419, Value.str (Str.ofString "step") 420] }
noncomputable def o225 : Params → Obj := fun P => { cls := Value.type "tuple", data := Data.seq #[] }
noncomputable def o226 : Params → Obj := by
  refine (?f : (?K = (fun P => { cls := Value.none, data := Data.func { name := Str.ofString "kind", qualname := Str.ofString "LexRule.kind", params := a19x4, body := FuncBody.stmts b19x4, scope := c19x4, globals := 0, closure := [], defaults := Value.none, kwdefaults := Value.none } } : Params → Obj)) → Params → Obj) ?pf
  case pf => (delta a19x4 b19x4 c19x4; rfl)
  case f => exact fun _ => ?K
noncomputable def o227 : Params → Obj := fun P => { cls := Value.type "code", data := Data.fields #[Value.str (Str.ofString "kind") 416, Value.str (Str.ofString "LexRule.kind") 417, Value.str (Str.ofString "/claim/cut.py") 418, Value.int 207 0, Value.int 1 0, Value.int 0 0, Value.int 0 0, Value.int 3 0, Value.ref 182, Value.bool true, Value.int 181 0, Value.ref 183, Value.none, Value.ref 184, Value.ref 185, Value.ref 186, Value.int 421 0, Value.int 207 0, Value.str (Str.ofString "/claim/cut.py") 422] }
noncomputable def o228 : Params → Obj := by
  refine (?f : (?K = (fun P => { cls := Value.type "function", data := Data.func { name := Str.ofString "kind", qualname := Str.ofString "LexRule.kind", params := a19x4, body := FuncBody.stmts b19x4, scope := c19x4, globals := 3, closure := [], defaults := Value.none, kwdefaults := Value.none, pyModule := Value.str (Str.ofString "grammarmill.lexfile") 321, code := Value.ref 187 } } : Params → Obj)) → Params → Obj) ?pf
  case pf => (delta a19x4 b19x4 c19x4; rfl)
  case f => exact fun _ => ?K
noncomputable def o229 : Params → Obj := fun P => { cls := Value.type "tuple", data := Data.seq #[] }
noncomputable def o230 : Params → Obj := fun P => { cls := Value.none, data := Data.fields #[] }
noncomputable def o231 : Params → Obj := by
  refine (?f : (?K = (fun P => { cls := Value.none, data := Data.func { name := Str.ofString "goals", qualname := Str.ofString "LexRule.goals", params := a19x5, body := FuncBody.stmts b19x5, scope := c19x5, globals := 0, closure := [], defaults := Value.none, kwdefaults := Value.none } } : Params → Obj)) → Params → Obj) ?pf
  case pf => (delta a19x5 b19x5 c19x5; rfl)
  case f => exact fun _ => ?K
noncomputable def o232 : Params → Obj := fun P => { cls := Value.type "code", data := Data.fields #[Value.str (Str.ofString "goals") 424, Value.str (Str.ofString "LexRule.goals") 425, Value.str (Str.ofString "/claim/cut.py") 426, Value.int 213 0, Value.int 1 0, Value.int 0 0, Value.int 0 0, Value.int 3 0, Value.ref 189, Value.bool true, Value.int 181 0, Value.ref 190, Value.none, Value.none, Value.none, Value.ref 191, Value.int 427 0, Value.int 213 0, Value.str (Str.ofString "/claim/cut.py") 428] }
noncomputable def o233 : Params → Obj := by
  refine (?f : (?K = (fun P => { cls := Value.type "function", data := Data.func { name := Str.ofString "goals", qualname := Str.ofString "LexRule.goals", params := a19x5, body := FuncBody.stmts b19x5, scope := c19x5, globals := 3, closure := [], defaults := Value.none, kwdefaults := Value.none, pyModule := Value.str (Str.ofString "grammarmill.lexfile") 321, code := Value.ref 192 } } : Params → Obj)) → Params → Obj) ?pf
  case pf => (delta a19x5 b19x5 c19x5; rfl)
  case f => exact fun _ => ?K
noncomputable def o234 : Params → Obj := fun P => { cls := Value.type "tuple", data := Data.seq #[] }
noncomputable def o235 : Params → Obj := fun P => { cls := Value.none, data := Data.fields #[] }
noncomputable def o236 : Params → Obj := by
  refine (?f : (?K = (fun P => { cls := Value.none, data := Data.func { name := Str.ofString "told", qualname := Str.ofString "LexRule.told", params := a19x6, body := FuncBody.stmts b19x6, scope := c19x6, globals := 0, closure := [], defaults := Value.none, kwdefaults := Value.none } } : Params → Obj)) → Params → Obj) ?pf
  case pf => (delta a19x6 b19x6 c19x6; rfl)
  case f => exact fun _ => ?K
noncomputable def o237 : Params → Obj := fun P => { cls := Value.type "code", data := Data.fields #[Value.str (Str.ofString "told") 430, Value.str (Str.ofString "LexRule.told") 431, Value.str (Str.ofString "/claim/cut.py") 432, Value.int 216 0, Value.int 1 0, Value.int 0 0, Value.int 0 0, Value.int 3 0, Value.ref 194, Value.bool true, Value.int 181 0, Value.ref 195, Value.none, Value.none, Value.none, Value.ref 196, Value.int 433 0, Value.int 216 0, Value.str (Str.ofString "/claim/cut.py") 434] }
noncomputable def o238 : Params → Obj := by
  refine (?f : (?K = (fun P => { cls := Value.type "function", data := Data.func { name := Str.ofString "told", qualname := Str.ofString "LexRule.told", params := a19x6, body := FuncBody.stmts b19x6, scope := c19x6, globals := 3, closure := [], defaults := Value.none, kwdefaults := Value.none, pyModule := Value.str (Str.ofString "grammarmill.lexfile") 321, code := Value.ref 197 } } : Params → Obj)) → Params → Obj) ?pf
  case pf => (delta a19x6 b19x6 c19x6; rfl)
  case f => exact fun _ => ?K
noncomputable def o239 : Params → Obj := fun P => { cls := Value.type "tuple", data := Data.seq #[Value.str (Str.ofString "conditions") 436, Value.str (Str.ofString "line") 437, Value.str (Str.ofString "number") 438, Value.str (Str.ofString "pattern") 439, Value.str (Str.ofString "steps") 440] }
noncomputable def o240 : Params → Obj := fun P => { cls := Value.type "dict", data := Data.dict #[{ hash := PyData.keyHash P (Str.ofString "__module__"), key := Value.str (Str.ofString "__module__") 375, val := Value.str (Str.ofString "grammarmill.lexfile") 321 }, { hash := PyData.keyHash P (Str.ofString "__firstlineno__"), key := Value.str (Str.ofString "__firstlineno__") 379, val := Value.int 186 378 }, { hash := PyData.keyHash P (Str.ofString "__init__"), key := Value.str (Str.ofString "__init__") 391, val := Value.ref 160 }, { hash := PyData.keyHash P (Str.ofString "is_end"), key := Value.str (Str.ofString "is_end") 398, val := Value.ref 167 }, { hash := PyData.keyHash P (Str.ofString "is_live"), key := Value.str (Str.ofString "is_live") 406, val := Value.ref 174 }, { hash := PyData.keyHash P (Str.ofString "has_step"), key := Value.str (Str.ofString "has_step") 415, val := Value.ref 181 }, { hash := PyData.keyHash P (Str.ofString "kind"), key := Value.str (Str.ofString "kind") 423, val := Value.ref 188 }, { hash := PyData.keyHash P (Str.ofString "goals"), key := Value.str (Str.ofString "goals") 429, val := Value.ref 193 }, { hash := PyData.keyHash P (Str.ofString "told"), key := Value.str (Str.ofString "told") 435, val := Value.ref 198 }, { hash := PyData.keyHash P (Str.ofString "__static_attributes__"), key := Value.str (Str.ofString "__static_attributes__") 441, val := Value.ref 199 }, { hash := PyData.keyHash P (Str.ofString "__dict__"), key := Value.str (Str.ofString "__dict__") 443, val := Value.ref 202 }, { hash := PyData.keyHash P (Str.ofString "__weakref__"), key := Value.str (Str.ofString "__weakref__") 445, val := Value.ref 203 }, { hash := PyData.keyHash P (Str.ofString "__doc__"), key := Value.str (Str.ofString "__doc__") 446, val := Value.none }] 4 }
noncomputable def o241 : Params → Obj := fun P => { cls := Value.type "type", data := Data.cls { name := Str.ofString "LexRule", bases := [Value.type "object"], mro := [Value.ref 201, Value.type "object"], ns := 200, qualname := Str.ofString "LexRule" }, slots := #[none, none, some (Value.str (Str.ofString "LexRule") 368), some (Value.str (Str.ofString "LexRule") 376), some (Value.builtin "object.__new__"), some (Value.bool true)] }
noncomputable def o242 : Params → Obj := fun P => { cls := Value.type "getset_descriptor", data := Data.fields #[Value.str (Str.ofString "__dict__") 442, Value.ref 201, Value.builtin "function.__dict__", Value.builtin "function.__dict__#set"] }
noncomputable def o243 : Params → Obj := fun P => { cls := Value.type "getset_descriptor", data := Data.fields #[Value.str (Str.ofString "__weakref__") 444, Value.ref 201, Value.builtin "ExceptionGroup.__weakref__", Value.none] }
noncomputable def o244 : Params → Obj := fun P => { cls := Value.type "super", data := Data.fields #[Value.ref 201, Value.ref 201, Value.ref 201] }
noncomputable def o245 : Params → Obj := fun P => { cls := Value.type "builtin_function_or_method", data := Data.fields #[Value.builtin "object.__init_subclass__", Value.ref 201] }
noncomputable def o246 : Params → Obj := fun P => { cls := Value.type "dict", data := Data.dict #[{ hash := PyData.keyHash P (Str.ofString "__name__"), key := Value.str (Str.ofString "__name__") 165, val := Value.str (Str.ofString "law_on0169_01") 526 }, { hash := PyData.keyHash P (Str.ofString "__doc__"), key := Value.str (Str.ofString "__doc__") 166, val := Value.none }, { hash := PyData.keyHash P (Str.ofString "__package__"), key := Value.str (Str.ofString "__package__") 167, val := Value.none }, { hash := PyData.keyHash P (Str.ofString "__loader__"), key := Value.str (Str.ofString "__loader__") 168, val := Value.builtin "__main__.__loader__#opaque" }, { hash := PyData.keyHash P (Str.ofString "__spec__"), key := Value.str (Str.ofString "__spec__") 169, val := Value.none }, { hash := PyData.keyHash P (Str.ofString "__annotations__"), key := Value.str (Str.ofString "__annotations__") 170, val := Value.ref 6 }, { hash := PyData.keyHash P (Str.ofString "__builtins__"), key := Value.str (Str.ofString "__builtins__") 171, val := Value.ref 4 }, { hash := PyData.keyHash P (Str.ofString "__file__"), key := Value.str (Str.ofString "__file__") 173, val := Value.str (Str.ofString "/claim/cut.py") 172 }, { hash := PyData.keyHash P (Str.ofString "__cached__"), key := Value.str (Str.ofString "__cached__") 174, val := Value.none }, { hash := PyData.keyHash P (Str.ofString "_wall"), key := Value.str (Str.ofString "_wall") 193, val := Value.ref 21 }, { hash := PyData.keyHash P (Str.ofString "spine"), key := Value.str (Str.ofString "spine") 204, val := Value.ref 28 }, { hash := PyData.keyHash P (Str.ofString "can_be_empty"), key := Value.str (Str.ofString "can_be_empty") 214, val := Value.ref 35 }, { hash := PyData.keyHash P (Str.ofString "least_length"), key := Value.str (Str.ofString "least_length") 225, val := Value.ref 42 }, { hash := PyData.keyHash P (Str.ofString "most_length"), key := Value.str (Str.ofString "most_length") 235, val := Value.ref 49 }, { hash := PyData.keyHash P (Str.ofString "most_of_row"), key := Value.str (Str.ofString "most_of_row") 246, val := Value.ref 56 }, { hash := PyData.keyHash P (Str.ofString "most_of_loop"), key := Value.str (Str.ofString "most_of_loop") 256, val := Value.ref 63 }, { hash := PyData.keyHash P (Str.ofString "fixed_length"), key := Value.str (Str.ofString "fixed_length") 264, val := Value.ref 70 }, { hash := PyData.keyHash P (Str.ofString "kinds_of"), key := Value.str (Str.ofString "kinds_of") 276, val := Value.ref 77 }, { hash := PyData.keyHash P (Str.ofString "entered"), key := Value.str (Str.ofString "entered") 289, val := Value.ref 84 }, { hash := PyData.keyHash P (Str.ofString "can_match"), key := Value.str (Str.ofString "can_match") 297, val := Value.ref 91 }, { hash := PyData.keyHash P (Str.ofString "is_searched"), key := Value.str (Str.ofString "is_searched") 304, val := Value.ref 98 }, { hash := PyData.keyHash P (Str.ofString "warnings_of"), key := Value.str (Str.ofString "warnings_of") 310, val := Value.ref 103 }, { hash := PyData.keyHash P (Str.ofString "costs_of"), key := Value.str (Str.ofString "costs_of") 320, val := Value.ref 110 }, { hash := PyData.keyHash P (Str.ofString "LexStep"), key := Value.str (Str.ofString "LexStep") 367, val := Value.ref 142 }, { hash := PyData.keyHash P (Str.ofString "LexRule"), key := Value.str (Str.ofString "LexRule") 448, val := Value.ref 201 }, { hash := PyData.keyHash P (Str.ofString "LexFile"), key := Value.str (Str.ofString "LexFile") 525, val := Value.ref 256 }] 26 }
noncomputable def o247 : Params → Obj := fun P => { cls := Value.none, data := Data.fields #[Value.int 1 0, Value.int 0 0, Value.ref 20, Value.int 5 0, Value.int 0 0, Value.ref 27, Value.int 15 0, Value.int 0 0, Value.ref 34, Value.int 33 0, Value.int 0 0, Value.ref 41, Value.int 59 0, Value.int 0 0, Value.ref 48, Value.int 77 0, Value.int 0 0, Value.ref 55, Value.int 89 0, Value.int 0 0, Value.ref 62, Value.int 110 0, Value.int 0 0, Value.ref 69, Value.int 116 0, Value.int 0 0, Value.ref 76, Value.int 123 0, Value.int 0 0, Value.ref 83, Value.int 137 0, Value.int 0 0, Value.ref 90, Value.int 142 0, Value.int 0 0, Value.ref 97, Value.int 146 0, Value.int 0 0, Value.ref 102, Value.int 162 0, Value.int 0 0, Value.ref 109, Value.int 175 0, Value.int 0 0, Value.ref 116, Value.int 186 0, Value.int 0 0, Value.ref 152, Value.int 219 0, Value.int 0 0, Value.ref 211] }
noncomputable def o248 : Params → Obj := fun P => { cls := Value.type "tuple", data := Data.seq #[] }
noncomputable def o249 : Params → Obj := fun P => { cls := Value.type "builtin_function_or_method", data := Data.fields #[Value.builtin "type.__prepare__", Value.type "type"] }
noncomputable def o250 : Params → Obj := fun P => { cls := Value.type "dict", data := Data.dict #[{ hash := PyData.keyHash P (Str.ofString "__module__"), key := Value.str (Str.ofString "__module__") 456, val := Value.str (Str.ofString "grammarmill.lexfile") 321 }, { hash := PyData.keyHash P (Str.ofString "__qualname__"), key := Value.str (Str.ofString "__qualname__") 458, val := Value.str (Str.ofString "LexFile") 457 }, { hash := PyData.keyHash P (Str.ofString "__firstlineno__"), key := Value.str (Str.ofString "__firstlineno__") 460, val := Value.int 219 459 }, { hash := PyData.keyHash P (Str.ofString "__init__"), key := Value.str (Str.ofString "__init__") 473, val := Value.ref 220 }, { hash := PyData.keyHash P (Str.ofString "condition_number"), key := Value.str (Str.ofString "condition_number") 482, val := Value.ref 227 }, { hash := PyData.keyHash P (Str.ofString "plain_conditions"), key := Value.str (Str.ofString "plain_conditions") 489, val := Value.ref 234 }, { hash := PyData.keyHash P (Str.ofString "live_rules"), key := Value.str (Str.ofString "live_rules") 497, val := Value.ref 241 }, { hash := PyData.keyHash P (Str.ofString "end_rule"), key := Value.str (Str.ofString "end_rule") 506, val := Value.ref 248 }, { hash := PyData.keyHash P (Str.ofString "told"), key := Value.str (Str.ofString "told") 512, val := Value.ref 253 }, { hash := PyData.keyHash P (Str.ofString "__static_attributes__"), key := Value.str (Str.ofString "__static_attributes__") 518, val := Value.ref 254 }] 10 }
noncomputable def o251 : Params → Obj := fun P => { cls := Value.type "tuple", data := Data.seq #[] }
noncomputable def o252 : Params → Obj := fun P => { cls := Value.none, data := Data.fields #[Value.int 221 0, Value.int 4 0, Value.ref 219, Value.int 228 0, Value.int 4 0, Value.ref 226, Value.int 234 0, Value.int 4 0, Value.ref 233, Value.int 237 0, Value.int 4 0, Value.ref 240, Value.int 240 0, Value.int 4 0, Value.ref 247, Value.int 246 0, Value.int 4 0, Value.ref 252] }
noncomputable def o253 : Params → Obj := fun P => { cls := Value.type "code", data := Data.fields #[Value.str (Str.ofString "LexFile") 451, Value.str (Str.ofString "LexFile") 452, Value.str (Str.ofString "/claim/cut.py") 453, Value.int 219 0, Value.int 0 0, Value.int 0 0, Value.int 0 0, Value.int 0 0, Value.ref 209, Value.bool false, Value.int 181 0, Value.ref 210, Value.none, Value.none, Value.none, Value.none, Value.int 454 0, Value.int 219 0, Value.str (Str.ofString "/claim/cut.py") 455] }
noncomputable def o254 : Params → Obj := fun P => { cls := Value.type "frame", slots := #[some (Value.ref 211), some (Value.ref 3), some (Value.ref 208), none, some (Value.str (Str.ofString "grammarmill.lexfile") 321), none, some (Value.ref 0)] }
noncomputable def o255 : Params → Obj := fun P => { cls := Value.type "tuple", data := Data.seq #[Value.bool true, Value.str (Str.ofString "") 461] }
noncomputable def o256 : Params → Obj := fun P => { cls := Value.type "tuple", data := Data.seq #[] }
noncomputable def o257 : Params → Obj := fun P => { cls := Value.none, data := Data.fields #[] }
noncomputable def o258 : Params → Obj := fun P => { cls := Value.type "tuple", data := Data.seq #[Value.str (Str.ofString "self") 465, Value.str (Str.ofString "definitions") 466, Value.str (Str.ofString "conditions") 467, Value.str (Str.ofString "rules") 468, Value.str (Str.ofString "has_default") 469, Value.str (Str.ofString "tail") 470] }
noncomputable def o259 : Params → Obj := fun P => { cls := Value.type "tuple", data := Data.seq #[] }
noncomputable def o260 : Params → Obj := by
  refine (?f : (?K = (fun P => { cls := Value.none, data := Data.func { name := Str.ofString "__init__", qualname := Str.ofString "LexFile.__init__", params := a20x0, body := FuncBody.stmts b20x0, scope := c20x0, globals := 0, closure := [], defaults := Value.none, kwdefaults := Value.none } } : Params → Obj)) → Params → Obj) ?pf
  case pf => (delta a20x0 b20x0 c20x0; rfl)
  case f => exact fun _ => ?K
noncomputable def o261 : Params → Obj := fun P => { cls := Value.type "code", data := Data.fields #[Value.str (Str.ofString "__init__") 462, Value.str (Str.ofString "LexFile.__init__") 463, Value.str (Str.ofString "/claim/cut.py") 464, Value.int 221 0, Value.int 6 0, Value.int 0 0, Value.int 0 0, Value.int 3 0, Value.ref 214, Value.bool true, Value.int 181 0, Value.ref 215, Value.none, Value.ref 216, Value.ref 217, Value.ref 218, Value.int 471 0, Value.int 221 0, Value.str (Str.ofString "/claim/cut.py") 472] }
noncomputable def o262 : Params → Obj := by
  refine (?f : (?K = (fun P => { cls := Value.type "function", data := Data.func { name := Str.ofString "__init__", qualname := Str.ofString "LexFile.__init__", params := a20x0, body := FuncBody.stmts b20x0, scope := c20x0, globals := 3, closure := [], defaults := Value.ref 213, kwdefaults := Value.none, pyModule := Value.str (Str.ofString "grammarmill.lexfile") 321, code := Value.ref 219 } } : Params → Obj)) → Params → Obj) ?pf
  case pf => (delta a20x0 b20x0 c20x0; rfl)
  case f => exact fun _ => ?K
noncomputable def o263 : Params → Obj := fun P => { cls := Value.type "tuple", data := Data.seq #[] }
noncomputable def o264 : Params → Obj := fun P => { cls := Value.none, data := Data.fields #[] }
noncomputable def o265 : Params → Obj := fun P => { cls := Value.type "tuple", data := Data.seq #[Value.str (Str.ofString "self") 477, Value.str (Str.ofString "name") 478, Value.str (Str.ofString "number") 479] }
noncomputable def o266 : Params → Obj := fun P => { cls := Value.type "tuple", data := Data.seq #[] }
noncomputable def o267 : Params → Obj := by
  refine (?f : (?K = (fun P => { cls := Value.none, data := Data.func { name := Str.ofString "condition_number", qualname := Str.ofString "LexFile.condition_number", params := a20x1, body := FuncBody.stmts b20x1, scope := c20x1, globals := 0, closure := [], defaults := Value.none, kwdefaults := Value.none } } : Params → Obj)) → Params → Obj) ?pf
  case pf => (delta a20x1 b20x1 c20x1; rfl)
  case f => exact fun _ => ?K
noncomputable def o268 : Params → Obj := fun P => { cls := Value.type "code", data := Data.fields #[Value.str (Str.ofString "condition_number") 474, Value.str (Str.ofString "LexFile.condition_number") 475, Value.str (Str.ofString "/claim/cut.py") 476, Value.int 228 0, Value.int 2 0, Value.int 0 0, Value.int 0 0, Value.int 3 0, Value.ref 221, Value.bool true, Value.int 181 0, Value.ref 222, Value.none, Value.ref 223, Value.ref 224, Value.ref 225, Value.int 480 0, Value.int 228 0, Value.str (Str.ofString "/claim/cut.py") 481] }
noncomputable def o269 : Params → Obj := by
  refine (?f : (?K = (fun P => { cls := Value.type "function", data := Data.func { name := Str.ofString "condition_number", qualname := Str.ofString "LexFile.condition_number", params := a20x1, body := FuncBody.stmts b20x1, scope := c20x1, globals := 3, closure := [], defaults := Value.none, kwdefaults := Value.none, pyModule := Value.str (Str.ofString "grammarmill.lexfile") 321, code := Value.ref 226 } } : Params → Obj)) → Params → Obj) ?pf
  case pf => (delta a20x1 b20x1 c20x1; rfl)
  case f => exact fun _ => ?K
noncomputable def o270 : Params → Obj := fun P => { cls := Value.type "tuple", data := Data.seq #[] }
noncomputable def o271 : Params → Obj := fun P => { cls := Value.none, data := Data.fields #[] }
noncomputable def o272 : Params → Obj := fun P => { cls := Value.type "tuple", data := Data.seq #[Value.str (Str.ofString "self") 486] }
noncomputable def o273 : Params → Obj := fun P => { cls := Value.type "tuple", data := Data.seq #[] }
noncomputable def o274 : Params → Obj := by
  refine (?f : (?K = (fun P => { cls := Value.none, data := Data.func { name := Str.ofString "plain_conditions", qualname := Str.ofString "LexFile.plain_conditions", params := a20x2, body := FuncBody.stmts b20x2, scope := c20x2, globals := 0, closure := [], defaults := Value.none, kwdefaults := Value.none } } : Params → Obj)) → Params → Obj) ?pf
  case pf => (delta a20x2 b20x2 c20x2; rfl)
  case f => exact fun _ => ?K
noncomputable def o275 : Params → Obj := fun P => { cls := Value.type "code", data := Data.fields #[Value.str (Str.ofString "plain_conditions") 483, Value.str (Str.ofString "LexFile.plain_conditions") 484, Value.str (Str.ofString "/claim/cut.py") 485, Value.int 234 0, Value.int 1 0, Value.int 0 0, Value.int 0 0, Value.int 3 0, Value.ref 228, Value.bool true, Value.int 181 0, Value.ref 229, Value.none, Value.ref 230, Value.ref 231, Value.ref 232, Value.int 487 0, Value.int 234 0, Value.str (Str.ofString "/claim/cut.py") 488] }
noncomputable def o276 : Params → Obj := by
  refine (?f : (?K = (fun P => { cls := Value.type "function", data := Data.func { name := Str.ofString "plain_conditions", qualname := Str.ofString "LexFile.plain_conditions", params := a20x2, body := FuncBody.stmts b20x2, scope := c20x2, globals := 3, closure := [], defaults := Value.none, kwdefaults := Value.none, pyModule := Value.str (Str.ofString "grammarmill.lexfile") 321, code := Value.ref 233 } } : Params → Obj)) → Params → Obj) ?pf
  case pf => (delta a20x2 b20x2 c20x2; rfl)
  case f => exact fun _ => ?K
noncomputable def o277 : Params → Obj := fun P => { cls := Value.type "tuple", data := Data.seq #[] }
noncomputable def o278 : Params → Obj := fun P => { cls := Value.none, data := Data.fields #[] }
noncomputable def o279 : Params → Obj := fun P => { cls := Value.type "tuple", data := Data.seq #[Value.str (Str.ofString "self") 493, Value.str (Str.ofString "condition") 494] }
noncomputable def o280 : Params → Obj := fun P => { cls := Value.type "tuple", data := Data.seq #[] }
noncomputable def o281 : Params → Obj := by
  refine (?f : (?K = (fun P => { cls := Value.none, data := Data.func { name := Str.ofString "live_rules", qualname := Str.ofString "LexFile.live_rules", params := a20x3, body := FuncBody.stmts b20x3, scope := c20x3, globals := 0, closure := [], defaults := Value.none, kwdefaults := Value.none } } : Params → Obj)) → Params → Obj) ?pf
  case pf => (delta a20x3 b20x3 c20x3; rfl)
  case f => exact fun _ => ?K
noncomputable def o282 : Params → Obj := fun P => { cls := Value.type "code", data := Data.fields #[Value.str (Str.ofString "live_rules") 490, Value.str (Str.ofString "LexFile.live_rules") 491, Value.str (Str.ofString "/claim/cut.py") 492, Value.int 237 0, Value.int 2 0, Value.int 0 0, Value.int 0 0, Value.int 3 0, Value.ref 235, Value.bool true, Value.int 181 0, Value.ref 236, Value.none, Value.ref 237, Value.ref 238, Value.ref 239, Value.int 495 0, Value.int 237 0, Value.str (Str.ofString "/claim/cut.py") 496] }
noncomputable def o283 : Params → Obj := by
  refine (?f : (?K = (fun P => { cls := Value.type "function", data := Data.func { name := Str.ofString "live_rules", qualname := Str.ofString "LexFile.live_rules", params := a20x3, body := FuncBody.stmts b20x3, scope := c20x3, globals := 3, closure := [], defaults := Value.none, kwdefaults := Value.none, pyModule := Value.str (Str.ofString "grammarmill.lexfile") 321, code := Value.ref 240 } } : Params → Obj)) → Params → Obj) ?pf
  case pf => (delta a20x3 b20x3 c20x3; rfl)
  case f => exact fun _ => ?K
noncomputable def o284 : Params → Obj := fun P => { cls := Value.type "tuple", data := Data.seq #[] }
noncomputable def o285 : Params → Obj := fun P => { cls := Value.none, data := Data.fields #[] }
noncomputable def o286 : Params → Obj := fun P => { cls := Value.type "tuple", data := Data.seq #[Value.str (Str.ofString "self") 501, Value.str (Str.ofString "condition") 502, Value.str (Str.ofString "rule") 503] }
noncomputable def o287 : Params → Obj := fun P => { cls := Value.type "tuple", data := Data.seq #[] }
noncomputable def o288 : Params → Obj := by
  refine (?f : (?K = (fun P => { cls := Value.none, data := Data.func { name := Str.ofString "end_rule", qualname := Str.ofString "LexFile.end_rule", params := a20x4, body := FuncBody.stmts b20x4, scope := c20x4, globals := 0, closure := [], defaults := Value.none, kwdefaults := Value.none } } : Params → Obj)) → Params → Obj) ?pf
  case pf => (delta a20x4 b20x4 c20x4; rfl)
  case f => exact fun _ => ?K
noncomputable def o289 : Params → Obj := fun P => { cls := Value.type "code", data := Data.fields #[Value.str (Str.ofString "end_rule") 498, Value.str (Str.ofString "LexFile.end_rule") 499, Value.str (Str.ofString "/claim/cut.py") 500, Value.int 240 0, Value.int 2 0, Value.int 0 0, Value.int 0 0, Value.int 3 0, Value.ref 242, Value.bool true, Value.int 181 0, Value.ref 243, Value.none, Value.ref 244, Value.ref 245, Value.ref 246, Value.int 504 0, Value.int 240 0, Value.str (Str.ofString "/claim/cut.py") 505] }
noncomputable def o290 : Params → Obj := by
  refine (?f : (?K = (fun P => { cls := Value.type "function", data := Data.func { name := Str.ofString "end_rule", qualname := Str.ofString "LexFile.end_rule", params := a20x4, body := FuncBody.stmts b20x4, scope := c20x4, globals := 3, closure := [], defaults := Value.none, kwdefaults := Value.none, pyModule := Value.str (Str.ofString "grammarmill.lexfile") 321, code := Value.ref 247 } } : Params → Obj)) → Params → Obj) ?pf
  case pf => (delta a20x4 b20x4 c20x4; rfl)
  case f => exact fun _ => ?K
noncomputable def o291 : Params → Obj := fun P => { cls := Value.type "tuple", data := Data.seq #[] }
noncomputable def o292 : Params → Obj := fun P => { cls := Value.none, data := Data.fields #[] }
noncomputable def o293 : Params → Obj := by
  refine (?f : (?K = (fun P => { cls := Value.none, data := Data.func { name := Str.ofString "told", qualname := Str.ofString "LexFile.told", params := a20x5, body := FuncBody.stmts b20x5, scope := c20x5, globals := 0, closure := [], defaults := Value.none, kwdefaults := Value.none } } : Params → Obj)) → Params → Obj) ?pf
  case pf => (delta a20x5 b20x5 c20x5; rfl)
  case f => exact fun _ => ?K
noncomputable def o294 : Params → Obj := fun P => { cls := Value.type "code", data := Data.fields #[Value.str (Str.ofString "told") 507, Value.str (Str.ofString "LexFile.told") 508, Value.str (Str.ofString "/claim/cut.py") 509, Value.int 246 0, Value.int 1 0, Value.int 0 0, Value.int 0 0, Value.int 3 0, Value.ref 249, Value.bool true, Value.int 181 0, Value.ref 250, Value.none, Value.none, Value.none, Value.ref 251, Value.int 510 0, Value.int 246 0, Value.str (Str.ofString "/claim/cut.py") 511] }
noncomputable def o295 : Params → Obj := by
  refine (?f : (?K = (fun P => { cls := Value.type "function", data := Data.func { name := Str.ofString "told", qualname := Str.ofString "LexFile.told", params := a20x5, body := FuncBody.stmts b20x5, scope := c20x5, globals := 3, closure := [], defaults := Value.none, kwdefaults := Value.none, pyModule := Value.str (Str.ofString "grammarmill.lexfile") 321, code := Value.ref 252 } } : Params → Obj)) → Params → Obj) ?pf
  case pf => (delta a20x5 b20x5 c20x5; rfl)
  case f => exact fun _ => ?K
noncomputable def o296 : Params → Obj := fun P => { cls := Value.type "tuple", data := Data.seq #[Value.str (Str.ofString "conditions") 513, Value.str (Str.ofString "definitions") 514, Value.str (Str.ofString "has_default") 515, Value.str (Str.ofString "rules") 516, Value.str (Str.ofString "tail") 517] }
noncomputable def o297 : Params → Obj := fun P => { cls := Value.type "dict", data := Data.dict #[{ hash := PyData.keyHash P (Str.ofString "__module__"), key := Value.str (Str.ofString "__module__") 456, val := Value.str (Str.ofString "grammarmill.lexfile") 321 }, { hash := PyData.keyHash P (Str.ofString "__firstlineno__"), key := Value.str (Str.ofString "__firstlineno__") 460, val := Value.int 219 459 }, { hash := PyData.keyHash P (Str.ofString "__init__"), key := Value.str (Str.ofString "__init__") 473, val := Value.ref 220 }, { hash := PyData.keyHash P (Str.ofString "condition_number"), key := Value.str (Str.ofString "condition_number") 482, val := Value.ref 227 }, { hash := PyData.keyHash P (Str.ofString "plain_conditions"), key := Value.str (Str.ofString "plain_conditions") 489, val := Value.ref 234 }, { hash := PyData.keyHash P (Str.ofString "live_rules"), key := Value.str (Str.ofString "live_rules") 497, val := Value.ref 241 }, { hash := PyData.keyHash P (Str.ofString "end_rule"), key := Value.str (Str.ofString "end_rule") 506, val := Value.ref 248 }, { hash := PyData.keyHash P (Str.ofString "told"), key := Value.str (Str.ofString "told") 512, val := Value.ref 253 }, { hash := PyData.keyHash P (Str.ofString "__static_attributes__"), key := Value.str (Str.ofString "__static_attributes__") 518, val := Value.ref 254 }, { hash := PyData.keyHash P (Str.ofString "__dict__"), key := Value.str (Str.ofString "__dict__") 520, val := Value.ref 257 }, { hash := PyData.keyHash P (Str.ofString "__weakref__"), key := Value.str (Str.ofString "__weakref__") 522, val := Value.ref 258 }, { hash := PyData.keyHash P (Str.ofString "__doc__"), key := Value.str (Str.ofString "__doc__") 523, val := Value.none }] 4 }
noncomputable def o298 : Params → Obj := fun P => { cls := Value.type "type", data := Data.cls { name := Str.ofString "LexFile", bases := [Value.type "object"], mro := [Value.ref 256, Value.type "object"], ns := 255, qualname := Str.ofString "LexFile" }, slots := #[none, none, some (Value.str (Str.ofString "LexFile") 449), some (Value.str (Str.ofString "LexFile") 457), some (Value.builtin "object.__new__"), some (Value.bool true)] }
noncomputable def o299 : Params → Obj := fun P => { cls := Value.type "getset_descriptor", data := Data.fields #[Value.str (Str.ofString "__dict__") 519, Value.ref 256, Value.builtin "function.__dict__", Value.builtin "function.__dict__#set"] }
noncomputable def o300 : Params → Obj := fun P => { cls := Value.type "getset_descriptor", data := Data.fields #[Value.str (Str.ofString "__weakref__") 521, Value.ref 256, Value.builtin "ExceptionGroup.__weakref__", Value.none] }
noncomputable def o301 : Params → Obj := fun P => { cls := Value.type "super", data := Data.fields #[Value.ref 256, Value.ref 256, Value.ref 256] }
noncomputable def o302 : Params → Obj := fun P => { cls := Value.type "builtin_function_or_method", data := Data.fields #[Value.builtin "object.__init_subclass__", Value.ref 256] }
noncomputable def o303 : Params → Obj := fun P => { cls := Value.type "dict", data := Data.dict #[{ hash := PyData.keyHash P (Str.ofString "__name__"), key := Value.str (Str.ofString "__name__") 165, val := Value.str (Str.ofString "law_on0169_01") 526 }, { hash := PyData.keyHash P (Str.ofString "__doc__"), key := Value.str (Str.ofString "__doc__") 166, val := Value.none }, { hash := PyData.keyHash P (Str.ofString "__package__"), key := Value.str (Str.ofString "__package__") 167, val := Value.none }, { hash := PyData.keyHash P (Str.ofString "__loader__"), key := Value.str (Str.ofString "__loader__") 168, val := Value.builtin "__main__.__loader__#opaque" }, { hash := PyData.keyHash P (Str.ofString "__spec__"), key := Value.str (Str.ofString "__spec__") 169, val := Value.none }, { hash := PyData.keyHash P (Str.ofString "__annotations__"), key := Value.str (Str.ofString "__annotations__") 170, val := Value.ref 6 }, { hash := PyData.keyHash P (Str.ofString "__builtins__"), key := Value.str (Str.ofString "__builtins__") 171, val := Value.ref 4 }, { hash := PyData.keyHash P (Str.ofString "__file__"), key := Value.str (Str.ofString "__file__") 173, val := Value.str (Str.ofString "/claim/cut.py") 172 }, { hash := PyData.keyHash P (Str.ofString "__cached__"), key := Value.str (Str.ofString "__cached__") 174, val := Value.none }, { hash := PyData.keyHash P (Str.ofString "_wall"), key := Value.str (Str.ofString "_wall") 193, val := Value.ref 21 }, { hash := PyData.keyHash P (Str.ofString "spine"), key := Value.str (Str.ofString "spine") 204, val := Value.ref 28 }, { hash := PyData.keyHash P (Str.ofString "can_be_empty"), key := Value.str (Str.ofString "can_be_empty") 214, val := Value.ref 35 }, { hash := PyData.keyHash P (Str.ofString "least_length"), key := Value.str (Str.ofString "least_length") 225, val := Value.ref 42 }, { hash := PyData.keyHash P (Str.ofString "most_length"), key := Value.str (Str.ofString "most_length") 235, val := Value.ref 49 }, { hash := PyData.keyHash P (Str.ofString "most_of_row"), key := Value.str (Str.ofString "most_of_row") 246, val := Value.ref 56 }, { hash := PyData.keyHash P (Str.ofString "most_of_loop"), key := Value.str (Str.ofString "most_of_loop") 256, val := Value.ref 63 }, { hash := PyData.keyHash P (Str.ofString "fixed_length"), key := Value.str (Str.ofString "fixed_length") 264, val := Value.ref 70 }, { hash := PyData.keyHash P (Str.ofString "kinds_of"), key := Value.str (Str.ofString "kinds_of") 276, val := Value.ref 77 }, { hash := PyData.keyHash P (Str.ofString "entered"), key := Value.str (Str.ofString "entered") 289, val := Value.ref 84 }, { hash := PyData.keyHash P (Str.ofString "can_match"), key := Value.str (Str.ofString "can_match") 297, val := Value.ref 91 }, { hash := PyData.keyHash P (Str.ofString "is_searched"), key := Value.str (Str.ofString "is_searched") 304, val := Value.ref 98 }, { hash := PyData.keyHash P (Str.ofString "warnings_of"), key := Value.str (Str.ofString "warnings_of") 310, val := Value.ref 103 }, { hash := PyData.keyHash P (Str.ofString "costs_of"), key := Value.str (Str.ofString "costs_of") 320, val := Value.ref 110 }, { hash := PyData.keyHash P (Str.ofString "LexStep"), key := Value.str (Str.ofString "LexStep") 367, val := Value.ref 142 }, { hash := PyData.keyHash P (Str.ofString "LexRule"), key := Value.str (Str.ofString "LexRule") 448, val := Value.ref 201 }, { hash := PyData.keyHash P (Str.ofString "LexFile"), key := Value.str (Str.ofString "LexFile") 525, val := Value.ref 256 }, { hash := PyData.keyHash P (Str.ofString "_law_draw"), key := Value.str (Str.ofString "_law_draw") 537, val := Value.ref 267 }, { hash := PyData.keyHash P (Str.ofString "_law_rule"), key := Value.str (Str.ofString "_law_rule") 552, val := Value.ref 274 }, { hash := PyData.keyHash P (Str.ofString "_law_ways"), key := Value.str (Str.ofString "_law_ways") 558, val := Value.ref 279 }, { hash := PyData.keyHash P (Str.ofString "law"), key := Value.str (Str.ofString "law") 564, val := Value.ref 284 }] 30 }
noncomputable def o304 : Params → Obj := fun P => { cls := Value.none, data := Data.fields #[Value.int 1 0, Value.int 0 0, Value.ref 20, Value.int 5 0, Value.int 0 0, Value.ref 27, Value.int 15 0, Value.int 0 0, Value.ref 34, Value.int 33 0, Value.int 0 0, Value.ref 41, Value.int 59 0, Value.int 0 0, Value.ref 48, Value.int 77 0, Value.int 0 0, Value.ref 55, Value.int 89 0, Value.int 0 0, Value.ref 62, Value.int 110 0, Value.int 0 0, Value.ref 69, Value.int 116 0, Value.int 0 0, Value.ref 76, Value.int 123 0, Value.int 0 0, Value.ref 83, Value.int 137 0, Value.int 0 0, Value.ref 90, Value.int 142 0, Value.int 0 0, Value.ref 97, Value.int 146 0, Value.int 0 0, Value.ref 102, Value.int 162 0, Value.int 0 0, Value.ref 109, Value.int 175 0, Value.int 0 0, Value.ref 116, Value.int 186 0, Value.int 0 0, Value.ref 152, Value.int 219 0, Value.int 0 0, Value.ref 211, Value.int 249 0, Value.int 0 0, Value.ref 266, Value.int 253 0, Value.int 0 0, Value.ref 273, Value.int 263 0, Value.int 0 0, Value.ref 278, Value.int 279 0, Value.int 0 0, Value.ref 283] }
noncomputable def o305 : Params → Obj := fun P => { cls := Value.type "tuple", data := Data.seq #[] }
noncomputable def o306 : Params → Obj := fun P => { cls := Value.none, data := Data.fields #[] }
noncomputable def o307 : Params → Obj := fun P => { cls := Value.type "tuple", data := Data.seq #[Value.str (Str.ofString "source") 531, Value.str (Str.ofString "limit") 532, Value.str (Str.ofString "cells") 533, Value.str (Str.ofString "at") 534] }
noncomputable def o308 : Params → Obj := fun P => { cls := Value.type "tuple", data := Data.seq #[] }
noncomputable def o309 : Params → Obj := by
  refine (?f : (?K = (fun P => { cls := Value.none, data := Data.func { name := Str.ofString "_law_draw", qualname := Str.ofString "_law_draw", params := a22, body := FuncBody.stmts b22, scope := c22, globals := 0, closure := [], defaults := Value.none, kwdefaults := Value.none } } : Params → Obj)) → Params → Obj) ?pf
  case pf => (delta a22 b22 c22; rfl)
  case f => exact fun _ => ?K
noncomputable def o310 : Params → Obj := fun P => { cls := Value.type "code", data := Data.fields #[Value.str (Str.ofString "_law_draw") 528, Value.str (Str.ofString "_law_draw") 529, Value.str (Str.ofString "/claim/cut.py") 530, Value.int 249 0, Value.int 2 0, Value.int 0 0, Value.int 0 0, Value.int 3 0, Value.ref 261, Value.bool true, Value.int 181 0, Value.ref 262, Value.none, Value.ref 263, Value.ref 264, Value.ref 265, Value.int 535 0, Value.int 249 0, Value.str (Str.ofString "/claim/cut.py") 536] }
noncomputable def o311 : Params → Obj := by
  refine (?f : (?K = (fun P => { cls := Value.type "function", data := Data.func { name := Str.ofString "_law_draw", qualname := Str.ofString "_law_draw", params := a22, body := FuncBody.stmts b22, scope := c22, globals := 3, closure := [], defaults := Value.none, kwdefaults := Value.none, pyModule := Value.str (Str.ofString "law_on0169_01") 526, code := Value.ref 266 } } : Params → Obj)) → Params → Obj) ?pf
  case pf => (delta a22 b22 c22; rfl)
  case f => exact fun _ => ?K
noncomputable def o312 : Params → Obj := fun P => { cls := Value.type "tuple", data := Data.seq #[] }
noncomputable def o313 : Params → Obj := fun P => { cls := Value.none, data := Data.fields #[] }
noncomputable def o314 : Params → Obj := fun P => { cls := Value.type "tuple", data := Data.seq #[Value.str (Str.ofString "source") 541, Value.str (Str.ofString "many") 542, Value.str (Str.ofString "one") 543, Value.str (Str.ofString "other") 544, Value.str (Str.ofString "live") 545, Value.str (Str.ofString "steps") 546, Value.str (Str.ofString "turn") 547, Value.str (Str.ofString "way") 548, Value.str (Str.ofString "kind") 549] }
noncomputable def o315 : Params → Obj := fun P => { cls := Value.type "tuple", data := Data.seq #[] }
noncomputable def o316 : Params → Obj := by
  refine (?f : (?K = (fun P => { cls := Value.none, data := Data.func { name := Str.ofString "_law_rule", qualname := Str.ofString "_law_rule", params := a23, body := FuncBody.stmts b23, scope := c23, globals := 0, closure := [], defaults := Value.none, kwdefaults := Value.none } } : Params → Obj)) → Params → Obj) ?pf
  case pf => (delta a23 b23 c23; rfl)
  case f => exact fun _ => ?K
noncomputable def o317 : Params → Obj := fun P => { cls := Value.type "code", data := Data.fields #[Value.str (Str.ofString "_law_rule") 538, Value.str (Str.ofString "_law_rule") 539, Value.str (Str.ofString "/claim/cut.py") 540, Value.int 253 0, Value.int 2 0, Value.int 0 0, Value.int 0 0, Value.int 3 0, Value.ref 268, Value.bool true, Value.int 181 0, Value.ref 269, Value.none, Value.ref 270, Value.ref 271, Value.ref 272, Value.int 550 0, Value.int 253 0, Value.str (Str.ofString "/claim/cut.py") 551] }
noncomputable def o318 : Params → Obj := by
  refine (?f : (?K = (fun P => { cls := Value.type "function", data := Data.func { name := Str.ofString "_law_rule", qualname := Str.ofString "_law_rule", params := a23, body := FuncBody.stmts b23, scope := c23, globals := 3, closure := [], defaults := Value.none, kwdefaults := Value.none, pyModule := Value.str (Str.ofString "law_on0169_01") 526, code := Value.ref 273 } } : Params → Obj)) → Params → Obj) ?pf
  case pf => (delta a23 b23 c23; rfl)
  case f => exact fun _ => ?K
noncomputable def o319 : Params → Obj := fun P => { cls := Value.type "tuple", data := Data.seq #[] }
noncomputable def o320 : Params → Obj := fun P => { cls := Value.none, data := Data.fields #[] }
noncomputable def o321 : Params → Obj := by
  refine (?f : (?K = (fun P => { cls := Value.none, data := Data.func { name := Str.ofString "_law_ways", qualname := Str.ofString "_law_ways", params := a24, body := FuncBody.stmts b24, scope := c24, globals := 0, closure := [], defaults := Value.none, kwdefaults := Value.none } } : Params → Obj)) → Params → Obj) ?pf
  case pf => (delta a24 b24 c24; rfl)
  case f => exact fun _ => ?K
noncomputable def o322 : Params → Obj := fun P => { cls := Value.type "code", data := Data.fields #[Value.str (Str.ofString "_law_ways") 553, Value.str (Str.ofString "_law_ways") 554, Value.str (Str.ofString "/claim/cut.py") 555, Value.int 263 0, Value.int 2 0, Value.int 0 0, Value.int 0 0, Value.int 3 0, Value.ref 275, Value.bool true, Value.int 181 0, Value.ref 276, Value.none, Value.none, Value.none, Value.ref 277, Value.int 556 0, Value.int 263 0, Value.str (Str.ofString "/claim/cut.py") 557] }
noncomputable def o323 : Params → Obj := by
  refine (?f : (?K = (fun P => { cls := Value.type "function", data := Data.func { name := Str.ofString "_law_ways", qualname := Str.ofString "_law_ways", params := a24, body := FuncBody.stmts b24, scope := c24, globals := 3, closure := [], defaults := Value.none, kwdefaults := Value.none, pyModule := Value.str (Str.ofString "law_on0169_01") 526, code := Value.ref 278 } } : Params → Obj)) → Params → Obj) ?pf
  case pf => (delta a24 b24 c24; rfl)
  case f => exact fun _ => ?K
noncomputable def o324 : Params → Obj := fun P => { cls := Value.type "tuple", data := Data.seq #[] }
noncomputable def o325 : Params → Obj := fun P => { cls := Value.none, data := Data.fields #[] }
noncomputable def o326 : Params → Obj := by
  refine (?f : (?K = (fun P => { cls := Value.none, data := Data.func { name := Str.ofString "law", qualname := Str.ofString "law", params := a25, body := FuncBody.stmts b25, scope := c25, globals := 0, closure := [], defaults := Value.none, kwdefaults := Value.none } } : Params → Obj)) → Params → Obj) ?pf
  case pf => (delta a25 b25 c25; rfl)
  case f => exact fun _ => ?K
noncomputable def o327 : Params → Obj := fun P => { cls := Value.type "code", data := Data.fields #[Value.str (Str.ofString "law") 559, Value.str (Str.ofString "law") 560, Value.str (Str.ofString "/claim/cut.py") 561, Value.int 279 0, Value.int 1 0, Value.int 0 0, Value.int 0 0, Value.int 3 0, Value.ref 280, Value.bool true, Value.int 181 0, Value.ref 281, Value.none, Value.none, Value.none, Value.ref 282, Value.int 562 0, Value.int 279 0, Value.str (Str.ofString "/claim/cut.py") 563] }
noncomputable def o328 : Params → Obj := by
  refine (?f : (?K = (fun P => { cls := Value.type "function", data := Data.func { name := Str.ofString "law", qualname := Str.ofString "law", params := a25, body := FuncBody.stmts b25, scope := c25, globals := 3, closure := [], defaults := Value.none, kwdefaults := Value.none, pyModule := Value.str (Str.ofString "law_on0169_01") 526, code := Value.ref 283 } } : Params → Obj)) → Params → Obj) ?pf
  case pf => (delta a25 b25 c25; rfl)
  case f => exact fun _ => ?K
noncomputable def tree_47 : Params → BT := fun P => (.node (PySem.W.boot_o_0 P) (.node (PySem.W.boot_o_1 P) (.node (PySem.W.boot_o_3 P) (.node (PySem.W.boot_o_7 P) .nil .nil) (.node (o43 P) .nil .nil)) (.node (PySem.W.boot_o_5 P) (.node (PySem.W.boot_o_9 P) .nil .nil) (.node (o45 P) .nil .nil))) (.node (PySem.W.boot_o_2 P) (.node (PySem.W.boot_o_4 P) (.node (PySem.W.boot_o_8 P) .nil .nil) (.node (o44 P) .nil .nil)) (.node (PySem.W.boot_o_6 P) (.node (PySem.W.boot_o_10 P) .nil .nil) (.node (o46 P) .nil .nil))))
noncomputable def tree_127 : Params → BT := fun P => (.node (PySem.W.boot_o_0 P) (.node (PySem.W.boot_o_1 P) (.node (o49 P) (.node (PySem.W.boot_o_7 P) (.node (o51 P) (.node (o67 P) (.node (o99 P) .nil .nil) .nil) (.node (o83 P) (.node (o115 P) .nil .nil) .nil)) (.node (o59 P) (.node (o75 P) (.node (o107 P) .nil .nil) .nil) (.node (o91 P) (.node (o123 P) .nil .nil) .nil))) (.node (o43 P) (.node (o55 P) (.node (o71 P) (.node (o103 P) .nil .nil) .nil) (.node (o87 P) (.node (o119 P) .nil .nil) .nil)) (.node (o63 P) (.node (o79 P) (.node (o111 P) .nil .nil) .nil) (.node (o95 P) (.node (o127 P) .nil .nil) .nil)))) (.node (PySem.W.boot_o_5 P) (.node (PySem.W.boot_o_9 P) (.node (o53 P) (.node (o69 P) (.node (o101 P) .nil .nil) .nil) (.node (o85 P) (.node (o117 P) .nil .nil) .nil)) (.node (o61 P) (.node (o77 P) (.node (o109 P) .nil .nil) .nil) (.node (o93 P) (.node (o125 P) .nil .nil) .nil))) (.node (o45 P) (.node (o57 P) (.node (o73 P) (.node (o105 P) .nil .nil) .nil) (.node (o89 P) (.node (o121 P) .nil .nil) .nil)) (.node (o65 P) (.node (o81 P) (.node (o113 P) .nil .nil) .nil) (.node (o97 P) .nil .nil))))) (.node (PySem.W.boot_o_2 P) (.node (PySem.W.boot_o_4 P) (.node (PySem.W.boot_o_8 P) (.node (o52 P) (.node (o68 P) (.node (o100 P) .nil .nil) .nil) (.node (o84 P) (.node (o116 P) .nil .nil) .nil)) (.node (o60 P) (.node (o76 P) (.node (o108 P) .nil .nil) .nil) (.node (o92 P) (.node (o124 P) .nil .nil) .nil))) (.node (o50 P) (.node (o56 P) (.node (o72 P) (.node (o104 P) .nil .nil) .nil) (.node (o88 P) (.node (o120 P) .nil .nil) .nil)) (.node (o64 P) (.node (o80 P) (.node (o112 P) .nil .nil) .nil) (.node (o96 P) .nil .nil)))) (.node (PySem.W.boot_o_6 P) (.node (PySem.W.boot_o_10 P) (.node (o54 P) (.node (o70 P) (.node (o102 P) .nil .nil) .nil) (.node (o86 P) (.node (o118 P) .nil .nil) .nil)) (.node (o62 P) (.node (o78 P) (.node (o110 P) .nil .nil) .nil) (.node (o94 P) (.node (o126 P) .nil .nil) .nil))) (.node (o46 P) (.node (o58 P) (.node (o74 P) (.node (o106 P) .nil .nil) .nil) (.node (o90 P) (.node (o122 P) .nil .nil) .nil)) (.node (o66 P) (.node (o82 P) (.node (o114 P) .nil .nil) .nil) (.node (o98 P) .nil .nil))))))
noncomputable def tree_184 : Params → BT := fun P => (.node (PySem.W.boot_o_0 P) (.node (PySem.W.boot_o_1 P) (.node (o128 P) (.node (PySem.W.boot_o_7 P) (.node (o51 P) (.node (o67 P) (.node (o99 P) (.node (o165 P) .nil .nil) .nil) (.node (o133 P) .nil .nil)) (.node (o83 P) (.node (o115 P) (.node (o181 P) .nil .nil) .nil) (.node (o149 P) .nil .nil))) (.node (o59 P) (.node (o75 P) (.node (o107 P) (.node (o173 P) .nil .nil) .nil) (.node (o141 P) .nil .nil)) (.node (o91 P) (.node (o123 P) .nil .nil) (.node (o157 P) .nil .nil)))) (.node (o43 P) (.node (o55 P) (.node (o71 P) (.node (o103 P) (.node (o169 P) .nil .nil) .nil) (.node (o137 P) .nil .nil)) (.node (o87 P) (.node (o119 P) .nil .nil) (.node (o153 P) .nil .nil))) (.node (o63 P) (.node (o79 P) (.node (o111 P) (.node (o177 P) .nil .nil) .nil) (.node (o145 P) .nil .nil)) (.node (o95 P) (.node (o127 P) .nil .nil) (.node (o161 P) .nil .nil))))) (.node (PySem.W.boot_o_5 P) (.node (PySem.W.boot_o_9 P) (.node (o53 P) (.node (o69 P) (.node (o101 P) (.node (o167 P) .nil .nil) .nil) (.node (o135 P) .nil .nil)) (.node (o85 P) (.node (o117 P) (.node (o183 P) .nil .nil) .nil) (.node (o151 P) .nil .nil))) (.node (o61 P) (.node (o77 P) (.node (o109 P) (.node (o175 P) .nil .nil) .nil) (.node (o143 P) .nil .nil)) (.node (o93 P) (.node (o125 P) .nil .nil) (.node (o159 P) .nil .nil)))) (.node (o45 P) (.node (o57 P) (.node (o73 P) (.node (o105 P) (.node (o171 P) .nil .nil) .nil) (.node (o139 P) .nil .nil)) (.node (o89 P) (.node (o121 P) .nil .nil) (.node (o155 P) .nil .nil))) (.node (o65 P) (.node (o81 P) (.node (o113 P) (.node (o179 P) .nil .nil) .nil) (.node (o147 P) .nil .nil)) (.node (o97 P) (.node (o131 P) .nil .nil) (.node (o163 P) .nil .nil)))))) (.node (PySem.W.boot_o_2 P) (.node (PySem.W.boot_o_4 P) (.node (PySem.W.boot_o_8 P) (.node (o52 P) (.node (o68 P) (.node (o100 P) (.node (o166 P) .nil .nil) .nil) (.node (o134 P) .nil .nil)) (.node (o84 P) (.node (o116 P) (.node (o182 P) .nil .nil) .nil) (.node (o150 P) .nil .nil))) (.node (o60 P) (.node (o76 P) (.node (o108 P) (.node (o174 P) .nil .nil) .nil) (.node (o142 P) .nil .nil)) (.node (o92 P) (.node (o124 P) .nil .nil) (.node (o158 P) .nil .nil)))) (.node (o129 P) (.node (o56 P) (.node (o72 P) (.node (o104 P) (.node (o170 P) .nil .nil) .nil) (.node (o138 P) .nil .nil)) (.node (o88 P) (.node (o120 P) .nil .nil) (.node (o154 P) .nil .nil))) (.node (o64 P) (.node (o80 P) (.node (o112 P) (.node (o178 P) .nil .nil) .nil) (.node (o146 P) .nil .nil)) (.node (o96 P) (.node (o130 P) .nil .nil) (.node (o162 P) .nil .nil))))) (.node (PySem.W.boot_o_6 P) (.node (PySem.W.boot_o_10 P) (.node (o54 P) (.node (o70 P) (.node (o102 P) (.node (o168 P) .nil .nil) .nil) (.node (o136 P) .nil .nil)) (.node (o86 P) (.node (o118 P) (.node (o184 P) .nil .nil) .nil) (.node (o152 P) .nil .nil))) (.node (o62 P) (.node (o78 P) (.node (o110 P) (.node (o176 P) .nil .nil) .nil) (.node (o144 P) .nil .nil)) (.node (o94 P) (.node (o126 P) .nil .nil) (.node (o160 P) .nil .nil)))) (.node (o46 P) (.node (o58 P) (.node (o74 P) (.node (o106 P) (.node (o172 P) .nil .nil) .nil) (.node (o140 P) .nil .nil)) (.node (o90 P) (.node (o122 P) .nil .nil) (.node (o156 P) .nil .nil))) (.node (o66 P) (.node (o82 P) (.node (o114 P) (.node (o180 P) .nil .nil) .nil) (.node (o148 P) .nil .nil)) (.node (o98 P) (.node (o132 P) .nil .nil) (.node (o164 P) .nil .nil)))))))
noncomputable def tree_245 : Params → BT := fun P => (.node (PySem.W.boot_o_0 P) (.node (PySem.W.boot_o_1 P) (.node (o185 P) (.node (PySem.W.boot_o_7 P) (.node (o51 P) (.node (o67 P) (.node (o99 P) (.node (o165 P) .nil .nil) (.node (o231 P) .nil .nil)) (.node (o133 P) (.node (o199 P) .nil .nil) .nil)) (.node (o83 P) (.node (o115 P) (.node (o181 P) .nil .nil) .nil) (.node (o149 P) (.node (o215 P) .nil .nil) .nil))) (.node (o59 P) (.node (o75 P) (.node (o107 P) (.node (o173 P) .nil .nil) (.node (o239 P) .nil .nil)) (.node (o141 P) (.node (o207 P) .nil .nil) .nil)) (.node (o91 P) (.node (o123 P) (.node (o191 P) .nil .nil) .nil) (.node (o157 P) (.node (o223 P) .nil .nil) .nil)))) (.node (o43 P) (.node (o55 P) (.node (o71 P) (.node (o103 P) (.node (o169 P) .nil .nil) (.node (o235 P) .nil .nil)) (.node (o137 P) (.node (o203 P) .nil .nil) .nil)) (.node (o87 P) (.node (o119 P) (.node (o187 P) .nil .nil) .nil) (.node (o153 P) (.node (o219 P) .nil .nil) .nil))) (.node (o63 P) (.node (o79 P) (.node (o111 P) (.node (o177 P) .nil .nil) (.node (o243 P) .nil .nil)) (.node (o145 P) (.node (o211 P) .nil .nil) .nil)) (.node (o95 P) (.node (o127 P) (.node (o195 P) .nil .nil) .nil) (.node (o161 P) (.node (o227 P) .nil .nil) .nil))))) (.node (PySem.W.boot_o_5 P) (.node (PySem.W.boot_o_9 P) (.node (o53 P) (.node (o69 P) (.node (o101 P) (.node (o167 P) .nil .nil) (.node (o233 P) .nil .nil)) (.node (o135 P) (.node (o201 P) .nil .nil) .nil)) (.node (o85 P) (.node (o117 P) (.node (o183 P) .nil .nil) .nil) (.node (o151 P) (.node (o217 P) .nil .nil) .nil))) (.node (o61 P) (.node (o77 P) (.node (o109 P) (.node (o175 P) .nil .nil) (.node (o241 P) .nil .nil)) (.node (o143 P) (.node (o209 P) .nil .nil) .nil)) (.node (o93 P) (.node (o125 P) (.node (o193 P) .nil .nil) .nil) (.node (o159 P) (.node (o225 P) .nil .nil) .nil)))) (.node (o45 P) (.node (o57 P) (.node (o73 P) (.node (o105 P) (.node (o171 P) .nil .nil) (.node (o237 P) .nil .nil)) (.node (o139 P) (.node (o205 P) .nil .nil) .nil)) (.node (o89 P) (.node (o121 P) (.node (o189 P) .nil .nil) .nil) (.node (o155 P) (.node (o221 P) .nil .nil) .nil))) (.node (o65 P) (.node (o81 P) (.node (o113 P) (.node (o179 P) .nil .nil) (.node (o245 P) .nil .nil)) (.node (o147 P) (.node (o213 P) .nil .nil) .nil)) (.node (o97 P) (.node (o131 P) (.node (o197 P) .nil .nil) .nil) (.node (o163 P) (.node (o229 P) .nil .nil) .nil)))))) (.node (PySem.W.boot_o_2 P) (.node (PySem.W.boot_o_4 P) (.node (PySem.W.boot_o_8 P) (.node (o52 P) (.node (o68 P) (.node (o100 P) (.node (o166 P) .nil .nil) (.node (o232 P) .nil .nil)) (.node (o134 P) (.node (o200 P) .nil .nil) .nil)) (.node (o84 P) (.node (o116 P) (.node (o182 P) .nil .nil) .nil) (.node (o150 P) (.node (o216 P) .nil .nil) .nil))) (.node (o60 P) (.node (o76 P) (.node (o108 P) (.node (o174 P) .nil .nil) (.node (o240 P) .nil .nil)) (.node (o142 P) (.node (o208 P) .nil .nil) .nil)) (.node (o92 P) (.node (o124 P) (.node (o192 P) .nil .nil) .nil) (.node (o158 P) (.node (o224 P) .nil .nil) .nil)))) (.node (o186 P) (.node (o56 P) (.node (o72 P) (.node (o104 P) (.node (o170 P) .nil .nil) (.node (o236 P) .nil .nil)) (.node (o138 P) (.node (o204 P) .nil .nil) .nil)) (.node (o88 P) (.node (o120 P) (.node (o188 P) .nil .nil) .nil) (.node (o154 P) (.node (o220 P) .nil .nil) .nil))) (.node (o64 P) (.node (o80 P) (.node (o112 P) (.node (o178 P) .nil .nil) (.node (o244 P) .nil .nil)) (.node (o146 P) (.node (o212 P) .nil .nil) .nil)) (.node (o96 P) (.node (o130 P) (.node (o196 P) .nil .nil) .nil) (.node (o162 P) (.node (o228 P) .nil .nil) .nil))))) (.node (PySem.W.boot_o_6 P) (.node (PySem.W.boot_o_10 P) (.node (o54 P) (.node (o70 P) (.node (o102 P) (.node (o168 P) .nil .nil) (.node (o234 P) .nil .nil)) (.node (o136 P) (.node (o202 P) .nil .nil) .nil)) (.node (o86 P) (.node (o118 P) (.node (o184 P) .nil .nil) .nil) (.node (o152 P) (.node (o218 P) .nil .nil) .nil))) (.node (o62 P) (.node (o78 P) (.node (o110 P) (.node (o176 P) .nil .nil) (.node (o242 P) .nil .nil)) (.node (o144 P) (.node (o210 P) .nil .nil) .nil)) (.node (o94 P) (.node (o126 P) (.node (o194 P) .nil .nil) .nil) (.node (o160 P) (.node (o226 P) .nil .nil) .nil)))) (.node (o46 P) (.node (o58 P) (.node (o74 P) (.node (o106 P) (.node (o172 P) .nil .nil) (.node (o238 P) .nil .nil)) (.node (o140 P) (.node (o206 P) .nil .nil) .nil)) (.node (o90 P) (.node (o122 P) (.node (o190 P) .nil .nil) .nil) (.node (o156 P) (.node (o222 P) .nil .nil) .nil))) (.node (o66 P) (.node (o82 P) (.node (o114 P) (.node (o180 P) .nil .nil) .nil) (.node (o148 P) (.node (o214 P) .nil .nil) .nil)) (.node (o98 P) (.node (o132 P) (.node (o198 P) .nil .nil) .nil) (.node (o164 P) (.node (o230 P) .nil .nil) .nil)))))))
noncomputable def tree_302 : Params → BT := fun P => (.node (PySem.W.boot_o_0 P) (.node (PySem.W.boot_o_1 P) (.node (o246 P) (.node (PySem.W.boot_o_7 P) (.node (o51 P) (.node (o67 P) (.node (o99 P) (.node (o165 P) (.node (o297 P) .nil .nil) .nil) (.node (o231 P) .nil .nil)) (.node (o133 P) (.node (o199 P) .nil .nil) (.node (o265 P) .nil .nil))) (.node (o83 P) (.node (o115 P) (.node (o181 P) .nil .nil) (.node (o249 P) .nil .nil)) (.node (o149 P) (.node (o215 P) .nil .nil) (.node (o281 P) .nil .nil)))) (.node (o59 P) (.node (o75 P) (.node (o107 P) (.node (o173 P) .nil .nil) (.node (o239 P) .nil .nil)) (.node (o141 P) (.node (o207 P) .nil .nil) (.node (o273 P) .nil .nil))) (.node (o91 P) (.node (o123 P) (.node (o191 P) .nil .nil) (.node (o257 P) .nil .nil)) (.node (o157 P) (.node (o223 P) .nil .nil) (.node (o289 P) .nil .nil))))) (.node (o43 P) (.node (o55 P) (.node (o71 P) (.node (o103 P) (.node (o169 P) (.node (o301 P) .nil .nil) .nil) (.node (o235 P) .nil .nil)) (.node (o137 P) (.node (o203 P) .nil .nil) (.node (o269 P) .nil .nil))) (.node (o87 P) (.node (o119 P) (.node (o187 P) .nil .nil) (.node (o253 P) .nil .nil)) (.node (o153 P) (.node (o219 P) .nil .nil) (.node (o285 P) .nil .nil)))) (.node (o63 P) (.node (o79 P) (.node (o111 P) (.node (o177 P) .nil .nil) (.node (o243 P) .nil .nil)) (.node (o145 P) (.node (o211 P) .nil .nil) (.node (o277 P) .nil .nil))) (.node (o95 P) (.node (o127 P) (.node (o195 P) .nil .nil) (.node (o261 P) .nil .nil)) (.node (o161 P) (.node (o227 P) .nil .nil) (.node (o293 P) .nil .nil)))))) (.node (PySem.W.boot_o_5 P) (.node (PySem.W.boot_o_9 P) (.node (o53 P) (.node (o69 P) (.node (o101 P) (.node (o167 P) (.node (o299 P) .nil .nil) .nil) (.node (o233 P) .nil .nil)) (.node (o135 P) (.node (o201 P) .nil .nil) (.node (o267 P) .nil .nil))) (.node (o85 P) (.node (o117 P) (.node (o183 P) .nil .nil) (.node (o251 P) .nil .nil)) (.node (o151 P) (.node (o217 P) .nil .nil) (.node (o283 P) .nil .nil)))) (.node (o61 P) (.node (o77 P) (.node (o109 P) (.node (o175 P) .nil .nil) (.node (o241 P) .nil .nil)) (.node (o143 P) (.node (o209 P) .nil .nil) (.node (o275 P) .nil .nil))) (.node (o93 P) (.node (o125 P) (.node (o193 P) .nil .nil) (.node (o259 P) .nil .nil)) (.node (o159 P) (.node (o225 P) .nil .nil) (.node (o291 P) .nil .nil))))) (.node (o45 P) (.node (o57 P) (.node (o73 P) (.node (o105 P) (.node (o171 P) .nil .nil) (.node (o237 P) .nil .nil)) (.node (o139 P) (.node (o205 P) .nil .nil) (.node (o271 P) .nil .nil))) (.node (o89 P) (.node (o121 P) (.node (o189 P) .nil .nil) (.node (o255 P) .nil .nil)) (.node (o155 P) (.node (o221 P) .nil .nil) (.node (o287 P) .nil .nil)))) (.node (o65 P) (.node (o81 P) (.node (o113 P) (.node (o179 P) .nil .nil) (.node (o245 P) .nil .nil)) (.node (o147 P) (.node (o213 P) .nil .nil) (.node (o279 P) .nil .nil))) (.node (o97 P) (.node (o131 P) (.node (o197 P) .nil .nil) (.node (o263 P) .nil .nil)) (.node (o163 P) (.node (o229 P) .nil .nil) (.node (o295 P) .nil .nil))))))) (.node (PySem.W.boot_o_2 P) (.node (PySem.W.boot_o_4 P) (.node (PySem.W.boot_o_8 P) (.node (o52 P) (.node (o68 P) (.node (o100 P) (.node (o166 P) (.node (o298 P) .nil .nil) .nil) (.node (o232 P) .nil .nil)) (.node (o134 P) (.node (o200 P) .nil .nil) (.node (o266 P) .nil .nil))) (.node (o84 P) (.node (o116 P) (.node (o182 P) .nil .nil) (.node (o250 P) .nil .nil)) (.node (o150 P) (.node (o216 P) .nil .nil) (.node (o282 P) .nil .nil)))) (.node (o60 P) (.node (o76 P) (.node (o108 P) (.node (o174 P) .nil .nil) (.node (o240 P) .nil .nil)) (.node (o142 P) (.node (o208 P) .nil .nil) (.node (o274 P) .nil .nil))) (.node (o92 P) (.node (o124 P) (.node (o192 P) .nil .nil) (.node (o258 P) .nil .nil)) (.node (o158 P) (.node (o224 P) .nil .nil) (.node (o290 P) .nil .nil))))) (.node (o247 P) (.node (o56 P) (.node (o72 P) (.node (o104 P) (.node (o170 P) (.node (o302 P) .nil .nil) .nil) (.node (o236 P) .nil .nil)) (.node (o138 P) (.node (o204 P) .nil .nil) (.node (o270 P) .nil .nil))) (.node (o88 P) (.node (o120 P) (.node (o188 P) .nil .nil) (.node (o254 P) .nil .nil)) (.node (o154 P) (.node (o220 P) .nil .nil) (.node (o286 P) .nil .nil)))) (.node (o64 P) (.node (o80 P) (.node (o112 P) (.node (o178 P) .nil .nil) (.node (o244 P) .nil .nil)) (.node (o146 P) (.node (o212 P) .nil .nil) (.node (o278 P) .nil .nil))) (.node (o96 P) (.node (o130 P) (.node (o196 P) .nil .nil) (.node (o262 P) .nil .nil)) (.node (o162 P) (.node (o228 P) .nil .nil) (.node (o294 P) .nil .nil)))))) (.node (PySem.W.boot_o_6 P) (.node (PySem.W.boot_o_10 P) (.node (o54 P) (.node (o70 P) (.node (o102 P) (.node (o168 P) (.node (o300 P) .nil .nil) .nil) (.node (o234 P) .nil .nil)) (.node (o136 P) (.node (o202 P) .nil .nil) (.node (o268 P) .nil .nil))) (.node (o86 P) (.node (o118 P) (.node (o184 P) .nil .nil) (.node (o252 P) .nil .nil)) (.node (o152 P) (.node (o218 P) .nil .nil) (.node (o284 P) .nil .nil)))) (.node (o62 P) (.node (o78 P) (.node (o110 P) (.node (o176 P) .nil .nil) (.node (o242 P) .nil .nil)) (.node (o144 P) (.node (o210 P) .nil .nil) (.node (o276 P) .nil .nil))) (.node (o94 P) (.node (o126 P) (.node (o194 P) .nil .nil) (.node (o260 P) .nil .nil)) (.node (o160 P) (.node (o226 P) .nil .nil) (.node (o292 P) .nil .nil))))) (.node (o46 P) (.node (o58 P) (.node (o74 P) (.node (o106 P) (.node (o172 P) .nil .nil) (.node (o238 P) .nil .nil)) (.node (o140 P) (.node (o206 P) .nil .nil) (.node (o272 P) .nil .nil))) (.node (o90 P) (.node (o122 P) (.node (o190 P) .nil .nil) (.node (o256 P) .nil .nil)) (.node (o156 P) (.node (o222 P) .nil .nil) (.node (o288 P) .nil .nil)))) (.node (o66 P) (.node (o82 P) (.node (o114 P) (.node (o180 P) .nil .nil) (.node (o248 P) .nil .nil)) (.node (o148 P) (.node (o214 P) .nil .nil) (.node (o280 P) .nil .nil))) (.node (o98 P) (.node (o132 P) (.node (o198 P) .nil .nil) (.node (o264 P) .nil .nil)) (.node (o164 P) (.node (o230 P) .nil .nil) (.node (o296 P) .nil .nil))))))))
noncomputable def tree_328 : Params → BT := fun P => (.node (PySem.W.boot_o_0 P) (.node (PySem.W.boot_o_1 P) (.node (o303 P) (.node (PySem.W.boot_o_7 P) (.node (o51 P) (.node (o67 P) (.node (o99 P) (.node (o165 P) (.node (o297 P) .nil .nil) .nil) (.node (o231 P) .nil .nil)) (.node (o133 P) (.node (o199 P) .nil .nil) (.node (o265 P) .nil .nil))) (.node (o83 P) (.node (o115 P) (.node (o181 P) (.node (o315 P) .nil .nil) .nil) (.node (o249 P) .nil .nil)) (.node (o149 P) (.node (o215 P) .nil .nil) (.node (o281 P) .nil .nil)))) (.node (o59 P) (.node (o75 P) (.node (o107 P) (.node (o173 P) (.node (o307 P) .nil .nil) .nil) (.node (o239 P) .nil .nil)) (.node (o141 P) (.node (o207 P) .nil .nil) (.node (o273 P) .nil .nil))) (.node (o91 P) (.node (o123 P) (.node (o191 P) (.node (o323 P) .nil .nil) .nil) (.node (o257 P) .nil .nil)) (.node (o157 P) (.node (o223 P) .nil .nil) (.node (o289 P) .nil .nil))))) (.node (o43 P) (.node (o55 P) (.node (o71 P) (.node (o103 P) (.node (o169 P) (.node (o301 P) .nil .nil) .nil) (.node (o235 P) .nil .nil)) (.node (o137 P) (.node (o203 P) .nil .nil) (.node (o269 P) .nil .nil))) (.node (o87 P) (.node (o119 P) (.node (o187 P) (.node (o319 P) .nil .nil) .nil) (.node (o253 P) .nil .nil)) (.node (o153 P) (.node (o219 P) .nil .nil) (.node (o285 P) .nil .nil)))) (.node (o63 P) (.node (o79 P) (.node (o111 P) (.node (o177 P) (.node (o311 P) .nil .nil) .nil) (.node (o243 P) .nil .nil)) (.node (o145 P) (.node (o211 P) .nil .nil) (.node (o277 P) .nil .nil))) (.node (o95 P) (.node (o127 P) (.node (o195 P) (.node (o327 P) .nil .nil) .nil) (.node (o261 P) .nil .nil)) (.node (o161 P) (.node (o227 P) .nil .nil) (.node (o293 P) .nil .nil)))))) (.node (PySem.W.boot_o_5 P) (.node (PySem.W.boot_o_9 P) (.node (o53 P) (.node (o69 P) (.node (o101 P) (.node (o167 P) (.node (o299 P) .nil .nil) .nil) (.node (o233 P) .nil .nil)) (.node (o135 P) (.node (o201 P) .nil .nil) (.node (o267 P) .nil .nil))) (.node (o85 P) (.node (o117 P) (.node (o183 P) (.node (o317 P) .nil .nil) .nil) (.node (o251 P) .nil .nil)) (.node (o151 P) (.node (o217 P) .nil .nil) (.node (o283 P) .nil .nil)))) (.node (o61 P) (.node (o77 P) (.node (o109 P) (.node (o175 P) (.node (o309 P) .nil .nil) .nil) (.node (o241 P) .nil .nil)) (.node (o143 P) (.node (o209 P) .nil .nil) (.node (o275 P) .nil .nil))) (.node (o93 P) (.node (o125 P) (.node (o193 P) (.node (o325 P) .nil .nil) .nil) (.node (o259 P) .nil .nil)) (.node (o159 P) (.node (o225 P) .nil .nil) (.node (o291 P) .nil .nil))))) (.node (o45 P) (.node (o57 P) (.node (o73 P) (.node (o105 P) (.node (o171 P) (.node (o305 P) .nil .nil) .nil) (.node (o237 P) .nil .nil)) (.node (o139 P) (.node (o205 P) .nil .nil) (.node (o271 P) .nil .nil))) (.node (o89 P) (.node (o121 P) (.node (o189 P) (.node (o321 P) .nil .nil) .nil) (.node (o255 P) .nil .nil)) (.node (o155 P) (.node (o221 P) .nil .nil) (.node (o287 P) .nil .nil)))) (.node (o65 P) (.node (o81 P) (.node (o113 P) (.node (o179 P) (.node (o313 P) .nil .nil) .nil) (.node (o245 P) .nil .nil)) (.node (o147 P) (.node (o213 P) .nil .nil) (.node (o279 P) .nil .nil))) (.node (o97 P) (.node (o131 P) (.node (o197 P) .nil .nil) (.node (o263 P) .nil .nil)) (.node (o163 P) (.node (o229 P) .nil .nil) (.node (o295 P) .nil .nil))))))) (.node (PySem.W.boot_o_2 P) (.node (PySem.W.boot_o_4 P) (.node (PySem.W.boot_o_8 P) (.node (o52 P) (.node (o68 P) (.node (o100 P) (.node (o166 P) (.node (o298 P) .nil .nil) .nil) (.node (o232 P) .nil .nil)) (.node (o134 P) (.node (o200 P) .nil .nil) (.node (o266 P) .nil .nil))) (.node (o84 P) (.node (o116 P) (.node (o182 P) (.node (o316 P) .nil .nil) .nil) (.node (o250 P) .nil .nil)) (.node (o150 P) (.node (o216 P) .nil .nil) (.node (o282 P) .nil .nil)))) (.node (o60 P) (.node (o76 P) (.node (o108 P) (.node (o174 P) (.node (o308 P) .nil .nil) .nil) (.node (o240 P) .nil .nil)) (.node (o142 P) (.node (o208 P) .nil .nil) (.node (o274 P) .nil .nil))) (.node (o92 P) (.node (o124 P) (.node (o192 P) (.node (o324 P) .nil .nil) .nil) (.node (o258 P) .nil .nil)) (.node (o158 P) (.node (o224 P) .nil .nil) (.node (o290 P) .nil .nil))))) (.node (o304 P) (.node (o56 P) (.node (o72 P) (.node (o104 P) (.node (o170 P) (.node (o302 P) .nil .nil) .nil) (.node (o236 P) .nil .nil)) (.node (o138 P) (.node (o204 P) .nil .nil) (.node (o270 P) .nil .nil))) (.node (o88 P) (.node (o120 P) (.node (o188 P) (.node (o320 P) .nil .nil) .nil) (.node (o254 P) .nil .nil)) (.node (o154 P) (.node (o220 P) .nil .nil) (.node (o286 P) .nil .nil)))) (.node (o64 P) (.node (o80 P) (.node (o112 P) (.node (o178 P) (.node (o312 P) .nil .nil) .nil) (.node (o244 P) .nil .nil)) (.node (o146 P) (.node (o212 P) .nil .nil) (.node (o278 P) .nil .nil))) (.node (o96 P) (.node (o130 P) (.node (o196 P) (.node (o328 P) .nil .nil) .nil) (.node (o262 P) .nil .nil)) (.node (o162 P) (.node (o228 P) .nil .nil) (.node (o294 P) .nil .nil)))))) (.node (PySem.W.boot_o_6 P) (.node (PySem.W.boot_o_10 P) (.node (o54 P) (.node (o70 P) (.node (o102 P) (.node (o168 P) (.node (o300 P) .nil .nil) .nil) (.node (o234 P) .nil .nil)) (.node (o136 P) (.node (o202 P) .nil .nil) (.node (o268 P) .nil .nil))) (.node (o86 P) (.node (o118 P) (.node (o184 P) (.node (o318 P) .nil .nil) .nil) (.node (o252 P) .nil .nil)) (.node (o152 P) (.node (o218 P) .nil .nil) (.node (o284 P) .nil .nil)))) (.node (o62 P) (.node (o78 P) (.node (o110 P) (.node (o176 P) (.node (o310 P) .nil .nil) .nil) (.node (o242 P) .nil .nil)) (.node (o144 P) (.node (o210 P) .nil .nil) (.node (o276 P) .nil .nil))) (.node (o94 P) (.node (o126 P) (.node (o194 P) (.node (o326 P) .nil .nil) .nil) (.node (o260 P) .nil .nil)) (.node (o160 P) (.node (o226 P) .nil .nil) (.node (o292 P) .nil .nil))))) (.node (o46 P) (.node (o58 P) (.node (o74 P) (.node (o106 P) (.node (o172 P) (.node (o306 P) .nil .nil) .nil) (.node (o238 P) .nil .nil)) (.node (o140 P) (.node (o206 P) .nil .nil) (.node (o272 P) .nil .nil))) (.node (o90 P) (.node (o122 P) (.node (o190 P) (.node (o322 P) .nil .nil) .nil) (.node (o256 P) .nil .nil)) (.node (o156 P) (.node (o222 P) .nil .nil) (.node (o288 P) .nil .nil)))) (.node (o66 P) (.node (o82 P) (.node (o114 P) (.node (o180 P) (.node (o314 P) .nil .nil) .nil) (.node (o248 P) .nil .nil)) (.node (o148 P) (.node (o214 P) .nil .nil) (.node (o280 P) .nil .nil))) (.node (o98 P) (.node (o132 P) (.node (o198 P) .nil .nil) (.node (o264 P) .nil .nil)) (.node (o164 P) (.node (o230 P) .nil .nil) (.node (o296 P) .nil .nil))))))))
noncomputable def heap_46 : Params → Heap := fun P => ⟨#[PySem.W.boot_o_0 P, PySem.W.boot_o_1 P, PySem.W.boot_o_2 P, PySem.W.boot_o_3 P, PySem.W.boot_o_4 P, PySem.W.boot_o_5 P, PySem.W.boot_o_6 P, PySem.W.boot_o_7 P, PySem.W.boot_o_8 P, PySem.W.boot_o_9 P, PySem.W.boot_o_10 P, o43 P, o44 P, o45 P, o46 P], {}⟩
noncomputable def heap_329 : Params → Heap := fun P => ⟨#[PySem.W.boot_o_0 P, PySem.W.boot_o_1 P, PySem.W.boot_o_2 P, o303 P, PySem.W.boot_o_4 P, PySem.W.boot_o_5 P, PySem.W.boot_o_6 P, PySem.W.boot_o_7 P, PySem.W.boot_o_8 P, PySem.W.boot_o_9 P, PySem.W.boot_o_10 P, o43 P, o304 P, o45 P, o46 P, o51 P, o52 P, o53 P, o54 P, o55 P, o56 P, o57 P, o58 P, o59 P, o60 P, o61 P, o62 P, o63 P, o64 P, o65 P, o66 P, o67 P, o68 P, o69 P, o70 P, o71 P, o72 P, o73 P, o74 P, o75 P, o76 P, o77 P, o78 P, o79 P, o80 P, o81 P, o82 P, o83 P, o84 P, o85 P, o86 P, o87 P, o88 P, o89 P, o90 P, o91 P, o92 P, o93 P, o94 P, o95 P, o96 P, o97 P, o98 P, o99 P, o100 P, o101 P, o102 P, o103 P, o104 P, o105 P, o106 P, o107 P, o108 P, o109 P, o110 P, o111 P, o112 P, o113 P, o114 P, o115 P, o116 P, o117 P, o118 P, o119 P, o120 P, o121 P, o122 P, o123 P, o124 P, o125 P, o126 P, o127 P, o130 P, o131 P, o132 P, o133 P, o134 P, o135 P, o136 P, o137 P, o138 P, o139 P, o140 P, o141 P, o142 P, o143 P, o144 P, o145 P, o146 P, o147 P, o148 P, o149 P, o150 P, o151 P, o152 P, o153 P, o154 P, o155 P, o156 P, o157 P, o158 P, o159 P, o160 P, o161 P, o162 P, o163 P, o164 P, o165 P, o166 P, o167 P, o168 P, o169 P, o170 P, o171 P, o172 P, o173 P, o174 P, o175 P, o176 P, o177 P, o178 P, o179 P, o180 P, o181 P, o182 P, o183 P, o184 P, o187 P, o188 P, o189 P, o190 P, o191 P, o192 P, o193 P, o194 P, o195 P, o196 P, o197 P, o198 P, o199 P, o200 P, o201 P, o202 P, o203 P, o204 P, o205 P, o206 P, o207 P, o208 P, o209 P, o210 P, o211 P, o212 P, o213 P, o214 P, o215 P, o216 P, o217 P, o218 P, o219 P, o220 P, o221 P, o222 P, o223 P, o224 P, o225 P, o226 P, o227 P, o228 P, o229 P, o230 P, o231 P, o232 P, o233 P, o234 P, o235 P, o236 P, o237 P, o238 P, o239 P, o240 P, o241 P, o242 P, o243 P, o244 P, o245 P, o248 P, o249 P, o250 P, o251 P, o252 P, o253 P, o254 P, o255 P, o256 P, o257 P, o258 P, o259 P, o260 P, o261 P, o262 P, o263 P, o264 P, o265 P, o266 P, o267 P, o268 P, o269 P, o270 P, o271 P, o272 P, o273 P, o274 P, o275 P, o276 P, o277 P, o278 P, o279 P, o280 P, o281 P, o282 P, o283 P, o284 P, o285 P, o286 P, o287 P, o288 P, o289 P, o290 P, o291 P, o292 P, o293 P, o294 P, o295 P, o296 P, o297 P, o298 P, o299 P, o300 P, o301 P, o302 P, o305 P, o306 P, o307 P, o308 P, o309 P, o310 P, o311 P, o312 P, o313 P, o314 P, o315 P, o316 P, o317 P, o318 P, o319 P, o320 P, o321 P, o322 P, o323 P, o324 P, o325 P, o326 P, o327 P, o328 P], {}⟩
noncomputable def hd.heap_39 : Params → Frag := by
  refine (?f : (?K = (fun P => (nat_lit 2, PySem.W.boot_o_2 P) :: (nat_lit 3, o303 P) :: (nat_lit 15, o51 P) :: (nat_lit 17, o53 P) :: (nat_lit 18, o54 P) :: (nat_lit 20, o56 P) :: (nat_lit 21, o57 P) :: (nat_lit 22, o58 P) :: (nat_lit 24, o60 P) :: (nat_lit 25, o61 P) :: (nat_lit 27, o63 P) :: (nat_lit 28, o64 P) :: (nat_lit 29, o65 P) :: (nat_lit 31, o67 P) :: (nat_lit 32, o68 P) :: (nat_lit 34, o70 P) :: (nat_lit 35, o71 P) :: (nat_lit 36, o72 P) :: (nat_lit 38, o74 P) :: (nat_lit 39, o75 P) :: (nat_lit 41, o77 P) :: (nat_lit 42, o78 P) :: (nat_lit 43, o79 P) :: (nat_lit 45, o81 P) :: (nat_lit 46, o82 P) :: (nat_lit 48, o84 P) :: (nat_lit 49, o85 P) :: (nat_lit 50, o86 P) :: (nat_lit 52, o88 P) :: (nat_lit 53, o89 P) :: (nat_lit 55, o91 P) :: (nat_lit 56, o92 P) :: (nat_lit 57, o93 P) :: (nat_lit 59, o95 P) :: (nat_lit 60, o96 P) :: (nat_lit 62, o98 P) :: (nat_lit 63, o99 P) :: (nat_lit 64, o100 P) :: (nat_lit 66, o102 P) :: (nat_lit 67, o103 P) :: (nat_lit 69, o105 P) :: (nat_lit 70, o106 P) :: (nat_lit 71, o107 P) :: (nat_lit 73, o109 P) :: (nat_lit 74, o110 P) :: (nat_lit 76, o112 P) :: (nat_lit 77, o113 P) :: (nat_lit 78, o114 P) :: (nat_lit 80, o116 P) :: (nat_lit 81, o117 P) :: (nat_lit 83, o119 P) :: (nat_lit 84, o120 P) :: (nat_lit 85, o121 P) :: (nat_lit 87, o123 P) :: (nat_lit 88, o124 P) :: (nat_lit 90, o126 P) :: (nat_lit 91, o127 P) :: (nat_lit 92, o130 P) :: (nat_lit 94, o132 P) :: (nat_lit 95, o133 P) :: (nat_lit 97, o135 P) :: (nat_lit 98, o136 P) :: (nat_lit 99, o137 P) :: (nat_lit 102, o140 P) :: (nat_lit 103, o141 P) :: (nat_lit 104, o142 P) :: (nat_lit 106, o144 P) :: (nat_lit 107, o145 P) :: (nat_lit 109, o147 P) :: (nat_lit 110, o148 P) :: (nat_lit 118, o156 P) :: (nat_lit 119, o157 P) :: (nat_lit 121, o159 P) :: (nat_lit 122, o160 P) :: (nat_lit 124, o162 P) :: (nat_lit 125, o163 P) :: (nat_lit 126, o164 P) :: (nat_lit 128, o166 P) :: (nat_lit 129, o167 P) :: (nat_lit 131, o169 P) :: (nat_lit 132, o170 P) :: (nat_lit 133, o171 P) :: (nat_lit 135, o173 P) :: (nat_lit 136, o174 P) :: (nat_lit 138, o176 P) :: (nat_lit 139, o177 P) :: (nat_lit 140, o178 P) :: (nat_lit 141, o179 P) :: (nat_lit 142, o180 P) :: (nat_lit 143, o181 P) :: (nat_lit 144, o182 P) :: (nat_lit 154, o194 P) :: (nat_lit 156, o196 P) :: (nat_lit 157, o197 P) :: (nat_lit 159, o199 P) :: (nat_lit 160, o200 P) :: (nat_lit 161, o201 P) :: (nat_lit 163, o203 P) :: (nat_lit 164, o204 P) :: (nat_lit 166, o206 P) :: (nat_lit 167, o207 P) :: (nat_lit 168, o208 P) :: (nat_lit 170, o210 P) :: (nat_lit 171, o211 P) :: (nat_lit 173, o213 P) :: (nat_lit 174, o214 P) :: (nat_lit 175, o215 P) :: (nat_lit 177, o217 P) :: (nat_lit 178, o218 P) :: (nat_lit 180, o220 P) :: (nat_lit 181, o221 P) :: (nat_lit 182, o222 P) :: (nat_lit 184, o224 P) :: (nat_lit 185, o225 P) :: (nat_lit 187, o227 P) :: (nat_lit 188, o228 P) :: (nat_lit 189, o229 P) :: (nat_lit 192, o232 P) :: (nat_lit 193, o233 P) :: (nat_lit 194, o234 P) :: (nat_lit 197, o237 P) :: (nat_lit 198, o238 P) :: (nat_lit 199, o239 P) :: (nat_lit 200, o240 P) :: (nat_lit 201, o241 P) :: (nat_lit 202, o242 P) :: (nat_lit 203, o243 P) :: (nat_lit 213, o255 P) :: (nat_lit 214, o256 P) :: (nat_lit 216, o258 P) :: (nat_lit 217, o259 P) :: (nat_lit 219, o261 P) :: (nat_lit 220, o262 P) :: (nat_lit 221, o263 P) :: (nat_lit 223, o265 P) :: (nat_lit 224, o266 P) :: (nat_lit 226, o268 P) :: (nat_lit 227, o269 P) :: (nat_lit 228, o270 P) :: (nat_lit 230, o272 P) :: (nat_lit 231, o273 P) :: (nat_lit 233, o275 P) :: (nat_lit 234, o276 P) :: (nat_lit 235, o277 P) :: (nat_lit 237, o279 P) :: (nat_lit 238, o280 P) :: (nat_lit 240, o282 P) :: (nat_lit 241, o283 P) :: (nat_lit 242, o284 P) :: (nat_lit 244, o286 P) :: (nat_lit 245, o287 P) :: (nat_lit 247, o289 P) :: (nat_lit 248, o290 P) :: (nat_lit 249, o291 P) :: (nat_lit 252, o294 P) :: (nat_lit 253, o295 P) :: (nat_lit 254, o296 P) :: (nat_lit 255, o297 P) :: (nat_lit 256, o298 P) :: (nat_lit 257, o299 P) :: (nat_lit 258, o300 P) :: (nat_lit 261, o305 P) :: (nat_lit 263, o307 P) :: (nat_lit 264, o308 P) :: (nat_lit 266, o310 P) :: (nat_lit 267, o311 P) :: (nat_lit 268, o312 P) :: (nat_lit 270, o314 P) :: (nat_lit 271, o315 P) :: (nat_lit 273, o317 P) :: (nat_lit 274, o318 P) :: (nat_lit 275, o319 P) :: (nat_lit 278, o322 P) :: (nat_lit 279, o323 P) :: (nat_lit 280, o324 P) :: (nat_lit 283, o327 P) :: (nat_lit 284, o328 P) :: [] : Params → Frag)) → Params → Frag) ?pf
  case pf => (delta PySem.W.boot_o_2 o303 o51 o53 o54 o56 o57 o58 o60 o61 o63 o64 o65 o67 o68 o70 o71 o72 o74 o75 o77 o78 o79 o81 o82 o84 o85 o86 o88 o89 o91 o92 o93 o95 o96 o98 o99 o100 o102 o103 o105 o106 o107 o109 o110 o112 o113 o114 o116 o117 o119 o120 o121 o123 o124 o126 o127 o130 o132 o133 o135 o136 o137 o140 o141 o142 o144 o145 o147 o148 o156 o157 o159 o160 o162 o163 o164 o166 o167 o169 o170 o171 o173 o174 o176 o177 o178 o179 o180 o181 o182 o194 o196 o197 o199 o200 o201 o203 o204 o206 o207 o208 o210 o211 o213 o214 o215 o217 o218 o220 o221 o222 o224 o225 o227 o228 o229 o232 o233 o234 o237 o238 o239 o240 o241 o242 o243 o255 o256 o258 o259 o261 o262 o263 o265 o266 o268 o269 o270 o272 o273 o275 o276 o277 o279 o280 o282 o283 o284 o286 o287 o289 o290 o291 o294 o295 o296 o297 o298 o299 o300 o305 o307 o308 o310 o311 o312 o314 o315 o317 o318 o319 o322 o323 o324 o327 o328; rfl)
  case f => exact fun _ => ?K
noncomputable def hd.view_39 : Program := by
  refine (?f : (?K = ({ pr with main := { pr.main with body := [t0, t2, t4, t5, t6, t7, t8, t9, t11, t12, t13, t14, t15, t16, t18, t19, t20, t22, t23, t24, t25] } } : Program)) → Program) ?pf
  case pf => (delta t0 t2 t4 t5 t6 t7 t8 t9 t11 t12 t13 t14 t15 t16 t18 t19 t20 t22 t23 t24 t25; rfl)
  case f => exact fun _ => ?K
noncomputable def sts_49 : List Stmt := by
  refine (?f : (?K = ([t0, t1, t2, t3, t4, t5, t6, t7, t8, t9, t10, t11, t12, t13] : List Stmt)) → List Stmt) ?pf
  case pf => (delta t0 t1 t2 t3 t4 t5 t6 t7 t8 t9 t10 t11 t12 t13; rfl)
  case f => exact fun _ => ?K
noncomputable def sts_128 : List Stmt := by
  refine (?f : (?K = ([t14, t15, t16, t17, t18] : List Stmt)) → List Stmt) ?pf
  case pf => (delta t14 t15 t16 t17 t18; rfl)
  case f => exact fun _ => ?K
noncomputable def sts_185 : List Stmt := by
  refine (?f : (?K = ([t19] : List Stmt)) → List Stmt) ?pf
  case pf => (delta t19; rfl)
  case f => exact fun _ => ?K
noncomputable def sts_246 : List Stmt := by
  refine (?f : (?K = ([t20, t21] : List Stmt)) → List Stmt) ?pf
  case pf => (delta t20 t21; rfl)
  case f => exact fun _ => ?K
noncomputable def sts_303 : List Stmt := by
  refine (?f : (?K = ([t22, t23, t24, t25] : List Stmt)) → List Stmt) ?pf
  case pf => (delta t22 t23 t24 t25; rfl)
  case f => exact fun _ => ?K
noncomputable def env_41 : Env := { scope := pr.main.scope, locals := mainNs, globals := mainNs, cells := [], code := .ref 13, frame := some 14 }
noncomputable abbrev cE : Code := .body (behindTheImports pr) env_41
noncomputable abbrev BF : List Frame := [topFrame ⟨0, 0, 0, 0⟩]
noncomputable abbrev an : Option Value := some (.ref 6)
noncomputable abbrev St (t : Params → BT) (n k : Nat) (w : World) (os : OsState) : SharedT := ⟨t w.params, n, {}, #[], {}, k, os⟩
theorem g47 : ∀ w : World, (fun os => topGo treeTable pr w 11 an 12 ⟨boot_heap w.params, #[], boot_drawn, boot_toks, os⟩ (topStub pr)) =
    fun os => some (⟨heap_46 w.params, #[], {}, 187, os⟩, ⟨denote treeTable cE, cE, ⟨0, 0, 0, 0⟩, BF⟩) := by intro w; kernel_rfl
theorem g49 : ∀ w : World, (fun os => segRun treeTable pr w 11 an 1 1 ⟨heap_46 w.params, #[], {}, 187, os⟩ (blockOf (behindTheImports pr) env_41 cE ⟨0, 0, 0, 0⟩ BF)) =
    fun os => some (.next, (St tree_47 15 187 w os).abs, cE, ⟨0, 0, 0, 0⟩) := by intro w; kernel_rfl
theorem g128 : ∀ w : World, (fun os => segRunT treeTable pr w 11 an 1 375 (St tree_47 15 187 w os) (piecesOf sts_49 env_41 cE ⟨0, 0, 0, 0⟩ BF)) =
    fun os => some (.next, St tree_127 92 298 w os, cE, ⟨137, 0, 141, 68⟩) := by intro w; kernel_rfl
theorem g185 : ∀ w : World, (fun os => segRunT treeTable pr w 11 an 1 384 (St tree_127 92 298 w os) (piecesOf sts_128 env_41 cE ⟨137, 0, 141, 68⟩ BF)) =
    fun os => some (.next, St tree_184 147 368 w os, cE, ⟨175, 0, 185, 16⟩) := by intro w; kernel_rfl
theorem g246 : ∀ w : World, (fun os => segRunT treeTable pr w 11 an 1 415 (St tree_184 147 368 w os) (piecesOf sts_185 env_41 cE ⟨175, 0, 185, 16⟩ BF)) =
    fun os => some (.next, St tree_245 206 449 w os, cE, ⟨186, 0, 218, 84⟩) := by intro w; kernel_rfl
theorem g303 : ∀ w : World, (fun os => segRunT treeTable pr w 11 an 1 399 (St tree_245 206 449 w os) (piecesOf sts_246 env_41 cE ⟨186, 0, 218, 84⟩ BF)) =
    fun os => some (.next, St tree_302 261 528 w os, cE, ⟨248, 0, 248, 8⟩) := by intro w; kernel_rfl
theorem g329 : ∀ w : World, (fun os => segRunT treeTable pr w 11 an 1 122 (St tree_302 261 528 w os) (piecesOf sts_303 env_41 cE ⟨248, 0, 248, 8⟩ BF)) =
    fun os => some (.next, St tree_328 285 565 w os, cE, ⟨279, 0, 307, 59⟩) := by intro w; kernel_rfl
theorem g331 : ∀ w : World, (fun os => topRun treeTable pr w 11 an 2 (St tree_328 285 565 w os).abs ⟨doneF .next, cE, ⟨279, 0, 307, 59⟩, BF⟩) =
    fun os => some ⟨heap_329 w.params, #[], {}, 565, os⟩ := by intro w; kernel_rfl
theorem rest_eq {w : World} {N : Nat} {s r : Shared} {l l' : List Stmt} {env : Env} {c : Code} {p : Pos} {Bf : List Frame} (e : l' = l)
    (k : topRun treeTable pr w 11 an N s (restOf l env c p Bf) = some r) : topRun treeTable pr w 11 an N s (restOf l' env c p Bf) = some r := e ▸ k
theorem body_eq : behindTheImports pr = sts_49 ++ (sts_128 ++ (sts_185 ++ (sts_246 ++ (sts_303 ++ [])))) := by kernel_rfl
theorem top_runs (w : World) (os : OsState) : topRun treeTable pr w 11 an (12 + (1 + (375 + (384 + (415 + (399 + (122 + 2))))))) ⟨boot_heap w.params, #[], boot_drawn, boot_toks, os⟩ (topStub pr) = some ⟨heap_329 w.params, #[], {}, 565, os⟩ := by
  refine go_top (congrFun (g47 w) os) ?_
  refine piece_block (congrFun (g49 w) os) ?_
  refine rest_eq body_eq ?_
  refine piece_app (segRun_of (congrFun (g128 w) os)) ?_
  refine piece_app (segRun_of (congrFun (g185 w) os)) ?_
  refine piece_app (segRun_of (congrFun (g246 w) os)) ?_
  refine piece_app (segRun_of (congrFun (g303 w) os)) ?_
  refine piece_app (segRun_of (congrFun (g329 w) os)) ?_
  exact piece_nil (congrFun (g331 w) os)
theorem sized : ∀ w : World, ((boot_heap w.params).isNs mainGlobals && (#[] : Array GenState).size == 0, (boot_heap w.params).objs.size, (boot_heap w.params).nsMap mainGlobals "__annotations__") = (true, 11, an) := by intro w; kernel_rfl
theorem and_said {a b : Bool} (ha : a = true) (hb : b = true) : (a && b) = true := by rw [ha, hb]; rfl
theorem looks_said : looksOpen PySem.Challenge.rw_on0169_01.row.prog = true := by
  unfold looksOpen
  repeat' (with_reducible refine and_said ?_ ?_)
  all_goals decide +kernel
theorem row_said : PySem.Challenge.rw_on0169_01.row.wellSaid = true := by
  unfold OpenRow.wellSaid OpenRow.partSaid
  repeat' (with_reducible refine and_said ?_ ?_)
  all_goals with_reducible first | exact looks_said | decide +kernel
theorem law_said : PySem.Challenge.rw_on0169_01.wellSaid = true := by
  unfold OpenLaw.wellSaid
  repeat' (with_reducible refine and_said ?_ ?_)
  all_goals with_reducible first | exact row_said | decide +kernel
noncomputable abbrev kH : Hook := kHook hd.heap_39 [2, 3, 15, 17, 18, 20, 21, 22, 24, 25, 27, 28, 29, 31, 32, 34, 35, 36, 38, 39, 41, 42, 43, 45, 46, 48, 49, 50, 52, 53, 55, 56, 57, 59, 60, 62, 63, 64, 66, 67, 69, 70, 71, 73, 74, 76, 77, 78, 80, 81, 83, 84, 85, 87, 88, 90, 91, 92, 94, 95, 97, 98, 99, 102, 103, 104, 106, 107, 109, 110, 118, 119, 121, 122, 124, 125, 126, 128, 129, 131, 132, 133, 135, 136, 138, 139, 140, 141, 142, 143, 144, 154, 156, 157, 159, 160, 161, 163, 164, 166, 167, 168, 170, 171, 173, 174, 175, 177, 178, 180, 181, 182, 184, 185, 187, 188, 189, 192, 193, 194, 197, 198, 199, 200, 201, 202, 203, 213, 214, 216, 217, 219, 220, 221, 223, 224, 226, 227, 228, 230, 231, 233, 234, 235, 237, 238, 240, 241, 242, 244, 245, 247, 248, 249, 252, 253, 254, 255, 256, 257, 258, 261, 263, 264, 266, 267, 268, 270, 271, 273, 274, 275, 278, 279, 280, 283, 284] (fun _ => by kernel_rfl)
noncomputable abbrev XT (s : Shared) : Bool := xlAt hd.view_39 [] s && recOk (RowW.records PySem.Challenge.rw_on0169_01.row.toRowW) s
theorem opened : ∀ w : World, (fencedOpening treeTable pr w 3506).map (fun s => (s.heap, s.gens, s.drawn, s.toks)) = some (boot_heap w.params, Array.mk [], boot_drawn, boot_toks) :=
  boot_open (p := pr) (by kernel_rfl) (by rfl) (fun s => by kernel_rfl)
theorem left_runs : LeftO pr hd.view_39 [] XT (Hook.obs kH) (Hook.val kH) 3506 := by
  refine LeftO.of_pieces (H₀ := boot_heap) (H₁ := heap_329) opened sized top_runs (by rfl) ?_
  intro w
  kernel_rfl
theorem hdW {d : DefRec} {kwd : List (Str × Expr)} (hdef : defOf hd.view_39 PySem.Challenge.rw_on0169_01.row.name = some (d, kwd))
    (hp : PySem.Challenge.rw_on0169_01.row.prog.theDef PySem.Challenge.rw_on0169_01.row.name = some (d.params, d.body, d.scope)) (hk : kwWritten? d.params.kwonlyargs d.params.kw_defaults = some kwd)
    (walk : WalkO hd.view_39 [] (XL hd.view_39 []) (kHook hd.heap_39 [2, 3, 15, 17, 18, 20, 21, 22, 24, 25, 27, 28, 29, 31, 32, 34, 35, 36, 38, 39, 41, 42, 43, 45, 46, 48, 49, 50, 52, 53, 55, 56, 57, 59, 60, 62, 63, 64, 66, 67, 69, 70, 71, 73, 74, 76, 77, 78, 80, 81, 83, 84, 85, 87, 88, 90, 91, 92, 94, 95, 97, 98, 99, 102, 103, 104, 106, 107, 109, 110, 118, 119, 121, 122, 124, 125, 126, 128, 129, 131, 132, 133, 135, 136, 138, 139, 140, 141, 142, 143, 144, 154, 156, 157, 159, 160, 161, 163, 164, 166, 167, 168, 170, 171, 173, 174, 175, 177, 178, 180, 181, 182, 184, 185, 187, 188, 189, 192, 193, 194, 197, 198, 199, 200, 201, 202, 203, 213, 214, 216, 217, 219, 220, 221, 223, 224, 226, 227, 228, 230, 231, 233, 234, 235, 237, 238, 240, 241, 242, 244, 245, 247, 248, 249, 252, 253, 254, 255, 256, 257, 258, 261, 263, 264, 266, 267, 268, 270, 271, 273, 274, 275, 278, 279, 280, 283, 284] (fun _ => by kernel_rfl)).says PySem.Challenge.rw_on0169_01.row.toRowW d kwd fun f vs => call f vs) : PySem.Challenge.rw_on0169_01.Holds := by
  refine holds_law law_said fun said => ?_
  refine holds_open (q := hd.view_39) (loose := []) (Xt := XT) (XP := XL hd.view_39 []) (Yf := Hook.obs kH) (Ya := Hook.val kH) (YP := Hook.says kH) (N := 3506) left_runs (Hook.of kH) (Hook.keeps kH) (fun s e => xl_of s (Bool.and_eq_true_iff.mp e).1) XL.keeps hdef hp hk (fun s e => recFacts_of (Bool.and_eq_true_iff.mp e).2) (by rfl) said (by decide +kernel) ⟨rfl, rfl, rfl, rfl, rfl, by decide +kernel⟩ ?hw walk
  case hw => w_witness2
end Mine
namespace Mine

abbrev Led := List (Addr × Obj)
abbrev tupOf (vs : Array Value) (n : Nat) : Obj := { cls := .type "tuple", data := .seq vs n }

section
variable {prog : Program} {w : World} {A : Around} {E : Value → Shared → Prop} {s : Shared} {env : Env} {h₀ : Heap} {target : Expr} {body : List Stmt} {Q : Flow → Shared → Prop}

/-- what a for loop asks of its iterator's start -/
def LoopA (prog : Program) (w : World) (A : Around) (env : Env) (target : Expr) (body : List Stmt) (Q : Flow → Shared → Prop) (E : Value → Shared → Prop) (it : Value) (s₂ : Shared) : Prop :=
  ∃ (G : Nat → Shared → Prop) (n₀ : Nat), G n₀ s₂ ∧ ∀ n s', G n s' → wpAny (model prog w) A (pyNext it) (fun r s₁ => match r with
    | none => Q .next s₁
    | some v => wpAny (model prog w) A (letOwnedTupleGo target it v) (fun _ s₁' => wpAny (model prog w) A (assign target env v) (fun _ s₂ => wpAny (model prog w) A (execs body env) (fun f s₃ => match f with
        | .next | .cont => ∃ m, m < n ∧ G m s₃
        | .brk => Q .next s₃
        | .ret v => Q (.ret v) s₃) E s₂) E s₁') E s₁) E s'

theorem For_any {pos : Pos} {iter : Expr} (h : wpAny (model prog w) A (eval iter env) (fun xv s₁ => wpAny (model prog w) A (pyIter xv) (fun it s₂ => LoopA prog w A env target body Q E it s₂) E s₁) E s)
    (hs : ∀ x, foldedSetIterable iter env x = pure x := by intro _; rfl)
    (hE : PassesOwn (model prog w) A env E := by passes_own) :
    wpAny (model prog w) A (exec (.For target iter body [] pos) env) Q E s := by
  refine wpAny_For (wpAny_mono h (fun xv s₁ h₁ => wpAny_mono h₁ (fun it s₂ h₂ => ?_) fun _ _ e => e) fun _ _ e => e) hs
  obtain ⟨G, n₀, hG, turn⟩ := h₂
  refine codeAny_forLoop_any (R := fun r s' => match r with | .ok f => Q f s' | .error e => cameBackBy (model prog w) A env E e s') G (fun n s' hI => ?_) n₀ hG
  refine wpAny_mono (wpAny_passesOwn hE (turn n s' hI)) (fun r s₁ h₁ => ?_) fun _ _ e => e
  cases r with
  | none => exact wpAny_execs_nil h₁
  | some v =>
    refine wpAny_mono (wpAny_passesOwn hE h₁) (fun _ s₁' h₂ => wpAny_mono (wpAny_passesOwn hE h₂) (fun _ s₂ h₃ => wpAny_mono (wpAny_passesOwn hE h₃) (fun f s₃ h₄ => ?_) fun _ _ e => e) fun _ _ e => e) fun _ _ e => e
    cases f <;> exact h₄

/-- a while, where the walk is to stop -/
def WhileA (prog : Program) (w : World) (A : Around) (env : Env) (test : Expr) (body : List Stmt) (pos : Pos) (Q : Flow → Shared → Prop) (E : Value → Shared → Prop) (s : Shared) : Prop := wpAny (model prog w) A (exec (.While test body [] pos) env) Q E s
theorem While_stop {test : Expr} {pos : Pos} (h : WhileA prog w A env test body pos Q E s) : wpAny (model prog w) A (exec (.While test body [] pos) env) Q E s := h

def WEnd {σ : Type} (h₀ : Heap) (L : Addr) (Hd : σ → Led) (r₀ : Led) (stored : List Str) (m₀ : Str → Option Value) (Inv : σ → (Str → Option Value) → Prop) (μ : σ → Nat) (c : σ) (s₁ s₂ : Shared) : Prop :=
  ∃ c' h' tk' m', s₂ = { s₁ with heap := h', toks := tk' } ∧ Fr h₀ L h' m' ∧ News h₀ L h' (Hd c' ++ r₀) ∧ (∀ y, stored.contains y = false → m' y = m₀ y) ∧ Inv c' m' ∧ μ c' < μ c
theorem WEnd.intro {σ : Type} {L : Addr} {Hd : σ → Led} {r₀ : Led} {stored : List Str} {m₀ m' : Str → Option Value} {Inv : σ → (Str → Option Value) → Prop} {μ : σ → Nat} {c : σ} {s₁ : Shared} {h' : Heap} {tk' : Nat} {news' : Led}
    (c' : σ) (F : Fr h₀ L h' m') (N : News h₀ L h' news') (hsub : ∀ p ∈ Hd c' ++ r₀, p ∈ news') (hm : ∀ y, stored.contains y = false → m' y = m₀ y) (hI : Inv c' m') (hμ : μ c' < μ c) :
    WEnd h₀ L Hd r₀ stored m₀ Inv μ c s₁ { s₁ with heap := h', toks := tk' } := ⟨c', h', tk', m', rfl, F, fun p hp => N p (hsub p hp), hm, hI, hμ⟩
def WPost {σ : Type} (h₀ : Heap) (L : Addr) (Hd : σ → Led) (r₀ : Led) (stored : List Str) (m₀ : Str → Option Value) (Inv : σ → (Str → Option Value) → Prop) (μ : σ → Nat) (c : σ) (s₁ : Shared) (Q : Flow → Shared → Prop) (f : Flow) (s₂ : Shared) : Prop :=
  match f with
  | .ret v => Q (.ret v) s₂
  | .brk => Q .next s₂
  | _ => WEnd h₀ L Hd r₀ stored m₀ Inv μ c s₁ s₂

def LEnd {σ : Type} (h₀ : Heap) (L : Addr) (Hd : σ → Led) (stored : List Str) (m₀ : Str → Option Value) (adr : List Addr) (Inv : σ → Led → (Str → Option Value) → Prop) (tl rest : Led) (s₁ s₂ : Shared) : Prop :=
  ∃ h' tk' m' c' add, s₂ = { s₁ with heap := h', toks := tk' } ∧ Fr h₀ L h' m' ∧ News h₀ L h' (Hd c' ++ (add ++ rest)) ∧ (∀ q ∈ add, q.1 ∉ adr) ∧ (∀ q ∈ add, ∀ p ∈ rest, p.1 ≠ q.1) ∧ (∀ y, stored.contains y = false → m' y = m₀ y) ∧ Inv c' (add ++ tl) m'

theorem LEnd.intro {σ : Type} {L : Addr} {Hd : σ → Led} {stored : List Str} {m₀ m' : Str → Option Value} {adr : List Addr} {Inv : σ → Led → (Str → Option Value) → Prop} {tl rest news' : Led} {s₁ : Shared} {h' : Heap} {tk' : Nat}
    (c' : σ) (add : Led) (F : Fr h₀ L h' m') (N : News h₀ L h' news') (hsub : ∀ p ∈ Hd c' ++ (add ++ rest), p ∈ news') (ha : ∀ q ∈ add, q.1 ∉ adr) (hr : ∀ q ∈ add, ∀ p ∈ rest, p.1 ≠ q.1)
    (hm : ∀ y, stored.contains y = false → m' y = m₀ y) (hI : Inv c' (add ++ tl) m') : LEnd h₀ L Hd stored m₀ adr Inv tl rest s₁ { s₁ with heap := h', toks := tk' } :=
  ⟨h', tk', m', c', add, rfl, F, fun p hp => N p (hsub p hp), ha, hr, hm, hI⟩

def LPost {σ : Type} (h₀ : Heap) (L : Addr) (Hd : σ → Led) (stored : List Str) (m₀ : Str → Option Value) (adr : List Addr) (Inv : σ → Led → (Str → Option Value) → Prop) (tl rest : Led) (s₁ : Shared) (Q : Flow → Shared → Prop) (f : Flow) (s₂ : Shared) : Prop :=
  match f with
  | .ret v => Q (.ret v) s₂
  | .brk => Q .next s₂
  | _ => LEnd h₀ L Hd stored m₀ adr Inv tl rest s₁ s₂

theorem stayP {A : Prop} (h : A) : A := h
theorem hideQ {α : Type} {M : Model} {A : Around} {t : Sem α} {Q : α → Shared → Prop} {E : Value → Shared → Prop} {s : Shared} (h : ∀ P : α → Shared → Prop, (∀ v s', Q v s' → P v s') → wpAny M A t P E s) : wpAny M A t Q E s := h Q fun _ _ x => x
theorem LPost.nx {σ : Type} {h₀ : Heap} {L : Addr} {Hd : σ → Led} {stored : List Str} {m₀ : Str → Option Value} {adr : List Addr} {Inv : σ → Led → (Str → Option Value) → Prop} {tl rest : Led} {s₁ s₂ : Shared} {Q P : Flow → Shared → Prop}
    (hP : LPost h₀ L Hd stored m₀ adr Inv tl rest s₁ Q = P) (h : LEnd h₀ L Hd stored m₀ adr Inv tl rest s₁ s₂) : P .next s₂ := by subst hP; exact h
theorem LPost.rt {σ : Type} {h₀ : Heap} {L : Addr} {Hd : σ → Led} {stored : List Str} {m₀ : Str → Option Value} {adr : List Addr} {Inv : σ → Led → (Str → Option Value) → Prop} {tl rest : Led} {s₁ s₂ : Shared} {Q P : Flow → Shared → Prop} {v : Value}
    (hP : LPost h₀ L Hd stored m₀ adr Inv tl rest s₁ Q = P) (h : Q (.ret v) s₂) : P (.ret v) s₂ := by subst hP; exact h
theorem LPost.bk {σ : Type} {h₀ : Heap} {L : Addr} {Hd : σ → Led} {stored : List Str} {m₀ : Str → Option Value} {adr : List Addr} {Inv : σ → Led → (Str → Option Value) → Prop} {tl rest : Led} {s₁ s₂ : Shared} {Q P : Flow → Shared → Prop}
    (hP : LPost h₀ L Hd stored m₀ adr Inv tl rest s₁ Q = P) (h : Q .next s₂) : P .brk s₂ := by subst hP; exact h
theorem LPost.co {σ : Type} {h₀ : Heap} {L : Addr} {Hd : σ → Led} {stored : List Str} {m₀ : Str → Option Value} {adr : List Addr} {Inv : σ → Led → (Str → Option Value) → Prop} {tl rest : Led} {s₁ s₂ : Shared} {Q P : Flow → Shared → Prop}
    (hP : LPost h₀ L Hd stored m₀ adr Inv tl rest s₁ Q = P) (h : LEnd h₀ L Hd stored m₀ adr Inv tl rest s₁ s₂) : P .cont s₂ := by subst hP; exact h
theorem WPost.nx {σ : Type} {h₀ : Heap} {L : Addr} {Hd : σ → Led} {r₀ : Led} {stored : List Str} {m₀ : Str → Option Value} {Inv : σ → (Str → Option Value) → Prop} {μ : σ → Nat} {c : σ} {s₁ s₂ : Shared} {Q P : Flow → Shared → Prop}
    (hP : WPost h₀ L Hd r₀ stored m₀ Inv μ c s₁ Q = P) (h : WEnd h₀ L Hd r₀ stored m₀ Inv μ c s₁ s₂) : P .next s₂ := by subst hP; exact h

theorem overlay {stored : List Str} {m m₀ : Str → Option Value} (h : ∀ y, stored.contains y = false → m y = m₀ y) : m = fun y => if stored.contains y = true then m y else m₀ y := by
  funext y
  cases hy : stored.contains y with
  | true => simp
  | false => simp only [Bool.false_eq_true, if_false]; exact h y hy

theorem while_walk {σ : Type} {test : Expr} {pos : Pos} {m₀ : Str → Option Value} {r₀ : Led} (Hd : σ → Led) (stored : List Str) (Inv : σ → (Str → Option Value) → Prop) (μ : σ → Nat) (c₀ : σ)
    (F : Fr h₀ env.locals s.heap m₀) (N : News h₀ env.locals s.heap (Hd c₀ ++ r₀)) (h0 : Inv c₀ m₀)
    (turn : ∀ c (u : Str → Option Value) h tk, Inv c u → Fr h₀ env.locals h (fun y => if stored.contains y = true then u y else m₀ y) → News h₀ env.locals h (Hd c ++ r₀) →
      wpAny (model prog w) A (isTrue test env (eval test env)) (fun b s₂ => if b = true then wpAny (model prog w) A (execs body env) (WPost h₀ env.locals Hd r₀ stored m₀ Inv μ c s Q) E s₂ else Q .next s₂) E { s with heap := h, toks := tk })
    (hE : PassesOwn (model prog w) A env E := by passes_own) : WhileA prog w A env test body pos Q E s := by
  unfold WhileA
  refine While_inv2 (fun n m nx => ∃ c, nx = Hd c ++ r₀ ∧ μ c = n ∧ (∀ y, stored.contains y = false → m y = m₀ y) ∧ Inv c m) F N ⟨c₀, rfl, rfl, fun _ _ => rfl, h0⟩ ?_ hE
  rintro n m₁ nx h tk F₁ N₁ ⟨c, rfl, rfl, hm, hI⟩
  rw [overlay hm] at F₁
  refine wpAny_mono (turn c m₁ h tk hI F₁ N₁) (fun b s₂ h₂ => ?_) fun _ _ e => e
  cases b with
  | false => simpa using h₂
  | true =>
    simp only [if_true] at h₂ ⊢
    refine wpAny_mono h₂ (fun f s₃ h₃ => ?_) fun _ _ e => e
    have fin : WEnd h₀ env.locals Hd r₀ stored m₀ Inv μ c s s₃ → ∃ h' tk m₂ news₂ n', s₃ = { s with heap := h', toks := tk } ∧ Fr h₀ env.locals h' m₂ ∧ News h₀ env.locals h' news₂ ∧ n' < μ c ∧ ∃ c, news₂ = Hd c ++ r₀ ∧ μ c = n' ∧ (∀ y, stored.contains y = false → m₂ y = m₀ y) ∧ Inv c m₂ := by
      rintro ⟨c', h', tk', m', rfl, F', N', hm', hI', hμ⟩
      exact ⟨h', tk', m', _, _, rfl, F', N', hμ, c', rfl, rfl, hm', hI'⟩
    cases f with
    | ret v => exact h₃
    | brk => exact h₃
    | next => exact fin h₃
    | cont => exact fin h₃

theorem loop_walk {σ : Type} {I : Addr} {fp : List Addr} {n : Nat} {P : Nat → Value → Prop} {St : Nat → Heap → Prop} {m₀ : Str → Option Value} {r₀ : Led} {adr : List Addr}
    (W : Walks prog w A I fp [I] n P St) (Hd : σ → Led) (stored : List Str) (Inv : Nat → σ → Led → (Str → Option Value) → Prop) (c₀ : σ)
    (hlet : ∀ i v (s' : Shared) (Q : Unit → Shared → Prop), P i v → St (i + 1) s'.heap → Q () s' → wpAny (model prog w) A (letOwnedTupleGo target (.ref I) v) Q E s')
    (hob : ∀ i h, St i h → ∃ o, h.get? I = some o) (hfix : ∀ b ∈ fp, b ≠ I → (∃ o, h₀.get? b = some o) ∨ ∃ o, (b, o) ∈ r₀)
    (hIL : env.locals ≠ I) (hI0 : h₀.get? I = none) (hIr : ∀ p ∈ r₀, p.1 ≠ I) (hIa : I ∉ adr) (hadr : ∀ c, (Hd c).map (·.1) = adr) (hoff : ∀ p ∈ r₀, p.1 ∉ adr)
    (hst : St 0 s.heap) (F : Fr h₀ env.locals s.heap m₀) (N : News h₀ env.locals s.heap (Hd c₀ ++ r₀)) (h0 : Inv 0 c₀ [] m₀)
    (turn : ∀ i v c tl (u : Str → Option Value) h tk rest, P i v → i < n → (∀ p ∈ r₀, p ∈ rest) → (∀ p ∈ tl, p ∈ rest) → (∀ p ∈ rest, p.1 ∉ adr) → Inv i c tl u →
      Fr h₀ env.locals h (fun y => if stored.contains y = true then u y else m₀ y) → News h₀ env.locals h (Hd c ++ rest) →
      wpAny (model prog w) A (assign target env v) (fun _ s' => wpAny (model prog w) A (execs body env) (LPost h₀ env.locals Hd stored m₀ adr (Inv (i + 1)) tl rest { s with heap := h, toks := tk } Q) E s') E { s with heap := h, toks := tk })
    (done : ∀ c tl (u : Str → Option Value) h tk, Inv n c tl u → (∀ p ∈ tl, p.1 ∉ adr) → Fr h₀ env.locals h (fun y => if stored.contains y = true then u y else m₀ y) → News h₀ env.locals h (Hd c ++ (tl ++ r₀)) → Q .next { s with heap := h, toks := tk }) :
    LoopA prog w A env target body Q E (.ref I) s := by
  have heads : ∀ c, ∀ p ∈ Hd c, p.1 ∈ adr := fun c p hp => by rw [← hadr c]; exact List.mem_map_of_mem hp
  refine ⟨fun k s' => ∃ h tk m c tl i, s' = { s with heap := h, toks := tk } ∧ St i h ∧ Fr h₀ env.locals h m ∧ News h₀ env.locals h (Hd c ++ (tl ++ r₀)) ∧ (∀ p ∈ tl, p.1 ∉ adr) ∧ (∀ p ∈ tl, p.1 ≠ I) ∧
      (∀ y, stored.contains y = false → m y = m₀ y) ∧ Inv i c tl m ∧ i ≤ n ∧ k = n + 1 - i, n + 1,
    ⟨s.heap, s.toks, m₀, c₀, [], 0, rfl, hst, F, N, fun _ h => (nomatch h), fun _ h => (nomatch h), fun _ _ => rfl, h0, Nat.zero_le _, rfl⟩, ?_⟩
  rintro k s' ⟨h, tk, m, c, tl, i, rfl, hst', F', N', ht, htI, hm, hJ, hi, rfl⟩
  have offI : ∀ p ∈ Hd c ++ (tl ++ r₀), p.1 ≠ I := by
    intro p hp
    rcases List.mem_append.mp hp with hp | hp
    · exact fun e => hIa (e ▸ heads c p hp)
    · rcases List.mem_append.mp hp with hp | hp
      · exact htI p hp
      · exact hIr p hp
  have next : ∀ h₁ : Heap, (∀ b o, b ∉ [I] → h.get? b = some o → h₁.get? b = some o) → Fr h₀ env.locals h₁ m ∧ News h₀ env.locals h₁ (Hd c ++ (tl ++ r₀)) := fun h₁ hk₁ =>
    ⟨⟨F'.ns.at' fun o e => hk₁ _ o (fun q => hIL (List.mem_singleton.mp q)) e, fun b o e => hk₁ b o (fun q => by rw [List.mem_singleton.mp q, hI0] at e; cases e) (F'.keep b o e), F'.above⟩,
      fun p hp => ⟨hk₁ _ _ (fun q => offI p hp (List.mem_singleton.mp q)) (N' p hp).1, (N' p hp).2⟩⟩
  by_cases hlt : i < n
  · refine W.item i _ _ _ hlt hst' fun v h₁ tk₁ hP hst₁ hk₁ => ?_
    obtain ⟨F₁, N₁⟩ := next h₁ hk₁
    refine hlet i v _ _ hP hst₁ ?_
    obtain ⟨oI, hoI⟩ := hob _ _ hst₁
    have N₂ : News h₀ env.locals h₁ (Hd c ++ ((I, oI) :: (tl ++ r₀))) := fun p hp => by
      rcases List.mem_append.mp hp with hp | hp
      · exact N₁ p (List.mem_append.mpr (.inl hp))
      · rcases List.mem_cons.mp hp with rfl | hp
        · exact ⟨hoI, fun e => hIL e.symm, hI0⟩
        · exact N₁ p (List.mem_append.mpr (.inr hp))
    rw [overlay hm] at F₁
    refine wpAny_mono (turn i v c tl m h₁ tk₁ ((I, oI) :: (tl ++ r₀)) hP hlt (fun p hp => .tail _ (List.mem_append.mpr (.inr hp))) (fun p hp => .tail _ (List.mem_append.mpr (.inl hp)))
      (fun p hp => by
        rcases List.mem_cons.mp hp with rfl | hp
        · exact hIa
        · rcases List.mem_append.mp hp with hp | hp
          · exact ht p hp
          · exact hoff p hp) hJ F₁ N₂) (fun _ s₂ h₂ => wpAny_mono h₂ (fun f s₃ h₃ => ?_) fun _ _ e => e) fun _ _ e => e
    have fin : LEnd h₀ env.locals Hd stored m₀ adr (Inv (i + 1)) tl ((I, oI) :: (tl ++ r₀)) { s with heap := h₁, toks := tk₁ } s₃ → ∃ k, k < n + 1 - i ∧ ∃ h tk m c tl i, s₃ = { s with heap := h, toks := tk } ∧ St i h ∧ Fr h₀ env.locals h m ∧ News h₀ env.locals h (Hd c ++ (tl ++ r₀)) ∧ (∀ p ∈ tl, p.1 ∉ adr) ∧ (∀ p ∈ tl, p.1 ≠ I) ∧
      (∀ y, stored.contains y = false → m y = m₀ y) ∧ Inv i c tl m ∧ i ≤ n ∧ k = n + 1 - i := by
      rintro ⟨h', tk', m', c', add, rfl, F₃, N₃, ha, hr, hm₃, hJ₃⟩
      refine ⟨n + 1 - (i + 1), by omega, h', tk', m', c', add ++ tl, i + 1, rfl, ?_, F₃, fun p hp => N₃ p ?_, ?_, ?_, hm₃, hJ₃, hlt, rfl⟩
      · refine W.frame _ _ _ hst₁ fun b hb o e => ?_
        by_cases hbI : b = I
        · subst hbI
          have : o = oI := by rw [hoI] at e; exact (Option.some.inj e).symm
          subst this
          exact (N₃ (b, o) (List.mem_append.mpr (.inr (List.mem_append.mpr (.inr (.head _)))))).1
        · rcases hfix b hb hbI with ⟨o', ho'⟩ | ⟨o', ho'⟩
          · have e' := F₁.keep b o' ho'
            rw [e] at e'
            cases e'
            exact F₃.keep b o ho'
          · have e' := (N₁ (b, o') (List.mem_append.mpr (.inr (List.mem_append.mpr (.inr ho'))))).1
            have e'' : o = o' := by
              have e3 : h₁.get? b = some o' := e'
              rw [e] at e3
              exact Option.some.inj e3
            subst e''
            exact (N₃ (b, o) (List.mem_append.mpr (.inr (List.mem_append.mpr (.inr (.tail _ (List.mem_append.mpr (.inr ho'))))))) ).1
      · rcases List.mem_append.mp hp with hp | hp
        · exact List.mem_append.mpr (.inl hp)
        · rcases List.mem_append.mp hp with hp | hp
          · rcases List.mem_append.mp hp with hp | hp
            · exact List.mem_append.mpr (.inr (List.mem_append.mpr (.inl hp)))
            · exact List.mem_append.mpr (.inr (List.mem_append.mpr (.inr (.tail _ (List.mem_append.mpr (.inl hp))))))
          · exact List.mem_append.mpr (.inr (List.mem_append.mpr (.inr (.tail _ (List.mem_append.mpr (.inr hp))))))
      · intro p hp
        rcases List.mem_append.mp hp with hp | hp
        · exact ha p hp
        · exact ht p hp
      · intro p hp
        rcases List.mem_append.mp hp with hp | hp
        · exact fun e => hr p hp (I, oI) (.head _) e.symm
        · exact htI p hp
    cases f with
    | ret v => exact h₃
    | brk => exact h₃
    | next => exact fin h₃
    | cont => exact fin h₃
  · have hin : i = n := by omega
    subst hin
    refine W.done _ _ _ hst' fun h₁ tk₁ hk₁ => ?_
    obtain ⟨F₁, N₁⟩ := next h₁ hk₁
    rw [overlay hm] at F₁
    exact done c tl m h₁ tk₁ hJ ht F₁ N₁

/-- the iterator's own tuple: not for these kinds -/
theorem let_plain {I : Addr} {v : Value} {s' : Shared} {o : Obj} {Q : Unit → Shared → Prop} (ho : s'.heap.get? I = some o) (hc : o.cls = .type "list_iterator" ∨ o.cls = .type "tuple_iterator" ∨ o.cls = .type "range_iterator")
    (h : Q () s') : wpAny (model prog w) A (letOwnedTupleGo target (.ref I) v) Q E s' := by
  have key : wpAny (model prog w) A (do
      let (.ref r, .ref a) := ((Value.ref I, v) : Value × Value) | return
      let o ← load r
      match o.cls, o.data with
      | .type n, .fields vs =>
        if ["enumerate", "zip", "dict_itemiterator", "dict_reverseitemiterator", "odict_iterator", "itertools.zip_longest", "itertools.pairwise"].contains n && vs[0]? == some (rawInt a) then
          rule "for.unpacks-the-owned-tuple"
          updateField r 0 .none
      | _, _ => pure ()) Q E s' := by
    cases v <;> try exact wpAny_pure h
    refine wpAny_bind (wpAny_load ho ?_)
    rcases hc with hc | hc | hc <;> rw [hc] <;> cases o.data <;> first | exact wpAny_pure h | (dsimp only; refine wpAny_ite ?_; rw [if_neg (by simp)]; exact wpAny_pure h)
  unfold letOwnedTupleGo
  split
  · exact key
  · exact key
  · exact wpAny_pure h

section
variable {σ : Type} {m₀ : Str → Option Value} {r₀ : Led} {adr : List Addr}
theorem over_list {l : Addr} {vs : List Value} {nn : Nat} (Hd : σ → Led) (stored : List Str) (Inv : Nat → σ → Led → (Str → Option Value) → Prop) (c₀ : σ)
    (hh : A.handled = none) (hl : (l, listOf vs.toArray nn) ∈ r₀) (hadr : ∀ c, (Hd c).map (·.1) = adr) (hoff : ∀ p ∈ r₀, p.1 ∉ adr)
    (F : Fr h₀ env.locals s.heap m₀) (N : News h₀ env.locals s.heap (Hd c₀ ++ r₀)) (h0 : Inv 0 c₀ [] m₀)
    (turn : ∀ i v c tl (u : Str → Option Value) h tk rest, vs[i]? = some v → i < vs.length → (∀ p ∈ r₀, p ∈ rest) → (∀ p ∈ tl, p ∈ rest) → (∀ p ∈ rest, p.1 ∉ adr) → Inv i c tl u →
      Fr h₀ env.locals h (fun y => if stored.contains y = true then u y else m₀ y) → News h₀ env.locals h (Hd c ++ rest) →
      wpAny (model prog w) A (assign target env v) (fun _ s' => wpAny (model prog w) A (execs body env) (LPost h₀ env.locals Hd stored m₀ adr (Inv (i + 1)) tl rest { s with heap := h, toks := tk } Q) E s') E { s with heap := h, toks := tk })
    (done : ∀ c tl (u : Str → Option Value) h tk, Inv vs.length c tl u → (∀ p ∈ tl, p.1 ∉ adr) → Fr h₀ env.locals h (fun y => if stored.contains y = true then u y else m₀ y) → News h₀ env.locals h (Hd c ++ (tl ++ r₀)) → Q .next { s with heap := h, toks := tk }) :
    wpAny (model prog w) A (pyIter (.ref l)) (fun it s₂ => LoopA prog w A env target body Q E it s₂) E s := by
  have hlN : (l, listOf vs.toArray nn) ∈ Hd c₀ ++ r₀ := List.mem_append.mpr (.inr hl)
  have hol : s.heap.get? l = some (listOf vs.toArray nn) := (N _ hlN).1
  have hls : s.heap.IsList l vs.toArray := ⟨_, hol, rfl, nn, rfl⟩
  have hne : l ≠ s.heap.objs.size := Nat.ne_of_lt (Heap.lt_size hol)
  have below : ∀ p ∈ Hd c₀ ++ r₀, p.1 ≠ s.heap.objs.size := fun p hp => Nat.ne_of_lt (Heap.lt_size (N p hp).1)
  refine wpAny_pyIter_list hls ?_
  have W := Walks.list (prog := prog) (w := w) hh s.heap.objs.size l hne vs.toArray
  rw [show vs.toArray.size = vs.length by simp] at W
  refine loop_walk W Hd stored Inv c₀
    (fun i v s' Q _ hst h => let_plain (o := hst.1.choose) hst.1.choose_spec.1 (.inl hst.1.choose_spec.2.1) h) (fun i h hst => ⟨_, hst.1.choose_spec.1⟩) ?_ ?_ (next_is_new F) (fun p hp => below p (List.mem_append.mpr (.inr hp))) ?_ hadr hoff
    ⟨⟨_, Heap.get?_push_size _ rfl, rfl, rfl⟩, hls.at fun o e => Heap.get?_push_of_some _ e⟩ (F.push _) (fun p hp => ⟨Heap.get?_push_of_some _ (N p hp).1, (N p hp).2⟩) h0 ?_ done
  · intro b hb hbI
    rcases List.mem_cons.mp hb with e | hb
    · exact absurd e hbI
    · rw [List.mem_singleton.mp hb]; exact .inr ⟨_, hl⟩
  · exact fun e => absurd F.ns.lt (e ▸ Nat.lt_irrefl _)
  · rw [← hadr c₀]
    intro hm
    obtain ⟨p, hp, e⟩ := List.mem_map.mp hm
    exact below p (List.mem_append.mpr (.inl hp)) e
  · intro i v c tl u h tk rest hP hi
    exact turn i v c tl u h tk rest (by simpa using hP) hi

theorem over_tuple {l : Addr} {vs : List Value} {nn : Nat} (Hd : σ → Led) (stored : List Str) (Inv : Nat → σ → Led → (Str → Option Value) → Prop) (c₀ : σ)
    (hh : A.handled = none) (hl : (l, tupOf vs.toArray nn) ∈ r₀) (hadr : ∀ c, (Hd c).map (·.1) = adr) (hoff : ∀ p ∈ r₀, p.1 ∉ adr)
    (F : Fr h₀ env.locals s.heap m₀) (N : News h₀ env.locals s.heap (Hd c₀ ++ r₀)) (h0 : Inv 0 c₀ [] m₀)
    (turn : ∀ i v c tl (u : Str → Option Value) h tk rest, vs[i]? = some v → i < vs.length → (∀ p ∈ r₀, p ∈ rest) → (∀ p ∈ tl, p ∈ rest) → (∀ p ∈ rest, p.1 ∉ adr) → Inv i c tl u →
      Fr h₀ env.locals h (fun y => if stored.contains y = true then u y else m₀ y) → News h₀ env.locals h (Hd c ++ rest) →
      wpAny (model prog w) A (assign target env v) (fun _ s' => wpAny (model prog w) A (execs body env) (LPost h₀ env.locals Hd stored m₀ adr (Inv (i + 1)) tl rest { s with heap := h, toks := tk } Q) E s') E { s with heap := h, toks := tk })
    (done : ∀ c tl (u : Str → Option Value) h tk, Inv vs.length c tl u → (∀ p ∈ tl, p.1 ∉ adr) → Fr h₀ env.locals h (fun y => if stored.contains y = true then u y else m₀ y) → News h₀ env.locals h (Hd c ++ (tl ++ r₀)) → Q .next { s with heap := h, toks := tk }) :
    wpAny (model prog w) A (pyIter (.ref l)) (fun it s₂ => LoopA prog w A env target body Q E it s₂) E s := by
  have hlN : (l, tupOf vs.toArray nn) ∈ Hd c₀ ++ r₀ := List.mem_append.mpr (.inr hl)
  have hol : s.heap.get? l = some (tupOf vs.toArray nn) := (N _ hlN).1
  have hls : s.heap.IsTuple l vs.toArray := ⟨_, hol, rfl, nn, rfl⟩
  have hne : l ≠ s.heap.objs.size := Nat.ne_of_lt (Heap.lt_size hol)
  have below : ∀ p ∈ Hd c₀ ++ r₀, p.1 ≠ s.heap.objs.size := fun p hp => Nat.ne_of_lt (Heap.lt_size (N p hp).1)
  refine wpAny_pyIter_tuple hls ?_
  have W := Walks.tuple (prog := prog) (w := w) hh s.heap.objs.size l hne vs.toArray
  rw [show vs.toArray.size = vs.length by simp] at W
  refine loop_walk W Hd stored Inv c₀
    (fun i v s' Q _ hst h => let_plain (o := hst.1.choose) hst.1.choose_spec.1 (.inr (.inl hst.1.choose_spec.2.1)) h) (fun i h hst => ⟨_, hst.1.choose_spec.1⟩) ?_ ?_ (next_is_new F) (fun p hp => below p (List.mem_append.mpr (.inr hp))) ?_ hadr hoff
    ⟨⟨_, Heap.get?_push_size _ rfl, rfl, rfl⟩, hls.at fun o e => Heap.get?_push_of_some _ e⟩ (F.push _) (fun p hp => ⟨Heap.get?_push_of_some _ (N p hp).1, (N p hp).2⟩) h0 ?_ done
  · intro b hb hbI
    rcases List.mem_cons.mp hb with e | hb
    · exact absurd e hbI
    · rw [List.mem_singleton.mp hb]; exact .inr ⟨_, hl⟩
  · exact fun e => absurd F.ns.lt (e ▸ Nat.lt_irrefl _)
  · rw [← hadr c₀]
    intro hm
    obtain ⟨p, hp, e⟩ := List.mem_map.mp hm
    exact below p (List.mem_append.mpr (.inl hp)) e
  · intro i v c tl u h tk rest hP hi
    exact turn i v c tl u h tk rest (by simpa using hP) hi

theorem over_range {r : Addr} {a₀ b₀ : Int} {t₀ u₀ v₀ : Tok} {n : Nat} (Hd : σ → Led) (stored : List Str) (Inv : Nat → σ → Led → (Str → Option Value) → Prop) (c₀ : σ)
    (hh : A.handled = none) (hr : IsRange s.heap r a₀ b₀ 1 t₀ u₀ v₀) (hsmall : Builtin.Range.small a₀ b₀ 1 = true) (hsz : Builtin.Range.rangeSize a₀ b₀ 1 = (n : Int)) (hadr : ∀ c, (Hd c).map (·.1) = adr) (hoff : ∀ p ∈ r₀, p.1 ∉ adr)
    (F : Fr h₀ env.locals s.heap m₀) (N : News h₀ env.locals s.heap (Hd c₀ ++ r₀)) (h0 : Inv 0 c₀ [] m₀)
    (turn : ∀ (i : Nat) (t : Tok) c tl (u : Str → Option Value) h tk rest, i < n → (∀ p ∈ r₀, p ∈ rest) → (∀ p ∈ tl, p ∈ rest) → (∀ p ∈ rest, p.1 ∉ adr) → Inv i c tl u →
      Fr h₀ env.locals h (fun y => if stored.contains y = true then u y else m₀ y) → News h₀ env.locals h (Hd c ++ rest) →
      wpAny (model prog w) A (assign target env (.int (a₀ + (i : Int)) t)) (fun _ s' => wpAny (model prog w) A (execs body env) (LPost h₀ env.locals Hd stored m₀ adr (Inv (i + 1)) tl rest { s with heap := h, toks := tk } Q) E s') E { s with heap := h, toks := tk })
    (done : ∀ c tl (u : Str → Option Value) h tk, Inv n c tl u → (∀ p ∈ tl, p.1 ∉ adr) → Fr h₀ env.locals h (fun y => if stored.contains y = true then u y else m₀ y) → News h₀ env.locals h (Hd c ++ (tl ++ r₀)) → Q .next { s with heap := h, toks := tk }) :
    wpAny (model prog w) A (pyIter (.ref r)) (fun it s₂ => LoopA prog w A env target body Q E it s₂) E s := by
  have below : ∀ p ∈ Hd c₀ ++ r₀, p.1 ≠ s.heap.objs.size := fun p hp => Nat.ne_of_lt (Heap.lt_size (N p hp).1)
  refine wpAny_pyIter_range hr hsmall ?_
  have W : Walks prog w A s.heap.objs.size [s.heap.objs.size] [s.heap.objs.size] n (fun i v => i < n ∧ ∃ t, v = .int (a₀ + i * 1) t)
      (fun i h => IsRangeIter h s.heap.objs.size (a₀ + (i : Nat) * 1) ((n : Int) - (i : Nat)) 1) := (Walks.range hh _ a₀ 1 n).bound
  refine loop_walk W Hd stored Inv c₀ (fun i v s' Q _ hst h => let_plain hst (.inr (.inr rfl)) h) (fun i h hst => ⟨_, hst⟩) ?_ ?_ (next_is_new F) (fun p hp => below p (List.mem_append.mpr (.inr hp))) ?_ hadr hoff
    (by show IsRangeIter _ _ _ _ _; rw [hsz]; simpa using Heap.get?_push_size _ rfl) (F.push _) (fun p hp => ⟨Heap.get?_push_of_some _ (N p hp).1, (N p hp).2⟩) h0 ?_ done
  · intro b hb hbI
    exact absurd (List.mem_singleton.mp hb) hbI
  · exact fun e => absurd F.ns.lt (e ▸ Nat.lt_irrefl _)
  · rw [← hadr c₀]
    intro hm
    obtain ⟨p, hp, e⟩ := List.mem_map.mp hm
    exact below p (List.mem_append.mpr (.inl hp)) e
  · rintro i v c tl u h tk rest ⟨_, t, rfl⟩ hi h1 h2 h3 hJ F' N'
    have e1 : a₀ + (i : Int) * 1 = a₀ + (i : Int) := by omega
    rw [e1]
    exact turn i t c tl u h tk rest hi h1 h2 h3 hJ F' N'
theorem over_range0 {r : Addr} {b₀ : Int} {t₀ u₀ v₀ : Tok} {n : Nat} (Hd : σ → Led) (stored : List Str) (Inv : Nat → σ → Led → (Str → Option Value) → Prop) (c₀ : σ)
    (hh : A.handled = none) (hr : IsRange s.heap r 0 b₀ 1 t₀ u₀ v₀) (hb : b₀ = (n : Int)) (hn : n < 2 ^ 20) (hadr : ∀ c, (Hd c).map (·.1) = adr) (hoff : ∀ p ∈ r₀, p.1 ∉ adr)
    (F : Fr h₀ env.locals s.heap m₀) (N : News h₀ env.locals s.heap (Hd c₀ ++ r₀)) (h0 : Inv 0 c₀ [] m₀)
    (turn : ∀ (i : Nat) (t : Tok) c tl (u : Str → Option Value) h tk rest, i < n → (∀ p ∈ r₀, p ∈ rest) → (∀ p ∈ tl, p ∈ rest) → (∀ p ∈ rest, p.1 ∉ adr) → Inv i c tl u →
      Fr h₀ env.locals h (fun y => if stored.contains y = true then u y else m₀ y) → News h₀ env.locals h (Hd c ++ rest) →
      wpAny (model prog w) A (assign target env (.int (i : Int) t)) (fun _ s' => wpAny (model prog w) A (execs body env) (LPost h₀ env.locals Hd stored m₀ adr (Inv (i + 1)) tl rest { s with heap := h, toks := tk } Q) E s') E { s with heap := h, toks := tk })
    (done : ∀ c tl (u : Str → Option Value) h tk, Inv n c tl u → (∀ p ∈ tl, p.1 ∉ adr) → Fr h₀ env.locals h (fun y => if stored.contains y = true then u y else m₀ y) → News h₀ env.locals h (Hd c ++ (tl ++ r₀)) → Q .next { s with heap := h, toks := tk }) :
    wpAny (model prog w) A (pyIter (.ref r)) (fun it s₂ => LoopA prog w A env target body Q E it s₂) E s := by
  subst hb
  refine over_range Hd stored Inv c₀ hh hr (small_one (by omega) (by omega) (by omega) (by omega)) (by simpa using rangeSize_nat 0 n) hadr hoff F N h0 (fun i t c tl u h tk rest hi h1 h2 h3 hJ F' N' => ?_) done
  rw [Int.zero_add]
  exact turn i t c tl u h tk rest hi h1 h2 h3 hJ F' N'
end
end

theorem off1_mem {D : Addr} : ∀ {l : Led}, LCg.Off1 D l → ∀ p ∈ l, p.1 ≠ D
  | [], _, _, h => nomatch h
  | _ :: _, x, p, h => by
    rcases List.mem_cons.mp h with rfl | h
    · exact x.1
    · exact off1_mem x.2 p h

section
variable {prog : Program} {w : World} {A : Around} {E : Value → Shared → Prop} {s : Shared} {h₀ : Heap} {L : Addr} {m : Str → Option Value} {env : Env}
open LCg LCt

theorem restT_of {ct elt : Expr} {x : Str} {scope : Scope} {cl : List (Str × Addr)} {S : Led → Prop} {P : Nat → Value → Prop} {Fin : List Value → Led → Prop} {n : Nat} (J : Nat → List Value → Led → Prop)
    (step : ∀ i ys news, i < n → J i ys news → ∀ v I oI C oC D m₂ h tk (E' : Value → Shared → Prop), P i v → NsObj oC m₂ → m₂ x = some v → Fr h₀ L h m → News h₀ L h ((I, oI) :: (C, oC) :: (D, lst ys) :: news) → Off3 I C D news → ((@Ne Nat I C) ∧ (@Ne Nat I D) ∧ (@Ne Nat C D)) →
      wpAny (model prog w) A (isTrue ct (compEnvC scope cl C env) (eval ct (compEnvC scope cl C env))) (fun ok s' => if ok = true then
        wpAny (model prog w) A (eval elt (compEnvC scope cl C env)) (CompEnd h₀ L m { s with heap := h, toks := tk } I oI C oC D (lst ys) S (fun y news' => J (i + 1) (ys ++ [y]) news')) E' s'
        else CompEnd h₀ L m { s with heap := h, toks := tk } I oI C oC D (lst ys) S (fun _ news' => J (i + 1) ys news') Value.none s') E' { s with heap := h, toks := tk })
    (fin : ∀ ys news, J n ys news → Fin ys news) : ∀ k i ys news, i + k = n → J i ys news → CompRestT prog w A h₀ L m env ct elt x scope cl s S P Fin k i ys news := by
  intro k
  induction k with
  | zero =>
    intro i ys news hi hJ
    have e : i = n := hi
    subst e
    exact fin ys news hJ
  | succ k ih =>
    intro i ys news hi hJ
    refine CompRestT.succ fun v I oI C oC D m₂ h tk E' hP hC hx F N o1 o2 => wpAny_mono (step i ys news (by omega) hJ v I oI C oC D m₂ h tk E' hP hC hx F N o1 o2) (fun ok s' hs => ?_) fun _ _ e => e
    have go : ∀ {r : Value → Led → Prop} {r' : Value → Led → Prop} {y : Value} {s₂ : Shared}, (∀ y nw, r y nw → r' y nw) → CompEnd h₀ L m { s with heap := h, toks := tk } I oI C oC D (lst ys) S r y s₂ → CompEnd h₀ L m { s with heap := h, toks := tk } I oI C oC D (lst ys) S r' y s₂ := by
      rintro r r' y s₂ hr ⟨h', tk', nw, e, F', N', o', S', r0⟩
      exact ⟨h', tk', nw, e, F', N', o', S', hr _ _ r0⟩
    cases ok with
    | true =>
      simp only [if_true] at hs ⊢
      exact wpAny_mono hs (fun y s₂ h₂ => go (fun y nw hj => ih (i + 1) (ys ++ [y]) nw (by omega) hj) h₂) fun _ _ e => e
    | false =>
      simp only [Bool.false_eq_true, if_false] at hs ⊢
      exact go (fun y nw hj => ih (i + 1) ys nw (by omega) hj) hs

theorem restU_of {elt : Expr} {x : Str} {scope : Scope} {cl : List (Str × Addr)} {S : Led → Prop} {P : Nat → Value → Prop} {Fin : List Value → Led → Prop} {n : Nat} (J : Nat → List Value → Led → Prop)
    (step : ∀ i ys news, i < n → J i ys news → ∀ v I oI C oC D m₂ h tk (E' : Value → Shared → Prop), P i v → NsObj oC m₂ → m₂ x = some v → Fr h₀ L h m → News h₀ L h ((I, oI) :: (C, oC) :: (D, lst ys) :: news) → Off3 I C D news → ((@Ne Nat I C) ∧ (@Ne Nat I D) ∧ (@Ne Nat C D)) →
      wpAny (model prog w) A (eval elt (compEnvC scope cl C env)) (CompEnd h₀ L m { s with heap := h, toks := tk } I oI C oC D (lst ys) S (fun y news' => J (i + 1) (ys ++ [y]) news')) E' { s with heap := h, toks := tk })
    (fin : ∀ ys news, J n ys news → Fin ys news) : ∀ k i ys news, i + k = n → J i ys news → CompRest prog w A h₀ L m env elt x scope cl s S P Fin k i ys news := by
  intro k
  induction k with
  | zero =>
    intro i ys news hi hJ
    have e : i = n := hi
    subst e
    exact fin ys news hJ
  | succ k ih =>
    intro i ys news hi hJ
    refine CompRest.succ fun v I oI C oC D m₂ h tk E' hP hC hx F N o1 o2 => wpAny_mono (step i ys news (by omega) hJ v I oI C oC D m₂ h tk E' hP hC hx F N o1 o2) (fun y s₂ hs => ?_) fun _ _ e => e
    obtain ⟨h', tk', nw, e, F', N', o', S', r0⟩ := hs
    exact ⟨h', tk', nw, e, F', N', o', S', ih (i + 1) (ys ++ [y]) nw (by omega) r0⟩

/-- the source of a list comprehension: a tuple of the ledger -/
def TupSrc (prog : Program) (w : World) (A : Around) (h₀ : Heap) (L : Addr) (m : Str → Option Value) (env : Env) (elt : Expr) (x : Str) (scope : Scope) (cl : List (Str × Addr)) (Q : Value → Shared → Prop) (xv : Value) (s₁ : Shared) : Prop :=
  ∃ (ax : Addr) (vs : List Value) (nn : Nat) (news : Led), xv = .ref ax ∧ A.handled = none ∧ Fr h₀ L s₁.heap m ∧ News h₀ L s₁.heap news ∧ (ax, tupOf vs.toArray nn) ∈ news ∧ vs.length ≤ sizeLine ∧
      ∀ s₂ : Shared, (∃ h, s₂ = { s₁ with heap := h }) → CompRest prog w A h₀ L m env elt x scope cl s₂ (fun nw => (ax, tupOf vs.toArray nn) ∈ nw) (fun i v => vs[i]? = some v) (FinE h₀ L m s₂ Q) vs.length 0 [] news
theorem TupSrc.ledger {elt : Expr} {x : Str} {scope : Scope} {cl : List (Str × Addr)} {Q : Value → Shared → Prop} {ax : Addr} {vs : List Value} {nn : Nat} {news : Led} {s₁ : Shared}
    (hh : A.handled = none) (F : Fr h₀ L s₁.heap m) (N : News h₀ L s₁.heap news) (hm : (ax, tupOf vs.toArray nn) ∈ news) (hsz : vs.length ≤ sizeLine)
    (h : ∀ g, CompRest prog w A h₀ L m env elt x scope cl { s₁ with heap := g } (fun nw => (ax, tupOf vs.toArray nn) ∈ nw) (fun i v => vs[i]? = some v) (FinE h₀ L m { s₁ with heap := g } Q) vs.length 0 [] news) :
    TupSrc prog w A h₀ L m env elt x scope cl Q (.ref ax) s₁ := ⟨ax, vs, nn, news, rfl, hh, F, N, hm, hsz, fun _ ⟨g, e⟩ => e ▸ h g⟩

/-- a list comprehension over a tuple of the ledger -/
theorem ListComp_tup {elt iter : Expr} {x : Str} {px : Pos} {scope : Scope} {cl : List (Str × Addr)} {pos : Pos} {Q : Value → Shared → Prop} (F₀ : Fr h₀ L s.heap m)
    (hclos : closureFor scope env = pure cl) (hcell : ∀ y ∈ scope.names, y.2 ≠ .cell) (hkind : scope.kind = .function)
    (hnames : ∀ y ∈ scope.names, y.2 = .local → scope.names.lookup y.1 = some .local) (hx : scope.names.lookup x = some .local)
    (h : wpAny (model prog w) A (eval iter env) (TupSrc prog w A h₀ L m env elt x scope cl Q) E s)
    (hs : ∀ x, foldedSetIterable iter env x = pure x := by intro _; rfl) :
    wpAny (model prog w) A (eval (.ListComp elt [⟨.Name x px, iter, [], 0⟩] scope pos) env) Q E s := by
  rw [eval_ListComp]
  refine wpAny_comprehension_free (use := none) rfl hs hclos hkind hnames (wpAny_mono h (fun xv s₁ h₁ => ?_) fun _ _ e => e)
  obtain ⟨ax, vs, nn, news, rfl, hh, F, N, hm, hsz, R⟩ := h₁
  have ho : s₁.heap.get? ax = some (tupOf vs.toArray nn) := (N _ hm).1
  have hl : s₁.heap.IsTuple ax vs.toArray := ⟨_, ho, rfl, nn, rfl⟩
  have hlt : ax < s₁.heap.objs.size := Heap.lt_size ho
  refine wpAny_pyIter_tuple hl ?_
  have up : ∀ b o, s₁.heap.get? b = some o → (s₁.heap.push { cls := .type "tuple_iterator", data := .fields #[.ref ax, .int 0 0] }).get? b = some o := fun b o e => Heap.get?_push_of_some _ e
  have W := Walks.tuple (prog := prog) (w := w) hh s₁.heap.objs.size ax (Nat.ne_of_lt hlt) vs.toArray
  rw [show vs.toArray.size = vs.length by simp] at W
  have W' : Walks prog w A s₁.heap.objs.size [s₁.heap.objs.size, ax] [s₁.heap.objs.size] vs.length (fun i v => vs[i]? = some v) (fun i h => h.IsTupleIter s₁.heap.objs.size ax i ∧ h.IsTuple ax vs.toArray) :=
    { sub := W.sub, frame := W.frame, done := W.done, self := W.self, item := fun i s Q E hi st hQ => W.item i s Q E hi st fun v h' tk hP => hQ v h' tk (by simpa using hP) }
  refine block_U (S := fun nw => (ax, tupOf vs.toArray nn) ∈ nw) W' hsz (fun i h st => by obtain ⟨o, e, _⟩ := st.1; exact ⟨o, e⟩) ?_ hcell hkind hx ⟨⟨_, Heap.get?_push_size _ rfl, rfl, rfl⟩, hl.at fun o e => up ax o e⟩ (fun b hb => ?_)
    (F.keeps up) (N.grown up) (Nat.ne_of_lt F.ns.lt) (next_is_new F) (fun p hp => Nat.ne_of_lt (Heap.lt_size (N p hp).1)) hm (R _ ⟨_, rfl⟩) ?_
  · intro i h h' o nw st e e' k N' S'
    refine ⟨?_, ⟨_, (N' _ S').1, rfl, nn, rfl⟩⟩
    obtain ⟨o', q, r⟩ := st.1
    rw [e] at q
    cases q
    exact ⟨o, e', r⟩
  · show b < (s₁.heap.push _).objs.size
    rw [Heap.size_push]
    rcases List.mem_cons.mp hb with rfl | hb
    · exact Nat.lt_succ_self _
    · rw [List.mem_singleton.mp hb]; exact Nat.lt_succ_of_lt hlt
  · intro D C h tk m' ys news' F' N' o1 hn hC₀ hD₀ hCL hDL hCD offC fin
    refine ⟨m', hn, fun h'' hs'' => fin D h'' tk (F'.change hs'' hCL hC₀) (fun p hp => ?_) o1⟩
    refine ⟨hs''.extBut _ _ ?_ (N' p hp).1, (N' p hp).2⟩
    rcases List.mem_cons.mp hp with rfl | hp
    · exact Ne.symm hCD
    · exact offC p hp
end
theorem room_of {a X b c d l : Nat} (h : d + a < l) (e : X = d + c) (k : c + b ≤ a) : X + b < l := by omega
theorem room_at {a X c d l : Nat} (h : d + a < l) (e : X = d + c) (k : c ≤ a) : X < l := by omega
theorem neC1 {a b : Nat} {q : Prop} (h : a < b ∧ q) : a ≠ b := Nat.ne_of_lt h.1
theorem neC2 {a b : Nat} {p q : Prop} (h : p ∧ a < b ∧ q) : a ≠ b := Nat.ne_of_lt h.2.1
theorem neC3 {a b : Nat} {p p2 q : Prop} (h : p ∧ p2 ∧ a < b ∧ q) : a ≠ b := Nat.ne_of_lt h.2.2.1
theorem neC4 {a b : Nat} {p p2 p3 q : Prop} (h : p ∧ p2 ∧ p3 ∧ a < b ∧ q) : a ≠ b := Nat.ne_of_lt h.2.2.2.1
theorem neC5 {a b : Nat} {p p2 p3 p4 q : Prop} (h : p ∧ p2 ∧ p3 ∧ p4 ∧ a < b ∧ q) : a ≠ b := Nat.ne_of_lt h.2.2.2.2.1
theorem neD2 {a b : Nat} {p : Prop} (h : p ∧ a < b) : a ≠ b := Nat.ne_of_lt h.2
theorem neD3 {a b : Nat} {p p2 : Prop} (h : p ∧ p2 ∧ a < b) : a ≠ b := Nat.ne_of_lt h.2.2
theorem hideA {α : Type} {M : Model} {A : Around} {t : Sem α} {Q : α → Shared → Prop} {E : Value → Shared → Prop} {s : Shared} (h : let A₀ := A; wpAny M A₀ t Q E s) : wpAny M A t Q E s := h
theorem letM {g : Heap} {L : Addr} {h : Heap} {m : Str → Option Value} {G : Prop} (F : Fr g L h m) (k : let m₀ := m; Fr g L h m₀ → G) : G := k F
end Mine
namespace Mine


/-- what a contract says of a call of the top's def at address f -/
def Spec (news : Led) (f : Addr) (vs : List Value) (n u : Nat) (Post : Value → Led → Prop) : Prop :=
  ∀ (w : World) (p : Program) (loose : List Str) (mean : ExcName → Option Value) (mg mb : Str → Option Value)
  (dp un : Nat) (gd : Option (List Code)) (cn : Str) (cs : Scope) (a : Addr) (ccd : Value) (cl : List (Str × Addr)) (outer : List Env) (A₀ : Around) (base h₀ : Heap) (L : Addr) (m : Str → Option Value) (s : Shared)
    (Q E : Value → Shared → Prop), Below A₀ base outer h₀ → Fr h₀ L s.heap m → (hd.heap_39 w.params).In h₀ → News h₀ L s.heap news → Top p loose mean mg mb h₀ → cs.kind = .function →
    dp + n < recursionLimit → un + u < cLine →
    (∀ r h' tk' news', Fr h₀ L h' m → News h₀ L h' news' → Post r news' → Q r { s with heap := h', toks := tk' }) →
    wpAny (model PySem.Challenge.rw_on0169_01.row.prog w) (ktrTop dp un gd cn cs L a ccd cl outer) (call (.ref f) vs) Q E s

theorem Spec.use {news : Led} {f : Addr} {vs : List Value} {n u : Nat} {Post : Value → Led → Prop} (S : Spec news f vs n u Post)
  {w : World} {p : Program} {loose : List Str} {mean : ExcName → Option Value} {mg mb : Str → Option Value}
  {dp un : Nat} {gd : Option (List Code)} {cn : Str} {cs : Scope} {a : Addr} {ccd : Value} {cl : List (Str × Addr)} {outer : List Env} {A₀ : Around} {base h₀ : Heap} {L : Addr} {m : Str → Option Value} {s : Shared}
    {Q E : Value → Shared → Prop} (B : Below A₀ base outer h₀) (F : Fr h₀ L s.heap m) (X : (hd.heap_39 w.params).In h₀) (N : News h₀ L s.heap news) (T : Top p loose mean mg mb h₀) (hk : cs.kind = .function)
    (hd : dp + n < recursionLimit) (hu : un + u < cLine)
    (h : ∀ r h' tk' news', Fr h₀ L h' m → News h₀ L h' news' → Post r news' → Q r { s with heap := h', toks := tk' }) :
    wpAny (model PySem.Challenge.rw_on0169_01.row.prog w) (ktrTop dp un gd cn cs L a ccd cl outer) (call (.ref f) vs) Q E s :=
  S w p loose mean mg mb dp un gd cn cs a ccd cl outer A₀ base h₀ L m s Q E B F X N T hk hd hu h

def AllIn {D : Type} (P : Value → D → Prop) (vs : List Value) (ds : List D) : Prop :=
  vs.length = ds.length ∧ ∀ (i : Nat) (v : Value) (d : D), vs[i]? = some v → ds[i]? = some d → P v d

theorem AllIn.mono {D : Type} {P P' : Value → D → Prop} {vs : List Value} {ds : List D} (h : AllIn P vs ds) (hp : ∀ v d, P v d → P' v d) : AllIn P' vs ds :=
  ⟨h.1, fun i v d a b => hp v d (h.2 i v d a b)⟩

structure StepD where
  word : Str
  worth : Option Str

inductive WorthIs : Value → Option Str → Prop
  | none : WorthIs .none none
  | str (x : Str) (t : Tok) : WorthIs (.str x t) (some x)

structure RuleD where
  number : Int
  conds : List Int
  steps : List StepD
  line : Int

inductive StepIn (news : Led) : Value → StepD → Prop
  | mk {r d : Addr} {k1 k2 : Int} {t1 t2 t3 : Tok} {word : Str} {v : Value} {worth : Option Str} :
    (r, instObj 142 d) ∈ news → (d, dictOf [⟨k1, .str "word" t1, .str word t3⟩, ⟨k2, .str "worth" t2, v⟩] 2) ∈ news → WorthIs v worth → StepIn news (.ref r) ⟨word, worth⟩

inductive RuleIn (news : Led) : Value → RuleD → Prop
  | mk {r d c sl : Addr} {k1 k2 k3 k4 k5 : Int} {t1 t2 t3 t4 t5 tn tl : Tok} {number line : Int} {conds : List Int} {steps : List StepD} {vc vs : List Value} {nc ns : Nat} :
    (r, instObj 201 d) ∈ news →
    (d, dictOf [⟨k1, .str "number" t1, .int number tn⟩, ⟨k2, .str "conditions" t2, .ref c⟩, ⟨k3, .str "pattern" t3, .none⟩, ⟨k4, .str "steps" t4, .ref sl⟩, ⟨k5, .str "line" t5, .int line tl⟩] 5) ∈ news →
    (c, tupOf vc.toArray nc) ∈ news → IntsAre vc conds → (sl, listOf vs.toArray ns) ∈ news → AllIn (StepIn news) vs steps → vs.length ≤ 100 → vc.length ≤ 100 →
    RuleIn news (.ref r) ⟨number, conds, steps, line⟩

inductive CondIn (news : Led) : Value → Str × Bool → Prop
  | mk {a : Addr} {x : Str} {t : Tok} {b : Bool} {n : Nat} : (a, tupOf #[.str x t, .bool b] n) ∈ news → CondIn news (.ref a) (x, b)

structure FileD where
  conds : List (Str × Bool)
  rules : List RuleD

inductive FileIn (news : Led) : Value → FileD → Prop
  | mk {f d ca ra : Addr} {k1 k2 k3 k4 k5 : Int} {t1 t2 t3 t4 t5 : Tok} {v1 v4 v5 : Value} {cvs rvs : List Value} {nc nr : Nat} {conds : List (Str × Bool)} {rules : List RuleD} :
    (f, instObj 256 d) ∈ news →
    (d, dictOf [⟨k1, .str "definitions" t1, v1⟩, ⟨k2, .str "conditions" t2, .ref ca⟩, ⟨k3, .str "rules" t3, .ref ra⟩, ⟨k4, .str "has_default" t4, v4⟩, ⟨k5, .str "tail" t5, v5⟩] 5) ∈ news →
    (ca, listOf cvs.toArray nc) ∈ news → AllIn (CondIn news) cvs conds → (ra, listOf rvs.toArray nr) ∈ news → AllIn (RuleIn news) rvs rules → cvs.length ≤ 100 → rvs.length ≤ 100 →
    FileIn news (.ref f) ⟨conds, rules⟩

theorem StepIn.mono {news news' : Led} {v : Value} {d : StepD} (h : StepIn news v d) (hs : ∀ p ∈ news, p ∈ news') : StepIn news' v d := by
  cases h with
  | mk a b c => exact .mk (hs _ a) (hs _ b) c
theorem RuleIn.mono {news news' : Led} {v : Value} {d : RuleD} (h : RuleIn news v d) (hs : ∀ p ∈ news, p ∈ news') : RuleIn news' v d := by
  cases h with
  | mk a b c e f g => exact .mk (hs _ a) (hs _ b) (hs _ c) e (hs _ f) (g.mono fun v d q => q.mono hs) ‹_› ‹_›

theorem CondIn.mono {news news' : Led} {v : Value} {d : Str × Bool} (h : CondIn news v d) (hs : ∀ p ∈ news, p ∈ news') : CondIn news' v d := by
  cases h with
  | mk a => exact .mk (hs _ a)
theorem FileIn.mono {news news' : Led} {v : Value} {d : FileD} (h : FileIn news v d) (hs : ∀ p ∈ news, p ∈ news') : FileIn news' v d := by
  cases h with
  | mk a b c e f g => exact .mk (hs _ a) (hs _ b) (hs _ c) (e.mono fun v d q => q.mono hs) (hs _ f) (g.mono fun v d q => q.mono hs) ‹_› ‹_›
theorem AllIn.get {D : Type} {P : Value → D → Prop} {vs : List Value} {ds : List D} (h : AllIn P vs ds) {i : Nat} {v : Value} (hv : vs[i]? = some v) : ∃ d, ds[i]? = some d ∧ P v d := by
  have hi : i < ds.length := by rw [← h.1]; exact (List.getElem?_eq_some_iff.mp hv).1
  exact ⟨ds[i], List.getElem?_eq_getElem hi, h.2 i v _ hv (List.getElem?_eq_getElem hi)⟩
theorem AllIn.at {D : Type} {P : Value → D → Prop} {vs : List Value} {ds : List D} (h : AllIn P vs ds) {i : Nat} {d : D} (hd : ds[i]? = some d) : ∃ v, vs[i]? = some v ∧ P v d := by
  have hi : i < vs.length := by rw [h.1]; exact (List.getElem?_eq_some_iff.mp hd).1
  exact ⟨vs[i], List.getElem?_eq_getElem hi, h.2 i _ d (List.getElem?_eq_getElem hi) hd⟩

theorem AllIn.snoc {D : Type} {P : Value → D → Prop} {vs : List Value} {ds : List D} {v : Value} {d : D} (h : AllIn P vs ds) (hv : P v d) : AllIn P (vs ++ [v]) (ds ++ [d]) := by
  refine ⟨by rw [List.length_append, List.length_append, h.1]; rfl, fun i w e hw he => ?_⟩
  rcases Nat.lt_or_ge i vs.length with hi | hi
  · rw [List.getElem?_append_left hi] at hw
    rw [List.getElem?_append_left (h.1 ▸ hi)] at he
    exact h.2 i w e hw he
  · rw [List.getElem?_append_right hi] at hw
    rw [List.getElem?_append_right (h.1 ▸ hi), ← h.1] at he
    cases hk : i - vs.length with
    | zero =>
      rw [hk] at hw he
      simp at hw he
      rw [← hw, ← he]; exact hv
    | succ k => rw [hk] at hw; simp at hw
theorem take_snoc {α : Type} {l : List α} {i : Nat} {x : α} (h : l[i]? = some x) : l.take (i + 1) = l.take i ++ [x] := by
  rw [List.take_add_one, h]; rfl

section
variable {prog : Program} {w : World} {A : Around} {E : Value → Shared → Prop} {s : Shared} {h₀ : Heap} {L : Addr} {news : Led}
theorem in_led_tup {t : Addr} {vs : List Value} {n : Nat} {ns : List Int} {x : Int} {u : Tok} {Q : Value → Shared → Prop} (N : News h₀ L s.heap news) (hm : (t, tupOf vs.toArray n) ∈ news) (hi : IntsAre vs ns)
    (h : Q (.bool (ns.any (· == x))) s) : wpAny (model prog w) A (compareOp .In (.int x u) (.ref t)) Q E s :=
  in_tuple_ints ⟨_, (N _ hm).1, rfl, n, rfl⟩ (by simpa using hi) h
theorem len_led {l : Addr} {vs : List Value} {n : Nat} {Q : Value → Shared → Prop} (N : News h₀ L s.heap news) (hm : (l, listOf vs.toArray n) ∈ news) (hfit : (vs.length : Int) < 2 ^ 63)
    (h : Q (.int (vs.length : Int) (s.toks + 1)) { s with toks := s.toks + 1 + 1 }) : wpAny (model prog w) A (call (.builtin "len") [.ref l]) Q E s := by
  have hl : s.heap.IsList l vs.toArray := ⟨_, (N _ hm).1, rfl, n, rfl⟩
  exact len_list hl (by simpa using hfit) (by simpa using h)
theorem item_led {value slice : Expr} {l : Addr} {vs : List Value} {n : Nat} {k : Int} {u : Tok} {v : Value} {Q : Value → Shared → Prop} (N : News h₀ L s.heap news) (hm : (l, listOf vs.toArray n) ∈ news)
    (h0 : 0 ≤ k) (hfit : k < 2 ^ 63) (hv : vs[k.toNat]? = some v) (h : Q v s)
    (hs : subscripted slice false (.ref l) (.int k u) = operate [.ref l, .int k u] (getItem (.ref l) (.int k u)) := by with_unfolding_all rfl) :
    wpAny (model prog w) A (subscriptTail value slice (.ref l) (.int k u)) Q E s := by
  have hl : s.heap.IsList l vs.toArray := ⟨_, (N _ hm).1, rfl, n, rfl⟩
  exact tail_any hl.typeIs slot_list_getitem.lookup (wpAny_getItem_list hl h0 hfit (by simpa using hv) h) hs
theorem set_led {m : Str → Option Value} {news' : Led} {D : Addr} {vs : List Value} {n : Nat} {k : Int} {t : Tok} {v : Value} {Q : Unit → Shared → Prop} (F : Fr h₀ L s.heap m) (N : News h₀ L s.heap news) (U : Upd D (listOf vs.toArray n) (listOf (vs.set k.toNat v).toArray n) news news')
    (h0 : 0 ≤ k) (h1 : k < (vs.length : Int)) (hfit : k < 2 ^ 63) (h : ∀ h', Fr h₀ L h' m → News h₀ L h' news' → Q () { s with heap := h' }) : wpAny (model prog w) A (setItem (.ref D) (.int k t) v) Q E s := by
  obtain ⟨pre, post, rfl, rfl, a, b⟩ := U.split
  have z := N (D, listOf vs.toArray n) (List.mem_append.mpr (.inr (.head _)))
  have hs : vs.toArray.size = vs.length := List.size_toArray ..
  have e : vs.toArray.setIfInBounds k.toNat v = (vs.set k.toNat v).toArray := by
    apply Array.toList_inj.mp
    simp
  refine ki_setAt z.1 h0 hfit (by omega) (h _ (F.change (Heap.SameBut.update ..) z.2.1 z.2.2) (ki_turn _ N a b e ?_))
  rw [if_pos]
  simp
theorem pop_led {m : Str → Option Value} {news' : Led} {D : Addr} {us : List Value} {y : Value} {n : Nat} {Q : Value → Shared → Prop} (F : Fr h₀ L s.heap m) (N : News h₀ L s.heap news) (U : Upd D (listOf (us ++ [y]).toArray n) (listOf us.toArray (n + 1)) news news')
    (hz : us.length < sizeLine) (h : ∀ h', Fr h₀ L h' m → News h₀ L h' news' → Q y { s with heap := h' }) : wpAny (model prog w) A (call (.builtin "list.pop") [.ref D]) Q E s :=
  kl_pop F N (p := us) (y := y) (by simpa using kpa_last y us) U (by simp; omega) h
theorem truth_nil {l : Addr} {n : Nat} {Q : Bool → Shared → Prop} (N : News h₀ L s.heap news) (hm : (l, listOf #[] n) ∈ news) (h : Q false { s with toks := s.toks + 1 + 1 }) : wpAny (model prog w) A (truthy (.ref l)) Q E s := by
  have hl : s.heap.IsList l #[] := ⟨_, (N _ hm).1, rfl, n, rfl⟩
  exact wpAny_truthy_list hl (by decide) h
theorem truth_snoc {l : Addr} {us : List Value} {y : Value} {n : Nat} {Q : Bool → Shared → Prop} (N : News h₀ L s.heap news) (hm : (l, listOf (us ++ [y]).toArray n) ∈ news) (hz : us.length < 2 ^ 60) (h : Q true { s with toks := s.toks + 1 + 1 }) : wpAny (model prog w) A (truthy (.ref l)) Q E s := by
  have hl : s.heap.IsList l (us ++ [y]).toArray := ⟨_, (N _ hm).1, rfl, n, rfl⟩
  refine wpAny_truthy_list hl (by simp; omega) ?_
  have e : (!(us ++ [y]).toArray.isEmpty) = true := by simp
  rw [e]
  exact h
theorem mul_led {m : Str → Option Value} {l : Addr} {v : Value} {k : Nat} {x : Int} {u : Tok} {Q : Value → Shared → Prop} (F : Fr h₀ L s.heap m) (N : News h₀ L s.heap news) (hm : (l, listOf #[v] k) ∈ news) (h0 : 0 ≤ x) (hx : x < 2 ^ 20)
    (h : ∀ D h', Fr h₀ L h' m → News h₀ L h' ((D, listOf (List.replicate x.toNat v).toArray 0) :: news) → (∀ p ∈ news, p.1 < D) → Q (.ref D) { s with heap := h' }) : wpAny (model prog w) A (binaryOp .Mult (.ref l) (.int x u)) Q E s := by
  have fl : ∀ (j : Nat) (acc : Array Value), List.foldl (fun x1 x2 => x1 ++ x2) acc (List.replicate j #[v]) = acc ++ (List.replicate j v).toArray := by
    intro j
    induction j with
    | zero => intro acc; simp
    | succ j ih =>
      intro acc
      rw [List.replicate_succ, List.foldl_cons, ih, List.replicate_succ]
      apply Array.toList_inj.mp
      simp
  refine mul_list F N (N _ hm).1 (by omega) (by omega) (by simp; omega) fun h' F' N' => h _ h' F' ?_ fun p hp => Heap.lt_size (N p hp).1
  rw [fl] at N'
  simpa using N'
theorem append_led {m : Str → Option Value} {news' : Led} {D : Addr} {us : List Value} {y : Value} {n : Nat} {Q : Value → Shared → Prop} (F : Fr h₀ L s.heap m) (N : News h₀ L s.heap news) (U : Upd D (listOf us.toArray n) (listOf (us ++ [y]).toArray (n + 1)) news news')
    (hz : us.length < sizeLine) (h : ∀ h', Fr h₀ L h' m → News h₀ L h' news' → Q .none { s with heap := h' }) : wpAny (model prog w) A (call (.builtin "list.append") [.ref D, y]) Q E s := by
  have e : us.toArray.push y = (us ++ [y]).toArray := List.push_toArray ..
  rw [← e] at U
  exact append_K F N U h (by rw [List.size_toArray]; omega)
end
end Mine
namespace Mine
section
variable {prog : Program} {w : World} {A : Around} {E : Value → Shared → Prop} {s : Shared} {h₀ : Heap} {L : Addr} {m : Str → Option Value} {env : Env}
open LCg

theorem env_cell1 {M : Model} {scope : Scope} {globals : Addr} {cl : List (Str × Addr)} {qual : Str} {outer : Env} {x : Str} {Q : Env → Shared → Prop}
    (hcells : ∀ k, cellsFrom k scope.names cl = (x, k) :: cl) (hpush : ∀ h, pushCells h scope.names = h.push { cls := .type "cell", data := .cell none })
    (hQ : Q { scope, locals := s.heap.objs.size, globals, cells := (x, s.heap.objs.size + 1) :: cl, qual, func := none, code := outer.code, frame := outer.frame, builtins := outer.builtins }
      { s with heap := (s.heap.push { cls := .type "dict", data := .dict #[] }).push { cls := .type "cell", data := .cell none } }) :
    wpAny M A (newFunctionEnv scope globals cl [] qual none .none (some outer)) Q E s := by
  simp only [newFunctionEnv, Option.isSome_some, if_true]
  refine wpAny_bind (wpAny_alloc ?_)
  refine wpAny_bind (wpAny_layCells _ (fun name kind cells => by cases hkc : kind == NameKind.cell <;> simp [hkc]) _ _ _ _ ?_)
  rw [hcells, hpush]
  simp only [List.forIn_nil]
  refine wpAny_bind (wpAny_pure (wpAny_pure ?_))
  rw [show ({ s with heap := s.heap.push { cls := .type "dict", data := .dict #[] } } : Shared).heap.objs.size = s.heap.objs.size + 1 from Heap.size_push ..]
  exact hQ

def OffK (I K C D : Addr) (nw : Led) : Prop := ∀ p ∈ nw, @Ne Nat p.1 I ∧ @Ne Nat p.1 K ∧ @Ne Nat p.1 C ∧ @Ne Nat p.1 D
/-- what a turn of a comprehension whose name is a cell leaves -/
def KEnd (h₀ : Heap) (L : Addr) (m : Str → Option Value) (s₁ : Shared) (I : Addr) (oI : Obj) (K : Addr) (oK : Obj) (C : Addr) (oC : Obj) (D : Addr) (oD : Obj) (J : Value → Led → Prop) (y : Value) (s₂ : Shared) : Prop :=
  ∃ h' tk nw', s₂ = { s₁ with heap := h', toks := tk } ∧ Fr h₀ L h' m ∧ News h₀ L h' ((I, oI) :: (K, oK) :: (C, oC) :: (D, oD) :: nw') ∧ OffK I K C D nw' ∧ J y nw'
theorem KEnd.intro {s₁ : Shared} {I K C D : Addr} {oI oK oC oD : Obj} {J : Value → Led → Prop} {y : Value} {h' : Heap} {tk : Nat} {all : Led} (F : Fr h₀ L h' m) (N : News h₀ L h' all) (nw' : Led)
    (hsub : ∀ p ∈ (I, oI) :: (K, oK) :: (C, oC) :: (D, oD) :: nw', p ∈ all) (off : OffK I K C D nw') (hJ : J y nw') : KEnd h₀ L m s₁ I oI K oK C oC D oD J y { s₁ with heap := h', toks := tk } :=
  ⟨h', tk, nw', rfl, F, fun p hp => N p (hsub p hp), off, hJ⟩
def SrcK (prog : Program) (w : World) (A : Around) (h₀ : Heap) (L : Addr) (m : Str → Option Value) (env : Env) (elt : Expr) (x : Str) (scope : Scope) (cl : List (Str × Addr)) (Q : Value → Shared → Prop) (xv : Value) (s₁ : Shared) : Prop :=
  ∃ (r : Addr) (b : Int) (t u v : Tok) (n : Nat) (news : Led) (J : Nat → List Value → Led → Prop), xv = .ref r ∧ A.handled = none ∧ Fr h₀ L s₁.heap m ∧ News h₀ L s₁.heap news ∧ IsRange s₁.heap r 0 b 1 t u v ∧ b = (n : Int) ∧ n < 2 ^ 20 ∧ J 0 [] news ∧
    (∀ i ys nw I oI K oK C oC D h tk (tv : Tok) (E' : Value → Shared → Prop), i < n → J i ys nw → oK.data = .cell (some (.int (i : Int) tv)) → Fr h₀ L h m → News h₀ L h ((I, oI) :: (K, oK) :: (C, oC) :: (D, lst ys) :: nw) → OffK I K C D nw →
      (@Ne Nat I K ∧ @Ne Nat I C ∧ @Ne Nat I D ∧ @Ne Nat K C ∧ @Ne Nat K D ∧ @Ne Nat C D) →
      wpAny (model prog w) A (eval elt (compEnvC scope ((x, K) :: cl) C env)) (KEnd h₀ L m { s₁ with heap := h, toks := tk } I oI K oK C oC D (lst ys) (fun y nw' => J (i + 1) (ys ++ [y]) nw')) E' { s₁ with heap := h, toks := tk }) ∧
    (∀ ys nw D h tk, J n ys nw → Fr h₀ L h m → News h₀ L h ((D, lst ys) :: nw) → (∀ p ∈ nw, p.1 ≠ D) → Q (.ref D) { s₁ with heap := h, toks := tk })

theorem four_push (h : Heap) (a b c d : Obj) (fa : a.isFreed = false) (fb : b.isFreed = false) (fc : c.isFreed = false) (fd : d.isFreed = false) : (∀ x o, h.get? x = some o → ((((h.push a).push b).push c).push d).get? x = some o) ∧ ((((h.push a).push b).push c).push d).get? h.objs.size = some a ∧
    ((((h.push a).push b).push c).push d).get? (h.objs.size + 1) = some b ∧ ((((h.push a).push b).push c).push d).get? (h.objs.size + 1 + 1) = some c ∧ ((((h.push a).push b).push c).push d).get? (h.objs.size + 1 + 1 + 1) = some d := by
  have sb : (h.push a).objs.size = h.objs.size + 1 := Heap.size_push ..
  have sc : ((h.push a).push b).objs.size = h.objs.size + 1 + 1 := by rw [Heap.size_push, sb]
  have sd : (((h.push a).push b).push c).objs.size = h.objs.size + 1 + 1 + 1 := by rw [Heap.size_push, sc]
  refine ⟨fun x o e => Heap.get?_push_of_some _ (Heap.get?_push_of_some _ (Heap.get?_push_of_some _ (Heap.get?_push_of_some _ e))), ?_, ?_, ?_, ?_⟩
  · exact Heap.get?_push_of_some _ (Heap.get?_push_of_some _ (Heap.get?_push_of_some _ (Heap.get?_push_size _ fa)))
  · have := Heap.get?_push_size (h.push a) fb
    rw [sb] at this
    exact Heap.get?_push_of_some _ (Heap.get?_push_of_some _ this)
  · have := Heap.get?_push_size ((h.push a).push b) fc
    rw [sc] at this
    exact Heap.get?_push_of_some _ this
  · have := Heap.get?_push_size (((h.push a).push b).push c) fd
    rw [sd] at this
    exact this
theorem ListComp_cell {elt iter : Expr} {x : Str} {px : Pos} {scope : Scope} {cl : List (Str × Addr)} {pos : Pos} {Q : Value → Shared → Prop}
    (_F₀ : Fr h₀ L s.heap m) (hclos : closureFor scope env = pure cl) (hkind : scope.kind = .function) (hnames : ∀ y ∈ scope.names, y.2 = .local → scope.names.lookup y.1 = some .local)
    (hcells : ∀ k, cellsFrom k scope.names cl = (x, k) :: cl) (hpush : ∀ h, pushCells h scope.names = h.push { cls := .type "cell", data := .cell none })
    (hx : ∀ K C, Env.kindOf (compEnvC scope ((x, K) :: cl) C env) x = some .cell)
    (h : wpAny (model prog w) A (eval iter env) (SrcK prog w A h₀ L m env elt x scope cl Q) E s)
    (hs : ∀ x, foldedSetIterable iter env x = pure x := by intro _; rfl) :
    wpAny (model prog w) A (eval (.ListComp elt [⟨.Name x px, iter, [], 0⟩] scope pos) env) Q E s := by
  rw [eval_ListComp]
  refine wpAny_comprehension_free (use := none) rfl hs hclos hkind hnames (wpAny_mono h (fun xv s₁ h₁ => ?_) fun _ _ e => e)
  obtain ⟨r, b, t, u, v, n, news, J, rfl, hh, F, N, hr, rfl, hn, hJ0, turn, fin⟩ := h₁
  have hsm : Builtin.Range.small 0 (n : Int) 1 = true := small_one (by omega) (by omega) (by omega) (by omega)
  have hrs : Builtin.Range.rangeSize 0 (n : Int) 1 = (n : Int) := by simpa using rangeSize_nat 0 n
  refine wpAny_pyIter_range hr hsm ?_
  refine wpAny_newObj_type (env_cell1 hcells hpush ?_)
  simp only [Heap.size_push]
  obtain ⟨up, gI, gD, gC, gK⟩ := four_push s₁.heap { cls := .type "range_iterator", data := .fields #[rawInt 0, rawInt (Builtin.Range.rangeSize 0 (n : Int) 1), rawInt 1] } { cls := .type "list", data := .seq #[] } { cls := .type "dict", data := .dict #[] } { cls := .type "cell", data := .cell none } rfl rfl rfl rfl
  generalize (((s₁.heap.push { cls := .type "range_iterator", data := .fields #[rawInt 0, rawInt (Builtin.Range.rangeSize 0 (n : Int) 1), rawInt 1] }).push { cls := .type "list", data := .seq #[] }).push { cls := .type "dict", data := .dict #[] }).push { cls := .type "cell", data := .cell none } = H at up gI gD gC gK ⊢
  have below : ∀ p ∈ news, p.1 < s₁.heap.objs.size := fun p hp => Heap.lt_size (N p hp).1
  have hL : L < s₁.heap.objs.size := F.ns.lt
  have fresh₀ : ∀ a, s₁.heap.objs.size ≤ a → h₀.get? a = none := fun a ha => by
    cases e : h₀.get? a with
    | none => rfl
    | some o' => exact absurd (Heap.lt_size (F.keep a o' e)) (Nat.not_lt.mpr ha)
  have W := range_walks (prog := prog) (w := w) (A := A) (I := s₁.heap.objs.size) hh 0 n
  have hst : IsRangeIter H s₁.heap.objs.size (0 + ((0 : Nat) : Int) * 1) ((n : Int) - ((0 : Nat) : Int)) 1 := by
    show H.get? _ = _
    rw [gI, hrs]
    simp
  obtain ⟨I, hI⟩ : ∃ I : Addr, I = s₁.heap.objs.size := ⟨_, rfl⟩
  rw [← hI] at gI gD gC gK below hL fresh₀ W hst ⊢
  have eIK : @Ne Nat I (I + 1 + 1 + 1) := Nat.ne_of_lt (by omega)
  have eIC : @Ne Nat I (I + 1 + 1) := Nat.ne_of_lt (by omega)
  have eID : @Ne Nat I (I + 1) := Nat.ne_of_lt (by omega)
  have eKC : @Ne Nat (I + 1 + 1 + 1) (I + 1 + 1) := Nat.ne_of_gt (by omega)
  have eKD : @Ne Nat (I + 1 + 1 + 1) (I + 1) := Nat.ne_of_gt (by omega)
  have eCD : @Ne Nat (I + 1 + 1) (I + 1) := Nat.ne_of_gt (by omega)
  have hI₀ : h₀.get? I = none := fresh₀ _ (Nat.le_refl _)
  have hD₀ : h₀.get? (I + 1) = none := fresh₀ _ (Nat.le_succ _)
  have hC₀ : h₀.get? (I + 1 + 1) = none := fresh₀ _ (Nat.le_trans (Nat.le_succ _) (Nat.le_succ _))
  have hK₀ : h₀.get? (I + 1 + 1 + 1) = none := fresh₀ _ (Nat.le_trans (Nat.le_succ _) (Nat.le_trans (Nat.le_succ _) (Nat.le_succ _)))
  have hLI : I ≠ L := Nat.ne_of_gt hL
  have hLD : I + 1 ≠ L := Nat.ne_of_gt (Nat.lt_succ_of_lt hL)
  have hLC : I + 1 + 1 ≠ L := Nat.ne_of_gt (Nat.lt_succ_of_lt (Nat.lt_succ_of_lt hL))
  have hLK : I + 1 + 1 + 1 ≠ L := Nat.ne_of_gt (Nat.lt_succ_of_lt (Nat.lt_succ_of_lt (Nat.lt_succ_of_lt hL)))
  have off0 : OffK I (I + 1 + 1 + 1) (I + 1 + 1) (I + 1) news := fun p hp => by
    have hlt : @LT.lt Nat _ p.1 I := below p hp
    exact ⟨Nat.ne_of_lt hlt, Nat.ne_of_lt (by omega), Nat.ne_of_lt (by omega), Nat.ne_of_lt (by omega)⟩
  have loop : ∀ s₃ : Shared, s₃ = { s₁ with heap := H } → codeAny (model prog w) A (.compLoop (.ListComp elt [⟨.Name x px, iter, [], 0⟩] scope pos) 0 (.ref I) (.ref (I + 1)) (compEnvC scope ((x, I + 1 + 1 + 1) :: cl) (I + 1 + 1) env))
      (compPost (model prog w) A E none Q (.ref (I + 1)) (I + 1 + 1)) s₃ := by
    rintro s₃ rfl
    refine codeAny_compLoop_tests
      (fun k s' => ∃ h' tk i ys nw oK vo, s' = { s₁ with heap := h', toks := tk } ∧ i ≤ n ∧ k = n + 1 - i ∧ ys.length = i ∧ IsRangeIter h' I (0 + ((i : Nat) : Int) * 1) ((n : Int) - ((i : Nat) : Int)) 1 ∧ Fr h₀ L h' m ∧
        News h₀ L h' ((I + 1 + 1 + 1, oK) :: (I + 1 + 1, { cls := .type "dict", data := .dict #[] }) :: (I + 1, lst ys) :: nw) ∧ oK.data = .cell vo ∧ OffK I (I + 1 + 1 + 1) (I + 1 + 1) (I + 1) nw ∧ J i ys nw) ?_ (n + 1)
      ⟨H, _, 0, [], news, { cls := .type "cell", data := .cell none }, none, rfl, Nat.zero_le _, rfl, rfl, hst, F.keeps up, ?_, rfl, off0, hJ0⟩
    · rintro k s' ⟨h', tk, i, ys, nw, oK, vo, rfl, hi, rfl, hyl, hst', F', N', hoK, off', hJ⟩
      have lk : ∀ p ∈ (I + 1 + 1 + 1, oK) :: (I + 1 + 1, ({ cls := .type "dict", data := .dict #[] } : Obj)) :: (I + 1, lst ys) :: nw, p.1 ≠ I := by
        intro p hp
        rcases List.mem_cons.mp hp with rfl | hp
        · exact Ne.symm eIK
        · rcases List.mem_cons.mp hp with rfl | hp
          · exact Ne.symm eIC
          · rcases List.mem_cons.mp hp with rfl | hp
            · exact Ne.symm eID
            · exact (off' p hp).1
      by_cases hlt : i < n
      · refine W.item i _ _ _ hlt hst' fun v h₂ tk₂ hPv hst₂ hk₂ => ?_
        obtain ⟨tv, rfl⟩ := hPv
        have F₂ : Fr h₀ L h₂ m := fr_but F' hk₂ (Ne.symm hLI) hI₀
        have N₂ := news_but N' hk₂ lk
        have gK₂ := (N₂ _ (.head _)).1
        refine wpAny_assign_Name (wpAny_storeName_cell (c := I + 1 + 1 + 1) (v₀ := vo) hkind (hx _ _) (by show List.lookup x ((x, _) :: cl) = _; rw [List.lookup_cons, beq_self_eq_true]) ⟨oK, gK₂, hoK⟩ (fun h₃ hc₃ hs₃ => ?_))
        obtain ⟨oK', gK', hK'⟩ := hc₃
        rw [Int.zero_add] at hK'
        refine wpAny_tests_nil ?_
        simp only [if_true]
        have F₃ : Fr h₀ L h₃ m := F₂.change hs₃ hLK hK₀
        have st₃ : IsRangeIter h₃ I (0 + (((i + 1 : Nat)) : Int) * 1) ((n : Int) - ((i + 1 : Nat) : Int)) 1 := hs₃.extBut _ _ eIK hst₂
        have N₃ : News h₀ L h₃ ((I, { cls := .type "range_iterator", data := .fields #[rawInt (0 + (((i + 1 : Nat)) : Int) * 1), rawInt ((n : Int) - ((i + 1 : Nat) : Int)), rawInt 1] }) :: (I + 1 + 1 + 1, oK') :: (I + 1 + 1, { cls := .type "dict", data := .dict #[] }) :: (I + 1, lst ys) :: nw) := by
          intro p hp
          rcases List.mem_cons.mp hp with rfl | hp
          · exact ⟨st₃, hLI, hI₀⟩
          · rcases List.mem_cons.mp hp with rfl | hp
            · exact ⟨gK', hLK, hK₀⟩
            · have z := N₂ p (.tail _ hp)
              refine ⟨hs₃.extBut _ _ ?_ z.1, z.2⟩
              rcases List.mem_cons.mp hp with rfl | hp
              · exact Ne.symm eKC
              · rcases List.mem_cons.mp hp with rfl | hp
                · exact Ne.symm eKD
                · exact (off' p hp).2.1
        refine wpAny_mono (turn i ys nw I _ (I + 1 + 1 + 1) oK' (I + 1 + 1) _ (I + 1) h₃ tk₂ tv _ hlt hJ hK' F₃ N₃ off' ⟨eIK, eIC, eID, eKC, eKD, eCD⟩) (fun y s₄ h₄ => ?_) fun _ _ e => e
        obtain ⟨h₄, tk₄, nw₄, rfl, F₄, N₄, off₄, hJ₄⟩ := h₄
        have zD := (N₄ _ (.tail _ (.tail _ (.tail _ (.head _))))).1
        refine append_at (hsz := by show ys.toArray.size ≤ sizeLine; rw [List.size_toArray, hyl, sizeLine_eq]; omega) zD fun h₅ hs₅ hD₅ => ?_
        refine ⟨n + 1 - (i + 1), by omega, h₅, tk₄, i + 1, ys ++ [y], nw₄, oK', _, rfl, hlt, rfl, by rw [List.length_append, List.length_singleton, hyl], hs₅.extBut _ _ eID (N₄ _ (.head _)).1, F₄.change hs₅ hLD hD₀, ?_, hK', off₄, hJ₄⟩
        intro p hp
        rcases List.mem_cons.mp hp with rfl | hp
        · have z := N₄ _ (.tail _ (.head _))
          exact ⟨hs₅.extBut _ _ eKD z.1, z.2⟩
        · rcases List.mem_cons.mp hp with rfl | hp
          · have z := N₄ _ (.tail _ (.tail _ (.head _)))
            exact ⟨hs₅.extBut _ _ eCD z.1, z.2⟩
          · rcases List.mem_cons.mp hp with rfl | hp
            · exact ⟨hD₅.trans (congrArg some (lst_snoc ys y)), hLD, hD₀⟩
            · have z := N₄ p (.tail _ (.tail _ (.tail _ (.tail _ hp))))
              exact ⟨hs₅.extBut _ _ (off₄ p hp).2.2.2 z.1, z.2⟩
      · obtain rfl : i = n := Nat.le_antisymm hi (Nat.not_lt.mp hlt)
        refine W.done _ _ _ hst' fun h₂ tk₂ hk₂ => ?_
        have F₂ : Fr h₀ L h₂ m := fr_but F' hk₂ (Ne.symm hLI) hI₀
        have N₂ := news_but N' hk₂ lk
        have zC := (N₂ _ (.tail _ (.head _))).1
        refine ⟨fun _ => none, ⟨_, #[], _, zC, rfl, (by intro e he; simp at he), fun _ => rfl⟩, fun h'' hs'' => fin ys nw (I + 1) h'' tk₂ hJ (F₂.change hs'' hLC hC₀) ?_ fun p hp => (off' p hp).2.2.2⟩
        intro p hp
        rcases List.mem_cons.mp hp with rfl | hp
        · have z := N₂ _ (.tail _ (.tail _ (.head _)))
          exact ⟨hs''.extBut _ _ (Ne.symm eCD) z.1, z.2⟩
        · have z := N₂ p (.tail _ (.tail _ (.tail _ hp)))
          exact ⟨hs''.extBut _ _ (off' p hp).2.2.1 z.1, z.2⟩
    · intro p hp
      rcases List.mem_cons.mp hp with rfl | hp
      · exact ⟨gK, hLK, hK₀⟩
      · rcases List.mem_cons.mp hp with rfl | hp
        · exact ⟨gC, hLC, hC₀⟩
        · rcases List.mem_cons.mp hp with rfl | hp
          · exact ⟨gD, hLD, hD₀⟩
          · exact ⟨up _ _ (N p hp).1, (N p hp).2⟩
  exact codeAny_compStart_list (loop _ rfl) (W.self 0 _ _ _ hst (loop _ rfl))
end
end Mine
namespace Mine
section
variable {prog : Program} {w : World} {A : Around} {E : Value → Shared → Prop} {s : Shared} {env : Env} {h₀ : Heap} {body : List Stmt} {Q : Flow → Shared → Prop}

theorem loop_walkT {σ : Type} {I : Addr} {fp wr : List Addr} {n : Nat} {elts : List Expr} {kt : Nat} {pos : Pos} {Pt : Nat → Array Value → Prop} {St : Nat → Heap → Prop} {Mid : Nat → Addr → Heap → Prop} {m₀ : Str → Option Value} {r₀ : Led} {adr : List Addr}
    (W : WalksT prog w A I fp wr n Pt St Mid) (Hd : σ → Led) (stored : List Str) (Inv : Nat → σ → Led → (Str → Option Value) → Prop) (c₀ : σ)
    (hob : ∀ i h, St i h → ∃ its : Led, its.map (·.1) = wr ∧ ∀ p ∈ its, h.get? p.1 = some p.2) (hfix : ∀ b ∈ fp, b ∉ wr → ∃ o, (b, o) ∈ r₀)
    (hIL : env.locals ∉ wr) (hI0 : ∀ b ∈ wr, h₀.get? b = none) (hIr : ∀ p ∈ r₀, p.1 ∉ wr) (hIa : ∀ b ∈ wr, b ∉ adr) (hadr : ∀ c, (Hd c).map (·.1) = adr) (hoff : ∀ p ∈ r₀, p.1 ∉ adr)
    (hst : St 0 s.heap) (F : Fr h₀ env.locals s.heap m₀) (N : News h₀ env.locals s.heap (Hd c₀ ++ r₀)) (h0 : Inv 0 c₀ [] m₀)
    (turn : ∀ i T vals c tl (u : Str → Option Value) h tk rest, Pt i vals → i < n → IsTup h T vals → (∀ p ∈ r₀, p ∈ rest) → (∀ p ∈ tl, p ∈ rest) → (∀ p ∈ rest, p.1 ∉ adr) → Inv i c tl u →
      Fr h₀ env.locals h (fun y => if stored.contains y = true then u y else m₀ y) → News h₀ env.locals h (Hd c ++ rest) →
      wpAny (model prog w) A (assign (.Tuple elts kt pos) env (.ref T)) (fun _ s' => wpAny (model prog w) A (execs body env) (LPost h₀ env.locals Hd stored m₀ adr (Inv (i + 1)) tl rest { s with heap := h, toks := tk } Q) E s') E { s with heap := h, toks := tk })
    (done : ∀ c tl (u : Str → Option Value) h tk, Inv n c tl u → (∀ p ∈ tl, p.1 ∉ adr) → Fr h₀ env.locals h (fun y => if stored.contains y = true then u y else m₀ y) → News h₀ env.locals h (Hd c ++ (tl ++ r₀)) → Q .next { s with heap := h, toks := tk }) :
    LoopA prog w A env (.Tuple elts kt pos) body Q E (.ref I) s := by
  have heads : ∀ c, ∀ p ∈ Hd c, p.1 ∈ adr := fun c p hp => by rw [← hadr c]; exact List.mem_map_of_mem hp
  refine ⟨fun k s' => ∃ h tk m c tl i, s' = { s with heap := h, toks := tk } ∧ St i h ∧ Fr h₀ env.locals h m ∧ News h₀ env.locals h (Hd c ++ (tl ++ r₀)) ∧ (∀ p ∈ tl, p.1 ∉ adr) ∧ (∀ p ∈ tl, p.1 ∉ wr) ∧
      (∀ y, stored.contains y = false → m y = m₀ y) ∧ Inv i c tl m ∧ i ≤ n ∧ k = n + 1 - i, n + 1,
    ⟨s.heap, s.toks, m₀, c₀, [], 0, rfl, hst, F, N, fun _ h => (nomatch h), fun _ h => (nomatch h), fun _ _ => rfl, h0, Nat.zero_le _, rfl⟩, ?_⟩
  rintro k s' ⟨h, tk, m, c, tl, i, rfl, hst', F', N', ht, htI, hm, hJ, hi, rfl⟩
  have offI : ∀ p ∈ Hd c ++ (tl ++ r₀), p.1 ∉ wr := by
    intro p hp
    rcases List.mem_append.mp hp with hp | hp
    · exact fun e => hIa _ e (heads c p hp)
    · rcases List.mem_append.mp hp with hp | hp
      · exact htI p hp
      · exact hIr p hp
  have next : ∀ ha h₁ : Heap, Fr h₀ env.locals ha m → News h₀ env.locals ha (Hd c ++ (tl ++ r₀)) → (∀ b o, b ∉ wr → ha.get? b = some o → h₁.get? b = some o) → Fr h₀ env.locals h₁ m ∧ News h₀ env.locals h₁ (Hd c ++ (tl ++ r₀)) := fun ha h₁ Fa Na hk₁ =>
    ⟨⟨Fa.ns.at' fun o e => hk₁ _ o hIL e, fun b o e => hk₁ b o (fun q => by rw [hI0 b q] at e; cases e) (Fa.keep b o e), Fa.above⟩,
      fun p hp => ⟨hk₁ _ _ (offI p hp) (Na p hp).1, (Na p hp).2⟩⟩
  by_cases hlt : i < n
  · refine W.item i _ _ _ hlt hst' fun T vals h₁ tk₁ hP _ hT hMid hk₁ => ?_
    obtain ⟨F₁, N₁⟩ := next _ h₁ F' N' hk₁
    refine W.go elts kt pos i T _ _ _ hMid fun h₂ hst₂ hk₂ => ?_
    obtain ⟨F₂, N₂⟩ := next _ h₂ F₁ N₁ hk₂
    have hT₂ : h₂.IsTuple T vals := hT.at fun o e => hk₂ T o (W.apart i T _ hMid) e
    obtain ⟨its, hits, hval⟩ := hob _ _ hst₂
    have inw : ∀ p ∈ its, p.1 ∈ wr := fun p hp => by rw [← hits]; exact List.mem_map_of_mem hp
    have N₃ : News h₀ env.locals h₂ (Hd c ++ (its ++ (tl ++ r₀))) := fun p hp => by
      rcases List.mem_append.mp hp with hp | hp
      · exact N₂ p (List.mem_append.mpr (.inl hp))
      · rcases List.mem_append.mp hp with hp | hp
        · exact ⟨hval p hp, fun e => hIL (e ▸ inw p hp), hI0 _ (inw p hp)⟩
        · exact N₂ p (List.mem_append.mpr (.inr hp))
    rw [overlay hm] at F₂
    refine wpAny_mono (turn i T vals c tl m h₂ tk₁ (its ++ (tl ++ r₀)) hP hlt hT₂ (fun p hp => List.mem_append.mpr (.inr (List.mem_append.mpr (.inr hp)))) (fun p hp => List.mem_append.mpr (.inr (List.mem_append.mpr (.inl hp))))
      (fun p hp => by
        rcases List.mem_append.mp hp with hp | hp
        · exact hIa _ (inw p hp)
        · rcases List.mem_append.mp hp with hp | hp
          · exact ht p hp
          · exact hoff p hp) hJ F₂ N₃) (fun _ s₂ h₂' => wpAny_mono h₂' (fun f s₃ h₃ => ?_) fun _ _ e => e) fun _ _ e => e
    have fin : LEnd h₀ env.locals Hd stored m₀ adr (Inv (i + 1)) tl (its ++ (tl ++ r₀)) { s with heap := h₂, toks := tk₁ } s₃ → ∃ k, k < n + 1 - i ∧ ∃ h tk m c tl i, s₃ = { s with heap := h, toks := tk } ∧ St i h ∧ Fr h₀ env.locals h m ∧ News h₀ env.locals h (Hd c ++ (tl ++ r₀)) ∧ (∀ p ∈ tl, p.1 ∉ adr) ∧ (∀ p ∈ tl, p.1 ∉ wr) ∧
      (∀ y, stored.contains y = false → m y = m₀ y) ∧ Inv i c tl m ∧ i ≤ n ∧ k = n + 1 - i := by
      rintro ⟨h', tk', m', c', add, rfl, F₄, N₄, ha, hr, hm₄, hJ₄⟩
      refine ⟨n + 1 - (i + 1), by omega, h', tk', m', c', add ++ tl, i + 1, rfl, ?_, F₄, fun p hp => N₄ p ?_, ?_, ?_, hm₄, hJ₄, hlt, rfl⟩
      · refine W.frame _ _ _ hst₂ fun b hb o e => ?_
        by_cases hbI : b ∈ wr
        · rw [← hits] at hbI
          obtain ⟨p, hp, rfl⟩ := List.mem_map.mp hbI
          have e' := hval p hp
          rw [e] at e'
          rw [Option.some.inj e']
          exact (N₄ p (List.mem_append.mpr (.inr (List.mem_append.mpr (.inr (List.mem_append.mpr (.inl hp))))))).1
        · obtain ⟨o', ho'⟩ := hfix b hb hbI
          have e' := (N₂ (b, o') (List.mem_append.mpr (.inr (List.mem_append.mpr (.inr ho'))))).1
          have e'' : o = o' := by
            have e3 : h₂.get? b = some o' := e'
            rw [e] at e3
            exact Option.some.inj e3
          subst e''
          exact (N₄ (b, o) (List.mem_append.mpr (.inr (List.mem_append.mpr (.inr (List.mem_append.mpr (.inr (List.mem_append.mpr (.inr ho'))))))))).1
      · rcases List.mem_append.mp hp with hp | hp
        · exact List.mem_append.mpr (.inl hp)
        · rcases List.mem_append.mp hp with hp | hp
          · rcases List.mem_append.mp hp with hp | hp
            · exact List.mem_append.mpr (.inr (List.mem_append.mpr (.inl hp)))
            · exact List.mem_append.mpr (.inr (List.mem_append.mpr (.inr (List.mem_append.mpr (.inr (List.mem_append.mpr (.inl hp)))))))
          · exact List.mem_append.mpr (.inr (List.mem_append.mpr (.inr (List.mem_append.mpr (.inr (List.mem_append.mpr (.inr hp)))))))
      · intro p hp
        rcases List.mem_append.mp hp with hp | hp
        · exact ha p hp
        · exact ht p hp
      · intro p hp hpw
        rcases List.mem_append.mp hp with hp | hp
        · rw [← hits] at hpw
          obtain ⟨q, hq, e⟩ := List.mem_map.mp hpw
          exact hr p hp q (List.mem_append.mpr (.inl hq)) e
        · exact htI p hp hpw
    cases f with
    | ret v => exact h₃
    | brk => exact h₃
    | next => exact fin h₃
    | cont => exact fin h₃
  · have hin : i = n := by omega
    subst hin
    refine W.done _ _ _ hst' fun h₁ tk₁ hk₁ => ?_
    obtain ⟨F₁, N₁⟩ := next _ h₁ F' N' hk₁
    rw [overlay hm] at F₁
    exact done c tl m h₁ tk₁ hJ ht F₁ N₁

theorem over_enum {σ : Type} {m₀ : Str → Option Value} {r₀ : Led} {adr : List Addr} {elts : List Expr} {kt : Nat} {pos : Pos} {l : Addr} {vs : List Value} {nn : Nat} (Hd : σ → Led) (stored : List Str) (Inv : Nat → σ → Led → (Str → Option Value) → Prop) (c₀ : σ)
    (hh : A.handled = none) (hl : (l, ({ cls := .type "list", data := .seq vs.toArray nn } : Obj)) ∈ r₀) (hadr : ∀ c, (Hd c).map (·.1) = adr) (hoff : ∀ p ∈ r₀, p.1 ∉ adr)
    (F : Fr h₀ env.locals s.heap m₀) (N : News h₀ env.locals s.heap (Hd c₀ ++ r₀)) (h0 : Inv 0 c₀ [] m₀)
    (turn : ∀ i T (t : Tok) v c tl (u : Str → Option Value) h tk rest, vs[i]? = some v → i < vs.length → IsTup h T #[.int (i : Int) t, v] → (∀ p ∈ r₀, p ∈ rest) → (∀ p ∈ tl, p ∈ rest) → (∀ p ∈ rest, p.1 ∉ adr) → Inv i c tl u →
      Fr h₀ env.locals h (fun y => if stored.contains y = true then u y else m₀ y) → News h₀ env.locals h (Hd c ++ rest) →
      wpAny (model prog w) A (assign (.Tuple elts kt pos) env (.ref T)) (fun _ s' => wpAny (model prog w) A (execs body env) (LPost h₀ env.locals Hd stored m₀ adr (Inv (i + 1)) tl rest { s with heap := h, toks := tk } Q) E s') E { s with heap := h, toks := tk })
    (done : ∀ c tl (u : Str → Option Value) h tk, Inv vs.length c tl u → (∀ p ∈ tl, p.1 ∉ adr) → Fr h₀ env.locals h (fun y => if stored.contains y = true then u y else m₀ y) → News h₀ env.locals h (Hd c ++ (tl ++ r₀)) → Q .next { s with heap := h, toks := tk }) :
    wpAny (model prog w) A (call (.type "enumerate") [.ref l]) (fun xv s₁ => wpAny (model prog w) A (pyIter xv) (fun it s₂ => LoopA prog w A env (.Tuple elts kt pos) body Q E it s₂) E s₁) E s := by
  have hlN : (l, ({ cls := .type "list", data := .seq vs.toArray nn } : Obj)) ∈ Hd c₀ ++ r₀ := List.mem_append.mpr (.inr hl)
  have hol : s.heap.get? l = some ({ cls := .type "list", data := .seq vs.toArray nn } : Obj) := (N _ hlN).1
  have hls : s.heap.IsList l vs.toArray := ⟨_, hol, rfl, nn, rfl⟩
  have hlt : l < s.heap.objs.size := Heap.lt_size hol
  have hLs : env.locals < s.heap.objs.size := F.ns.lt
  have below : ∀ p ∈ Hd c₀ ++ r₀, p.1 < s.heap.objs.size := fun p hp => Heap.lt_size (N p hp).1
  refine call_enumerate_list hls fun h' hE hI hsz hk => ?_
  refine wpAny_pyIter_enum hE ?_
  have W := WalksT.enumerate (prog := prog) (w := w) hh (s.heap.objs.size + 1) s.heap.objs.size l (Nat.succ_ne_self _) (Nat.ne_of_lt (Nat.lt_succ_of_lt hlt)) (Nat.ne_of_lt hlt) vs.toArray
  rw [show vs.toArray.size = vs.length by simp] at W
  have h2 : ∀ {P : Addr → Prop}, P (s.heap.objs.size + 1) → P s.heap.objs.size → ∀ b ∈ [s.heap.objs.size + 1, s.heap.objs.size], P b := by
    intro P p1 p2 b hb
    rcases List.mem_cons.mp hb with rfl | hb
    · exact p1
    · rw [List.mem_singleton.mp hb]; exact p2
  have fresh : ∀ a, s.heap.objs.size ≤ a → h₀.get? a = none := fun a ha => by
    cases e : h₀.get? a with
    | none => rfl
    | some o' => exact absurd (Heap.lt_size (F.keep a o' e)) (Nat.not_lt.mpr ha)
  have offw : ∀ a, a < s.heap.objs.size → a ∉ [s.heap.objs.size + 1, s.heap.objs.size] := by
    intro a ha hm
    rcases List.mem_cons.mp hm with e | hm
    · rw [e] at ha; exact absurd ha (Nat.not_lt.mpr (Nat.le_succ _))
    · rw [List.mem_singleton.mp hm] at ha; exact Nat.lt_irrefl _ ha
  refine loop_walkT (s := { s with heap := h' }) W Hd stored Inv c₀ ?_ ?_ (offw _ hLs) (h2 (P := fun b => h₀.get? b = none) (fresh _ (Nat.le_succ _)) (fresh _ (Nat.le_refl _))) (fun p hp => offw _ (below p (List.mem_append.mpr (.inr hp)))) ?_ hadr hoff
    ⟨⟨_, hE⟩, hI, hls.at fun o e => hk _ o e⟩ (F.keeps hk) (N.grown hk) h0 ?_ done
  · rintro i h ⟨⟨old, he⟩, ⟨oi, hoi, hic, _⟩, _⟩
    exact ⟨[(s.heap.objs.size + 1, _), (s.heap.objs.size, oi)], rfl, fun p hp => by
      rcases List.mem_cons.mp hp with rfl | hp
      · exact he
      · rw [List.mem_singleton.mp hp]; exact hoi⟩
  · intro b hb hbw
    rcases List.mem_cons.mp hb with rfl | hb
    · exact absurd (List.Mem.head _) hbw
    · rcases List.mem_cons.mp hb with rfl | hb
      · exact absurd (List.Mem.tail _ (List.Mem.head _)) hbw
      · rw [List.mem_singleton.mp hb]; exact ⟨_, hl⟩
  · intro b hb hm
    rw [← hadr c₀] at hm
    obtain ⟨p, hp, e⟩ := List.mem_map.mp hm
    exact offw _ (below p (List.mem_append.mpr (.inl hp))) (e ▸ hb)
  · rintro i T vals c tl u h tk rest ⟨t, x, hx, rfl⟩ hi hT
    exact turn i T t x c tl u h tk rest (by simpa using hx) hi hT
end
end Mine
namespace Mine
section
variable {prog : Program} {w : World} {A : Around} {E : Value → Shared → Prop} {s : Shared} {R : Result → Shared → Prop} {h₀ : Heap} {L : Addr} {m : Str → Option Value} {env : Env}
open LCg

theorem two_turn0 (elt tg0 it0 tg1 it1 ct : Expr) (scope : Scope) (pos : Pos) (it acc : Value) (env : Env) :
    compTurn (.ListComp elt [⟨tg0, it0, [], 0⟩, ⟨tg1, it1, [ct], 0⟩] scope pos) 0 it acc env = (standAt it0.pos >>= fun _ => pyNext it >>= fun r => match r with
      | none => pure (.done .next)
      | some v => letOwnedTupleGo tg0 it v >>= fun _ => assign tg0 env v >>= fun _ =>
        (eval it1 env >>= fun x => standAt it1.pos >>= fun _ => foldedSetIterable it1 env x >>= fun x => holding [x] (pyIter x) >>= fun i1 =>
          runOwn (.compStart (.ListComp elt [⟨tg0, it0, [], 0⟩, ⟨tg1, it1, [ct], 0⟩] scope pos) 1 i1 acc env) env >>= fun _ =>
          again (.compLoop (.ListComp elt [⟨tg0, it0, [], 0⟩, ⟨tg1, it1, [ct], 0⟩] scope pos) 0 it acc env))) := by rfl

theorem two_turn1 (elt tg0 it0 tg1 it1 ct : Expr) (scope : Scope) (pos : Pos) (it acc : Value) (env : Env) :
    compTurn (.ListComp elt [⟨tg0, it0, [], 0⟩, ⟨tg1, it1, [ct], 0⟩] scope pos) 1 it acc env = (do
      standAt it1.pos
      match ← pyNext it with
      | none => pure (.done .next)
      | some v =>
        letOwnedTupleGo tg1 it v
        assign tg1 env v
        let mut ok := true
        for c in [ct] do
          if ok then ok ← isTrue c env (eval c env)
        if ok then
          (do let _ ← call (.builtin "list.append") [acc, ← eval elt env])
        again (.compLoop (.ListComp elt [⟨tg0, it0, [], 0⟩, ⟨tg1, it1, [ct], 0⟩] scope pos) 1 it acc env)) := by rfl

theorem two_start1 {elt tg0 it0 tg1 it1 ct : Expr} {scope : Scope} {pos : Pos} {it acc : Value} {env : Env}
    (h0 : codeAny (model prog w) A (.compLoop (.ListComp elt [⟨tg0, it0, [], 0⟩, ⟨tg1, it1, [ct], 0⟩] scope pos) 1 it acc env) R s)
    (h : wpAny (model prog w) A (pyIter it) (fun it' s' => codeAny (model prog w) A (.compLoop (.ListComp elt [⟨tg0, it0, [], 0⟩, ⟨tg1, it1, [ct], 0⟩] scope pos) 1 it' acc env) R s')
      (notedBy (model prog w) A env fun x s' => R (.error x) s') s) :
    codeAny (model prog w) A (.compStart (.ListComp elt [⟨tg0, it0, [], 0⟩, ⟨tg1, it1, [ct], 0⟩] scope pos) 1 it acc env) R s := by
  refine codeAny_of_tree ?_
  show wpAny _ _ ((compStart (.ListComp elt [⟨tg0, it0, [], 0⟩, ⟨tg1, it1, [ct], 0⟩] scope pos) 1 it acc env).onRaise (fun x => do noteFrame x env; standAt theWindowsPlace)) _ _ s
  refine wpAny_notedAt ?_
  unfold compStart
  show wpAny _ _ (ask >>= _) _ _ s
  refine wpAny_bind (wpAny_askSetting (wpAny_ite ?_))
  split
  · first
      | exact wpAny_bind (wpAny_pure (wpAny_pure (And.intro rfl h0)))
      | exact wpAny_pure (And.intro rfl h0)
  · first
      | exact wpAny_bind (wpAny_rule (wpAny_bind (wpAny_standAt (wpAny_bind (wpAny_mono h (fun it' s' h' => wpAny_pure (And.intro rfl h')) fun _ _ x => x)))))
      | (refine wpAny_bind (wpAny_rule ?_); show wpAny _ _ (standAt it1.pos >>= _) _ _ s; exact wpAny_bind (wpAny_standAt (wpAny_bind (wpAny_mono h (fun it' s' h' => wpAny_pure (And.intro rfl h')) fun _ _ x => x))))

theorem two_loop1 {elt tg0 it0 tg1 it1 ct : Expr} {scope : Scope} {pos : Pos} {it acc : Value} {env : Env} (I : Nat → Shared → Prop)
    (turn : ∀ n s, I n s → wpAny (model prog w) A (pyNext it) (fun r s₁ => match r with
      | none => R (.ok .next) s₁
      | some v => wpAny (model prog w) A (letOwnedTupleGo tg1 it v) (fun _ s₀ => wpAny (model prog w) A (assign tg1 env v) (fun _ s₂ =>
          wpAny (model prog w) A (isTrue ct env (eval ct env)) (fun ok s₃ => if ok = true then wpAny (model prog w) A (eval elt env) (fun x s₄ =>
            wpAny (model prog w) A (call (.builtin "list.append") [acc, x]) (fun _ s₅ => ∃ m, m < n ∧ I m s₅) (notedBy (model prog w) A env fun e s' => R (.error e) s') s₄) (notedBy (model prog w) A env fun e s' => R (.error e) s') s₃
            else ∃ m, m < n ∧ I m s₃) (notedBy (model prog w) A env fun e s' => R (.error e) s') s₂)
          (notedBy (model prog w) A env fun e s' => R (.error e) s') s₀) (notedBy (model prog w) A env fun e s' => R (.error e) s') s₁) (notedBy (model prog w) A env fun e s' => R (.error e) s') s)
    (n : Nat) (h : I n s) : codeAny (model prog w) A (.compLoop (.ListComp elt [⟨tg0, it0, [], 0⟩, ⟨tg1, it1, [ct], 0⟩] scope pos) 1 it acc env) R s := by
  refine codeAny_loop rfl I (fun n s hI => ?_) n h
  show wpAny _ A ((compTurn (.ListComp elt [⟨tg0, it0, [], 0⟩, ⟨tg1, it1, [ct], 0⟩] scope pos) 1 it acc env).onRaise (fun x => do noteFrame x env; theTreesLotGoes x)) _ _ s
  refine wpAny_noted ?_
  rw [two_turn1]
  refine wpAny_bind (wpAny_standAt (wpAny_bind (wpAny_mono (turn n s hI) (fun r s₁ h₁ => ?_) fun _ _ h' => h')))
  cases r with
  | none => exact wpAny_pure h₁
  | some v =>
    refine wpAny_bind (wpAny_mono h₁ (fun _ s₀ h₀' => ?_) fun _ _ h' => h')
    refine wpAny_bind (wpAny_mono h₀' (fun _ s₂ h₂ => ?_) fun _ _ h' => h')
    refine wpAny_bind (wpAny_tests_one (wpAny_mono h₂ (fun okb s₃ h₃ => ?_) fun _ _ h' => h'))
    cases okb with
    | false => exact wpAny_pure ⟨rfl, h₃⟩
    | true => exact wpAny_bind (wpAny_bind (wpAny_mono h₃ (fun x s₄ h₄ => wpAny_bind (wpAny_mono h₄ (fun _ s₅ h₅ => wpAny_pure (wpAny_pure ⟨rfl, h₅⟩)) fun _ _ h' => h')) fun _ _ h' => h'))

theorem two_loop0 {elt tg0 it0 tg1 it1 ct : Expr} {scope : Scope} {pos : Pos} {it acc : Value} {env : Env} (I : Nat → Shared → Prop)
    (hs : ∀ x, foldedSetIterable it1 env x = pure x)
    (turn : ∀ n s, I n s → wpAny (model prog w) A (pyNext it) (fun r s₁ => match r with
      | none => R (.ok .next) s₁
      | some v => wpAny (model prog w) A (letOwnedTupleGo tg0 it v) (fun _ s₀ => wpAny (model prog w) A (assign tg0 env v) (fun _ s₂ =>
          wpAny (model prog w) A (eval it1 env) (fun x s₃ => wpAny (model prog w) A (pyIter x) (fun i1 s₄ =>
            codeAny (model prog w) A (.compStart (.ListComp elt [⟨tg0, it0, [], 0⟩, ⟨tg1, it1, [ct], 0⟩] scope pos) 1 i1 acc env) (fun r s' => match r with
              | .ok _ => ∃ m, m < n ∧ I m s'
              | .error e => cameBackBy (model prog w) A env (notedBy (model prog w) A env fun e s' => R (.error e) s') e s') s₄)
            (notedBy (model prog w) A env fun e s' => R (.error e) s') s₃) (notedBy (model prog w) A env fun e s' => R (.error e) s') s₂)
          (notedBy (model prog w) A env fun e s' => R (.error e) s') s₀) (notedBy (model prog w) A env fun e s' => R (.error e) s') s₁) (notedBy (model prog w) A env fun e s' => R (.error e) s') s)
    (n : Nat) (h : I n s) : codeAny (model prog w) A (.compLoop (.ListComp elt [⟨tg0, it0, [], 0⟩, ⟨tg1, it1, [ct], 0⟩] scope pos) 0 it acc env) R s := by
  refine codeAny_loop rfl I (fun n s hI => ?_) n h
  show wpAny _ A ((compTurn (.ListComp elt [⟨tg0, it0, [], 0⟩, ⟨tg1, it1, [ct], 0⟩] scope pos) 0 it acc env).onRaise (fun x => do noteFrame x env; theTreesLotGoes x)) _ _ s
  refine wpAny_noted ?_
  rw [two_turn0]
  refine wpAny_bind (wpAny_standAt (wpAny_bind (wpAny_mono (turn n s hI) (fun r s₁ h₁ => ?_) fun _ _ h' => h')))
  cases r with
  | none => exact wpAny_pure h₁
  | some v =>
    refine wpAny_bind (wpAny_mono h₁ (fun _ s₀ h₀' => ?_) fun _ _ h' => h')
    refine wpAny_bind (wpAny_mono h₀' (fun _ s₂ h₂ => ?_) fun _ _ h' => h')
    refine wpAny_bind (wpAny_mono h₂ (fun x s₃ h₃ => ?_) fun _ _ h' => h')
    refine wpAny_bind (wpAny_standAt (wpAny_bind (wpAny_of_eq (hs x) (wpAny_bind (wpAny_holding (wpAny_mono h₃ (fun i1 s₄ h₄ => ?_) fun _ _ h' => h'))))))
    refine wpAny_bind (wpAny_runOwn (codeAny_mono h₄ fun r s' hr => ?_))
    cases r with
    | ok f => exact wpAny_pure ⟨rfl, hr⟩
    | error e => exact hr

structure TwoAd (h₀ : Heap) (L : Addr) (news : Led) (I0 I1 C D : Addr) : Prop where
  e01 : @Ne Nat I0 I1
  e0C : @Ne Nat I0 C
  e0D : @Ne Nat I0 D
  e1C : @Ne Nat I1 C
  e1D : @Ne Nat I1 D
  eCD : @Ne Nat C D
  lC : @Ne Nat C L
  lD : @Ne Nat D L
  l0 : @Ne Nat I0 L
  l1 : @Ne Nat I1 L
  nC : h₀.get? C = none
  nD : h₀.get? D = none
  n0 : h₀.get? I0 = none
  n1 : h₀.get? I1 = none
def Off4 (I0 I1 C D : Addr) (nw : Led) : Prop := ∀ p ∈ nw, @Ne Nat p.1 I0 ∧ @Ne Nat p.1 I1 ∧ @Ne Nat p.1 C ∧ @Ne Nat p.1 D
/-- what a turn of the inner clause leaves -/
def TwoEnd (h₀ : Heap) (L : Addr) (m : Str → Option Value) (news : Led) (s₁ : Shared) (I0 : Addr) (oI0 : Obj) (I1 : Addr) (oI1 : Obj) (C : Addr) (oC : Obj) (D : Addr) (oD : Obj) (J : Value → Led → Prop) (y : Value) (s₂ : Shared) : Prop :=
  ∃ h' tk tl', s₂ = { s₁ with heap := h', toks := tk } ∧ Fr h₀ L h' m ∧ News h₀ L h' ((I0, oI0) :: (I1, oI1) :: (C, oC) :: (D, oD) :: (tl' ++ news)) ∧ Off4 I0 I1 C D tl' ∧ J y tl'
theorem TwoEnd.intro {news : Led} {s₁ : Shared} {I0 I1 C D : Addr} {oI0 oI1 oC oD : Obj} {J : Value → Led → Prop} {y : Value} {h' : Heap} {tk : Nat} {all : Led} (F : Fr h₀ L h' m) (N : News h₀ L h' all) (tl' : Led)
    (hsub : ∀ p ∈ (I0, oI0) :: (I1, oI1) :: (C, oC) :: (D, oD) :: (tl' ++ news), p ∈ all) (off : Off4 I0 I1 C D tl') (hJ : J y tl') : TwoEnd h₀ L m news s₁ I0 oI0 I1 oI1 C oC D oD J y { s₁ with heap := h', toks := tk } :=
  ⟨h', tk, tl', rfl, F, fun p hp => N p (hsub p hp), off, hJ⟩
def TwoTurn (prog : Program) (w : World) (A : Around) (h₀ : Heap) (L : Addr) (m : Str → Option Value) (env : Env) (ct elt : Expr) (scope : Scope) (cl : List (Str × Addr)) (c d : Str) (news : Led) (s : Shared) (svs : List Value) (J : Nat → List Value → Led → Prop) : Prop :=
  ∀ j u, svs[j]? = some u → ∃ T2 n2 y z, u = .ref T2 ∧ (T2, tupOf #[y, z] n2) ∈ news ∧
    ∀ ys tl I0 oI0 I1 oI1 C oC D m₂ h tk (E' : Value → Shared → Prop), J j ys tl → NsObj oC m₂ → m₂ c = some y → m₂ d = some z → Fr h₀ L h m → News h₀ L h ((I0, oI0) :: (I1, oI1) :: (C, oC) :: (D, lst ys) :: (tl ++ news)) → Off4 I0 I1 C D (tl ++ news) →
      wpAny (model prog w) A (isTrue ct (compEnvC scope cl C env) (eval ct (compEnvC scope cl C env))) (fun ok s' => if ok = true then
        wpAny (model prog w) A (eval elt (compEnvC scope cl C env)) (TwoEnd h₀ L m news { s with heap := h, toks := tk } I0 oI0 I1 oI1 C oC D (lst ys) (fun y tl' => J (j + 1) (ys ++ [y]) tl')) E' s'
        else TwoEnd h₀ L m news { s with heap := h, toks := tk } I0 oI0 I1 oI1 C oC D (lst ys) (fun _ tl' => J (j + 1) ys tl') Value.none s') E' { s with heap := h, toks := tk }
def TwoAt (h₀ : Heap) (L : Addr) (m : Str → Option Value) (news : Led) (I0 : Addr) (oI0 : Obj) (I1 C D : Addr) (ys : List Value) (tl : Led) (h : Heap) : Prop :=
  Fr h₀ L h m ∧ (∃ m', h.Ns C m') ∧ News h₀ L h ((I0, oI0) :: (D, lst ys) :: (tl ++ news)) ∧ Off4 I0 I1 C D (tl ++ news)

theorem two_inner {s : Shared} {elt ct tg0 it0 it1 : Expr} {c d : Str} {pc pd t1 : Pos} {k1 : Nat} {scope : Scope} {cl : List (Str × Addr)} {pos : Pos} {news : Led} {J : Nat → List Value → Led → Prop} {svs : List Value} {sl : Addr} {sn : Nat} {I0 I1 C D : Addr} {oI0 : Obj}
    (hh : A.handled = none) (Ad : TwoAd h₀ L news I0 I1 C D) (hsl : (sl, listOf svs.toArray sn) ∈ news) (hkind : scope.kind = .function) (hc : scope.names.lookup c = some .local) (hd : scope.names.lookup d = some .local) (hcd : ¬ c = d)
    (hlen : ∀ j ys tl, J j ys tl → ys.length ≤ 65536) (turn : TwoTurn prog w A h₀ L m env ct elt scope cl c d news s svs J)
    {h : Heap} {tk : Nat} {ys : List Value} {tl : Led} (hst : h.IsListIter I1 sl 0) (hAt : TwoAt h₀ L m news I0 oI0 I1 C D ys tl h) (hJ : J 0 ys tl)
    (hR : ∀ h' tk' ys' tl', TwoAt h₀ L m news I0 oI0 I1 C D ys' tl' h' → J svs.length ys' tl' → R (.ok .next) { s with heap := h', toks := tk' }) :
    codeAny (model prog w) A (.compLoop (.ListComp elt [⟨tg0, it0, [], 0⟩, ⟨.Tuple [.Name c pc, .Name d pd] k1 t1, it1, [ct], 0⟩] scope pos) 1 (.ref I1) (.ref D) (compEnvC scope cl C env)) R { s with heap := h, toks := tk } := by
  have offn : ∀ {tl : Led}, Off4 I0 I1 C D (tl ++ news) → ∀ p ∈ news, p.1 ≠ I1 := fun o p hp => (o p (List.mem_append.mpr (.inr hp))).2.1
  have hslI : sl ≠ I1 := offn hAt.2.2.2 _ hsl
  have W := Walks.list (prog := prog) (w := w) hh I1 sl hslI svs.toArray
  rw [List.size_toArray] at W
  refine two_loop1 (fun k s' => ∃ h' tk' i ys' tl', s' = { s with heap := h', toks := tk' } ∧ i ≤ svs.length ∧ k = svs.length + 1 - i ∧ h'.IsListIter I1 sl i ∧ TwoAt h₀ L m news I0 oI0 I1 C D ys' tl' h' ∧ J i ys' tl') ?_ (svs.length + 1)
    ⟨h, tk, 0, ys, tl, rfl, Nat.zero_le _, rfl, hst, hAt, hJ⟩
  rintro k s' ⟨h', tk', i, ys', tl', rfl, hi, rfl, hst', ⟨F', ⟨m', hn'⟩, N', off'⟩, hJ'⟩
  have hl' : h'.IsList sl svs.toArray := ⟨_, (N' _ (.tail _ (.tail _ (List.mem_append.mpr (.inr hsl))))).1, rfl, _, rfl⟩
  have lk : ∀ p ∈ (I0, oI0) :: (D, lst ys') :: (tl' ++ news), p.1 ≠ I1 := by
    intro p hp
    rcases List.mem_cons.mp hp with rfl | hp
    · exact Ad.e01
    · rcases List.mem_cons.mp hp with rfl | hp
      · exact Ne.symm Ad.e1D
      · exact (off' p hp).2.1
  by_cases hlt : i < svs.length
  · refine W.item i _ _ _ hlt ⟨hst', hl'⟩ fun v h₂ tk₂ hPv hst₂ hk₂ => ?_
    have hv : svs[i]? = some v := by simpa using hPv
    obtain ⟨T2, n2, y, z, rfl, hT2, go⟩ := turn i v hv
    have F₂ : Fr h₀ L h₂ m := fr_but F' hk₂ (Ne.symm Ad.l1) Ad.n1
    have N₂ := news_but N' hk₂ lk
    have hn₂ : h₂.Ns C m' := hn'.at' fun o e => hk₂ _ o (by simpa using Ne.symm Ad.e1C) e
    refine let_plain (o := hst₂.1.choose) hst₂.1.choose_spec.1 (.inl hst₂.1.choose_spec.2.1) ?_
    have hT : h₂.IsTuple T2 #[y, z] := ⟨_, (N₂ _ (.tail _ (.tail _ (List.mem_append.mpr (.inr hT2))))).1, rfl, _, rfl⟩
    refine kcp_assign (env := compEnvC scope cl C env) hh hT (lookup_relabel_local hc) (lookup_relabel_local hd) (by simp [compEnvC, relabel, hkind]) hn₂ fun h₃ tk₃ hn₃ hs₃ => ?_
    replace hs₃ : ∀ c o, c ≠ C → h₂.get? c = some o → h₃.get? c = some o := hs₃
    have F₃ : Fr h₀ L h₃ m := ⟨F₂.ns.at' fun o e => hs₃ _ o (Ne.symm Ad.lC) e, fun c o e => hs₃ c o (fun q => by rw [q, Ad.nC] at e; cases e) (F₂.keep c o e), F₂.above⟩
    obtain ⟨oC, heC, hoC⟩ := ns_obj hn₃
    replace heC : h₃.get? C = some oC := heC
    obtain ⟨oI1, heI, hI1c, hI1d⟩ := hst₂.1
    have heI₃ := hs₃ _ _ Ad.e1C heI
    have N₃ : News h₀ L h₃ ((I0, oI0) :: (I1, oI1) :: (C, oC) :: (D, lst ys') :: (tl' ++ news)) := by
      intro p hp
      have keep : ∀ q ∈ (I0, oI0) :: (D, lst ys') :: (tl' ++ news), q.1 ≠ C → h₃.get? q.1 = some q.2 ∧ q.1 ≠ L ∧ h₀.get? q.1 = none := fun q hq hqC => ⟨hs₃ _ _ hqC (N₂ q hq).1, (N₂ q hq).2⟩
      rcases List.mem_cons.mp hp with rfl | hp
      · exact keep _ (.head _) Ad.e0C
      · rcases List.mem_cons.mp hp with rfl | hp
        · exact ⟨heI₃, Ad.l1, Ad.n1⟩
        · rcases List.mem_cons.mp hp with rfl | hp
          · exact ⟨heC, Ad.lC, Ad.nC⟩
          · rcases List.mem_cons.mp hp with rfl | hp
            · exact keep _ (.tail _ (.head _)) (Ne.symm Ad.eCD)
            · exact keep p (.tail _ (.tail _ hp)) (off' p hp).2.2.1
    have fin : ∀ (ys₅ : List Value) (h₅ : Heap) (tk₅ : Nat) (tl₅ : Led), Fr h₀ L h₅ m → News h₀ L h₅ ((I0, oI0) :: (I1, oI1) :: (C, oC) :: (D, lst ys₅) :: (tl₅ ++ news)) → Off4 I0 I1 C D tl₅ → J (i + 1) ys₅ tl₅ →
        ∃ q', q' < svs.length + 1 - i ∧ ∃ h' tk' i ys' tl', ({ s with heap := h₅, toks := tk₅ } : Shared) = { s with heap := h', toks := tk' } ∧ i ≤ svs.length ∧ q' = svs.length + 1 - i ∧ h'.IsListIter I1 sl i ∧ TwoAt h₀ L m news I0 oI0 I1 C D ys' tl' h' ∧ J i ys' tl' := by
      intro ys₅ h₅ tk₅ tl₅ F₅ N₅ off₅ hJ₅
      refine ⟨svs.length + 1 - (i + 1), by omega, h₅, tk₅, i + 1, ys₅, tl₅, rfl, hlt, rfl, ⟨oI1, (N₅ _ (.tail _ (.head _))).1, hI1c, hI1d⟩, ⟨F₅, ⟨_, hoC.ns (N₅ _ (.tail _ (.tail _ (.head _)))).1⟩, ?_, ?_⟩, hJ₅⟩
      · intro p hp
        rcases List.mem_cons.mp hp with rfl | hp
        · exact N₅ _ (.head _)
        · exact N₅ p (.tail _ (.tail _ (.tail _ hp)))
      · intro p hp
        rcases List.mem_append.mp hp with hp | hp
        · exact off₅ p hp
        · exact off' p (List.mem_append.mpr (.inr hp))
    refine wpAny_mono (go ys' tl' I0 oI0 I1 oI1 C oC D _ h₃ tk₃ _ hJ' hoC (by simp [hcd]) (by simp) F₃ N₃ off') (fun ok s₄ h₄ => ?_) fun _ _ e => e
    cases ok with
    | false =>
      simp only [Bool.false_eq_true, if_false] at h₄ ⊢
      obtain ⟨h₅, tk₅, tl₅, rfl, F₅, N₅, off₅, hJ₅⟩ := h₄
      exact fin ys' h₅ tk₅ tl₅ F₅ N₅ off₅ hJ₅
    | true =>
      simp only [if_true] at h₄ ⊢
      refine wpAny_mono h₄ (fun x s₆ h₆ => ?_) fun _ _ e => e
      obtain ⟨h₅, tk₅, tl₅, rfl, F₅, N₅, off₅, hJ₅⟩ := h₆
      have zD := (N₅ _ (.tail _ (.tail _ (.tail _ (.head _))))).1
      refine append_at (hsz := by show ys'.toArray.size ≤ sizeLine; rw [List.size_toArray, sizeLine_eq]; exact Nat.le_trans (hlen _ _ _ hJ') (by decide)) zD fun h₇ hs₇ hD₇ => ?_
      refine fin (ys' ++ [x]) h₇ _ tl₅ (F₅.change hs₇ Ad.lD Ad.nD) (fun p hp => ?_) off₅ hJ₅
      have keep : ∀ q ∈ (I0, oI0) :: (I1, oI1) :: (C, oC) :: (D, lst ys') :: (tl₅ ++ news), q.1 ≠ D → h₇.get? q.1 = some q.2 ∧ q.1 ≠ L ∧ h₀.get? q.1 = none := fun q hq hqD => ⟨hs₇.extBut _ _ hqD (N₅ q hq).1, (N₅ q hq).2⟩
      rcases List.mem_cons.mp hp with rfl | hp
      · exact keep _ (.head _) Ad.e0D
      · rcases List.mem_cons.mp hp with rfl | hp
        · exact keep _ (.tail _ (.head _)) Ad.e1D
        · rcases List.mem_cons.mp hp with rfl | hp
          · exact keep _ (.tail _ (.tail _ (.head _))) Ad.eCD
          · rcases List.mem_cons.mp hp with rfl | hp
            · exact ⟨hD₇.trans (congrArg some (lst_snoc ys' x)), Ad.lD, Ad.nD⟩
            · refine keep p (.tail _ (.tail _ (.tail _ (.tail _ hp)))) ?_
              rcases List.mem_append.mp hp with hp | hp
              · exact (off₅ p hp).2.2.2
              · exact (off' p (List.mem_append.mpr (.inr hp))).2.2.2
  · obtain rfl : i = svs.length := Nat.le_antisymm hi (Nat.not_lt.mp hlt)
    refine W.done _ _ _ ⟨hst', hl'⟩ fun h₂ tk₂ hk₂ => ?_
    exact hR h₂ _ ys' tl' ⟨fr_but F' hk₂ (Ne.symm Ad.l1) Ad.n1, ⟨m', hn'.at' fun o e => hk₂ _ o (by simpa using Ne.symm Ad.e1C) e⟩, news_but N' hk₂ lk, off'⟩ hJ'

theorem two_block {elt ct iter : Expr} {a b c d : Str} {pa pb pb2 pc pd t0 t1 : Pos} {k0 k1 : Nat} {scope : Scope} {cl : List (Str × Addr)} {pos : Pos} {s₂ : Shared} {I ax : Addr} {vs : List Value} {nn : Nat} {news : Led} {J : Nat → Nat → List Value → Led → Prop} {RR : Value → Addr → Result → Shared → Prop}
    (hh : A.handled = none) (hcell : ∀ y ∈ scope.names, y.2 ≠ .cell) (hkind : scope.kind = .function) (ha : scope.names.lookup a = some .local) (hb : scope.names.lookup b = some .local) (hc : scope.names.lookup c = some .local) (hd : scope.names.lookup d = some .local)
    (hcd : ¬ c = d) (hbd : (b == ("__debug__" : Str)) = false) (hst : s₂.heap.IsListIter I ax 0)
    (F : Fr h₀ L s₂.heap m) (N : News h₀ L s₂.heap news) (hIL : L ≠ I) (hI₀ : h₀.get? I = none) (off : ∀ p ∈ news, p.1 ≠ I) (hax : (ax, listOf vs.toArray nn) ∈ news)
    (hs : ∀ (C : Addr) x, foldedSetIterable (.Name b pb2) (compEnvC scope cl C env) x = pure x)
    (hJ0 : J 0 0 [] []) (hlen : ∀ i j ys tl, J i j ys tl → ys.length ≤ 65536)
    (outer : ∀ i v, vs[i]? = some v → ∃ T n x sl svs sn, v = .ref T ∧ (T, tupOf #[x, .ref sl] n) ∈ news ∧ (sl, listOf svs.toArray sn) ∈ news ∧ (∀ ys tl, J i svs.length ys tl → J (i + 1) 0 ys tl) ∧
      ∀ g, TwoTurn prog w A h₀ L m env ct elt scope cl c d news { s₂ with heap := g } svs (J i))
    (hRR : ∀ D C h tk m' ys tl, Fr h₀ L h m → News h₀ L h ((D, lst ys) :: (tl ++ news)) → (∀ p ∈ tl ++ news, @Ne Nat p.1 D) → h.Ns C m' → h₀.get? C = none → h₀.get? D = none → C ≠ L → D ≠ L → C ≠ D → (∀ p ∈ tl ++ news, p.1 ≠ C) → J vs.length 0 ys tl → RR (.ref D) C (.ok .next) { s₂ with heap := h, toks := tk }) :
    wpAny (model prog w) A (newList []) (fun acc s₃ => wpAny (model prog w) A (newFunctionEnv scope env.globals cl [] env.qual none .none (some env)) (fun cenv s₄ =>
      codeAny (model prog w) A (.compStart (.ListComp elt [⟨.Tuple [.Name a pa, .Name b pb] k0 t0, iter, [], 0⟩, ⟨.Tuple [.Name c pc, .Name d pd] k1 t1, .Name b pb2, [ct], 0⟩] scope pos) 0 (.ref I) acc { cenv with scope := relabel scope env }) (RR acc cenv.locals) s₄) E s₃) E s₂ := by
  refine wpAny_newObj_type (wpAny_newFunctionEnv hcell (by intro y hy; simp at hy) (fun h₁ hns₁ hsb₁ => ?_) hkind)
  dsimp only at hns₁ hsb₁ ⊢
  generalize hH2 : s₂.heap.push { cls := .type "list", dict := none, data := .seq ([] : List Value).toArray } = H2 at hns₁ hsb₁ ⊢
  have hC : H2.objs.size = s₂.heap.objs.size + 1 := by rw [← hH2, Heap.size_push]
  have hDC : s₂.heap.objs.size ≠ H2.objs.size := by rw [hC]; exact Nat.ne_of_lt (Nat.lt_succ_self _)
  have below : ∀ b, b < s₂.heap.objs.size → b ≠ H2.objs.size ∧ b ≠ s₂.heap.objs.size := fun b hb => ⟨by rw [hC]; exact Nat.ne_of_lt (Nat.lt_succ_of_lt hb), Nat.ne_of_lt hb⟩
  have hIlt : I < s₂.heap.objs.size := by obtain ⟨o, e, _⟩ := hst; exact Heap.lt_size e
  have old : ∀ b o, s₂.heap.get? b = some o → h₁.get? b = some o := fun b o e => hsb₁.extBut b o (below b (Heap.lt_size e)).1 (Heap.get?_push_of_some _ (hH2 ▸ Heap.get?_push_of_some _ e))
  have hacc : h₁.get? s₂.heap.objs.size = some (lst []) := hsb₁.extBut _ _ hDC (Heap.get?_push_of_some _ (hH2 ▸ Heap.get?_push_size _ rfl))
  have fresh : ∀ a, s₂.heap.objs.size ≤ a → s₂.heap.get? a = none := fun a ha => by
    cases e : s₂.heap.get? a with
    | none => rfl
    | some o' => exact absurd (Heap.lt_size e) (Nat.not_lt.mpr ha)
  have fresh₀ : ∀ a, s₂.heap.objs.size ≤ a → h₀.get? a = none := fun a ha => by
    cases e : h₀.get? a with
    | none => rfl
    | some o' => have := F.keep a o' e; rw [fresh a ha] at this; cases this
  have hD₀ : h₀.get? s₂.heap.objs.size = none := fresh₀ _ (Nat.le_refl _)
  have hC₀ : h₀.get? H2.objs.size = none := fresh₀ _ (by rw [hC]; exact Nat.le_succ _)
  have hLlt : L < s₂.heap.objs.size := F.ns.lt
  have hDL : s₂.heap.objs.size ≠ L := Ne.symm (below L hLlt).2
  have hCL : H2.objs.size ≠ L := Ne.symm (below L hLlt).1
  have hCI : I ≠ H2.objs.size := (below I hIlt).1
  have hDI : I ≠ s₂.heap.objs.size := (below I hIlt).2
  have offN : ∀ p ∈ news, p.1 ≠ I ∧ p.1 ≠ H2.objs.size ∧ p.1 ≠ s₂.heap.objs.size := fun p hp => ⟨off p hp, (below _ (Heap.lt_size (N p hp).1)).1, (below _ (Heap.lt_size (N p hp).1)).2⟩
  have haI : ax ≠ I := off _ hax
  have W := Walks.list (prog := prog) (w := w) hh I ax haI vs.toArray
  rw [List.size_toArray] at W
  generalize hDe : s₂.heap.objs.size = D at *
  generalize hCe : H2.objs.size = C at *
  have N₁ : News h₀ L h₁ ((D, lst []) :: ([] ++ news)) := fun p hp => by
    rcases List.mem_cons.mp hp with rfl | hp
    · exact ⟨hacc, hDL, hD₀⟩
    · exact ⟨old _ _ (N p hp).1, (N p hp).2⟩
  have hst₁ : h₁.IsListIter I ax 0 := hst.at fun o e => old _ _ e
  have loop : ∀ s₃ : Shared, s₃ = { s₂ with heap := h₁, toks := s₂.toks + ([] : List (Str × Value)).length } →
      codeAny (model prog w) A (.compLoop (.ListComp elt [⟨.Tuple [.Name a pa, .Name b pb] k0 t0, iter, [], 0⟩, ⟨.Tuple [.Name c pc, .Name d pd] k1 t1, .Name b pb2, [ct], 0⟩] scope pos) 0 (.ref I) (.ref D) (compEnvC scope cl C env))
        (RR (.ref D) C) s₃ := by
    rintro s₃ rfl
    refine two_loop0 (fun k s' => ∃ h' tk' i m' ys' tl', s' = { s₂ with heap := h', toks := tk' } ∧ i ≤ vs.length ∧ k = vs.length + 1 - i ∧ h'.IsListIter I ax i ∧ Fr h₀ L h' m ∧ h'.Ns C m' ∧ News h₀ L h' ((D, lst ys') :: (tl' ++ news)) ∧
      (∀ p ∈ tl', p.1 ≠ I ∧ p.1 ≠ C ∧ p.1 ≠ D) ∧ J i 0 ys' tl') (hs C) ?_ (vs.length + 1) ⟨h₁, _, 0, _, [], [], rfl, Nat.zero_le _, rfl, hst₁, F.keeps old, hns₁, N₁, (fun _ h => (nomatch h)), hJ0⟩
    rintro k s' ⟨h', tk', i, m', ys', tl', rfl, hi, rfl, hst', F', hn', N', off', hJ'⟩
    have hl' : h'.IsList ax vs.toArray := ⟨_, (N' _ (.tail _ (List.mem_append.mpr (.inr hax)))).1, rfl, _, rfl⟩
    have offA : ∀ p ∈ tl' ++ news, p.1 ≠ I ∧ p.1 ≠ C ∧ p.1 ≠ D := by
      intro p hp
      rcases List.mem_append.mp hp with hp | hp
      · exact off' p hp
      · exact offN p hp
    have lk : ∀ p ∈ (D, lst ys') :: (tl' ++ news), p.1 ≠ I := by
      intro p hp
      rcases List.mem_cons.mp hp with rfl | hp
      · exact Ne.symm hDI
      · exact (offA p hp).1
    by_cases hlt : i < vs.length
    · refine W.item i _ _ _ hlt ⟨hst', hl'⟩ fun v h₂ tk₂ hPv hst₂ hk₂ => ?_
      have hv : vs[i]? = some v := by simpa using hPv
      obtain ⟨T, n, x, sl, svs, sn, rfl, hT, hsl, hnext, go⟩ := outer i v hv
      have F₂ : Fr h₀ L h₂ m := fr_but F' hk₂ hIL hI₀
      have N₂ := news_but N' hk₂ lk
      have hn₂ : h₂.Ns C m' := hn'.at' fun o e => hk₂ _ o (by simpa using Ne.symm hCI) e
      refine let_plain (o := hst₂.1.choose) hst₂.1.choose_spec.1 (.inl hst₂.1.choose_spec.2.1) ?_
      have hTt : h₂.IsTuple T #[x, .ref sl] := ⟨_, (N₂ _ (.tail _ (List.mem_append.mpr (.inr hT)))).1, rfl, _, rfl⟩
      refine kcp_assign (env := compEnvC scope cl C env) hh hTt (lookup_relabel_local ha) (lookup_relabel_local hb) (by simp [compEnvC, relabel, hkind]) hn₂ fun h₃ tk₃ hn₃ hs₃ => ?_
      replace hs₃ : ∀ c o, c ≠ C → h₂.get? c = some o → h₃.get? c = some o := hs₃
      have F₃ : Fr h₀ L h₃ m := ⟨F₂.ns.at' fun o e => hs₃ _ o (Ne.symm hCL) e, fun c o e => hs₃ c o (fun q => by rw [q, hC₀] at e; cases e) (F₂.keep c o e), F₂.above⟩
      have N₃ : News h₀ L h₃ ((D, lst ys') :: (tl' ++ news)) := by
        intro p hp
        refine ⟨hs₃ _ _ ?_ (N₂ p hp).1, (N₂ p hp).2⟩
        rcases List.mem_cons.mp hp with rfl | hp
        · exact hDC
        · exact (offA p hp).2.1
      obtain ⟨oI, heI, hIc, hId⟩ := hst₂.1
      have heI₃ := hs₃ _ _ hCI heI
      refine wpAny_Name (wpAny_loadName_local (env := compEnvC scope cl C env) (by simpa [compEnvC, relabel] using hkind) (lookup_relabel_local hb) hn₃ (v := .ref sl) (by simp) ?_) hbd
      have hls : h₃.IsList sl svs.toArray := ⟨_, (N₃ _ (.tail _ (List.mem_append.mpr (.inr hsl)))).1, rfl, _, rfl⟩
      refine wpAny_pyIter_list hls ?_
      dsimp only
      have b3 : ∀ p ∈ (D, lst ys') :: (tl' ++ news), p.1 < h₃.objs.size := fun p hp => Heap.lt_size (N₃ p hp).1
      have bI : I < h₃.objs.size := Heap.lt_size heI₃
      have bC : C < h₃.objs.size := by obtain ⟨o, _, _, e, _⟩ := hn₃; exact Heap.lt_size e
      have bL : L < h₃.objs.size := F₃.ns.lt
      have up : ∀ b o, h₃.get? b = some o → (h₃.push { cls := .type "list_iterator", data := .fields #[.ref sl, .int 0 0] }).get? b = some o := fun b o e => Heap.get?_push_of_some _ e
      have n1 : h₀.get? h₃.objs.size = none := next_is_new F₃
      have Ad : TwoAd h₀ L news I h₃.objs.size C D :=
        { e01 := Nat.ne_of_lt bI, e0C := hCI, e0D := hDI, e1C := Nat.ne_of_gt bC, e1D := Nat.ne_of_gt (b3 _ (.head _)), eCD := Ne.symm hDC, lC := hCL, lD := hDL, l0 := Ne.symm hIL, l1 := Nat.ne_of_gt bL, nC := hC₀, nD := hD₀, n0 := hI₀, n1 := n1 }
      have hAt : TwoAt h₀ L m news I oI h₃.objs.size C D ys' tl' (h₃.push { cls := .type "list_iterator", data := .fields #[.ref sl, .int 0 0] }) := by
        refine ⟨F₃.keeps up, ⟨_, hn₃.at' fun o e => up _ o e⟩, ?_, ?_⟩
        · intro p hp
          rcases List.mem_cons.mp hp with rfl | hp
          · exact ⟨up _ _ heI₃, Ne.symm hIL, hI₀⟩
          · exact ⟨up _ _ (N₃ p hp).1, (N₃ p hp).2⟩
        · intro p hp
          exact ⟨(offA p hp).1, Nat.ne_of_lt (b3 p (.tail _ hp)), (offA p hp).2.1, (offA p hp).2.2⟩
      have st1 : (h₃.push { cls := .type "list_iterator", data := .fields #[.ref sl, .int 0 0] }).IsListIter h₃.objs.size sl 0 := ⟨_, Heap.get?_push_size _ rfl, rfl, rfl⟩
      have hsl1 : sl ≠ h₃.objs.size := Nat.ne_of_lt (b3 _ (.tail _ (List.mem_append.mpr (.inr hsl))))
      have inner := fun (R : Result → Shared → Prop) (hR : ∀ h' tk' ys' tl', TwoAt h₀ L m news I oI h₃.objs.size C D ys' tl' h' → J i svs.length ys' tl' → R (.ok .next) { s₂ with heap := h', toks := tk' }) =>
        two_inner (tg0 := .Tuple [.Name a pa, .Name b pb] k0 t0) (it0 := iter) (it1 := .Name b pb2) (pc := pc) (pd := pd) (t1 := t1) (k1 := k1) (pos := pos) (tk := tk₃) (s := s₂) (R := R) hh Ad hsl hkind hc hd hcd (fun j => hlen i j) (go s₂.heap) st1 hAt hJ' hR
      have W1 := Walks.list (prog := prog) (w := w) (A := A) hh h₃.objs.size sl hsl1 svs.toArray
      have fin : ∀ h₅ tk₅ ys₅ tl₅, TwoAt h₀ L m news I oI h₃.objs.size C D ys₅ tl₅ h₅ → J i svs.length ys₅ tl₅ → ∃ q', q' < vs.length + 1 - i ∧ ∃ h' tk' i m' ys' tl', ({ s₂ with heap := h₅, toks := tk₅ } : Shared) = { s₂ with heap := h', toks := tk' } ∧ i ≤ vs.length ∧ q' = vs.length + 1 - i ∧ h'.IsListIter I ax i ∧ Fr h₀ L h' m ∧ h'.Ns C m' ∧
          News h₀ L h' ((D, lst ys') :: (tl' ++ news)) ∧ (∀ p ∈ tl', p.1 ≠ I ∧ p.1 ≠ C ∧ p.1 ≠ D) ∧ J i 0 ys' tl' := by
        rintro h₅ tk₅ ys₅ tl₅ ⟨F₅, ⟨m₅, hn₅⟩, N₅, off₅⟩ hJ₅
        exact ⟨vs.length + 1 - (i + 1), by omega, h₅, tk₅, i + 1, m₅, ys₅, tl₅, rfl, hlt, rfl, ⟨oI, (N₅ _ (.head _)).1, hIc, hId⟩, F₅, hn₅, fun p hp => N₅ p (.tail _ hp),
          fun p hp => ⟨(off₅ p (List.mem_append.mpr (.inl hp))).1, (off₅ p (List.mem_append.mpr (.inl hp))).2.2.1, (off₅ p (List.mem_append.mpr (.inl hp))).2.2.2⟩, hnext _ _ hJ₅⟩
      exact two_start1 (inner _ fin) (W1.self 0 _ _ _ ⟨st1, hls.push _⟩ (inner _ fin))
    · obtain rfl : i = vs.length := Nat.le_antisymm hi (Nat.not_lt.mp hlt)
      refine W.done _ _ _ ⟨hst', hl'⟩ fun h₂ tk₂ hk₂ => ?_
      exact hRR D C h₂ tk₂ _ ys' tl' (fr_but F' hk₂ hIL hI₀) (news_but N' hk₂ lk) (fun p hp => (offA p hp).2.2) (hn'.at' fun o e => hk₂ _ o (by simpa using Ne.symm hCI) e) hC₀ hD₀ hCL hDL (Ne.symm hDC) (fun p hp => (offA p hp).2.1) hJ'
  exact codeAny_compStart_list (loop _ rfl) (W.self 0 _ _ _ ⟨hst₁, (by exact (⟨_, (N₁ _ (.tail _ hax)).1, rfl, _, rfl⟩ : h₁.IsList ax vs.toArray))⟩ (loop _ rfl))

/-- the source of a comprehension of two clauses: a list of pairs of the ledger, each with a list -/
def TwoSrc (prog : Program) (w : World) (A : Around) (h₀ : Heap) (L : Addr) (m : Str → Option Value) (env : Env) (ct elt : Expr) (scope : Scope) (cl : List (Str × Addr)) (c d : Str) (Q : Value → Shared → Prop) (xv : Value) (s₁ : Shared) : Prop :=
  ∃ (ax : Addr) (vs : List Value) (nn : Nat) (news : Led) (J : Nat → Nat → List Value → Led → Prop), xv = .ref ax ∧ A.handled = none ∧ Fr h₀ L s₁.heap m ∧ News h₀ L s₁.heap news ∧ (ax, listOf vs.toArray nn) ∈ news ∧ J 0 0 [] [] ∧ (∀ i j ys tl, J i j ys tl → ys.length ≤ 65536) ∧
    (∀ i v, vs[i]? = some v → ∃ T n x sl svs sn, v = .ref T ∧ (T, tupOf #[x, .ref sl] n) ∈ news ∧ (sl, listOf svs.toArray sn) ∈ news ∧ (∀ ys tl, J i svs.length ys tl → J (i + 1) 0 ys tl) ∧
      ∀ g, TwoTurn prog w A h₀ L m env ct elt scope cl c d news { s₁ with heap := g } svs (J i)) ∧
    (∀ ys tl D h tk, J vs.length 0 ys tl → Fr h₀ L h m → News h₀ L h ((D, lst ys) :: (tl ++ news)) → (∀ p ∈ tl ++ news, @Ne Nat p.1 D) → Q (.ref D) { s₁ with heap := h, toks := tk })
theorem ListComp_two {elt ct iter : Expr} {a b c d : Str} {pa pb pb2 pc pd t0 t1 : Pos} {k0 k1 : Nat} {scope : Scope} {cl : List (Str × Addr)} {pos : Pos} {Q : Value → Shared → Prop} (_F₀ : Fr h₀ L s.heap m)
    (hclos : closureFor scope env = pure cl) (hcell : ∀ y ∈ scope.names, y.2 ≠ .cell) (hkind : scope.kind = .function) (hnames : ∀ y ∈ scope.names, y.2 = .local → scope.names.lookup y.1 = some .local)
    (ha : scope.names.lookup a = some .local) (hb : scope.names.lookup b = some .local) (hc : scope.names.lookup c = some .local) (hd : scope.names.lookup d = some .local) (hcd : ¬ c = d) (hbd : (b == ("__debug__" : Str)) = false)
    (h : wpAny (model prog w) A (eval iter env) (TwoSrc prog w A h₀ L m env ct elt scope cl c d Q) E s)
    (hs : ∀ x, foldedSetIterable iter env x = pure x := by intro _; rfl)
    (hs1 : ∀ (C : Addr) x, foldedSetIterable (.Name b pb2) (compEnvC scope cl C env) x = pure x := by intro _ _; rfl) :
    wpAny (model prog w) A (eval (.ListComp elt [⟨.Tuple [.Name a pa, .Name b pb] k0 t0, iter, [], 0⟩, ⟨.Tuple [.Name c pc, .Name d pd] k1 t1, .Name b pb2, [ct], 0⟩] scope pos) env) Q E s := by
  rw [eval_ListComp]
  refine wpAny_comprehension_free (use := none) rfl hs hclos hkind hnames (wpAny_mono h (fun xv s₁ h₁ => ?_) fun _ _ e => e)
  obtain ⟨ax, vs, nn, news, J, rfl, hh, F, N, hax, hJ0, hlen, outer, fin⟩ := h₁
  have hl : s₁.heap.IsList ax vs.toArray := ⟨_, (N _ hax).1, rfl, _, rfl⟩
  refine wpAny_pyIter_list hl ?_
  have up : ∀ b o, s₁.heap.get? b = some o → (s₁.heap.push { cls := .type "list_iterator", data := .fields #[.ref ax, .int 0 0] }).get? b = some o := fun b o e => Heap.get?_push_of_some _ e
  refine two_block hh hcell hkind ha hb hc hd hcd hbd ⟨_, Heap.get?_push_size _ rfl, rfl, rfl⟩ (F.keeps up) (N.grown up) (Nat.ne_of_lt F.ns.lt) (next_is_new F) (fun p hp => Nat.ne_of_lt (Heap.lt_size (N p hp).1)) hax hs1 hJ0 hlen outer ?_
  intro D C h tk m' ys tl F' N' o1 hn hC₀ hD₀ hCL hDL hCD offC hJ
  refine ⟨m', hn, fun h'' hs'' => fin ys tl D h'' tk hJ (F'.change hs'' hCL hC₀) (fun p hp => ?_) o1⟩
  refine ⟨hs''.extBut _ _ ?_ (N' p hp).1, (N' p hp).2⟩
  rcases List.mem_cons.mp hp with rfl | hp
  · exact Ne.symm hCD
  · exact offC p hp
end
end Mine
namespace Mine
theorem list_keys_miss : typeLookup (.type "list") (Str.ofString "keys") = pure none := am_miss_of_fast (by decide +kernel)
theorem getAttr_list_keys {prog : Program} {w : World} {A : Around} {E : Value → Shared → Prop} {s : Shared} {a : Addr} {xs : Array Value} {k : Nat} {Q : Option Value → Shared → Prop}
    (hx : s.heap.get? a = some (listOf xs k)) (hA : A.handled = none)
    (h : ∀ h' tk, (∀ b o, s.heap.get? b = some o → h'.get? b = some o) → Q none { s with heap := h', toks := tk }) :
    wpAny (model prog w) A (getAttr? (.ref a) (Str.ofString "keys")) Q E s := by
  obtain ⟨hp, g, d, tk, os⟩ := s
  have hT : ∀ tk', (⟨hp, g, d, tk', os⟩ : Shared).TypeIs (.ref a) "list" := fun _ => ⟨_, hx, rfl⟩
  have f1 := sub_AttributeError
  have f3 := PySem.F.slot_list_getattribute.lookup
  have f4 := PySem.F.slot_list_getattribute.bind (.ref a)
  have f5 := am_list_getattr_none
  unfold getAttr? getAttrBy? getAttrBy
  repeat (any_goals (first | assumption | exact hT _ | ((with_reducible show wpAny _ _ (call (Value.builtin "list.__getattribute__") _ _) _ _ _); refine call_meets PySem.F.slot_list_getattribute (hT _) am_entry_list_getattribute (PySem.F.args_list_getattribute_2 _ _) (meets_getattribute_miss_list a xs k #[] (Str.ofString "keys") _ list_keys_miss (by decide +kernel) (by decide +kernel)) ⟨hx, hA, fun h' tk' e hx' => ?_⟩) | wp_step))
  obtain ⟨t', u', he⟩ := hx'.there
  show wpAny _ _ (getattributeRaised _ _ _ _ _ _ _) _ _ _
  unfold getattributeRaised
  repeat (any_goals (first | assumption | wp_step))
  exact h _ _ hx'.keeps

theorem dx_plain_loop : plainId "dict.update.loop" = true := by decide +kernel
theorem dx_entry_loop : entryFor table "dict.update.loop" = some Builtin.«dict.update.loop» := entryFor_of_fast (by kernel_rfl)
section
variable {prog : Program} {w : World} {A : Around} {E : Value → Shared → Prop} {s : Shared}
/-- pairs of a text and a value, by the heap -/
def PairsAt (h : Heap) (vs : List Value) (kvs : List (Str × Value)) : Prop := vs.length = kvs.length ∧ ∀ (i : Nat) (v : Value), vs[i]? = some v → ∃ T n x t y, v = Value.ref T ∧ h.get? T = some (tupOf #[.str x t, y] n) ∧ kvs[i]? = some (x, y)
theorem PairsAt.keep {h h' : Heap} {vs : List Value} {kvs : List (Str × Value)} (p : PairsAt h vs kvs) (hk : ∀ (i : Nat) (v : Value) (T : Addr), vs[i]? = some v → v = Value.ref T → ∀ o, h.get? T = some o → h'.get? T = some o) : PairsAt h' vs kvs :=
  ⟨p.1, fun i v hv => by obtain ⟨T, n, x, t, y, e, hT, hkv⟩ := p.2 i v hv; exact ⟨T, n, x, t, y, e, hk i v T hv e _ hT, hkv⟩⟩
theorem dx_loop {l I d : Addr} {vs : List Value} {kvs : List (Str × Value)} {n : Nat} {R : Result → Shared → Prop} (hh : A.handled = none) (hlI : l ≠ I) (hld : l ≠ d) (hId : I ≠ d) (hz : kvs.length ≤ 60000)
    (hTI : ∀ T, Value.ref T ∈ vs → T ≠ I ∧ T ≠ d)
    (hR : ∀ h' tk, h'.DictOf (strKind prog w) d (merged [] kvs) → (∀ b o, b ≠ I → b ≠ d → s.heap.get? b = some o → h'.get? b = some o) → R (.ok (.ret .none)) { s with heap := h', toks := tk }) :
    ∀ (k i : Nat) (h : Heap) (tk : Nat), k + i = vs.length → h.IsListIter I l i → h.get? l = some (listOf vs.toArray n) → PairsAt h vs kvs → h.DictOf (strKind prog w) d (merged [] (kvs.take i)) → (∀ b o, b ≠ I → b ≠ d → s.heap.get? b = some o → h.get? b = some o) →
      codeAny (model prog w) A (.builtin "dict.update.loop" ⟨[.ref d, .ref I, rawInt (i : Int), .none], []⟩) R { s with heap := h, toks := tk } := by
  have W := Walks.list (prog := prog) (w := w) (A := A.in1) hh I l hlI vs.toArray
  rw [List.size_toArray] at W
  intro k
  induction k with
  | zero =>
    intro i h tk hki hit hl hp hd hk
    obtain rfl : i = vs.length := by omega
    refine codeAny_builtin dx_entry_loop ?_
    rw [Around.under_plainId dx_plain_loop _]
    unfold Builtin.«dict.update.loop»
    show wpAny _ A.in1 (pyNext (.ref I) >>= _) _ _ _
    refine wpAny_bind (W.done _ _ _ ⟨hit, ⟨_, hl, rfl, _, rfl⟩⟩ fun h₂ tk₂ hk₂ => ?_)
    show wpAny _ A.in1 (Builtin.Dict.addKeywords d [] >>= _) _ _ _
    refine wpAny_bind (wpAny_pure ?_)
    rw [List.take_of_length_le (Nat.le_of_eq hp.1.symm)] at hd
    refine wpAny_pure (hR h₂ tk₂ ?_ fun b o h1 h2 e => hk₂ b o (by simpa using h1) (hk b o h1 h2 e))
    obtain ⟨o, es, ep, ho, r⟩ := hd
    exact ⟨o, es, ep, hk₂ d o (by simpa using Ne.symm hId) ho, r⟩
  | succ k ih =>
    intro i h tk hki hit hl hp hd hk
    have hlt : i < vs.length := by omega
    refine codeAny_builtin dx_entry_loop ?_
    rw [Around.under_plainId dx_plain_loop _]
    unfold Builtin.«dict.update.loop»
    show wpAny _ A.in1 (pyNext (.ref I) >>= _) _ _ _
    refine wpAny_bind (W.item i _ _ _ hlt ⟨hit, ⟨_, hl, rfl, _, rfl⟩⟩ fun v h₂ tk₂ hv hst₂ hk₂ => ?_)
    have hv' : vs[i]? = some v := by simpa using hv
    obtain ⟨T, m, x, t, y, rfl, hT, hkv⟩ := hp.2 i v hv'
    obtain ⟨hT1, hT2⟩ := hTI T (List.mem_of_getElem? hv')
    have hT' := hk₂ T _ (by simpa using hT1) hT
    have hd₂ : h₂.DictOf (strKind prog w) d (merged [] (kvs.take i)) := by
      obtain ⟨o, es, ep, ho, r⟩ := hd
      exact ⟨o, es, ep, hk₂ d o (by simpa using Ne.symm hId) ho, r⟩
    dsimp only
    refine wpAny_bind (wpAny_holding (wpAny_bind ?_))
    refine wpAny_tryCatch ?_
    unfold Builtin.Dict.pairItems
    refine wpAny_bind (wpAny_typeOf (T := "tuple") ⟨_, hT', rfl⟩ ?_)
    rw [if_pos (by decide)]
    refine wpAny_bind (wpAny_seqItems hT' rfl ?_)
    refine wpAny_pure ?_
    show wpAny _ _ (holding [Value.str x t, y] (dictSet d (.str x t) y)) _ _ _
    refine wpAny_holding (wpAny_dictSet_pairs (knd := strKind prog w) (k := x) (show (x == x) = true from beq_self_eq_true x) hd₂ (fun h₃ hd₃ hs₃ => ?_) ?_)
    · refine wpAny_pure ⟨Code.quiet_builtin _ (by decide +kernel), ?_⟩
      have up : ∀ b o, b ≠ I → b ≠ d → h.get? b = some o → h₃.get? b = some o := fun b o h1 h2 e => hs₃.extBut b o h2 (hk₂ b o (by simpa using h1) e)
      have e1 : rawInt ((i : Int) + 1) = rawInt ((i + 1 : Nat) : Int) := by simp
      rw [e1]
      refine ih (i + 1) h₃ _ (by omega) (hst₂.1.at fun o e => hs₃.extBut I o hId e) (up l _ hlI hld hl) (hp.keep fun j v T' hvj e o ho => ?_) ?_ fun b o h1 h2 e => up b o h1 h2 (hk b o h1 h2 e)
      · subst e
        obtain ⟨q1, q2⟩ := hTI T' (List.mem_of_getElem? hvj)
        exact up T' o q1 q2 ho
      · rw [merged_take_succ [] kvs i (x, y) hkv]; exact hd₃
    · have := merged_length_le ([] : List (Str × Value)) (kvs.take i)
      rw [List.length_take] at this
      rw [sizeLine_eq]
      simp only [List.length_nil] at this
      omega

theorem dx_call {l : Addr} {vs : List Value} {n : Nat} {kvs : List (Str × Value)} {Q : Value → Shared → Prop} (hh : A.handled = none) (hl : s.heap.get? l = some (listOf vs.toArray n)) (hp : PairsAt s.heap vs kvs) (hz : kvs.length ≤ 60000)
    (h : ∀ h' tk, h'.DictOf (strKind prog w) s.heap.objs.size (merged [] kvs) → (∀ b o, s.heap.get? b = some o → h'.get? b = some o) → Q (.ref s.heap.objs.size) { s with heap := h', toks := tk }) :
    wpAny (model prog w) A (call (.type "dict") [.ref l]) Q E s := by
  refine callType_codes (Q₁ := fun obj s₁ => obj = .ref s.heap.objs.size ∧ s₁ = { s with heap := s.heap.push { cls := .type "dict", data := .dict #[] } }) PySem.F.kt_called_dict (PySem.F.kt_typeCall_dict_1 _) PySem.F.entry_dict_init (kt_code_dict_new _ ⟨rfl, rfl⟩) ?_
  rintro obj s₁ ⟨rfl, rfl⟩
  have hnew : (s.heap.push { cls := .type "dict", data := .dict #[] }).DictOf (strKind prog w) s.heap.objs.size [] := Heap.DictOf.new s.heap
  have hl1 : (s.heap.push { cls := .type "dict", data := .dict #[] }).get? l = some (listOf vs.toArray n) := Heap.get?_push_of_some _ hl
  refine ⟨hnew.typeIs, PySem.F.args_dict_init_2 _ _, ?_⟩
  unfold Builtin.«dict.__init__»
  refine wpAny_bind ?_
  unfold Builtin.Dict.selfAndRest
  refine wpAny_bind (wpAny_notOrdered_dict hnew.typeIs ?_)
  show wpAny _ _ (pure (s.heap.objs.size, [Value.ref l])) _ _ _
  refine wpAny_pure ?_
  show wpAny _ _ (Builtin.Dict.updateFrom "dict.__init__" s.heap.objs.size (.ref l) [] .none) _ _ _
  unfold Builtin.Dict.updateFrom
  refine wpAny_bind (wpAny_typeOf (T := "list") ⟨_, hl1, rfl⟩ ?_)
  rw [if_pos (by decide)]
  refine wpAny_bind (getAttr_list_keys hl1 hh fun h₁ tk₁ hk₁ => ?_)
  simp only [Option.isNone_none, if_true]
  have hl2 : h₁.get? l = some (listOf vs.toArray n) := hk₁ _ _ hl1
  have old : ∀ b o, s.heap.get? b = some o → h₁.get? b = some o := fun b o e => hk₁ b o (Heap.get?_push_of_some _ e)
  refine wpAny_bind (wpAny_rule (wpAny_bind (wpAny_pyIter_list (⟨_, hl2, rfl, _, rfl⟩ : h₁.IsList l vs.toArray) ?_)))
  refine wpAny_pure ⟨Code.quiet_builtin _ (by decide +kernel), ?_⟩
  have hd1 : h₁.DictOf (strKind prog w) s.heap.objs.size [] := by
    obtain ⟨o, es, ep, ho, r⟩ := hnew
    exact ⟨o, es, ep, hk₁ _ _ ho, r⟩
  have ltd : s.heap.objs.size < h₁.objs.size := by
    obtain ⟨o, es, ep, ho, r⟩ := hd1
    exact Heap.lt_size ho
  have ltl : l < h₁.objs.size := Heap.lt_size hl2
  have up : ∀ b o, h₁.get? b = some o → (h₁.push { cls := .type "list_iterator", data := .fields #[.ref l, .int 0 0] }).get? b = some o := fun b o e => Heap.get?_push_of_some _ e
  have ref : ∀ T, Value.ref T ∈ vs → T < s.heap.objs.size := fun T hT => by
    obtain ⟨i, hi, e⟩ := List.mem_iff_getElem.mp hT
    obtain ⟨T', _, _, _, _, e', hT', _⟩ := hp.2 i _ (List.getElem?_eq_getElem hi)
    rw [e] at e'
    cases e'
    exact Heap.lt_size hT'
  refine dx_loop (A := A.in1) (l := l) (I := h₁.objs.size) (d := s.heap.objs.size) (vs := vs) (kvs := kvs) (n := n) (s := s) hh (Nat.ne_of_lt ltl) (Nat.ne_of_lt (Heap.lt_size hl)) (Nat.ne_of_gt ltd) hz
    (fun T hT => ⟨Nat.ne_of_lt (Nat.lt_trans (ref T hT) ltd), Nat.ne_of_lt (ref T hT)⟩) (fun h' tk hd hk => ⟨rfl, h h' tk hd fun b o e => hk b o (Nat.ne_of_lt (Nat.lt_trans (Heap.lt_size e) ltd)) (Nat.ne_of_lt (Heap.lt_size e)) e⟩) vs.length 0 _ _ rfl
    ⟨_, Heap.get?_push_size _ rfl, rfl, rfl⟩ (up _ _ hl2) (hp.keep fun i v T _ _ o e => up _ _ (old _ _ e)) ?_ fun b o _ _ e => up _ _ (old _ _ e)
  obtain ⟨o, es, ep, ho, r⟩ := hd1
  exact ⟨o, es, ep, up _ _ ho, r⟩
end

theorem strs_keys : ∀ {vs : List Value} {kvs : List (Str × Value)}, vs.length = kvs.length → (∀ (j : Nat) (v : Value), vs[j]? = some v → ∃ k x, kvs[j]? = some (k, x) ∧ Value.isStrOf k v = true) → StrsAre vs (kvs.map (·.1))
  | [], [], _, _ => .nil
  | [], _ :: _, h, _ => by cases h
  | _ :: _, [], h, _ => by cases h
  | v :: vs, (k, x) :: kvs, h, hv => by
    obtain ⟨k', x', e, hs⟩ := hv 0 v rfl
    cases e
    obtain ⟨t, rfl⟩ := Value.isStrOf_shape hs
    exact .cons k t (strs_keys (by simpa using h) fun j u hu => hv (j + 1) u (by simpa using hu))
section
variable {prog : Program} {w : World} {A : Around} {E : Value → Shared → Prop} {s : Shared} {h₀ : Heap} {L : Addr} {m : Str → Option Value} {news : Led}
theorem dx_sort {D : Addr} {vs : List Value} {ss : List Str} {Q : Value → Shared → Prop} (F : Fr h₀ L s.heap m) (N : News h₀ L s.heap ((D, listOf vs.toArray 0) :: news)) (hap : ∀ p ∈ news, p.1 ≠ D) (hS : StrsAre vs ss) (h64 : vs.length < 64)
    (h : ∀ h' vs' ss' e, Fr h₀ L h' m → News h₀ L h' ((D, listOf (List.toArray vs') e) :: news) → StrsAre vs' ss' → ss'.Perm ss → sortedS ss' = true → Q .none { s with heap := h' }) :
    wpAny (model prog w) A (call (.builtin "list.sort") [.ref D]) Q E s := by
  have ho : s.heap.get? D = some (seqObj "list" vs.toArray 0) := (N _ (.head _)).1
  refine wpAny_call_entry PyProof.Rows.slot_list_sort ⟨_, ho, rfl⟩ PyProof.Rows.entry_list_sort (list_sort_treeK strKind_oneLt ho hS.keysOf (fun v₁ v₂ rest e => keyKind_strs (by rw [← e]; exact hS)) h64 fun st' a1 a2 => ⟨_, rfl, ?_⟩) (PyProof.Rows.args_list_sort _)
  obtain ⟨ss', h1, h2, h3⟩ := sorted_out_str hS a1 a2
  obtain ⟨e, he⟩ := sortedHeap_at (vs := vs) (out := (arrOf st').map (·.2)) ho
  have hLD : L ≠ D := Ne.symm (N _ (.head _)).2.1
  refine h _ _ ss' e ?_ ?_ h1 h2 h3
  · obtain ⟨oL, b1, b2, hL, b3⟩ := F.ns
    exact ⟨⟨oL, b1, b2, (sortedHeap_old hLD (Heap.lt_size hL)).trans hL, b3⟩, fun b o e => (sortedHeap_old (fun q => by rw [q, (N _ (.head _)).2.2] at e; cases e) (Heap.lt_size (F.keep b o e))).trans (F.keep b o e), F.above⟩
  · intro p hp
    rcases List.mem_cons.mp hp with rfl | hp
    · exact ⟨by rw [he, Array.toArray_toList], (N _ (.head _)).2⟩
    · have y := N p (.tail _ hp)
      exact ⟨(sortedHeap_old (hap p hp) (Heap.lt_size y.1)).trans y.1, y.2⟩
theorem dx_sorted {d : Addr} {kvs : List (Str × Value)} {Q : Value → Shared → Prop} (hh : A.handled = none) (F : Fr h₀ L s.heap m) (N : News h₀ L s.heap news) (lo : (d == sysModules) = false) (hd : s.heap.DictOf (strKind prog w) d kvs) (hn : kvs.length < 64)
    (h : ∀ D h' tk vs' ss' e, Fr h₀ L h' m → News h₀ L h' ((D, listOf (List.toArray vs') e) :: news) → (∀ p ∈ news, p.1 < D) → StrsAre vs' ss' → ss'.Perm (kvs.map (·.1)) → sortedS ss' = true → Q (.ref D) { s with heap := h', toks := tk }) :
    wpAny (model prog w) A (call (.builtin "sorted") [.ref d]) Q E s := by
  obtain ⟨ep, hat⟩ := hd.dictAt
  refine kdu_sorted (kdl_dict (knd := strKind prog w) (kvs := kvs) (ep := ep) lo) hh F N hat (by rw [sizeLine_eq]; omega) fun B h' tk vs F' N' l1 hl hv => ?_
  have hS := strs_keys hl fun j v e => by
    obtain ⟨k, x, hx, hk⟩ := hv j v e
    exact ⟨k, x, hx, hk⟩
  exact dx_sort F' N' (fun p hp => Nat.ne_of_lt (l1 p hp)) hS (by omega) fun h'' vs' ss' e F'' N'' a1 a2 a3 => h B h'' tk vs' ss' e F'' N'' l1 a1 a2 a3
end
end Mine
namespace Mine
-- names that a turn does not store
local macro_rules | `(tactic| walk_at $s:str) => `(tactic| k_extra $s)
local macro_rules | `(tactic| k_mem) => `(tactic| k_extra "k_mem")
local macro_rules | `(tactic| k_all) => `(tactic| k_extra "k_all")
local macro_rules | `(tactic| lsm_bools) => `(tactic| k_extra "lsm_bools")
local macro_rules | `(tactic| k_ne) => `(tactic| k_extra "k_ne")
local macro_rules | `(tactic| ktr_room) => `(tactic| k_extra "ktr_room")
local macro_rules | `(tactic| ktr_units) => `(tactic| k_extra "ktr_units")
section
example : True := by
  k_with_none
  k_with "k_ne" => ((refine neN ?_; (try dsimp only); with_reducible first | assumption | exact Nat.ne_of_lt (by assumption) | exact Nat.ne_of_gt (by assumption) | exact neC1 (by assumption) | exact (neC1 (by assumption)).symm | exact neC2 (by assumption) | exact (neC2 (by assumption)).symm | exact neC3 (by assumption) | exact (neC3 (by assumption)).symm | exact neC4 (by assumption) | exact (neC4 (by assumption)).symm | exact neD2 (by assumption) | exact (neD2 (by assumption)).symm | exact neD3 (by assumption) | exact (neD3 (by assumption)).symm | exact neC5 (by assumption) | exact (neC5 (by assumption)).symm))
  k_with "ktr_room" => (first | decide | (refine' room_of (c := 1) ?wqh9 ?wqe9 ?wqk9; (case wqh9 => with_reducible assumption); (case wqe9 => exact rfl); (case wqk9 => decide)) | (refine' room_of (c := 0) ?wqh9 ?wqe9 ?wqk9; (case wqh9 => with_reducible assumption); (case wqe9 => exact rfl); (case wqk9 => decide)) | (refine' room_at (c := 0) ?wqh9 ?wqe9 ?wqk9; (case wqh9 => with_reducible assumption); (case wqe9 => exact rfl); (case wqk9 => decide)) | (refine' room_at (c := 1) ?wqh9 ?wqe9 ?wqk9; (case wqh9 => with_reducible assumption); (case wqe9 => exact rfl); (case wqk9 => decide)) | fail "room")
  k_with "ktr_units" => (first | decide | (refine' room_of (c := 3) ?wqh9 ?wqe9 ?wqk9; (case wqh9 => with_reducible assumption); (case wqe9 => exact rfl); (case wqk9 => decide)) | (refine' room_of (c := 0) ?wqh9 ?wqe9 ?wqk9; (case wqh9 => with_reducible assumption); (case wqe9 => exact rfl); (case wqk9 => decide)) | fail "units")
  k_with "exec For Name Attribute cons nil" => ((k_here; (with_reducible show wpAny _ _ (exec (Stmt.For _ _ _ [] _) _) _ _ _); with_unfolding_all refine For_any ?_))
  k_with "exec For Name Name cons nil" => ((k_here; (with_reducible show wpAny _ _ (exec (Stmt.For _ _ _ [] _) _) _ _ _); with_unfolding_all refine For_any ?_))
  k_with "exec For Name Call cons nil" => ((k_here; (with_reducible show wpAny _ _ (exec (Stmt.For _ _ _ [] _) _) _ _ _); with_unfolding_all refine For_any ?_))
  k_with "exec For Name Subscript cons nil" => ((k_here; (with_reducible show wpAny _ _ (exec (Stmt.For _ _ _ [] _) _) _ _ _); with_unfolding_all refine For_any ?_))
  k_with "exec For Name Tuple cons nil" => ((k_here; (with_reducible show wpAny _ _ (exec (Stmt.For _ _ _ [] _) _) _ _ _); with_unfolding_all refine For_any ?_))
  k_with "exec For Tuple Call cons nil" => ((k_here; (with_reducible show wpAny _ _ (exec (Stmt.For _ _ _ [] _) _) _ _ _); with_unfolding_all refine For_any ?_))
  k_with "exec For Tuple Name cons nil" => ((k_here; (with_reducible show wpAny _ _ (exec (Stmt.For _ _ _ [] _) _) _ _ _); with_unfolding_all refine For_any ?_))
  k_with "exec For Tuple Subscript cons nil" => ((k_here; (with_reducible show wpAny _ _ (exec (Stmt.For _ _ _ [] _) _) _ _ _); with_unfolding_all refine For_any ?_))
  k_with "LPost" => ((dsimp only [LPost]))
  k_with "call builtin:len" => ((k_here; (with_reducible show wpAny _ _ (call (Value.builtin "len") [Value.ref _]) _ _ _); k_dflt (refine' len_led ?wqk1 ?wqk2 ?wqk3 ?_; (case wqk1 => k_asm); (case wqk2 => k_mem); (case wqk3 => omega); k_whole)))
  k_with "subscriptTail" => ((k_here; (with_reducible show wpAny _ _ (subscriptTail _ _ (Value.ref _) (Value.int _ _)) _ _ _); (with_unfolding_all refine' item_led ?wqk1 ?wqk2 ?wqk3 ?wqk4 ?wqk5 ?_ ?wqk6; (case wqk1 => k_asm); (case wqk2 => k_mem); (case wqk5 => first | assumption | (simp only [Int.toNat_natCast]; assumption)); (case wqk3 => omega); (case wqk4 => omega); (case wqk6 => with_unfolding_all rfl); k_whole)))
  k_with "tb_start" => ((intro y hy; (try dsimp only); (simp only [List.contains_cons, List.contains_nil, Bool.or_false, Bool.or_eq_false_iff] at hy); (have hy2 := hy); (simp only [beq_eq_false_iff_ne, ne_eq] at hy2); (simp only [List.contains_cons, List.contains_nil, hy, hy2, Bool.or_false, Bool.false_eq_true, if_false])))
  k_with "eval ListComp" => ((k_here; k_dflt (refine LCg.ListComp_U (F₀ := by k_asm) (by with_unfolding_all rfl) (by decide) (by rfl) (by decide) (by rfl) ?_)))
  k_with "eval ListComp" => ((k_here; k_dflt (refine LCt.ListComp_T (F₀ := by k_asm) (by with_unfolding_all rfl) (by decide) (by rfl) (by decide) (by rfl) ?_)))
  k_with "k_mem" => (first | exact List.Mem.head _ | ktr_member | (refine' List.mem_cons_of_mem _ ?_; k_mem))
  k_with "setItem ref int" => ((k_here; (with_reducible show wpAny _ _ (setItem (Value.ref _) (Value.int _ _) _) _ _ _); k_dflt (refine' set_led ?wqk1 ?wqk2 ?wqk3 ?wqk5 ?wqk6 ?wqk7 ?_; (case wqk1 => k_asm); (case wqk2 => k_asm); (case wqk3 => k_upd); (case wqk5 => omega); (case wqk6 => first | assumption | omega | (simp only [List.length_replicate, List.length_set, Int.toNat_natCast] at *; omega)); (case wqk7 => omega); k_whole); intro _ _ _; (try k_sweep)))
  k_with "call builtin:list.pop" => ((k_here; (with_reducible show wpAny _ _ (call (Value.builtin _) [Value.ref _]) _ _ _); k_dflt (refine' pop_led ?wqk1 ?wqk2 ?wqk3 ?wqk4 ?_; (case wqk1 => k_asm); (case wqk2 => k_asm); (case wqk3 => k_upd); (case wqk4 => (first | (rw [sizeLine_eq]; omega) | size_fits)); k_whole); intro _ _ _; (try k_sweep)))
  k_with "truthy ref" => ((k_here; k_dflt (first | (refine' truth_nil ?wqk1 ?wqk2 ?_; (case wqk1 => k_asm); (case wqk2 => k_mem)) | (refine' truth_snoc ?wqk1 ?wqk2 ?wqk3 ?_; (case wqk1 => k_asm); (case wqk2 => k_mem); (case wqk3 => omega)))))
  k_with "binaryOp Mult ref int" => ((k_here; k_dflt (refine' mul_led ?wqk1 ?wqk2 ?wqk3 ?wqk4 ?wqk5 ?_; (case wqk1 => k_asm); (case wqk2 => k_asm); (case wqk3 => k_mem); (case wqk4 => omega); (case wqk5 => omega); k_whole); intro _ _ _ _ l1; (try k_lt l1); (have _ := l1); clear l1; (try k_sweep)))
  k_with "k_all" => (first | with_reducible assumption | (refine' List.forall_mem_cons.mpr ⟨?wqa, ?wqb⟩; (case wqa => k_ne); (case wqb => k_all)))
  k_with "exec While Name cons nil" => ((k_here; refine While_stop ?_))
  k_with "call builtin:list.append" => ((k_here; (with_reducible show wpAny _ _ (call (Value.builtin _) [Value.ref _, _]) _ _ _); k_dflt (refine' append_led ?wqk1 ?wqk2 ?wqk3 ?wqk4 ?_; (case wqk1 => k_asm); (case wqk2 => k_asm); (case wqk3 => k_upd); (case wqk4 => (rw [sizeLine_eq]; (try simp only [List.length_append, List.length_cons, List.length_nil]); omega)); k_whole); intro _ _ _; (try k_sweep)))
  k_with "WPost" => ((dsimp only [WPost]))
  k_with "tb_rel" => (first | assumption | (refine RuleIn.mono (by assumption) ?_; intro p hp; (repeat (first | exact hp | refine List.mem_cons_of_mem _ ?_))) | (refine FileIn.mono (by assumption) ?_; intro p hp; (repeat (first | exact hp | refine List.mem_cons_of_mem _ ?_))))
  k_with "lsm_bools" => (with_reducible assumption)
  k_with "kaf_pre" => (first | assumption | (refine List.mem_cons_of_mem _ ?_; (k_extra "kaf_pre")))
  k_with "kaf_suf" => (first | exact UpdF.head (by first | assumption | k_all) | (refine' UpdF.tail ?wqua7 ?wqub7; (case wqua7 => k_ne); (case wqub7 => (k_extra "kaf_suf"))))
  k_with "kat_tups" => ((intro p hp; (repeat (first | exact hp | refine List.mem_cons_of_mem _ ?_))))
  trivial
/-- what lists of values say, by a ledger -/
def RdAll (news : Led) (vs : List Value) (xs : List PyData) : Prop := ∀ (h₀ : Heap) (L : Addr) (h : Heap), News h₀ L h news → ∃ as, ReadsAll h vs xs as
def Rd (news : Led) (v : Value) (d : PyData) : Prop := ∀ (h₀ : Heap) (L : Addr) (h : Heap), News h₀ L h news → ∃ as, Reads h v d as
theorem RdAll.mono {news news' : Led} {vs : List Value} {xs : List PyData} (h : RdAll news vs xs) (hs : ∀ p ∈ news, p ∈ news') : RdAll news' vs xs := fun h₀ L h' N => h h₀ L h' fun p hp => N p (hs p hp)
theorem Rd.mono {news news' : Led} {v : Value} {d : PyData} (h : Rd news v d) (hs : ∀ p ∈ news, p ∈ news') : Rd news' v d := fun h₀ L h' N => h h₀ L h' fun p hp => N p (hs p hp)
theorem RdAll.nil {news : Led} : RdAll news [] [] := fun _ _ _ _ => ⟨[], .nil⟩
theorem RdAll.cons {news : Led} {v : Value} {d : PyData} {vs : List Value} {xs : List PyData} (h : Rd news v d) (hr : RdAll news vs xs) : RdAll news (v :: vs) (d :: xs) := fun h₀ L h' N =>
  let ⟨_, a⟩ := h h₀ L h' N
  let ⟨_, b⟩ := hr h₀ L h' N
  ⟨_, .cons a b⟩
theorem Rd.none {news : Led} : Rd news .none .none := fun _ _ _ _ => ⟨_, .none⟩
theorem Rd.int {news : Led} {z : Int} {t : Tok} : Rd news (.int z t) (.int z) := fun _ _ _ _ => ⟨_, .int z t⟩
theorem Rd.str {news : Led} {z : Str} {t : Tok} : Rd news (.str z t) (.str z) := fun _ _ _ _ => ⟨_, .str z t⟩
theorem Rd.bool {news : Led} {z : Bool} : Rd news (.bool z) (.bool z) := fun _ _ _ _ => ⟨_, .bool z⟩
theorem Rd.list {news : Led} {a : Addr} {vs : List Value} {n : Nat} {xs : List PyData} (hm : (a, listOf vs.toArray n) ∈ news) (h : RdAll news vs xs) : Rd news (.ref a) (.list xs) := fun h₀ L h' N =>
  let ⟨_, b⟩ := h h₀ L h' N
  ⟨_, .list (N _ hm).1 rfl rfl b⟩
theorem Rd.tuple {news : Led} {a : Addr} {vs : List Value} {n : Nat} {xs : List PyData} (hm : (a, tupOf vs.toArray n) ∈ news) (h : RdAll news vs xs) : Rd news (.ref a) (.tuple xs) := fun h₀ L h' N =>
  let ⟨_, b⟩ := h h₀ L h' N
  ⟨_, .tuple (N _ hm).1 rfl rfl b⟩
theorem RdAll.of {D : Type} {news : Led} {P : Value → D → Prop} {f : D → PyData} (hP : ∀ v d, P v d → Rd news v (f d)) {vs : List Value} {ds : List D} (hA : AllIn P vs ds) : RdAll news vs (ds.map f) := by
  obtain ⟨hl, hA⟩ := hA
  induction vs generalizing ds with
  | nil =>
    cases ds with
    | nil => exact .nil
    | cons _ _ => cases hl
  | cons v vs ih =>
    cases ds with
    | nil => cases hl
    | cons d ds =>
      exact .cons (hP v d (hA 0 v d rfl rfl)) (ih (by simpa using hl) fun i w e hw he => hA (i + 1) w e (by simpa using hw) (by simpa using he))
theorem RdAll.bools {news : Led} : ∀ bs : List Bool, RdAll news (bs.map Value.bool) (bs.map PyData.bool)
  | [] => .nil
  | _ :: r => .cons .bool (RdAll.bools r)
theorem RdAll.strs {news : Led} : ∀ {vs : List Value} {ss : List Str}, StrsAre vs ss → RdAll news vs (ss.map PyData.str)
  | _, _, .nil => .nil
  | _, _, .cons _ _ r => .cons .str (RdAll.strs r)
theorem RdAll.ints {news : Led} : ∀ {vs : List Value} {ss : List Int}, IntsAre vs ss → RdAll news vs (ss.map PyData.int)
  | _, _, .nil => .nil
  | _, _, .cons _ _ r => .cons .int (RdAll.ints r)
theorem eqvAll_nil : ∀ xs : List PyData, PyData.eqvAll xs [] = xs.isEmpty
  | [] => rfl
  | _ :: _ => rfl
section
variable {prog : Program} {w : World} {A : Around} {E : Value → Shared → Prop} {s : Shared} {h₀ : Heap} {L : Addr} {news l1 l2 : Led} {a b : Addr} {vs us : List Value} {n k : Nat} {xs ys : List PyData} {Q : Value → Shared → Prop}
theorem ne_led (N : News h₀ L s.heap news) (ha : (a, listOf vs.toArray n) ∈ news) (hb : (b, listOf us.toArray k) ∈ news) (ra : RdAll news vs xs) (rb : RdAll news us ys) (sa : SeqAt.shaped (.list xs) = true) (sb : SeqAt.shaped (.list ys) = true) (hu : A.units + 64 < cLine)
    (h : Q (.bool (!PyData.eqvAll xs ys)) s) : wpAny (model prog w) A (compareOp .NotEq (.ref a) (.ref b)) Q E s := by
  obtain ⟨_, ra⟩ := ra _ _ _ N
  obtain ⟨_, rb⟩ := rb _ _ _ N
  exact ne_dataH (reads_list_at (N _ ha).1 rfl rfl ra) (reads_list_at (N _ hb).1 rfl rfl rb) sa sb hu (by simpa only [PyData.eqv] using h)
theorem eq_led (N : News h₀ L s.heap news) (ha : (a, listOf vs.toArray n) ∈ news) (hb : (b, listOf us.toArray k) ∈ news) (ra : RdAll news vs xs) (rb : RdAll news us ys) (sa : SeqAt.shaped (.list xs) = true) (sb : SeqAt.shaped (.list ys) = true) (hu : A.units + 64 < cLine)
    (h : Q (.bool (PyData.eqvAll xs ys)) s) : wpAny (model prog w) A (compareOp .Eq (.ref a) (.ref b)) Q E s := by
  obtain ⟨_, ra⟩ := ra _ _ _ N
  obtain ⟨_, rb⟩ := rb _ _ _ N
  exact eq_dataH (reads_list_at (N _ ha).1 rfl rfl ra) (reads_list_at (N _ hb).1 rfl rfl rb) sa sb hu (by simpa only [PyData.eqv] using h)
end
theorem shaped_list {xs : List PyData} (h : ∀ x ∈ xs, x.canLay0 = true ∧ x.depth ≤ 5) : SeqAt.shaped (.list xs) = true := by
  have h1 : PyData.canLayAll0 xs = true := by
    induction xs with
    | nil => rfl
    | cons x r ih =>
      rw [PyData.canLayAll0, (h x (List.mem_cons_self ..)).1, ih fun y hy => h y (List.mem_cons_of_mem _ hy)]; rfl
  have h2 : PyData.depthAll xs ≤ 5 := by
    induction xs with
    | nil => exact Nat.zero_le _
    | cons x r ih =>
      have a := (h x (List.mem_cons_self ..)).2
      have b := ih (fun y hy => h y (List.mem_cons_of_mem _ hy)) (by
        rw [PyData.canLayAll0, Bool.and_eq_true] at h1
        exact h1.2)
      rw [PyData.depthAll]
      omega
  unfold SeqAt.shaped
  rw [PyData.canLay0, PyData.depth, h1]
  simp only [Bool.true_and, decide_eq_true_eq]
  omega
theorem RdAll.snoc {news : Led} {vs : List Value} {xs : List PyData} {v : Value} {d : PyData} (h : RdAll news vs xs) (hr : Rd news v d) : RdAll news (vs ++ [v]) (xs ++ [d]) := by
  intro h₀ L h' N
  obtain ⟨as, a⟩ := h h₀ L h' N
  obtain ⟨bs, b⟩ := hr h₀ L h' N
  clear h hr N
  induction vs generalizing xs as with
  | nil =>
    cases a
    exact ⟨_, .cons b .nil⟩
  | cons v' r ih =>
    cases a with
    | cons a1 a2 =>
      obtain ⟨_, e⟩ := ih _ a2
      exact ⟨_, .cons a1 e⟩
theorem shaped_snoc {xs : List PyData} {d : PyData} (h : SeqAt.shaped (.list xs) = true) (hd : d.canLay0 = true) (hp : d.depth ≤ 5) : SeqAt.shaped (.list (xs ++ [d])) = true := by
  unfold SeqAt.shaped at h ⊢
  rw [PyData.canLay0, PyData.depth, Bool.and_eq_true, decide_eq_true_eq] at h ⊢
  obtain ⟨h1, h2⟩ := h
  constructor
  · clear h2
    induction xs with
    | nil =>
      rw [List.nil_append, PyData.canLayAll0, hd]; rfl
    | cons x r ih =>
      rw [PyData.canLayAll0, Bool.and_eq_true] at h1
      rw [List.cons_append, PyData.canLayAll0, h1.1, ih h1.2]; rfl
  · clear h1
    have : ∀ (ys : List PyData), PyData.depthAll ys ≤ 63 → PyData.depthAll (ys ++ [d]) ≤ 63 := by
      intro ys hy
      induction ys with
      | nil =>
        rw [List.nil_append, PyData.depthAll, PyData.depthAll]; omega
      | cons x r ih =>
        rw [PyData.depthAll] at hy
        rw [List.cons_append, PyData.depthAll]
        have := ih (by omega)
        omega
    have := this xs (by omega)
    omega
theorem shaped_nil : SeqAt.shaped (.list []) = true := by decide +kernel
end
section
example : True := by
  k_with_none
  k_with "k_ne" => ((refine neN ?_; (try dsimp only); with_reducible first | assumption | exact Nat.ne_of_lt (by assumption) | exact Nat.ne_of_gt (by assumption) | exact neC1 (by assumption) | exact (neC1 (by assumption)).symm | exact neC2 (by assumption) | exact (neC2 (by assumption)).symm | exact neC3 (by assumption) | exact (neC3 (by assumption)).symm | exact neC4 (by assumption) | exact (neC4 (by assumption)).symm | exact neD2 (by assumption) | exact (neD2 (by assumption)).symm | exact neD3 (by assumption) | exact (neD3 (by assumption)).symm | exact neC5 (by assumption) | exact (neC5 (by assumption)).symm))
  k_with "ktr_room" => (first | decide | (refine' room_of (c := 1) ?wqh9 ?wqe9 ?wqk9; (case wqh9 => with_reducible assumption); (case wqe9 => exact rfl); (case wqk9 => decide)) | (refine' room_of (c := 0) ?wqh9 ?wqe9 ?wqk9; (case wqh9 => with_reducible assumption); (case wqe9 => exact rfl); (case wqk9 => decide)) | (refine' room_at (c := 0) ?wqh9 ?wqe9 ?wqk9; (case wqh9 => with_reducible assumption); (case wqe9 => exact rfl); (case wqk9 => decide)) | (refine' room_at (c := 1) ?wqh9 ?wqe9 ?wqk9; (case wqh9 => with_reducible assumption); (case wqe9 => exact rfl); (case wqk9 => decide)) | fail "room")
  k_with "ktr_units" => (first | decide | (refine' room_of (c := 3) ?wqh9 ?wqe9 ?wqk9; (case wqh9 => with_reducible assumption); (case wqe9 => exact rfl); (case wqk9 => decide)) | (refine' room_of (c := 0) ?wqh9 ?wqe9 ?wqk9; (case wqh9 => with_reducible assumption); (case wqe9 => exact rfl); (case wqk9 => decide)) | fail "units")
  k_with "exec For Name Attribute cons nil" => ((k_here; (with_reducible show wpAny _ _ (exec (Stmt.For _ _ _ [] _) _) _ _ _); with_unfolding_all refine For_any ?_))
  k_with "exec For Name Name cons nil" => ((k_here; (with_reducible show wpAny _ _ (exec (Stmt.For _ _ _ [] _) _) _ _ _); with_unfolding_all refine For_any ?_))
  k_with "exec For Name Call cons nil" => ((k_here; (with_reducible show wpAny _ _ (exec (Stmt.For _ _ _ [] _) _) _ _ _); with_unfolding_all refine For_any ?_))
  k_with "exec For Name Subscript cons nil" => ((k_here; (with_reducible show wpAny _ _ (exec (Stmt.For _ _ _ [] _) _) _ _ _); with_unfolding_all refine For_any ?_))
  k_with "exec For Name Tuple cons nil" => ((k_here; (with_reducible show wpAny _ _ (exec (Stmt.For _ _ _ [] _) _) _ _ _); with_unfolding_all refine For_any ?_))
  k_with "exec For Tuple Call cons nil" => ((k_here; (with_reducible show wpAny _ _ (exec (Stmt.For _ _ _ [] _) _) _ _ _); with_unfolding_all refine For_any ?_))
  k_with "exec For Tuple Name cons nil" => ((k_here; (with_reducible show wpAny _ _ (exec (Stmt.For _ _ _ [] _) _) _ _ _); with_unfolding_all refine For_any ?_))
  k_with "exec For Tuple Subscript cons nil" => ((k_here; (with_reducible show wpAny _ _ (exec (Stmt.For _ _ _ [] _) _) _ _ _); with_unfolding_all refine For_any ?_))
  k_with "LPost" => ((dsimp only [LPost]))
  k_with "call builtin:len" => ((k_here; (with_reducible show wpAny _ _ (call (Value.builtin "len") [Value.ref _]) _ _ _); k_dflt (refine' len_led ?wqk1 ?wqk2 ?wqk3 ?_; (case wqk1 => k_asm); (case wqk2 => k_mem); (case wqk3 => omega); k_whole)))
  k_with "subscriptTail" => ((k_here; (with_reducible show wpAny _ _ (subscriptTail _ _ (Value.ref _) (Value.int _ _)) _ _ _); (with_unfolding_all refine' item_led ?wqk1 ?wqk2 ?wqk3 ?wqk4 ?wqk5 ?_ ?wqk6; (case wqk1 => k_asm); (case wqk2 => k_mem); (case wqk5 => first | assumption | (simp only [Int.toNat_natCast]; assumption)); (case wqk3 => omega); (case wqk4 => omega); (case wqk6 => with_unfolding_all rfl); k_whole)))
  k_with "tb_start" => ((intro y hy; (try dsimp only); (simp only [List.contains_cons, List.contains_nil, Bool.or_false, Bool.or_eq_false_iff] at hy); (have hy2 := hy); (simp only [beq_eq_false_iff_ne, ne_eq] at hy2); (simp only [List.contains_cons, List.contains_nil, hy, hy2, Bool.or_false, Bool.false_eq_true, if_false])))
  k_with "eval ListComp" => ((k_here; k_dflt (refine LCg.ListComp_U (F₀ := by k_asm) (by with_unfolding_all rfl) (by decide) (by rfl) (by decide) (by rfl) ?_)))
  k_with "eval ListComp" => ((k_here; k_dflt (refine LCt.ListComp_T (F₀ := by k_asm) (by with_unfolding_all rfl) (by decide) (by rfl) (by decide) (by rfl) ?_)))
  k_with "k_mem" => (first | exact List.Mem.head _ | ktr_member | (refine' List.mem_cons_of_mem _ ?_; k_mem))
  k_with "setItem ref int" => ((k_here; (with_reducible show wpAny _ _ (setItem (Value.ref _) (Value.int _ _) _) _ _ _); k_dflt (refine' set_led ?wqk1 ?wqk2 ?wqk3 ?wqk5 ?wqk6 ?wqk7 ?_; (case wqk1 => k_asm); (case wqk2 => k_asm); (case wqk3 => k_upd); (case wqk5 => omega); (case wqk6 => first | assumption | omega | (simp only [List.length_replicate, List.length_set, Int.toNat_natCast] at *; omega)); (case wqk7 => omega); k_whole); intro _ _ _; (try k_sweep)))
  k_with "call builtin:list.pop" => ((k_here; (with_reducible show wpAny _ _ (call (Value.builtin _) [Value.ref _]) _ _ _); k_dflt (refine' pop_led ?wqk1 ?wqk2 ?wqk3 ?wqk4 ?_; (case wqk1 => k_asm); (case wqk2 => k_asm); (case wqk3 => k_upd); (case wqk4 => (first | (rw [sizeLine_eq]; omega) | size_fits)); k_whole); intro _ _ _; (try k_sweep)))
  k_with "truthy ref" => ((k_here; k_dflt (first | (refine' truth_nil ?wqk1 ?wqk2 ?_; (case wqk1 => k_asm); (case wqk2 => k_mem)) | (refine' truth_snoc ?wqk1 ?wqk2 ?wqk3 ?_; (case wqk1 => k_asm); (case wqk2 => k_mem); (case wqk3 => omega)))))
  k_with "binaryOp Mult ref int" => ((k_here; k_dflt (refine' mul_led ?wqk1 ?wqk2 ?wqk3 ?wqk4 ?wqk5 ?_; (case wqk1 => k_asm); (case wqk2 => k_asm); (case wqk3 => k_mem); (case wqk4 => omega); (case wqk5 => omega); k_whole); intro _ _ _ _ l1; (try k_lt l1); (have _ := l1); clear l1; (try k_sweep)))
  k_with "k_all" => (first | with_reducible assumption | (refine' List.forall_mem_cons.mpr ⟨?wqa, ?wqb⟩; (case wqa => k_ne); (case wqb => k_all)))
  k_with "exec While Name cons nil" => ((k_here; refine While_stop ?_))
  k_with "call builtin:list.append" => ((k_here; (with_reducible show wpAny _ _ (call (Value.builtin _) [Value.ref _, _]) _ _ _); k_dflt (refine' append_led ?wqk1 ?wqk2 ?wqk3 ?wqk4 ?_; (case wqk1 => k_asm); (case wqk2 => k_asm); (case wqk3 => k_upd); (case wqk4 => (rw [sizeLine_eq]; (try simp only [List.length_append, List.length_cons, List.length_nil]); omega)); k_whole); intro _ _ _; (try k_sweep)))
  k_with "WPost" => ((dsimp only [WPost]))
  k_with "tb_rel" => (first | assumption | (refine RuleIn.mono (by assumption) ?_; intro p hp; (repeat (first | exact hp | refine List.mem_cons_of_mem _ ?_))) | (refine FileIn.mono (by assumption) ?_; intro p hp; (repeat (first | exact hp | refine List.mem_cons_of_mem _ ?_))))
  k_with "lsm_bools" => (with_reducible assumption)
  k_with "kaf_pre" => (first | assumption | (refine List.mem_cons_of_mem _ ?_; (k_extra "kaf_pre")))
  k_with "kaf_suf" => (first | exact UpdF.head (by first | assumption | k_all) | (refine' UpdF.tail ?wqua7 ?wqub7; (case wqua7 => k_ne); (case wqub7 => (k_extra "kaf_suf"))))
  k_with "kat_tups" => ((intro p hp; (repeat (first | exact hp | refine List.mem_cons_of_mem _ ?_))))
  trivial
theorem is_end_spec : ∀ (news : Led) (v : Value) (R : RuleD), RuleIn news v R → Spec news 167 [v] 1 8 (fun r news' => r = .bool true ∧ news = news') := by
  unfold Spec
  w_top off
  k_fill
  intro news v R hR w p loose mean mg mb dp un gd cn cs a ccd cl outer A₀ base h₀ L m s Q E B F X N T hk hd hu hret
  cases hR with
  | mk a1 a2 a3 a4 a5 a6 a7 a8 =>
  refine wpAny_call ?_
  k_dflt ktr_enter
  refine hideA ?_; intro Ak
  rename Fr _ _ _ _ => lF0; refine letM lF0 ?_; clear lF0; intro m0 F0
  k_steps
  exact hret _ _ _ _ (by k_asm) (by k_asm) ⟨rfl, rfl⟩

example : True := by
  k_with "compareOp In int ref" => ((k_here; k_dflt (refine' in_led_tup ?wqk1 ?wqk2 ?wqk3 ?_; (case wqk1 => k_asm); (case wqk2 => k_mem); (case wqk3 => assumption); k_whole)))
  trivial

theorem is_live_spec : ∀ (news : Led) (v : Value) (R : RuleD) (c : Int) (t : Tok), RuleIn news v R → Spec news 174 [v, .int c t] 1 8 (fun r news' => r = .bool (R.conds.any (· == c)) ∧ news = news') := by
  unfold Spec
  w_top off
  k_fill
  intro news v R c t hR w p loose mean mg mb dp un gd cn cs a ccd cl outer A₀ base h₀ L m s Q E B F X N T hk hd hu hret
  cases hR with
  | mk a1 a2 a3 a4 a5 a6 a7 a8 =>
  refine wpAny_call ?_
  k_dflt ktr_enter
  refine hideA ?_; intro Ak
  rename Fr _ _ _ _ => lF0; refine letM lF0 ?_; clear lF0; intro m0 F0
  k_steps
  exact hret _ _ _ _ (by k_asm) (by k_asm) ⟨rfl, rfl⟩

def isRet (d : StepD) : Bool := d.word == Str.ofString "return"
def kindOf (ds : List StepD) : Option Str := (ds.find? isRet).bind (·.worth)

theorem find_at {α : Type} {p : α → Bool} {l : List α} {i : Nat} {x : α} (h : l[i]? = some x) (hp : p x = true) (hn : ∀ (j : Nat) (y : α), j < i → l[j]? = some y → p y = false) : l.find? p = some x := by
  induction l generalizing i with
  | nil => simp at h
  | cons a l ih =>
    cases i with
    | zero =>
      simp only [List.getElem?_cons_zero, Option.some.injEq] at h
      subst h
      simp [hp]
    | succ i =>
      have ha := hn 0 a (Nat.succ_pos _) (by simp)
      rw [List.find?_cons, ha]
      exact ih (by simpa using h) fun j y hj hy => hn (j + 1) y (Nat.succ_lt_succ hj) (by simpa using hy)
theorem find_none {α : Type} {p : α → Bool} {l : List α} (hn : ∀ (j : Nat) (y : α), j < l.length → l[j]? = some y → p y = false) : l.find? p = none := by
  rw [List.find?_eq_none]
  intro x hx
  obtain ⟨j, hj, e⟩ := List.mem_iff_getElem.mp hx
  have := hn j x hj (by rw [List.getElem?_eq_getElem hj, e])
  simp [this]
theorem upto_succ {α : Type} {p : α → Bool} {l : List α} {i : Nat} {x : α} (h : l[i]? = some x) (hp : p x = false) (hn : ∀ (j : Nat) (y : α), j < i → l[j]? = some y → p y = false) : ∀ (j : Nat) (y : α), j < i + 1 → l[j]? = some y → p y = false := by
  intro j y hj hy
  rcases Nat.lt_succ_iff_lt_or_eq.mp hj with h1 | h1
  · exact hn j y h1 hy
  · subst h1
    rw [h] at hy
    cases hy
    exact hp

theorem kind_spec : ∀ (news : Led) (v : Value) (R : RuleD), RuleIn news v R → Spec news 188 [v] 1 8 (fun r news' => WorthIs r (kindOf R.steps) ∧ news = news') := by
  unfold Spec
  w_top off
  k_fill
  intro news v R hR w p loose mean mg mb dp un gd cn cs a ccd cl outer A₀ base h₀ L m s Q E B F X N T hk hd hu hret
  cases hR with
  | @mk r d c sl k1 k2 k3 k4 k5 t1 t2 t3 t4 t5 tn tl number line conds steps vc vs nc ns a1 a2 a3 a4 a5 a6 a7 a8 =>
  refine wpAny_call ?_
  k_dflt ktr_enter
  refine hideA ?_; intro Ak
  rename Fr _ _ _ _ => lF0; refine letM lF0 ?_; clear lF0; intro m0 F0
  k_steps
  rename Fr _ _ _ _ => lF
  rename News _ _ _ _ => lN
  refine over_list (σ := Unit) (adr := []) (r₀ := news) (fun _ => []) [Str.ofString "step"] (fun i _ _ _ => ∀ (j : Nat) (d : StepD), j < i → steps[j]? = some d → isRet d = false) () rfl a5 (fun _ => rfl) (fun _ _ h => nomatch h) lF lN (fun j d h => absurd h (Nat.not_lt_zero _)) ?turn ?done
  case turn =>
    intro i v c tl u h tk rest hv hi hr ht hne hJ F' N'
    dsimp only [List.nil_append] at N'
    obtain ⟨st, hst, hS⟩ := a6.get hv
    replace hS := hS.mono hr
    clear lF lN
    cases hS with
    | mk b1 b2 b3 =>
    cases b3
    all_goals k_steps
    · exact hret _ _ _ _ (by k_asm) (cb_drop (by k_asm) hr) ⟨by unfold kindOf; rw [find_at hst (by assumption) hJ]; exact .none, rfl⟩
    · exact LEnd.intro () [] (by k_asm) (by k_asm) (fun p hp => hp) (fun _ h => nomatch h) (fun _ h => nomatch h) (by (k_extra "tb_start")) (upto_succ hst (by assumption) hJ)
    · exact hret _ _ _ _ (by k_asm) (cb_drop (by k_asm) hr) ⟨by unfold kindOf; rw [find_at hst (by assumption) hJ]; exact .str _ _, rfl⟩
    · exact LEnd.intro () [] (by k_asm) (by k_asm) (fun p hp => hp) (fun _ h => nomatch h) (fun _ h => nomatch h) (by (k_extra "tb_start")) (upto_succ hst (by assumption) hJ)
  case done =>
    intro c tl u h tk hJ ht F' N'
    dsimp only [List.nil_append] at N'
    clear lF lN
    k_steps
    exact hret _ _ _ _ (by k_asm) (cb_drop (by k_asm) fun p hp => List.mem_append.mpr (.inr hp)) ⟨by unfold kindOf; rw [find_none (by rw [← a6.1]; exact hJ)]; exact .none, rfl⟩

-- the names of a file's conditions
theorem condition_number_spec : ∀ (news : Led) (v : Value) (D : FileD) (x : Str) (t : Tok) (k : Nat), FileIn news v D → (∀ (j : Nat) (y : Str × Bool), j < k → D.conds[j]? = some y → (y.1 == x) = false) → (∃ b, D.conds[k]? = some (x, b)) → k < 2 ^ 20 →
    Spec news 227 [v, .str x t] 1 8 (fun r news' => (∃ t', r = .int (k : Int) t') ∧ news = news') := by
  unfold Spec
  w_top off
  k_fill
  intro news v D x t k hD hlt hk2 hkl w p loose mean mg mb dp un gd cn cs a ccd cl outer A₀ base h₀ L m s Q E B F X N T hk hd hu hret
  cases hD with
  | @mk f d ca ra k1 k2 k3 k4 k5 t1 t2 t3 t4 t5 v1 v4 v5 cvs rvs nc nr conds rules a1 a2 a3 a4 a5 a6 a7 a8 =>
  refine wpAny_call ?_
  k_dflt ktr_enter
  refine hideA ?_; intro Ak
  rename Fr _ _ _ _ => lF0; refine letM lF0 ?_; clear lF0; intro m0 F0
  k_steps
  rename Fr _ _ _ _ => lF
  rename News _ _ _ _ => lN
  rename IsRange _ _ _ _ _ _ _ _ => rgX
  refine over_range0 (n := cvs.length) (σ := Unit) (adr := []) (fun _ => []) [Str.ofString "number"] (fun i _ _ _ => i ≤ k) () rfl rgX rfl (by omega) (fun _ => rfl) (fun _ _ h => nomatch h) lF lN (Nat.zero_le _) ?turn ?done
  case turn =>
    intro i t c tl u h tk rest hi hr ht hne hJ F' N'
    dsimp only [List.nil_append] at N'
    obtain ⟨v, hv⟩ : ∃ v, cvs[i]? = some v := ⟨cvs[i], by simp⟩
    obtain ⟨cd, hcd, hS⟩ := a4.get hv
    replace hS := hS.mono (fun p hp => hr p (by first | exact hp | exact .tail _ hp))
    replace a1 := hr _ (by first | exact a1 | exact .tail _ a1)
    replace a2 := hr _ (by first | exact a2 | exact .tail _ a2)
    replace a3 := hr _ (by first | exact a3 | exact .tail _ a3)
    clear lF lN
    cases hS with
    | mk b1 =>
    k_steps
    · have e : i = k := by
        rcases Nat.lt_or_eq_of_le hJ with h1 | h1
        · rename (_ == x) = true => e9
          have := hlt i _ h1 hcd
          dsimp only at this
          rw [e9] at this
          cases this
        · exact h1
      subst e
      exact hret _ _ _ _ (by k_asm) (cb_drop (by k_asm) fun p hp => hr p (by first | exact hp | exact .tail _ hp)) ⟨⟨_, rfl⟩, rfl⟩
    · refine LEnd.intro () [] (by k_asm) (by k_asm) (fun p hp => hp) (fun _ h => nomatch h) (fun _ h => nomatch h) (by (k_extra "tb_start")) ?_
      have hne : i ≠ k := by
        rintro rfl
        obtain ⟨b, hb⟩ := hk2
        rename (_ == x) = false => e9
        rw [hcd] at hb
        cases hb
        simp at e9
      show i + 1 ≤ k
      omega
  case done =>
    intro c tl u h tk hJ ht F' N'
    dsimp only [List.nil_append] at N'
    clear lF lN
    k_steps
    obtain ⟨b, hb⟩ := hk2
    have h1 : k < conds.length := (List.getElem?_eq_some_iff.mp hb).1
    have h2 := a4.1
    omega
end
section
example : True := by
  k_with_none
  k_with "k_ne" => ((refine neN ?_; (try dsimp only); with_reducible first | assumption | exact Nat.ne_of_lt (by assumption) | exact Nat.ne_of_gt (by assumption) | exact neC1 (by assumption) | exact (neC1 (by assumption)).symm | exact neC2 (by assumption) | exact (neC2 (by assumption)).symm | exact neC3 (by assumption) | exact (neC3 (by assumption)).symm | exact neC4 (by assumption) | exact (neC4 (by assumption)).symm | exact neD2 (by assumption) | exact (neD2 (by assumption)).symm | exact neD3 (by assumption) | exact (neD3 (by assumption)).symm | exact neC5 (by assumption) | exact (neC5 (by assumption)).symm))
  k_with "ktr_room" => (first | decide | (refine' room_of (c := 1) ?wqh9 ?wqe9 ?wqk9; (case wqh9 => with_reducible assumption); (case wqe9 => exact rfl); (case wqk9 => decide)) | (refine' room_of (c := 0) ?wqh9 ?wqe9 ?wqk9; (case wqh9 => with_reducible assumption); (case wqe9 => exact rfl); (case wqk9 => decide)) | (refine' room_at (c := 0) ?wqh9 ?wqe9 ?wqk9; (case wqh9 => with_reducible assumption); (case wqe9 => exact rfl); (case wqk9 => decide)) | (refine' room_at (c := 1) ?wqh9 ?wqe9 ?wqk9; (case wqh9 => with_reducible assumption); (case wqe9 => exact rfl); (case wqk9 => decide)) | fail "room")
  k_with "ktr_units" => (first | decide | (refine' room_of (c := 3) ?wqh9 ?wqe9 ?wqk9; (case wqh9 => with_reducible assumption); (case wqe9 => exact rfl); (case wqk9 => decide)) | (refine' room_of (c := 0) ?wqh9 ?wqe9 ?wqk9; (case wqh9 => with_reducible assumption); (case wqe9 => exact rfl); (case wqk9 => decide)) | fail "units")
  k_with "exec For Name Attribute cons nil" => ((k_here; (with_reducible show wpAny _ _ (exec (Stmt.For _ _ _ [] _) _) _ _ _); with_unfolding_all refine For_any ?_))
  k_with "exec For Name Name cons nil" => ((k_here; (with_reducible show wpAny _ _ (exec (Stmt.For _ _ _ [] _) _) _ _ _); with_unfolding_all refine For_any ?_))
  k_with "exec For Name Call cons nil" => ((k_here; (with_reducible show wpAny _ _ (exec (Stmt.For _ _ _ [] _) _) _ _ _); with_unfolding_all refine For_any ?_))
  k_with "exec For Name Subscript cons nil" => ((k_here; (with_reducible show wpAny _ _ (exec (Stmt.For _ _ _ [] _) _) _ _ _); with_unfolding_all refine For_any ?_))
  k_with "exec For Name Tuple cons nil" => ((k_here; (with_reducible show wpAny _ _ (exec (Stmt.For _ _ _ [] _) _) _ _ _); with_unfolding_all refine For_any ?_))
  k_with "exec For Tuple Call cons nil" => ((k_here; (with_reducible show wpAny _ _ (exec (Stmt.For _ _ _ [] _) _) _ _ _); with_unfolding_all refine For_any ?_))
  k_with "exec For Tuple Name cons nil" => ((k_here; (with_reducible show wpAny _ _ (exec (Stmt.For _ _ _ [] _) _) _ _ _); with_unfolding_all refine For_any ?_))
  k_with "exec For Tuple Subscript cons nil" => ((k_here; (with_reducible show wpAny _ _ (exec (Stmt.For _ _ _ [] _) _) _ _ _); with_unfolding_all refine For_any ?_))
  k_with "LPost" => ((dsimp only [LPost]))
  k_with "call builtin:len" => ((k_here; (with_reducible show wpAny _ _ (call (Value.builtin "len") [Value.ref _]) _ _ _); k_dflt (refine' len_led ?wqk1 ?wqk2 ?wqk3 ?_; (case wqk1 => k_asm); (case wqk2 => k_mem); (case wqk3 => omega); k_whole)))
  k_with "subscriptTail" => ((k_here; (with_reducible show wpAny _ _ (subscriptTail _ _ (Value.ref _) (Value.int _ _)) _ _ _); (with_unfolding_all refine' item_led ?wqk1 ?wqk2 ?wqk3 ?wqk4 ?wqk5 ?_ ?wqk6; (case wqk1 => k_asm); (case wqk2 => k_mem); (case wqk5 => first | assumption | (simp only [Int.toNat_natCast]; assumption)); (case wqk3 => omega); (case wqk4 => omega); (case wqk6 => with_unfolding_all rfl); k_whole)))
  k_with "tb_start" => ((intro y hy; (try dsimp only); (simp only [List.contains_cons, List.contains_nil, Bool.or_false, Bool.or_eq_false_iff] at hy); (have hy2 := hy); (simp only [beq_eq_false_iff_ne, ne_eq] at hy2); (simp only [List.contains_cons, List.contains_nil, hy, hy2, Bool.or_false, Bool.false_eq_true, if_false])))
  k_with "eval ListComp" => ((k_here; k_dflt (refine LCg.ListComp_U (F₀ := by k_asm) (by with_unfolding_all rfl) (by decide) (by rfl) (by decide) (by rfl) ?_)))
  k_with "eval ListComp" => ((k_here; k_dflt (refine LCt.ListComp_T (F₀ := by k_asm) (by with_unfolding_all rfl) (by decide) (by rfl) (by decide) (by rfl) ?_)))
  k_with "k_mem" => (first | exact List.Mem.head _ | ktr_member | (refine' List.mem_cons_of_mem _ ?_; k_mem))
  k_with "setItem ref int" => ((k_here; (with_reducible show wpAny _ _ (setItem (Value.ref _) (Value.int _ _) _) _ _ _); k_dflt (refine' set_led ?wqk1 ?wqk2 ?wqk3 ?wqk5 ?wqk6 ?wqk7 ?_; (case wqk1 => k_asm); (case wqk2 => k_asm); (case wqk3 => k_upd); (case wqk5 => omega); (case wqk6 => first | assumption | omega | (simp only [List.length_replicate, List.length_set, Int.toNat_natCast] at *; omega)); (case wqk7 => omega); k_whole); intro _ _ _; (try k_sweep)))
  k_with "call builtin:list.pop" => ((k_here; (with_reducible show wpAny _ _ (call (Value.builtin _) [Value.ref _]) _ _ _); k_dflt (refine' pop_led ?wqk1 ?wqk2 ?wqk3 ?wqk4 ?_; (case wqk1 => k_asm); (case wqk2 => k_asm); (case wqk3 => k_upd); (case wqk4 => (first | (rw [sizeLine_eq]; omega) | size_fits)); k_whole); intro _ _ _; (try k_sweep)))
  k_with "truthy ref" => ((k_here; k_dflt (first | (refine' truth_nil ?wqk1 ?wqk2 ?_; (case wqk1 => k_asm); (case wqk2 => k_mem)) | (refine' truth_snoc ?wqk1 ?wqk2 ?wqk3 ?_; (case wqk1 => k_asm); (case wqk2 => k_mem); (case wqk3 => omega)))))
  k_with "binaryOp Mult ref int" => ((k_here; k_dflt (refine' mul_led ?wqk1 ?wqk2 ?wqk3 ?wqk4 ?wqk5 ?_; (case wqk1 => k_asm); (case wqk2 => k_asm); (case wqk3 => k_mem); (case wqk4 => omega); (case wqk5 => omega); k_whole); intro _ _ _ _ l1; (try k_lt l1); (have _ := l1); clear l1; (try k_sweep)))
  k_with "k_all" => (first | with_reducible assumption | (refine' List.forall_mem_cons.mpr ⟨?wqa, ?wqb⟩; (case wqa => k_ne); (case wqb => k_all)))
  k_with "exec While Name cons nil" => ((k_here; refine While_stop ?_))
  k_with "call builtin:list.append" => ((k_here; (with_reducible show wpAny _ _ (call (Value.builtin _) [Value.ref _, _]) _ _ _); k_dflt (refine' append_led ?wqk1 ?wqk2 ?wqk3 ?wqk4 ?_; (case wqk1 => k_asm); (case wqk2 => k_asm); (case wqk3 => k_upd); (case wqk4 => (rw [sizeLine_eq]; (try simp only [List.length_append, List.length_cons, List.length_nil]); omega)); k_whole); intro _ _ _; (try k_sweep)))
  k_with "WPost" => ((dsimp only [WPost]))
  k_with "tb_rel" => (first | assumption | (refine RuleIn.mono (by assumption) ?_; intro p hp; (repeat (first | exact hp | refine List.mem_cons_of_mem _ ?_))) | (refine FileIn.mono (by assumption) ?_; intro p hp; (repeat (first | exact hp | refine List.mem_cons_of_mem _ ?_))))
  k_with "lsm_bools" => (with_reducible assumption)
  k_with "kaf_pre" => (first | assumption | (refine List.mem_cons_of_mem _ ?_; (k_extra "kaf_pre")))
  k_with "kaf_suf" => (first | exact UpdF.head (by first | assumption | k_all) | (refine' UpdF.tail ?wqua7 ?wqub7; (case wqua7 => k_ne); (case wqub7 => (k_extra "kaf_suf"))))
  k_with "kat_tups" => ((intro p hp; (repeat (first | exact hp | refine List.mem_cons_of_mem _ ?_))))
  trivial
/-- rows of a table at fixed addresses -/
abbrev rowO (c : List Bool × Nat) : Obj := listOf (c.1.map Value.bool).toArray c.2
noncomputable def rowsL : List Addr → (Nat → List Bool × Nat) → Led
  | [], _ => []
  | a :: r, f => (a, rowO (f 0)) :: rowsL r (fun k => f (k + 1))
theorem rowsL_fst : ∀ (as : List Addr) (f : Nat → List Bool × Nat), (rowsL as f).map (·.1) = as
  | [], _ => rfl
  | a :: r, f => by show a :: (rowsL r _).map (·.1) = a :: r; rw [rowsL_fst r]
theorem rowsL_mem : ∀ {as : List Addr} {f : Nat → List Bool × Nat} {p : Addr × Obj}, p ∈ rowsL as f ↔ ∃ k a, as[k]? = some a ∧ p = (a, rowO (f k))
  | [], f, p => by constructor
                   · intro h; exact nomatch h
                   · rintro ⟨k, a, h, _⟩; simp at h
  | a :: r, f, p => by
    constructor
    · intro h
      rcases List.mem_cons.mp h with rfl | h
      · exact ⟨0, a, rfl, rfl⟩
      · obtain ⟨k, b, e, q⟩ := rowsL_mem.mp h
        exact ⟨k + 1, b, by simpa using e, q⟩
    · rintro ⟨k, b, e, rfl⟩
      cases k with
      | zero => simp at e; subst e; exact .head _
      | succ k => exact .tail _ (rowsL_mem.mpr ⟨k, b, by simpa using e, rfl⟩)
theorem rowsL_at {as : List Addr} {f : Nat → List Bool × Nat} {k : Nat} {a : Addr} (h : as[k]? = some a) : (a, rowO (f k)) ∈ rowsL as f := rowsL_mem.mpr ⟨k, a, h, rfl⟩
theorem rowsL_snoc {as : List Addr} {a : Addr} {f : Nat → List Bool × Nat} {p : Addr × Obj} (h : p ∈ rowsL (as ++ [a]) f) : p ∈ rowsL as f ∨ p = (a, rowO (f as.length)) := by
  obtain ⟨k, b, e, rfl⟩ := rowsL_mem.mp h
  rcases Nat.lt_or_ge k as.length with hk | hk
  · rw [List.getElem?_append_left hk] at e
    exact .inl (rowsL_mem.mpr ⟨k, b, e, rfl⟩)
  · rw [List.getElem?_append_right hk] at e
    cases hz : k - as.length with
    | zero =>
      rw [hz] at e
      simp at e
      have : k = as.length := by omega
      subst this; subst e
      exact .inr rfl
    | succ j => rw [hz] at e; simp at e
theorem rowsL_upd : ∀ {as : List Addr} {f g : Nat → List Bool × Nat} {k : Nat} {a : Addr} {r : Led}, as[k]? = some a → as.Nodup → (∀ p ∈ r, p.1 ≠ a) → (∀ j, j ≠ k → g j = f j) → Upd a (rowO (f k)) (rowO (g k)) (rowsL as f ++ r) (rowsL as g ++ r)
  | [], f, g, k, a, r, h, _, _, _ => by simp at h
  | b :: as, f, g, k, a, r, h, hn, hr, hg => by
    have hn' := List.nodup_cons.mp hn
    cases k with
    | zero =>
      simp at h
      subst h
      have e : rowsL as (fun k => g (k + 1)) = rowsL as (fun k => f (k + 1)) := by
        have : (fun k => g (k + 1)) = (fun k => f (k + 1)) := by funext k; exact hg (k + 1) (by omega)
        rw [this]
      show Upd b _ _ ((b, rowO (f 0)) :: (rowsL as (fun k => f (k + 1)) ++ r)) ((b, rowO (g 0)) :: (rowsL as (fun k => g (k + 1)) ++ r))
      rw [e]
      refine Upd.head fun p hp => ?_
      rcases List.mem_append.mp hp with hp | hp
      · intro e
        refine hn'.1 ?_
        rw [← rowsL_fst as (fun k => f (k + 1)), ← e]
        exact List.mem_map_of_mem hp
      · exact hr p hp
    | succ k =>
      have h' : as[k]? = some a := by simpa using h
      show Upd a _ _ ((b, rowO (f 0)) :: (rowsL as (fun k => f (k + 1)) ++ r)) ((b, rowO (g 0)) :: (rowsL as (fun k => g (k + 1)) ++ r))
      rw [hg 0 (by omega)]
      refine Upd.tail ?_ (rowsL_upd (f := fun k => f (k + 1)) (g := fun k => g (k + 1)) h' hn'.2 hr fun j hj => hg (j + 1) (by omega))
      intro e
      have e : b = a := e
      subst e
      exact hn'.1 (List.mem_of_getElem? h')

/-- a row says a relation -/
def RowIs (n : Nat) (R : Nat → Prop) (bs : List Bool) : Prop := bs.length = n ∧ ∀ j, j < n → (bs[j]? = some true ↔ R j)
def MatAt (led : Led) (rv : List Value) (h n : Nat) (R : Nat → Nat → Prop) : Prop :=
  rv.length = h ∧ ∀ i, i < h → ∃ (a : Addr) (bs : List Bool) (k : Nat), rv[i]? = some (.ref a) ∧ (a, listOf (bs.map Value.bool).toArray k) ∈ led ∧ RowIs n (R i) bs
theorem MatAt.mono {led led' : Led} {rv : List Value} {h n : Nat} {R : Nat → Nat → Prop} (H : MatAt led rv h n R) (hs : ∀ p ∈ led, p ∈ led') : MatAt led' rv h n R :=
  ⟨H.1, fun i hi => by obtain ⟨a, bs, k, e, m, r⟩ := H.2 i hi; exact ⟨a, bs, k, e, hs _ m, r⟩⟩
theorem MatAt.nil {led : Led} {n : Nat} {R : Nat → Nat → Prop} : MatAt led [] 0 n R := ⟨rfl, fun _ h => absurd h (Nat.not_lt_zero _)⟩
theorem MatAt.snoc {led : Led} {rv : List Value} {h n : Nat} {R : Nat → Nat → Prop} {a : Addr} {bs : List Bool} {k : Nat} (H : MatAt led rv h n R) (hm : (a, listOf (bs.map Value.bool).toArray k) ∈ led) (hr : RowIs n (R h) bs) : MatAt led (rv ++ [.ref a]) (h + 1) n R := by
  refine ⟨by rw [List.length_append, H.1]; rfl, fun i hi => ?_⟩
  rcases Nat.lt_or_ge i h with hlt | hge
  · obtain ⟨a', bs', k', e, m, r⟩ := H.2 i hlt
    exact ⟨a', bs', k', by rw [List.getElem?_append_left (by rw [H.1]; exact hlt)]; exact e, m, r⟩
  · obtain rfl : i = h := by omega
    exact ⟨a, bs, k, by rw [List.getElem?_append_right (by rw [H.1]; exact Nat.le_refl _), H.1, Nat.sub_self]; rfl, hm, hr⟩
def sqR (n : Nat) (R : Nat → Nat → Prop) (i j : Nat) : Prop := ∃ v, v < n ∧ R i v ∧ R v j
noncomputable def powR (n : Nat) (R : Nat → Nat → Prop) : Nat → Nat → Nat → Prop
  | 0 => R
  | t + 1 => sqR n (powR n R t)
theorem RowIs.nil {R : Nat → Prop} : RowIs 0 R [] := ⟨rfl, fun _ h => absurd h (Nat.not_lt_zero _)⟩
theorem RowIs.snoc {n : Nat} {R : Nat → Prop} {bs : List Bool} {b : Bool} (h : RowIs n R bs) (hb : b = true ↔ R n) : RowIs (n + 1) R (bs ++ [b]) := by
  refine ⟨by rw [List.length_append, h.1]; rfl, fun j hj => ?_⟩
  rcases Nat.lt_or_ge j n with hlt | hge
  · rw [List.getElem?_append_left (by rw [h.1]; exact hlt)]
    exact h.2 j hlt
  · obtain rfl : j = n := by omega
    rw [List.getElem?_append_right (by rw [h.1]; exact Nat.le_refl _), h.1, Nat.sub_self, ← hb]
    exact ⟨fun e => by simpa using e, fun e => by rw [e]; rfl⟩
noncomputable def pb (P : Prop) : Bool := @decide P (Classical.propDecidable P)
theorem pb_iff {P : Prop} : pb P = true ↔ P := by
  unfold pb
  exact @decide_eq_true_iff P (Classical.propDecidable P)
theorem pb_eq {P : Prop} {b : Bool} (h : b = true ↔ P) : pb P = b := by
  cases b with
  | true => exact pb_iff.mpr (h.mp rfl)
  | false =>
    cases e : pb P with
    | false => rfl
    | true => exact absurd (h.mpr (pb_iff.mp e)) Bool.false_ne_true
/-- a row times a column, entry by entry -/
noncomputable def ways (R : Nat → Nat → Prop) (i j k : Nat) : List Bool := (List.range k).map fun v => pb (R i v ∧ R v j)
theorem ways_succ {R : Nat → Nat → Prop} {i j k : Nat} : ways R i j (k + 1) = ways R i j k ++ [pb (R i k ∧ R k j)] := by
  unfold ways
  rw [List.range_succ, List.map_append]; rfl
theorem ways_any {R : Nat → Nat → Prop} {i j n : Nat} : (ways R i j n).any id = true ↔ sqR n R i j := by
  unfold ways sqR
  rw [List.any_eq_true]
  constructor
  · rintro ⟨x, hx, e⟩
    obtain ⟨v, hv, rfl⟩ := List.mem_map.mp hx
    exact ⟨v, List.mem_range.mp hv, pb_iff.mp e⟩
  · rintro ⟨v, hv, h⟩
    exact ⟨_, List.mem_map.mpr ⟨v, List.mem_range.mpr hv, rfl⟩, pb_iff.mpr h⟩
theorem RowIs.get {n : Nat} {R : Nat → Prop} {bs : List Bool} (h : RowIs n R bs) {j : Nat} (hj : j < n) : ∃ b, bs[j]? = some b ∧ (b = true ↔ R j) := by
  have hl : j < bs.length := by rw [h.1]; exact hj
  refine ⟨bs[j], List.getElem?_eq_getElem hl, ?_⟩
  have := h.2 j hj
  rw [List.getElem?_eq_getElem hl] at this
  rw [← this]
  exact ⟨fun e => by rw [e], fun e => Option.some.inj e⟩
theorem RowIs.set {n : Nat} {R : Nat → Prop} {bs : List Bool} (h : RowIs n R bs) {k : Nat} (hk : k < n) : RowIs n (fun j => R j ∨ j = k) (bs.set k true) := by
  refine ⟨by rw [List.length_set, h.1], fun j hj => ?_⟩
  by_cases e : k = j
  · subst e
    rw [List.getElem?_set_self (by rw [h.1]; exact hk)]
    simp
  · rw [List.getElem?_set_ne e, h.2 j hj]
    exact ⟨fun q => .inl q, fun q => q.elim id fun q => absurd q.symm e⟩
theorem RowIs.congr {n : Nat} {R R' : Nat → Prop} {bs : List Bool} (h : RowIs n R bs) (hR : ∀ j, j < n → (R j ↔ R' j)) : RowIs n R' bs := ⟨h.1, fun j hj => (h.2 j hj).trans (hR j hj)⟩
def idRow (n i k : Nat) : List Bool := (List.range k).map fun j => decide (i = j)
theorem idRow_succ {n i k : Nat} : idRow n i (k + 1) = idRow n i k ++ [decide (i = k)] := by
  unfold idRow
  rw [List.range_succ, List.map_append]; rfl
theorem idRow_is {n i : Nat} : RowIs n (fun j => i = j) (idRow n i n) := by
  refine ⟨by rw [idRow, List.length_map, List.length_range], fun j hj => ?_⟩
  rw [idRow, List.getElem?_map, List.getElem?_range hj]
  simp
end
section
example : True := by
  k_with_none
  k_with "k_ne" => ((refine neN ?_; (try dsimp only); with_reducible first | assumption | exact Nat.ne_of_lt (by assumption) | exact Nat.ne_of_gt (by assumption) | exact neC1 (by assumption) | exact (neC1 (by assumption)).symm | exact neC2 (by assumption) | exact (neC2 (by assumption)).symm | exact neC3 (by assumption) | exact (neC3 (by assumption)).symm | exact neC4 (by assumption) | exact (neC4 (by assumption)).symm | exact neD2 (by assumption) | exact (neD2 (by assumption)).symm | exact neD3 (by assumption) | exact (neD3 (by assumption)).symm | exact neC5 (by assumption) | exact (neC5 (by assumption)).symm))
  k_with "ktr_room" => (first | decide | (refine' room_of (c := 1) ?wqh9 ?wqe9 ?wqk9; (case wqh9 => with_reducible assumption); (case wqe9 => exact rfl); (case wqk9 => decide)) | (refine' room_of (c := 0) ?wqh9 ?wqe9 ?wqk9; (case wqh9 => with_reducible assumption); (case wqe9 => exact rfl); (case wqk9 => decide)) | (refine' room_at (c := 0) ?wqh9 ?wqe9 ?wqk9; (case wqh9 => with_reducible assumption); (case wqe9 => exact rfl); (case wqk9 => decide)) | (refine' room_at (c := 1) ?wqh9 ?wqe9 ?wqk9; (case wqh9 => with_reducible assumption); (case wqe9 => exact rfl); (case wqk9 => decide)) | fail "room")
  k_with "ktr_units" => (first | decide | (refine' room_of (c := 3) ?wqh9 ?wqe9 ?wqk9; (case wqh9 => with_reducible assumption); (case wqe9 => exact rfl); (case wqk9 => decide)) | (refine' room_of (c := 0) ?wqh9 ?wqe9 ?wqk9; (case wqh9 => with_reducible assumption); (case wqe9 => exact rfl); (case wqk9 => decide)) | fail "units")
  k_with "exec For Name Attribute cons nil" => ((k_here; (with_reducible show wpAny _ _ (exec (Stmt.For _ _ _ [] _) _) _ _ _); with_unfolding_all refine For_any ?_))
  k_with "exec For Name Name cons nil" => ((k_here; (with_reducible show wpAny _ _ (exec (Stmt.For _ _ _ [] _) _) _ _ _); with_unfolding_all refine For_any ?_))
  k_with "exec For Name Call cons nil" => ((k_here; (with_reducible show wpAny _ _ (exec (Stmt.For _ _ _ [] _) _) _ _ _); with_unfolding_all refine For_any ?_))
  k_with "exec For Name Subscript cons nil" => ((k_here; (with_reducible show wpAny _ _ (exec (Stmt.For _ _ _ [] _) _) _ _ _); with_unfolding_all refine For_any ?_))
  k_with "exec For Name Tuple cons nil" => ((k_here; (with_reducible show wpAny _ _ (exec (Stmt.For _ _ _ [] _) _) _ _ _); with_unfolding_all refine For_any ?_))
  k_with "exec For Tuple Call cons nil" => ((k_here; (with_reducible show wpAny _ _ (exec (Stmt.For _ _ _ [] _) _) _ _ _); with_unfolding_all refine For_any ?_))
  k_with "exec For Tuple Name cons nil" => ((k_here; (with_reducible show wpAny _ _ (exec (Stmt.For _ _ _ [] _) _) _ _ _); with_unfolding_all refine For_any ?_))
  k_with "exec For Tuple Subscript cons nil" => ((k_here; (with_reducible show wpAny _ _ (exec (Stmt.For _ _ _ [] _) _) _ _ _); with_unfolding_all refine For_any ?_))
  k_with "LPost" => ((dsimp only [LPost]))
  k_with "call builtin:len" => ((k_here; (with_reducible show wpAny _ _ (call (Value.builtin "len") [Value.ref _]) _ _ _); k_dflt (refine' len_led ?wqk1 ?wqk2 ?wqk3 ?_; (case wqk1 => k_asm); (case wqk2 => k_mem); (case wqk3 => omega); k_whole)))
  k_with "subscriptTail" => ((k_here; (with_reducible show wpAny _ _ (subscriptTail _ _ (Value.ref _) (Value.int _ _)) _ _ _); (with_unfolding_all refine' item_led ?wqk1 ?wqk2 ?wqk3 ?wqk4 ?wqk5 ?_ ?wqk6; (case wqk1 => k_asm); (case wqk2 => k_mem); (case wqk5 => first | assumption | (simp only [Int.toNat_natCast]; assumption)); (case wqk3 => omega); (case wqk4 => omega); (case wqk6 => with_unfolding_all rfl); k_whole)))
  k_with "tb_start" => ((intro y hy; (try dsimp only); (simp only [List.contains_cons, List.contains_nil, Bool.or_false, Bool.or_eq_false_iff] at hy); (have hy2 := hy); (simp only [beq_eq_false_iff_ne, ne_eq] at hy2); (simp only [List.contains_cons, List.contains_nil, hy, hy2, Bool.or_false, Bool.false_eq_true, if_false])))
  k_with "eval ListComp" => ((k_here; k_dflt (refine LCg.ListComp_U (F₀ := by k_asm) (by with_unfolding_all rfl) (by decide) (by rfl) (by decide) (by rfl) ?_)))
  k_with "eval ListComp" => ((k_here; k_dflt (refine LCt.ListComp_T (F₀ := by k_asm) (by with_unfolding_all rfl) (by decide) (by rfl) (by decide) (by rfl) ?_)))
  k_with "k_mem" => (first | exact List.Mem.head _ | ktr_member | (refine' List.mem_cons_of_mem _ ?_; k_mem))
  k_with "setItem ref int" => ((k_here; (with_reducible show wpAny _ _ (setItem (Value.ref _) (Value.int _ _) _) _ _ _); k_dflt (refine' set_led ?wqk1 ?wqk2 ?wqk3 ?wqk5 ?wqk6 ?wqk7 ?_; (case wqk1 => k_asm); (case wqk2 => k_asm); (case wqk3 => k_upd); (case wqk5 => omega); (case wqk6 => first | assumption | omega | (simp only [List.length_replicate, List.length_set, Int.toNat_natCast] at *; omega)); (case wqk7 => omega); k_whole); intro _ _ _; (try k_sweep)))
  k_with "call builtin:list.pop" => ((k_here; (with_reducible show wpAny _ _ (call (Value.builtin _) [Value.ref _]) _ _ _); k_dflt (refine' pop_led ?wqk1 ?wqk2 ?wqk3 ?wqk4 ?_; (case wqk1 => k_asm); (case wqk2 => k_asm); (case wqk3 => k_upd); (case wqk4 => (first | (rw [sizeLine_eq]; omega) | size_fits)); k_whole); intro _ _ _; (try k_sweep)))
  k_with "truthy ref" => ((k_here; k_dflt (first | (refine' truth_nil ?wqk1 ?wqk2 ?_; (case wqk1 => k_asm); (case wqk2 => k_mem)) | (refine' truth_snoc ?wqk1 ?wqk2 ?wqk3 ?_; (case wqk1 => k_asm); (case wqk2 => k_mem); (case wqk3 => omega)))))
  k_with "binaryOp Mult ref int" => ((k_here; k_dflt (refine' mul_led ?wqk1 ?wqk2 ?wqk3 ?wqk4 ?wqk5 ?_; (case wqk1 => k_asm); (case wqk2 => k_asm); (case wqk3 => k_mem); (case wqk4 => omega); (case wqk5 => omega); k_whole); intro _ _ _ _ l1; (try k_lt l1); (have _ := l1); clear l1; (try k_sweep)))
  k_with "k_all" => (first | with_reducible assumption | (refine' List.forall_mem_cons.mpr ⟨?wqa, ?wqb⟩; (case wqa => k_ne); (case wqb => k_all)))
  k_with "exec While Name cons nil" => ((k_here; refine While_stop ?_))
  k_with "call builtin:list.append" => ((k_here; (with_reducible show wpAny _ _ (call (Value.builtin _) [Value.ref _, _]) _ _ _); k_dflt (refine' append_led ?wqk1 ?wqk2 ?wqk3 ?wqk4 ?_; (case wqk1 => k_asm); (case wqk2 => k_asm); (case wqk3 => k_upd); (case wqk4 => (rw [sizeLine_eq]; (try simp only [List.length_append, List.length_cons, List.length_nil]); omega)); k_whole); intro _ _ _; (try k_sweep)))
  k_with "WPost" => ((dsimp only [WPost]))
  k_with "tb_rel" => (first | assumption | (refine RuleIn.mono (by assumption) ?_; intro p hp; (repeat (first | exact hp | refine List.mem_cons_of_mem _ ?_))) | (refine FileIn.mono (by assumption) ?_; intro p hp; (repeat (first | exact hp | refine List.mem_cons_of_mem _ ?_))))
  k_with "lsm_bools" => (with_reducible assumption)
  k_with "kaf_pre" => (first | assumption | (refine List.mem_cons_of_mem _ ?_; (k_extra "kaf_pre")))
  k_with "kaf_suf" => (first | exact UpdF.head (by first | assumption | k_all) | (refine' UpdF.tail ?wqua7 ?wqub7; (case wqua7 => k_ne); (case wqub7 => (k_extra "kaf_suf"))))
  k_with "kat_tups" => ((intro p hp; (repeat (first | exact hp | refine List.mem_cons_of_mem _ ?_))))
  trivial
theorem newStep_spec : ∀ (news : Led) (x : Str) (t : Tok) (v : Value), Spec news 142 [.str x t, v] 4 60 (fun r news' => ∃ (a d : Addr) (k1 k2 : Int) (t1 t2 : Tok), r = .ref a ∧ news' = (a, instObj 142 d) :: (d, dictOf [⟨k1, .str "word" t1, .str x t⟩, ⟨k2, .str "worth" t2, v⟩] 2) :: news ∧ (∀ p ∈ news, p.1 < d) ∧ @LT.lt Nat _ d a) := by
  unfold Spec
  w_top off
  k_fill
  intro news x t v w p loose mean mg mb dp un gd cn cs a ccd cl outer A₀ base h₀ L m s Q E B F X N T hk hd hu hret
  k_dflt (refine' call_cls ?k1 ?k2 ?k3 ?k4 ?k5 ?k6 ?_; (case k1 => k_asm); (case k2 => k_asm); (case k3 => k_asm); (case k4 => k_is); (case k5 => k_is); (case k6 => k_is); k_whole)
  intro x' d' h' F' N' l1 l2
  (try k_lt2 l2)
  k_dflt (refine' code_def ?k1 ?k2 ?k3 ?k4 ?k5 ?kA ?kF ?kK ?k6 ?k7 ?k8 ?k9 ?kB ?_ ?c2 ?c3 ?c4 ?c5; (case kA => exact rfl); (case kF => exact rfl); (case kK => assumption); (case k1 => k_asm); (case k2 => k_asm); (case k3 => k_asm); (case k4 => k_asm); (case k5 => k_asm); (case k6 => k_is); (case k7 => k_is); (case k8 => ktr_room); (case k9 => first | exact BindsTo.of_eq rfl | exact binds_K (by k_in) rfl (by k_is) rfl rfl rfl); (case c5 => decide); (case kB => exact locs rfl); (case c2 => exact rfl); (case c3 => exact rfl); (case c4 => exact rfl); k_whole; intro g' L' h' FG' F' N' B' X' T'; (try dsimp only); (try k_fold))
  k_steps
  exact hret _ _ _ _ (by k_asm) (by k_asm) ⟨_, _, _, _, _, _, rfl, rfl, l1, l2⟩
theorem newRule_spec : ∀ (news : Led) (i line : Int) (t tl : Tok) (c sl : Addr), Spec news 201 [.int i t, .ref c, .none, .ref sl, .int line tl] 4 60 (fun r news' => ∃ (a d : Addr) (k1 k2 k3 k4 k5 : Int) (t1 t2 t3 t4 t5 : Tok), r = .ref a ∧
    news' = (a, instObj 201 d) :: (d, dictOf [⟨k1, .str "number" t1, .int i t⟩, ⟨k2, .str "conditions" t2, .ref c⟩, ⟨k3, .str "pattern" t3, .none⟩, ⟨k4, .str "steps" t4, .ref sl⟩, ⟨k5, .str "line" t5, .int line tl⟩] 5) :: news ∧ (∀ p ∈ news, p.1 < d) ∧ @LT.lt Nat _ d a) := by
  unfold Spec
  w_top off
  k_fill
  intro news i line t tl c sl w p loose mean mg mb dp un gd cn cs a ccd cl outer A₀ base h₀ L m s Q E B F X N T hk hd hu hret
  k_dflt (refine' call_cls ?k1 ?k2 ?k3 ?k4 ?k5 ?k6 ?_; (case k1 => k_asm); (case k2 => k_asm); (case k3 => k_asm); (case k4 => k_is); (case k5 => k_is); (case k6 => k_is); k_whole)
  intro x' d' h' F' N' l1 l2
  (try k_lt2 l2)
  k_dflt (refine' code_def ?k1 ?k2 ?k3 ?k4 ?k5 ?kA ?kF ?kK ?k6 ?k7 ?k8 ?k9 ?kB ?_ ?c2 ?c3 ?c4 ?c5; (case kA => exact rfl); (case kF => exact rfl); (case kK => assumption); (case k1 => k_asm); (case k2 => k_asm); (case k3 => k_asm); (case k4 => k_asm); (case k5 => k_asm); (case k6 => k_is); (case k7 => k_is); (case k8 => ktr_room); (case k9 => first | exact BindsTo.of_eq rfl | exact binds_K (by k_in) rfl (by k_is) rfl rfl rfl); (case c5 => decide); (case kB => exact locs rfl); (case c2 => exact rfl); (case c3 => exact rfl); (case c4 => exact rfl); k_whole; intro g' L' h' FG' F' N' B' X' T'; (try dsimp only); (try k_fold))
  k_steps
  exact hret _ _ _ _ (by k_asm) (by k_asm) ⟨_, _, _, _, _, _, _, _, _, _, _, _, rfl, rfl, l1, l2⟩
theorem newFile_spec : ∀ (news : Led) (dd ca ra : Addr), Spec news 256 [.ref dd, .ref ca, .ref ra] 4 60 (fun r news' => ∃ (a d : Addr) (k1 k2 k3 k4 k5 : Int) (t1 t2 t3 t4 t5 : Tok) (v4 v5 : Value), r = .ref a ∧
    news' = (a, instObj 256 d) :: (d, dictOf [⟨k1, .str "definitions" t1, .ref dd⟩, ⟨k2, .str "conditions" t2, .ref ca⟩, ⟨k3, .str "rules" t3, .ref ra⟩, ⟨k4, .str "has_default" t4, v4⟩, ⟨k5, .str "tail" t5, v5⟩] 5) :: news ∧ (∀ p ∈ news, p.1 < d) ∧ @LT.lt Nat _ d a) := by
  unfold Spec
  w_top off
  k_fill
  intro news dd ca ra w p loose mean mg mb dp un gd cn cs a ccd cl outer A₀ base h₀ L m s Q E B F X N T hk hd hu hret
  k_dflt (refine' call_cls ?k1 ?k2 ?k3 ?k4 ?k5 ?k6 ?_; (case k1 => k_asm); (case k2 => k_asm); (case k3 => k_asm); (case k4 => k_is); (case k5 => k_is); (case k6 => k_is); k_whole)
  intro x' d' h' F' N' l1 l2
  (try k_lt2 l2)
  k_dflt (refine' code_def ?k1 ?k2 ?k3 ?k4 ?k5 ?kA ?kF ?kK ?k6 ?k7 ?k8 ?k9 ?kB ?_ ?c2 ?c3 ?c4 ?c5; (case kA => exact rfl); (case kF => exact rfl); (case kK => assumption); (case k1 => k_asm); (case k2 => k_asm); (case k3 => k_asm); (case k4 => k_asm); (case k5 => k_asm); (case k6 => k_is); (case k7 => k_is); (case k8 => ktr_room); (case k9 => first | exact BindsTo.of_eq rfl | exact binds_K (by k_in) rfl (by k_is) rfl rfl rfl); (case c5 => decide); (case kB => exact locs rfl); (case c2 => exact rfl); (case c3 => exact rfl); (case c4 => exact rfl); k_whole; intro g' L' h' FG' F' N' B' X' T'; (try dsimp only); (try k_fold))
  k_steps
  exact hret _ _ _ _ (by k_asm) (by k_asm) ⟨_, _, _, _, _, _, _, _, _, _, _, _, _, _, rfl, rfl, l1, l2⟩
theorem tup_led {prog : Program} {w : World} {A : Around} {E : Value → Shared → Prop} {s : Shared} {h₀ : Heap} {L : Addr} {news : Led} {m : Str → Option Value} {l : Addr} {vs : List Value} {n : Nat} {Q : Value → Shared → Prop} (F : Fr h₀ L s.heap m) (N : News h₀ L s.heap news) (hm : (l, listOf vs.toArray n) ∈ news) (hz : vs.length ≤ sizeLine)
    (h : ∀ D h', Fr h₀ L h' m → News h₀ L h' ((D, tupOf vs.toArray 0) :: news) → (∀ p ∈ news, p.1 < D) → Q (.ref D) { s with heap := h' }) : wpAny (model prog w) A (call (.type "tuple") [.ref l]) Q E s := by
  have hl : s.heap.IsList l vs.toArray := ⟨_, (N _ hm).1, rfl, n, rfl⟩
  refine call_tuple_list hl (fun h' hk => ?_) (by rw [List.size_toArray]; exact hz)
  have F1 := F.keeps hk
  have N1 := N.grown hk
  refine h h'.objs.size _ (F1.push _) ?_ fun p hp => Heap.lt_size (N1 p hp).1
  intro p hp
  rcases List.mem_cons.mp hp with rfl | hp
  · exact ⟨Heap.get?_push_size _ rfl, Nat.ne_of_gt F1.ns.lt, next_is_new F1⟩
  · exact ⟨Heap.get?_push_of_some _ (N1 p hp).1, (N1 p hp).2⟩
theorem slice_take {vs : List Value} {i : Nat} (h : i ≤ vs.length) : (slicePick vs.toArray none (some (i : Int)) none).toList = vs.take i := by
  have e : sliceBounds none (some (i : Int)) none vs.toArray.size = (((0 : Nat) : Int), ((i : Nat) : Int), 1) := by
    have hs : vs.toArray.size = vs.length := List.size_toArray ..
    rw [hs]
    unfold sliceBounds
    simp
    omega
  rw [kmk_pick_nat vs.toArray e]
  simp
end
section
example : True := by
  k_with_none
  k_with "k_ne" => ((refine neN ?_; (try dsimp only); with_reducible first | assumption | exact Nat.ne_of_lt (by assumption) | exact Nat.ne_of_gt (by assumption) | exact neC1 (by assumption) | exact (neC1 (by assumption)).symm | exact neC2 (by assumption) | exact (neC2 (by assumption)).symm | exact neC3 (by assumption) | exact (neC3 (by assumption)).symm | exact neC4 (by assumption) | exact (neC4 (by assumption)).symm | exact neD2 (by assumption) | exact (neD2 (by assumption)).symm | exact neD3 (by assumption) | exact (neD3 (by assumption)).symm | exact neC5 (by assumption) | exact (neC5 (by assumption)).symm))
  k_with "ktr_room" => (first | decide | (refine' room_of (c := 1) ?wqh9 ?wqe9 ?wqk9; (case wqh9 => with_reducible assumption); (case wqe9 => exact rfl); (case wqk9 => decide)) | (refine' room_of (c := 0) ?wqh9 ?wqe9 ?wqk9; (case wqh9 => with_reducible assumption); (case wqe9 => exact rfl); (case wqk9 => decide)) | (refine' room_at (c := 0) ?wqh9 ?wqe9 ?wqk9; (case wqh9 => with_reducible assumption); (case wqe9 => exact rfl); (case wqk9 => decide)) | (refine' room_at (c := 1) ?wqh9 ?wqe9 ?wqk9; (case wqh9 => with_reducible assumption); (case wqe9 => exact rfl); (case wqk9 => decide)) | fail "room")
  k_with "ktr_units" => (first | decide | (refine' room_of (c := 3) ?wqh9 ?wqe9 ?wqk9; (case wqh9 => with_reducible assumption); (case wqe9 => exact rfl); (case wqk9 => decide)) | (refine' room_of (c := 0) ?wqh9 ?wqe9 ?wqk9; (case wqh9 => with_reducible assumption); (case wqe9 => exact rfl); (case wqk9 => decide)) | fail "units")
  k_with "exec For Name Attribute cons nil" => ((k_here; (with_reducible show wpAny _ _ (exec (Stmt.For _ _ _ [] _) _) _ _ _); with_unfolding_all refine For_any ?_))
  k_with "exec For Name Name cons nil" => ((k_here; (with_reducible show wpAny _ _ (exec (Stmt.For _ _ _ [] _) _) _ _ _); with_unfolding_all refine For_any ?_))
  k_with "exec For Name Call cons nil" => ((k_here; (with_reducible show wpAny _ _ (exec (Stmt.For _ _ _ [] _) _) _ _ _); with_unfolding_all refine For_any ?_))
  k_with "exec For Name Subscript cons nil" => ((k_here; (with_reducible show wpAny _ _ (exec (Stmt.For _ _ _ [] _) _) _ _ _); with_unfolding_all refine For_any ?_))
  k_with "exec For Name Tuple cons nil" => ((k_here; (with_reducible show wpAny _ _ (exec (Stmt.For _ _ _ [] _) _) _ _ _); with_unfolding_all refine For_any ?_))
  k_with "exec For Tuple Call cons nil" => ((k_here; (with_reducible show wpAny _ _ (exec (Stmt.For _ _ _ [] _) _) _ _ _); with_unfolding_all refine For_any ?_))
  k_with "exec For Tuple Name cons nil" => ((k_here; (with_reducible show wpAny _ _ (exec (Stmt.For _ _ _ [] _) _) _ _ _); with_unfolding_all refine For_any ?_))
  k_with "exec For Tuple Subscript cons nil" => ((k_here; (with_reducible show wpAny _ _ (exec (Stmt.For _ _ _ [] _) _) _ _ _); with_unfolding_all refine For_any ?_))
  k_with "LPost" => ((dsimp only [LPost]))
  k_with "call builtin:len" => ((k_here; (with_reducible show wpAny _ _ (call (Value.builtin "len") [Value.ref _]) _ _ _); k_dflt (refine' len_led ?wqk1 ?wqk2 ?wqk3 ?_; (case wqk1 => k_asm); (case wqk2 => k_mem); (case wqk3 => omega); k_whole)))
  k_with "subscriptTail" => ((k_here; (with_reducible show wpAny _ _ (subscriptTail _ _ (Value.ref _) (Value.int _ _)) _ _ _); (with_unfolding_all refine' item_led ?wqk1 ?wqk2 ?wqk3 ?wqk4 ?wqk5 ?_ ?wqk6; (case wqk1 => k_asm); (case wqk2 => k_mem); (case wqk5 => first | assumption | (simp only [Int.toNat_natCast]; assumption)); (case wqk3 => omega); (case wqk4 => omega); (case wqk6 => with_unfolding_all rfl); k_whole)))
  k_with "tb_start" => ((intro y hy; (try dsimp only); (simp only [List.contains_cons, List.contains_nil, Bool.or_false, Bool.or_eq_false_iff] at hy); (have hy2 := hy); (simp only [beq_eq_false_iff_ne, ne_eq] at hy2); (simp only [List.contains_cons, List.contains_nil, hy, hy2, Bool.or_false, Bool.false_eq_true, if_false])))
  k_with "eval ListComp" => ((k_here; k_dflt (refine LCg.ListComp_U (F₀ := by k_asm) (by with_unfolding_all rfl) (by decide) (by rfl) (by decide) (by rfl) ?_)))
  k_with "eval ListComp" => ((k_here; k_dflt (refine LCt.ListComp_T (F₀ := by k_asm) (by with_unfolding_all rfl) (by decide) (by rfl) (by decide) (by rfl) ?_)))
  k_with "k_mem" => (first | exact List.Mem.head _ | ktr_member | (refine' List.mem_cons_of_mem _ ?_; k_mem))
  k_with "setItem ref int" => ((k_here; (with_reducible show wpAny _ _ (setItem (Value.ref _) (Value.int _ _) _) _ _ _); k_dflt (refine' set_led ?wqk1 ?wqk2 ?wqk3 ?wqk5 ?wqk6 ?wqk7 ?_; (case wqk1 => k_asm); (case wqk2 => k_asm); (case wqk3 => k_upd); (case wqk5 => omega); (case wqk6 => first | assumption | omega | (simp only [List.length_replicate, List.length_set, Int.toNat_natCast] at *; omega)); (case wqk7 => omega); k_whole); intro _ _ _; (try k_sweep)))
  k_with "call builtin:list.pop" => ((k_here; (with_reducible show wpAny _ _ (call (Value.builtin _) [Value.ref _]) _ _ _); k_dflt (refine' pop_led ?wqk1 ?wqk2 ?wqk3 ?wqk4 ?_; (case wqk1 => k_asm); (case wqk2 => k_asm); (case wqk3 => k_upd); (case wqk4 => (first | (rw [sizeLine_eq]; omega) | size_fits)); k_whole); intro _ _ _; (try k_sweep)))
  k_with "truthy ref" => ((k_here; k_dflt (first | (refine' truth_nil ?wqk1 ?wqk2 ?_; (case wqk1 => k_asm); (case wqk2 => k_mem)) | (refine' truth_snoc ?wqk1 ?wqk2 ?wqk3 ?_; (case wqk1 => k_asm); (case wqk2 => k_mem); (case wqk3 => omega)))))
  k_with "binaryOp Mult ref int" => ((k_here; k_dflt (refine' mul_led ?wqk1 ?wqk2 ?wqk3 ?wqk4 ?wqk5 ?_; (case wqk1 => k_asm); (case wqk2 => k_asm); (case wqk3 => k_mem); (case wqk4 => omega); (case wqk5 => omega); k_whole); intro _ _ _ _ l1; (try k_lt l1); (have _ := l1); clear l1; (try k_sweep)))
  k_with "k_all" => (first | with_reducible assumption | (refine' List.forall_mem_cons.mpr ⟨?wqa, ?wqb⟩; (case wqa => k_ne); (case wqb => k_all)))
  k_with "exec While Name cons nil" => ((k_here; refine While_stop ?_))
  k_with "call builtin:list.append" => ((k_here; (with_reducible show wpAny _ _ (call (Value.builtin _) [Value.ref _, _]) _ _ _); k_dflt (refine' append_led ?wqk1 ?wqk2 ?wqk3 ?wqk4 ?_; (case wqk1 => k_asm); (case wqk2 => k_asm); (case wqk3 => k_upd); (case wqk4 => (rw [sizeLine_eq]; (try simp only [List.length_append, List.length_cons, List.length_nil]); omega)); k_whole); intro _ _ _; (try k_sweep)))
  k_with "WPost" => ((dsimp only [WPost]))
  k_with "tb_rel" => (first | assumption | (refine RuleIn.mono (by assumption) ?_; intro p hp; (repeat (first | exact hp | refine List.mem_cons_of_mem _ ?_))) | (refine FileIn.mono (by assumption) ?_; intro p hp; (repeat (first | exact hp | refine List.mem_cons_of_mem _ ?_))))
  k_with "lsm_bools" => (with_reducible assumption)
  k_with "kaf_pre" => (first | assumption | (refine List.mem_cons_of_mem _ ?_; (k_extra "kaf_pre")))
  k_with "kaf_suf" => (first | exact UpdF.head (by first | assumption | k_all) | (refine' UpdF.tail ?wqua7 ?wqub7; (case wqua7 => k_ne); (case wqub7 => (k_extra "kaf_suf"))))
  k_with "kat_tups" => ((intro p hp; (repeat (first | exact hp | refine List.mem_cons_of_mem _ ?_))))
  trivial

example : True := by
  k_with "call ref" => ((k_here; (with_reducible show wpAny _ _ (call (Value.ref 167) _) _ _ _); k_dflt (refine' Spec.use (is_end_spec _ _ _ ?wqhR) ?wqk1 ?wqk2 ?wqk3 ?wqk4 ?wqk5 ?wqk6 ?wqk7 ?wqk8 ?_; (case wqk1 => k_asm); (case wqk2 => k_asm); (case wqk3 => k_asm); (case wqk4 => k_asm); (case wqk5 => k_asm); (case wqk6 => first | exact rfl | assumption); (case wqhR => (k_extra "tb_rel")); (case wqk7 => ktr_room); (case wqk8 => ktr_units); k_whole); intro _ _ _ _ _ _ P9; obtain ⟨e8, e9⟩ := P9; subst e8; subst e9))
  k_with "call ref" => ((k_here; (with_reducible show wpAny _ _ (call (Value.ref 174) _) _ _ _); k_dflt (refine' Spec.use (is_live_spec _ _ _ _ _ ?wqhR) ?wqk1 ?wqk2 ?wqk3 ?wqk4 ?wqk5 ?wqk6 ?wqk7 ?wqk8 ?_; (case wqk1 => k_asm); (case wqk2 => k_asm); (case wqk3 => k_asm); (case wqk4 => k_asm); (case wqk5 => k_asm); (case wqk6 => first | exact rfl | assumption); (case wqhR => (k_extra "tb_rel")); (case wqk7 => ktr_room); (case wqk8 => ktr_units); k_whole); intro _ _ _ _ _ _ P9; obtain ⟨e8, e9⟩ := P9; subst e8; subst e9))
  trivial

def liveAt (c : Int) (R : RuleD) : Bool := R.conds.any (· == c)

theorem end_rule_spec : ∀ (news : Led) (v : Value) (D : FileD) (c : Int) (t : Tok), FileIn news v D → (D.rules.any (liveAt c)) = true →
    Spec news 248 [v, .int c t] 2 16 (fun r news' => (∃ R, D.rules.find? (liveAt c) = some R ∧ RuleIn news r R) ∧ news = news') := by
  unfold Spec
  w_top off
  k_fill
  intro news v D c t hD hany w p loose mean mg mb dp un gd cn cs a ccd cl outer A₀ base h₀ L m s Q E B F X N T hk hd hu hret
  cases hD with
  | @mk f d ca ra k1 k2 k3 k4 k5 t1 t2 t3 t4 t5 v1 v4 v5 cvs rvs nc nr conds rules a1 a2 a3 a4 a5 a6 a7 a8 =>
  refine wpAny_call ?_
  k_dflt ktr_enter
  refine hideA ?_; intro Ak
  rename Fr _ _ _ _ => lF0; refine letM lF0 ?_; clear lF0; intro m0 F0
  k_steps
  rename Fr _ _ _ _ => lF
  rename News _ _ _ _ => lN
  refine over_list (σ := Unit) (adr := []) (r₀ := news) (fun _ => []) [Str.ofString "rule"] (fun i _ _ _ => ∀ (j : Nat) (R : RuleD), j < i → rules[j]? = some R → liveAt c R = false) () rfl a5 (fun _ => rfl) (fun _ _ h => nomatch h) lF lN (fun j d h => absurd h (Nat.not_lt_zero _)) ?turn ?done
  case turn =>
    intro i v c1 tl u h tk rest hv hi hr ht hne hJ F' N'
    dsimp only [List.nil_append] at N'
    obtain ⟨R, hst, hS0⟩ := a6.get hv
    have hS := hS0.mono hr
    have hS2 := hS
    clear lF lN
    cases hS with
    | mk b1 b2 b3 b4 b5 b6 b7 b8 =>
    k_steps
    · exact hret _ _ _ _ (by k_asm) (cb_drop (by k_asm) hr) ⟨⟨_, find_at hst (by assumption) hJ, hS0⟩, rfl⟩
    · exact LEnd.intro () [] (by k_asm) (by k_asm) (fun p hp => hp) (fun _ h => nomatch h) (fun _ h => nomatch h) (by (k_extra "tb_start")) (upto_succ hst (by assumption) hJ)
  case done =>
    intro c1 tl u h tk hJ ht F' N'
    dsimp only [List.nil_append] at N'
    clear lF lN
    exfalso
    rw [List.any_eq_true] at hany
    obtain ⟨R, hR, e⟩ := hany
    obtain ⟨j, hj, e2⟩ := List.mem_iff_getElem.mp hR
    have := hJ j R (by rw [a6.1]; exact hj) (by rw [List.getElem?_eq_getElem hj, e2])
    rw [e] at this
    cases this

def hasWord (x : Str) (d : StepD) : Bool := d.word == x

theorem has_step_spec : ∀ (news : Led) (v : Value) (R : RuleD) (x : Str) (t : Tok), RuleIn news v R → Spec news 181 [v, .str x t] 1 8 (fun r news' => r = .bool (R.steps.any (hasWord x)) ∧ news = news') := by
  unfold Spec
  w_top off
  k_fill
  intro news v R x t hR w p loose mean mg mb dp un gd cn cs a ccd cl outer A₀ base h₀ L m s Q E B F X N T hk hd hu hret
  cases hR with
  | @mk r d c sl k1 k2 k3 k4 k5 t1 t2 t3 t4 t5 tn tl number line conds steps vc vs nc ns a1 a2 a3 a4 a5 a6 a7 a8 =>
  refine wpAny_call ?_
  k_dflt ktr_enter
  refine hideA ?_; intro Ak
  rename Fr _ _ _ _ => lF0; refine letM lF0 ?_; clear lF0; intro m0 F0
  k_steps
  rename Fr _ _ _ _ => lF
  rename News _ _ _ _ => lN
  refine over_list (σ := Unit) (adr := []) (r₀ := news) (fun _ => []) [Str.ofString "step"] (fun i _ _ _ => ∀ (j : Nat) (d : StepD), j < i → steps[j]? = some d → hasWord x d = false) () rfl a5 (fun _ => rfl) (fun _ _ h => nomatch h) lF lN (fun j d h => absurd h (Nat.not_lt_zero _)) ?turn ?done
  case turn =>
    intro i v c tl u h tk rest hv hi hr ht hne hJ F' N'
    dsimp only [List.nil_append] at N'
    obtain ⟨st, hst, hS⟩ := a6.get hv
    replace hS := hS.mono hr
    clear lF lN
    cases hS with
    | mk b1 b2 b3 =>
    k_steps
    · refine hret _ _ _ _ (by k_asm) (cb_drop (by k_asm) hr) ⟨?_, rfl⟩
      have : steps.any (hasWord x) = true := List.any_eq_true.mpr ⟨_, List.mem_of_getElem? hst, by assumption⟩
      rw [this]
    · exact LEnd.intro () [] (by k_asm) (by k_asm) (fun p hp => hp) (fun _ h => nomatch h) (fun _ h => nomatch h) (by (k_extra "tb_start")) (upto_succ hst (by assumption) hJ)
  case done =>
    intro c tl u h tk hJ ht F' N'
    dsimp only [List.nil_append] at N'
    clear lF lN
    k_steps
    refine hret _ _ _ _ (by k_asm) (cb_drop (by k_asm) fun p hp => List.mem_append.mpr (.inr hp)) ⟨?_, rfl⟩
    have : steps.any (hasWord x) = false := by
      rw [List.any_eq_false]
      intro y hy
      obtain ⟨j, hj, e⟩ := List.mem_iff_getElem.mp hy
      have := hJ j y (by rw [a6.1]; exact hj) (by rw [List.getElem?_eq_getElem hj, e])
      simp [this]
    rw [this]

-- begin and push
def isGoal (d : StepD) : Bool := d.word == Str.ofString "begin" || d.word == Str.ofString "push"

theorem goals_spec : ∀ (news : Led) (v : Value) (R : RuleD), RuleIn news v R → Spec news 193 [v] 2 16 (fun r news' => ∃ g ws, r = .ref g ∧ news' = (g, listOf ws.toArray ws.length) :: news ∧ (∀ q ∈ news, q.1 ≠ g) ∧ AllIn WorthIs ws ((R.steps.filter isGoal).map (·.worth))) := by
  unfold Spec
  w_top off
  k_fill
  intro news v R hR w p loose mean mg mb dp un gd cn cs a ccd cl outer A₀ base h₀ L m s Q E B F X N T hk hd hu hret
  cases hR with
  | @mk r d c sl k1 k2 k3 k4 k5 t1 t2 t3 t4 t5 tn tl number line conds steps vc vs nc ns a1 a2 a3 a4 a5 a6 a7 a8 =>
  refine wpAny_call ?_
  k_dflt ktr_enter
  refine hideA ?_; intro Ak
  rename Fr _ _ _ _ => lF0; refine letM lF0 ?_; clear lF0; intro m0 F0
  k_steps
  refine LCt.CompSrcT.ledger rfl (by k_asm) (by k_asm) a5 (by rw [sizeLine_eq, List.size_toArray]; omega) (fun g => ?_)
  refine restT_of (n := vs.length) (fun i ys nw => nw = news ∧ AllIn WorthIs ys (((steps.take i).filter isGoal).map (·.worth))) ?step ?fin _ 0 [] news (by simp) ⟨rfl, rfl, fun i v d h => by simp at h⟩
  case step =>
    rintro i ys nw hi ⟨rfl, hJ⟩ v I oI C oC D m₂ h9 tk9 E9 hP hC hx F9 N9 o1 o2
    obtain ⟨st, hst, hS⟩ := a6.get (show vs[i]? = some v by simpa using hP)
    have hyes : isGoal st = true → ∀ y, WorthIs y st.worth → AllIn WorthIs (ys ++ [y]) (((steps.take (i + 1)).filter isGoal).map (·.worth)) := by
      intro hg y hy
      rw [take_snoc hst, List.filter_append, List.map_append, show [st].filter isGoal = [st] by simp [hg]]
      exact hJ.snoc hy
    have hno : isGoal st = false → AllIn WorthIs ys (((steps.take (i + 1)).filter isGoal).map (·.worth)) := by
      intro hg
      rw [take_snoc hst, List.filter_append, List.map_append, show [st].filter isGoal = [] by simp [hg]]
      simpa using hJ
    cases hS with
    | mk b1 b2 b3 =>
    cases b3
    all_goals k_steps
    all_goals refine LCg.CompEnd.intro (by k_asm) (by k_asm) _ (fun p hp => hp) o1 (.inr ⟨_, a5, rfl, _, rfl⟩) ⟨rfl, ?_⟩
    all_goals first
      | exact hyes (by simp_all [isGoal]) _ (by first | exact .none | exact .str _ _)
      | exact hno (by simp_all [isGoal])
  case fin =>
    rintro ys nw ⟨rfl, hJ⟩ D h9 tk9 F9 N9 o9
    k_steps
    rw [show steps.take vs.length = steps from List.take_of_length_le (Nat.le_of_eq a6.1.symm)] at hJ
    exact hret _ _ _ _ (by k_asm) (by k_asm) ⟨_, _, rfl, rfl, off1_mem o9, hJ⟩
end
section
example : True := by
  k_with_none
  k_with "k_ne" => ((refine neN ?_; (try dsimp only); with_reducible first | assumption | exact Nat.ne_of_lt (by assumption) | exact Nat.ne_of_gt (by assumption) | exact neC1 (by assumption) | exact (neC1 (by assumption)).symm | exact neC2 (by assumption) | exact (neC2 (by assumption)).symm | exact neC3 (by assumption) | exact (neC3 (by assumption)).symm | exact neC4 (by assumption) | exact (neC4 (by assumption)).symm | exact neD2 (by assumption) | exact (neD2 (by assumption)).symm | exact neD3 (by assumption) | exact (neD3 (by assumption)).symm | exact neC5 (by assumption) | exact (neC5 (by assumption)).symm))
  k_with "ktr_room" => (first | decide | (refine' room_of (c := 1) ?wqh9 ?wqe9 ?wqk9; (case wqh9 => with_reducible assumption); (case wqe9 => exact rfl); (case wqk9 => decide)) | (refine' room_of (c := 0) ?wqh9 ?wqe9 ?wqk9; (case wqh9 => with_reducible assumption); (case wqe9 => exact rfl); (case wqk9 => decide)) | (refine' room_at (c := 0) ?wqh9 ?wqe9 ?wqk9; (case wqh9 => with_reducible assumption); (case wqe9 => exact rfl); (case wqk9 => decide)) | (refine' room_at (c := 1) ?wqh9 ?wqe9 ?wqk9; (case wqh9 => with_reducible assumption); (case wqe9 => exact rfl); (case wqk9 => decide)) | fail "room")
  k_with "ktr_units" => (first | decide | (refine' room_of (c := 3) ?wqh9 ?wqe9 ?wqk9; (case wqh9 => with_reducible assumption); (case wqe9 => exact rfl); (case wqk9 => decide)) | (refine' room_of (c := 0) ?wqh9 ?wqe9 ?wqk9; (case wqh9 => with_reducible assumption); (case wqe9 => exact rfl); (case wqk9 => decide)) | fail "units")
  k_with "exec For Name Attribute cons nil" => ((k_here; (with_reducible show wpAny _ _ (exec (Stmt.For _ _ _ [] _) _) _ _ _); with_unfolding_all refine For_any ?_))
  k_with "exec For Name Name cons nil" => ((k_here; (with_reducible show wpAny _ _ (exec (Stmt.For _ _ _ [] _) _) _ _ _); with_unfolding_all refine For_any ?_))
  k_with "exec For Name Call cons nil" => ((k_here; (with_reducible show wpAny _ _ (exec (Stmt.For _ _ _ [] _) _) _ _ _); with_unfolding_all refine For_any ?_))
  k_with "exec For Name Subscript cons nil" => ((k_here; (with_reducible show wpAny _ _ (exec (Stmt.For _ _ _ [] _) _) _ _ _); with_unfolding_all refine For_any ?_))
  k_with "exec For Name Tuple cons nil" => ((k_here; (with_reducible show wpAny _ _ (exec (Stmt.For _ _ _ [] _) _) _ _ _); with_unfolding_all refine For_any ?_))
  k_with "exec For Tuple Call cons nil" => ((k_here; (with_reducible show wpAny _ _ (exec (Stmt.For _ _ _ [] _) _) _ _ _); with_unfolding_all refine For_any ?_))
  k_with "exec For Tuple Name cons nil" => ((k_here; (with_reducible show wpAny _ _ (exec (Stmt.For _ _ _ [] _) _) _ _ _); with_unfolding_all refine For_any ?_))
  k_with "exec For Tuple Subscript cons nil" => ((k_here; (with_reducible show wpAny _ _ (exec (Stmt.For _ _ _ [] _) _) _ _ _); with_unfolding_all refine For_any ?_))
  k_with "LPost" => ((dsimp only [LPost]))
  k_with "call builtin:len" => ((k_here; (with_reducible show wpAny _ _ (call (Value.builtin "len") [Value.ref _]) _ _ _); k_dflt (refine' len_led ?wqk1 ?wqk2 ?wqk3 ?_; (case wqk1 => k_asm); (case wqk2 => k_mem); (case wqk3 => omega); k_whole)))
  k_with "subscriptTail" => ((k_here; (with_reducible show wpAny _ _ (subscriptTail _ _ (Value.ref _) (Value.int _ _)) _ _ _); (with_unfolding_all refine' item_led ?wqk1 ?wqk2 ?wqk3 ?wqk4 ?wqk5 ?_ ?wqk6; (case wqk1 => k_asm); (case wqk2 => k_mem); (case wqk5 => first | assumption | (simp only [Int.toNat_natCast]; assumption)); (case wqk3 => omega); (case wqk4 => omega); (case wqk6 => with_unfolding_all rfl); k_whole)))
  k_with "tb_start" => ((intro y hy; (try dsimp only); (simp only [List.contains_cons, List.contains_nil, Bool.or_false, Bool.or_eq_false_iff] at hy); (have hy2 := hy); (simp only [beq_eq_false_iff_ne, ne_eq] at hy2); (simp only [List.contains_cons, List.contains_nil, hy, hy2, Bool.or_false, Bool.false_eq_true, if_false])))
  k_with "eval ListComp" => ((k_here; k_dflt (refine LCg.ListComp_U (F₀ := by k_asm) (by with_unfolding_all rfl) (by decide) (by rfl) (by decide) (by rfl) ?_)))
  k_with "eval ListComp" => ((k_here; k_dflt (refine LCt.ListComp_T (F₀ := by k_asm) (by with_unfolding_all rfl) (by decide) (by rfl) (by decide) (by rfl) ?_)))
  k_with "k_mem" => (first | exact List.Mem.head _ | ktr_member | (refine' List.mem_cons_of_mem _ ?_; k_mem))
  k_with "setItem ref int" => ((k_here; (with_reducible show wpAny _ _ (setItem (Value.ref _) (Value.int _ _) _) _ _ _); k_dflt (refine' set_led ?wqk1 ?wqk2 ?wqk3 ?wqk5 ?wqk6 ?wqk7 ?_; (case wqk1 => k_asm); (case wqk2 => k_asm); (case wqk3 => k_upd); (case wqk5 => omega); (case wqk6 => first | assumption | omega | (simp only [List.length_replicate, List.length_set, Int.toNat_natCast] at *; omega)); (case wqk7 => omega); k_whole); intro _ _ _; (try k_sweep)))
  k_with "call builtin:list.pop" => ((k_here; (with_reducible show wpAny _ _ (call (Value.builtin _) [Value.ref _]) _ _ _); k_dflt (refine' pop_led ?wqk1 ?wqk2 ?wqk3 ?wqk4 ?_; (case wqk1 => k_asm); (case wqk2 => k_asm); (case wqk3 => k_upd); (case wqk4 => (first | (rw [sizeLine_eq]; omega) | size_fits)); k_whole); intro _ _ _; (try k_sweep)))
  k_with "truthy ref" => ((k_here; k_dflt (first | (refine' truth_nil ?wqk1 ?wqk2 ?_; (case wqk1 => k_asm); (case wqk2 => k_mem)) | (refine' truth_snoc ?wqk1 ?wqk2 ?wqk3 ?_; (case wqk1 => k_asm); (case wqk2 => k_mem); (case wqk3 => omega)))))
  k_with "binaryOp Mult ref int" => ((k_here; k_dflt (refine' mul_led ?wqk1 ?wqk2 ?wqk3 ?wqk4 ?wqk5 ?_; (case wqk1 => k_asm); (case wqk2 => k_asm); (case wqk3 => k_mem); (case wqk4 => omega); (case wqk5 => omega); k_whole); intro _ _ _ _ l1; (try k_lt l1); (have _ := l1); clear l1; (try k_sweep)))
  k_with "k_all" => (first | with_reducible assumption | (refine' List.forall_mem_cons.mpr ⟨?wqa, ?wqb⟩; (case wqa => k_ne); (case wqb => k_all)))
  k_with "exec While Name cons nil" => ((k_here; refine While_stop ?_))
  k_with "call builtin:list.append" => ((k_here; (with_reducible show wpAny _ _ (call (Value.builtin _) [Value.ref _, _]) _ _ _); k_dflt (refine' append_led ?wqk1 ?wqk2 ?wqk3 ?wqk4 ?_; (case wqk1 => k_asm); (case wqk2 => k_asm); (case wqk3 => k_upd); (case wqk4 => (rw [sizeLine_eq]; (try simp only [List.length_append, List.length_cons, List.length_nil]); omega)); k_whole); intro _ _ _; (try k_sweep)))
  k_with "WPost" => ((dsimp only [WPost]))
  k_with "tb_rel" => (first | assumption | (refine RuleIn.mono (by assumption) ?_; intro p hp; (repeat (first | exact hp | refine List.mem_cons_of_mem _ ?_))) | (refine FileIn.mono (by assumption) ?_; intro p hp; (repeat (first | exact hp | refine List.mem_cons_of_mem _ ?_))))
  k_with "lsm_bools" => (with_reducible assumption)
  k_with "kaf_pre" => (first | assumption | (refine List.mem_cons_of_mem _ ?_; (k_extra "kaf_pre")))
  k_with "kaf_suf" => (first | exact UpdF.head (by first | assumption | k_all) | (refine' UpdF.tail ?wqua7 ?wqub7; (case wqua7 => k_ne); (case wqub7 => (k_extra "kaf_suf"))))
  k_with "kat_tups" => ((intro p hp; (repeat (first | exact hp | refine List.mem_cons_of_mem _ ?_))))
  trivial
-- the plain law of entered: a walk by a stack finds what is reached
section
variable {rules : List RuleD} {G : RuleD → List Nat}

inductive Reach (rules : List RuleD) (G : RuleD → List Nat) : Nat → Prop
  | zero : Reach rules G 0
  | step {c g : Nat} {R : RuleD} : Reach rules G c → R ∈ rules → R.conds.any (· == (c : Int)) = true → g ∈ G R → Reach rules G g

structure Dfs (rules : List RuleD) (G : RuleD → List Nat) (n : Nat) (bs : List Bool) (ks : List Nat) : Prop where
  len : bs.length = n
  seen : ∀ k ∈ ks, bs[k]? = some true
  sound : ∀ k : Nat, bs[k]? = some true → Reach rules G k
  zero : bs[0]? = some true
  closed : ∀ c : Nat, bs[c]? = some true → c ∉ ks → ∀ R ∈ rules, R.conds.any (· == (c : Int)) = true → ∀ g ∈ G R, bs[g]? = some true

structure DfsIn (rules : List RuleD) (G : RuleD → List Nat) (n : Nat) (bs : List Bool) (ks : List Nat) (c i : Nat) (dn : List Nat) : Prop where
  len : bs.length = n
  seen : ∀ k ∈ ks, bs[k]? = some true
  sound : ∀ k : Nat, bs[k]? = some true → Reach rules G k
  zero : bs[0]? = some true
  cur : bs[c]? = some true
  closed : ∀ c' : Nat, bs[c']? = some true → c' ∉ ks → c' ≠ c → ∀ R ∈ rules, R.conds.any (· == (c' : Int)) = true → ∀ g ∈ G R, bs[g]? = some true
  part : ∀ (j : Nat) (R : RuleD), j < i → rules[j]? = some R → R.conds.any (· == (c : Int)) = true → ∀ g ∈ G R, bs[g]? = some true
  now : ∀ g ∈ dn, bs[g]? = some true

theorem set_true {bs : List Bool} {g k : Nat} (h : bs[k]? = some true) : (bs.set g true)[k]? = some true := by
  rw [List.getElem?_set]
  split
  · rename_i e
    subst e
    have : g < bs.length := (List.getElem?_eq_some_iff.mp h).1
    simp [this]
  · exact h
theorem set_self {bs : List Bool} {g : Nat} {b : Bool} (h : bs[g]? = some b) : (bs.set g true)[g]? = some true := by
  have : g < bs.length := (List.getElem?_eq_some_iff.mp h).1
  simp [this]
theorem set_cases {bs : List Bool} {g k : Nat} (h : (bs.set g true)[k]? = some true) : k = g ∨ bs[k]? = some true := by
  rw [List.getElem?_set] at h
  split at h
  · rename_i e; exact .inl e.symm
  · exact .inr h

theorem dfs_start {n : Nat} (hn : 1 ≤ n) : Dfs rules G n ((List.replicate n false).set 0 true) [0] := by
  have h0 : ((List.replicate n false).set 0 true)[0]? = some true := set_self (b := false) (by rw [List.getElem?_replicate, if_pos (by omega)])
  have only : ∀ k : Nat, ((List.replicate n false).set 0 true)[k]? = some true → k = 0 := by
    intro k hk
    rcases set_cases hk with e | e
    · exact e
    · rw [List.getElem?_replicate] at e
      split at e <;> simp at e
  refine ⟨by simp, ?_, ?_, h0, ?_⟩
  · intro k hk
    rw [List.mem_singleton.mp hk]; exact h0
  · intro k hk
    rw [only k hk]; exact .zero
  · intro c hc hn
    exact absurd (by rw [only c hc]; exact List.mem_singleton.mpr rfl) hn

theorem dfs_pop {n : Nat} {bs : List Bool} {ks : List Nat} {c : Nat} (h : Dfs rules G n bs (ks ++ [c])) : DfsIn rules G n bs ks c 0 [] := by
  refine ⟨h.len, fun k hk => h.seen k (List.mem_append.mpr (.inl hk)), h.sound, h.zero, h.seen c (List.mem_append.mpr (.inr (List.mem_singleton.mpr rfl))), ?_, fun j R hj => absurd hj (Nat.not_lt_zero _), fun g hg => nomatch hg⟩
  intro c' hc' hk hne
  refine h.closed c' hc' fun hm => ?_
  rcases List.mem_append.mp hm with hm | hm
  · exact hk hm
  · exact hne (List.mem_singleton.mp hm)

theorem dfs_no {n : Nat} {bs : List Bool} {ks : List Nat} {c i : Nat} {R : RuleD} (h : DfsIn rules G n bs ks c i []) (hR : rules[i]? = some R) (hl : R.conds.any (· == (c : Int)) = false) : DfsIn rules G n bs ks c (i + 1) [] := by
  refine { h with part := fun j R' hj hR' hl' => ?_ }
  rcases Nat.lt_succ_iff_lt_or_eq.mp hj with hj | hj
  · exact h.part j R' hj hR' hl'
  · subst hj
    rw [hR] at hR'
    cases hR'
    rw [hl] at hl'
    cases hl'
theorem dfs_yes {n : Nat} {bs : List Bool} {ks : List Nat} {c i : Nat} {R : RuleD} (h : DfsIn rules G n bs ks c i (G R)) (hR : rules[i]? = some R) : DfsIn rules G n bs ks c (i + 1) [] := by
  refine { h with part := fun j R' hj hR' hl' => ?_, now := fun g hg => nomatch hg }
  rcases Nat.lt_succ_iff_lt_or_eq.mp hj with hj | hj
  · exact h.part j R' hj hR' hl'
  · subst hj
    rw [hR] at hR'
    cases hR'
    exact h.now
theorem dfs_old {n : Nat} {bs : List Bool} {ks dn : List Nat} {c i g : Nat} (h : DfsIn rules G n bs ks c i dn) (hg : bs[g]? = some true) : DfsIn rules G n bs ks c i (dn ++ [g]) := by
  refine { h with now := fun g' hg' => ?_ }
  rcases List.mem_append.mp hg' with h1 | h1
  · exact h.now g' h1
  · rw [List.mem_singleton.mp h1]; exact hg
theorem dfs_new {n : Nat} {bs : List Bool} {ks dn : List Nat} {c i g : Nat} {R : RuleD} (h : DfsIn rules G n bs ks c i dn) (hR : rules[i]? = some R) (hl : R.conds.any (· == (c : Int)) = true) (hg : g ∈ G R) (hb : bs[g]? = some false) :
    DfsIn rules G n (bs.set g true) (ks ++ [g]) c i (dn ++ [g]) := by
  have hself := set_self hb
  refine ⟨by rw [List.length_set]; exact h.len, ?_, ?_, set_true h.zero, set_true h.cur, ?_, ?_, ?_⟩
  · intro k hk
    rcases List.mem_append.mp hk with h1 | h1
    · exact set_true (h.seen k h1)
    · rw [List.mem_singleton.mp h1]; exact hself
  · intro k hk
    rcases set_cases hk with e | e
    · rw [e]; exact .step (h.sound c h.cur) (List.mem_of_getElem? hR) hl hg
    · exact h.sound k e
  · intro c' hc' hk hne R' hR' hl' g' hg'
    rcases set_cases hc' with e | e
    · exact absurd (List.mem_append.mpr (.inr (List.mem_singleton.mpr e))) hk
    · exact set_true (h.closed c' e (fun hm => hk (List.mem_append.mpr (.inl hm))) hne R' hR' hl' g' hg')
  · intro j R' hj hR' hl' g' hg'
    exact set_true (h.part j R' hj hR' hl' g' hg')
  · intro g' hg'
    rcases List.mem_append.mp hg' with h1 | h1
    · exact set_true (h.now g' h1)
    · rw [List.mem_singleton.mp h1]; exact hself
theorem dfs_end {n : Nat} {bs : List Bool} {ks : List Nat} {c : Nat} (h : DfsIn rules G n bs ks c rules.length []) : Dfs rules G n bs ks := by
  refine ⟨h.len, h.seen, h.sound, h.zero, fun c' hc' hk R hR hl g hg => ?_⟩
  by_cases e : c' = c
  · subst e
    obtain ⟨j, hj, e⟩ := List.mem_iff_getElem.mp hR
    exact h.part j R hj (by rw [List.getElem?_eq_getElem hj, e]) hl g hg
  · exact h.closed c' hc' hk e R hR hl g hg
theorem dfs_all {n : Nat} {bs : List Bool} (h : Dfs rules G n bs []) {k : Nat} : bs[k]? = some true ↔ Reach rules G k := by
  refine ⟨h.sound k, fun r => ?_⟩
  induction r with
  | zero => exact h.zero
  | step _ hR hl hg ih => exact h.closed _ ih (fun hm => nomatch hm) _ hR hl _ hg
theorem count_set : ∀ {bs : List Bool} {g : Nat}, bs[g]? = some false → (bs.set g true).count false + 1 = bs.count false
  | [], _, h => by simp at h
  | b :: bs, 0, h => by
    simp only [List.getElem?_cons_zero, Option.some.injEq] at h
    subst h
    simp
  | b :: bs, g + 1, h => by
    have ih := count_set (bs := bs) (g := g) (by simpa using h)
    rw [List.set_cons_succ, List.count_cons, List.count_cons]
    omega
theorem dfs_small {n : Nat} {bs : List Bool} {ks : List Nat} (h : bs.count false + ks.length ≤ n) : ks.length ≤ n := by omega
end
end
section
example : True := by
  k_with_none
  k_with "k_ne" => ((refine neN ?_; (try dsimp only); with_reducible first | assumption | exact Nat.ne_of_lt (by assumption) | exact Nat.ne_of_gt (by assumption) | exact neC1 (by assumption) | exact (neC1 (by assumption)).symm | exact neC2 (by assumption) | exact (neC2 (by assumption)).symm | exact neC3 (by assumption) | exact (neC3 (by assumption)).symm | exact neC4 (by assumption) | exact (neC4 (by assumption)).symm | exact neD2 (by assumption) | exact (neD2 (by assumption)).symm | exact neD3 (by assumption) | exact (neD3 (by assumption)).symm | exact neC5 (by assumption) | exact (neC5 (by assumption)).symm))
  k_with "ktr_room" => (first | decide | (refine' room_of (c := 1) ?wqh9 ?wqe9 ?wqk9; (case wqh9 => with_reducible assumption); (case wqe9 => exact rfl); (case wqk9 => decide)) | (refine' room_of (c := 0) ?wqh9 ?wqe9 ?wqk9; (case wqh9 => with_reducible assumption); (case wqe9 => exact rfl); (case wqk9 => decide)) | (refine' room_at (c := 0) ?wqh9 ?wqe9 ?wqk9; (case wqh9 => with_reducible assumption); (case wqe9 => exact rfl); (case wqk9 => decide)) | (refine' room_at (c := 1) ?wqh9 ?wqe9 ?wqk9; (case wqh9 => with_reducible assumption); (case wqe9 => exact rfl); (case wqk9 => decide)) | fail "room")
  k_with "ktr_units" => (first | decide | (refine' room_of (c := 3) ?wqh9 ?wqe9 ?wqk9; (case wqh9 => with_reducible assumption); (case wqe9 => exact rfl); (case wqk9 => decide)) | (refine' room_of (c := 0) ?wqh9 ?wqe9 ?wqk9; (case wqh9 => with_reducible assumption); (case wqe9 => exact rfl); (case wqk9 => decide)) | fail "units")
  k_with "exec For Name Attribute cons nil" => ((k_here; (with_reducible show wpAny _ _ (exec (Stmt.For _ _ _ [] _) _) _ _ _); with_unfolding_all refine For_any ?_))
  k_with "exec For Name Name cons nil" => ((k_here; (with_reducible show wpAny _ _ (exec (Stmt.For _ _ _ [] _) _) _ _ _); with_unfolding_all refine For_any ?_))
  k_with "exec For Name Call cons nil" => ((k_here; (with_reducible show wpAny _ _ (exec (Stmt.For _ _ _ [] _) _) _ _ _); with_unfolding_all refine For_any ?_))
  k_with "exec For Name Subscript cons nil" => ((k_here; (with_reducible show wpAny _ _ (exec (Stmt.For _ _ _ [] _) _) _ _ _); with_unfolding_all refine For_any ?_))
  k_with "exec For Name Tuple cons nil" => ((k_here; (with_reducible show wpAny _ _ (exec (Stmt.For _ _ _ [] _) _) _ _ _); with_unfolding_all refine For_any ?_))
  k_with "exec For Tuple Call cons nil" => ((k_here; (with_reducible show wpAny _ _ (exec (Stmt.For _ _ _ [] _) _) _ _ _); with_unfolding_all refine For_any ?_))
  k_with "exec For Tuple Name cons nil" => ((k_here; (with_reducible show wpAny _ _ (exec (Stmt.For _ _ _ [] _) _) _ _ _); with_unfolding_all refine For_any ?_))
  k_with "exec For Tuple Subscript cons nil" => ((k_here; (with_reducible show wpAny _ _ (exec (Stmt.For _ _ _ [] _) _) _ _ _); with_unfolding_all refine For_any ?_))
  k_with "LPost" => ((dsimp only [LPost]))
  k_with "call builtin:len" => ((k_here; (with_reducible show wpAny _ _ (call (Value.builtin "len") [Value.ref _]) _ _ _); k_dflt (refine' len_led ?wqk1 ?wqk2 ?wqk3 ?_; (case wqk1 => k_asm); (case wqk2 => k_mem); (case wqk3 => omega); k_whole)))
  k_with "subscriptTail" => ((k_here; (with_reducible show wpAny _ _ (subscriptTail _ _ (Value.ref _) (Value.int _ _)) _ _ _); (with_unfolding_all refine' item_led ?wqk1 ?wqk2 ?wqk3 ?wqk4 ?wqk5 ?_ ?wqk6; (case wqk1 => k_asm); (case wqk2 => k_mem); (case wqk5 => first | assumption | (simp only [Int.toNat_natCast]; assumption)); (case wqk3 => omega); (case wqk4 => omega); (case wqk6 => with_unfolding_all rfl); k_whole)))
  k_with "tb_start" => ((intro y hy; (try dsimp only); (simp only [List.contains_cons, List.contains_nil, Bool.or_false, Bool.or_eq_false_iff] at hy); (have hy2 := hy); (simp only [beq_eq_false_iff_ne, ne_eq] at hy2); (simp only [List.contains_cons, List.contains_nil, hy, hy2, Bool.or_false, Bool.false_eq_true, if_false])))
  k_with "eval ListComp" => ((k_here; k_dflt (refine LCg.ListComp_U (F₀ := by k_asm) (by with_unfolding_all rfl) (by decide) (by rfl) (by decide) (by rfl) ?_)))
  k_with "eval ListComp" => ((k_here; k_dflt (refine LCt.ListComp_T (F₀ := by k_asm) (by with_unfolding_all rfl) (by decide) (by rfl) (by decide) (by rfl) ?_)))
  k_with "k_mem" => (first | exact List.Mem.head _ | ktr_member | (refine' List.mem_cons_of_mem _ ?_; k_mem))
  k_with "setItem ref int" => ((k_here; (with_reducible show wpAny _ _ (setItem (Value.ref _) (Value.int _ _) _) _ _ _); k_dflt (refine' set_led ?wqk1 ?wqk2 ?wqk3 ?wqk5 ?wqk6 ?wqk7 ?_; (case wqk1 => k_asm); (case wqk2 => k_asm); (case wqk3 => k_upd); (case wqk5 => omega); (case wqk6 => first | assumption | omega | (simp only [List.length_replicate, List.length_set, Int.toNat_natCast] at *; omega)); (case wqk7 => omega); k_whole); intro _ _ _; (try k_sweep)))
  k_with "call builtin:list.pop" => ((k_here; (with_reducible show wpAny _ _ (call (Value.builtin _) [Value.ref _]) _ _ _); k_dflt (refine' pop_led ?wqk1 ?wqk2 ?wqk3 ?wqk4 ?_; (case wqk1 => k_asm); (case wqk2 => k_asm); (case wqk3 => k_upd); (case wqk4 => (first | (rw [sizeLine_eq]; omega) | size_fits)); k_whole); intro _ _ _; (try k_sweep)))
  k_with "truthy ref" => ((k_here; k_dflt (first | (refine' truth_nil ?wqk1 ?wqk2 ?_; (case wqk1 => k_asm); (case wqk2 => k_mem)) | (refine' truth_snoc ?wqk1 ?wqk2 ?wqk3 ?_; (case wqk1 => k_asm); (case wqk2 => k_mem); (case wqk3 => omega)))))
  k_with "binaryOp Mult ref int" => ((k_here; k_dflt (refine' mul_led ?wqk1 ?wqk2 ?wqk3 ?wqk4 ?wqk5 ?_; (case wqk1 => k_asm); (case wqk2 => k_asm); (case wqk3 => k_mem); (case wqk4 => omega); (case wqk5 => omega); k_whole); intro _ _ _ _ l1; (try k_lt l1); (have _ := l1); clear l1; (try k_sweep)))
  k_with "k_all" => (first | with_reducible assumption | (refine' List.forall_mem_cons.mpr ⟨?wqa, ?wqb⟩; (case wqa => k_ne); (case wqb => k_all)))
  k_with "exec While Name cons nil" => ((k_here; refine While_stop ?_))
  k_with "call builtin:list.append" => ((k_here; (with_reducible show wpAny _ _ (call (Value.builtin _) [Value.ref _, _]) _ _ _); k_dflt (refine' append_led ?wqk1 ?wqk2 ?wqk3 ?wqk4 ?_; (case wqk1 => k_asm); (case wqk2 => k_asm); (case wqk3 => k_upd); (case wqk4 => (rw [sizeLine_eq]; (try simp only [List.length_append, List.length_cons, List.length_nil]); omega)); k_whole); intro _ _ _; (try k_sweep)))
  k_with "WPost" => ((dsimp only [WPost]))
  k_with "tb_rel" => (first | assumption | (refine RuleIn.mono (by assumption) ?_; intro p hp; (repeat (first | exact hp | refine List.mem_cons_of_mem _ ?_))) | (refine FileIn.mono (by assumption) ?_; intro p hp; (repeat (first | exact hp | refine List.mem_cons_of_mem _ ?_))))
  k_with "lsm_bools" => (with_reducible assumption)
  k_with "kaf_pre" => (first | assumption | (refine List.mem_cons_of_mem _ ?_; (k_extra "kaf_pre")))
  k_with "kaf_suf" => (first | exact UpdF.head (by first | assumption | k_all) | (refine' UpdF.tail ?wqua7 ?wqub7; (case wqua7 => k_ne); (case wqub7 => (k_extra "kaf_suf"))))
  k_with "kat_tups" => ((intro p hp; (repeat (first | exact hp | refine List.mem_cons_of_mem _ ?_))))
  trivial
local macro_rules | `(tactic| walk_at "i0") => `(tactic| (intro r9 h9 tk9 nw9 F9 N9 P9; obtain ⟨g9, ws9, e8, e9, off9, all9⟩ := P9; subst e8; subst e9; (try simp only [List.forall_mem_cons] at off9)))
example : True := by
  k_with "call ref" => ((k_here; (with_reducible show wpAny _ _ (call (Value.ref 174) _) _ _ _); k_dflt (refine' Spec.use (is_live_spec _ _ _ _ _ ?wqhR) ?wqk1 ?wqk2 ?wqk3 ?wqk4 ?wqk5 ?wqk6 ?wqk7 ?wqk8 ?_; (case wqk1 => k_asm); (case wqk2 => k_asm); (case wqk3 => k_asm); (case wqk4 => k_asm); (case wqk5 => k_asm); (case wqk6 => first | exact rfl | assumption); (case wqhR => (k_extra "tb_rel")); (case wqk7 => ktr_room); (case wqk8 => ktr_units); k_whole); intro _ _ _ _ _ _ P9; obtain ⟨e8, e9⟩ := P9; subst e8; subst e9))
  k_with "call ref" => ((k_here; (with_reducible show wpAny _ _ (call (Value.ref 193) _) _ _ _); k_dflt (refine' Spec.use (goals_spec _ _ _ ?wqhR) ?wqk1 ?wqk2 ?wqk3 ?wqk4 ?wqk5 ?wqk6 ?wqk7 ?wqk8 ?_; (case wqk1 => k_asm); (case wqk2 => k_asm); (case wqk3 => k_asm); (case wqk4 => k_asm); (case wqk5 => k_asm); (case wqk6 => first | exact rfl | assumption); (case wqhR => (k_extra "tb_rel")); (case wqk7 => ktr_room); (case wqk8 => ktr_units); k_whole); walk_at "i0"))
  trivial


example : True := by
  k_with "call ref" => ((k_here; (with_reducible show wpAny _ _ (call (Value.ref 227) _) _ _ _); k_dflt (refine' Spec.use (condition_number_spec _ _ _ _ _ _ ?wqhR ?wqhx1 ?wqhx2 ?wqhx3) ?wqk1 ?wqk2 ?wqk3 ?wqk4 ?wqk5 ?wqk6 ?wqk7 ?wqk8 ?_; (case wqk1 => k_asm); (case wqk2 => k_asm); (case wqk3 => k_asm); (case wqk4 => k_asm); (case wqk5 => k_asm); (case wqk6 => first | exact rfl | assumption); (case wqhx2 => assumption); (case wqhR => (k_extra "tb_rel")); (case wqhx1 => assumption); (case wqhx3 => assumption); (case wqk7 => ktr_room); (case wqk8 => ktr_units); k_whole); intro _ _ _ _ _ _ P9; obtain ⟨⟨_, e8⟩, e9⟩ := P9; subst e8; subst e9))
  trivial

theorem ints_snoc {ws : List Value} {ns : List Int} {n : Int} (h : IntsAre ws (ns ++ [n])) : ∃ us t, ws = us ++ [.int n t] ∧ IntsAre us ns := by
  induction ns generalizing ws with
  | nil =>
    obtain ⟨t, vs', rfl, h'⟩ := h.cons_inv
    rw [h'.nil_inv]
    exact ⟨[], t, rfl, .nil⟩
  | cons a r ih =>
    obtain ⟨t, vs', rfl, h'⟩ := h.cons_inv
    obtain ⟨us, t', rfl, hu⟩ := ih h'
    exact ⟨_ :: us, t', rfl, .cons _ _ hu⟩

def nameAt (D : FileD) (k : Nat) : Option Str := (D.conds[k]?).map (·.1)
def GoalsOf (D : FileD) (G : RuleD → List Nat) : Prop := ∀ R ∈ D.rules, (R.steps.filter isGoal).map (·.worth) = (G R).map (nameAt D) ∧ ∀ k ∈ G R, k < D.conds.length
def NamesApart (D : FileD) : Prop := ∀ (j k : Nat) (y z : Str × Bool), D.conds[j]? = some y → D.conds[k]? = some z → (y.1 == z.1) = true → j = k

theorem entered_spec : ∀ (news : Led) (v : Value) (D : FileD) (G : RuleD → List Nat), FileIn news v D → 1 ≤ D.conds.length → GoalsOf D G → NamesApart D →
    Spec news 84 [v] 4 40 (fun r news' => ∃ (g : Addr) (bs : List Bool) (nn : Nat), r = .ref g ∧ news' = (g, listOf (bs.map Value.bool).toArray nn) :: news ∧ (∀ q ∈ news, q.1 < g) ∧ bs.length = D.conds.length ∧ ∀ k : Nat, bs[k]? = some true ↔ Reach D.rules G k) := by
  unfold Spec
  w_top off
  k_fill
  intro news v D G hD hlen hG hA w p loose mean mg mb dp un gd cn cs a ccd cl outer A₀ base h₀ L m s Q E B F X N T hk hd hu hret
  have hD2 := hD
  cases hD with
  | @mk f d ca ra k1 k2 k3 k4 k5 t1 t2 t3 t4 t5 v1 v4 v5 cvs rvs nc nr conds rules a1 a2 a3 a4 a5 a6 a7 a8 =>
  have hlen1 : 1 ≤ conds.length := hlen
  have e4 : cvs.length = conds.length := a4.1
  refine wpAny_call ?_
  k_dflt ktr_enter
  refine hideA ?_; intro Ak
  rename Fr _ _ _ _ => lF0; refine letM lF0 ?_; clear lF0; intro m0 F0
  k_steps
  rename_i g' L' h1 FG B' X' T' tk1 jA h2 l1 sA h3 l2 h4 tk2 h5 wA h6 l3 h7 lF lN
  have ltS : ∀ p ∈ news, p.1 < sA := fun p hp => tb_ltOf l2.2 p hp
  have apS : ∀ p ∈ news, p.1 ≠ sA := fun p hp => Nat.ne_of_lt (tb_ltOf l2.2 p hp)
  have apW : ∀ p ∈ news, p.1 ≠ wA := fun p hp => Nat.ne_of_lt (tb_ltOf l3.2.2 p hp)
  have ne1 : @Ne Nat sA wA := Nat.ne_of_lt l3.1
  clear l1 l2 l3
  have eS : (List.replicate (↑cvs.length : Int).toNat (Value.bool false)).set (Int.toNat 0) (Value.bool true) = (((List.replicate conds.length false).set 0 true).map Value.bool) := by
    rw [List.map_set, List.map_replicate, ← e4]; rfl
  rw [eS] at lN
  have lN2 : News g' L' h7 ([(wA, listOf #[Value.int 0 (tk2 + 1)] 0), (sA, listOf (((List.replicate conds.length false).set 0 true).map Value.bool).toArray 0)] ++ news) := fun p hp => lN p (by
    rcases List.mem_append.mp hp with h | h
    · rcases List.mem_cons.mp h with h | h
      · exact h ▸ .head _
      · exact (List.mem_singleton.mp h) ▸ .tail _ (.head _)
    · exact .tail _ (.tail _ (.tail _ h)))
  clear lN
  refine while_walk (σ := List Bool × List Value × Nat) (r₀ := news) (fun c => [(wA, listOf c.2.1.toArray c.2.2), (sA, listOf (c.1.map Value.bool).toArray 0)])
    [Str.ofString "condition", Str.ofString "rule", Str.ofString "name", Str.ofString "goal"]
    (fun c _ => ∃ ks : List Nat, IntsAre c.2.1 (ks.map fun (k : Nat) => (k : Int)) ∧ Dfs rules G conds.length c.1 ks ∧ c.1.count false + ks.length ≤ conds.length)
    (fun c => c.1.count false + c.2.1.length) ((List.replicate conds.length false).set 0 true, [Value.int 0 (tk2 + 1)], 0) lF lN2 ?h0 ?turn
  case h0 =>
    refine ⟨[0], .cons _ _ .nil, dfs_start hlen1, ?_⟩
    have := count_set (bs := List.replicate conds.length false) (g := 0) (by rw [List.getElem?_replicate, if_pos (by omega)])
    dsimp only
    rw [List.count_replicate_self] at this
    simp only [List.length_singleton]
    omega
  case turn =>
    clear lF lN2
    rintro ⟨bs, ws, nn⟩ u h tk ⟨ks, hW, hDf, hcnt⟩ F' N'
    dsimp only at hW hDf hcnt F' N' ⊢
    dsimp only [List.cons_append, List.nil_append] at N'
    generalize hP1 : WPost _ _ _ _ _ _ _ _ _ _ _ = P1; revert P1; refine stayP ?_; intro P1 hP1
    rcases List.eq_nil_or_concat ks with rfl | ⟨ks', c, rfl⟩
    · -- the end of the while
      have : ws = [] := hW.nil_inv
      subst this
      k_steps
      exact hret _ _ _ _ (by k_asm) (cb_drop (by k_asm) fun p hp => by
        rcases List.mem_cons.mp hp with h | h
        · rw [h]; exact .tail _ (.head _)
        · exact .tail _ (.tail _ h)) ⟨sA, bs, 0, rfl, rfl, ltS, hDf.len, fun k => dfs_all hDf⟩
    · rw [List.concat_eq_append, List.map_append, List.map_singleton] at hW
      obtain ⟨us, t, rfl, hU⟩ := ints_snoc hW
      rw [List.concat_eq_append] at hDf hcnt
      have eL := hU.length
      simp only [List.length_map] at eL
      simp only [List.length_append, List.length_singleton] at hcnt
      k_steps
      rename Fr _ _ _ _ => lF
      rename News _ _ _ _ => lN
      refine over_list (σ := List Bool × List Value × Nat) (r₀ := news) (adr := [wA, sA]) (fun c => [(wA, listOf c.2.1.toArray c.2.2), (sA, listOf (c.1.map Value.bool).toArray 0)])
        [Str.ofString "rule", Str.ofString "name", Str.ofString "goal"]
        (fun i cc _ _ => ∃ ks : List Nat, IntsAre cc.2.1 (ks.map fun (k : Nat) => (k : Int)) ∧ DfsIn rules G conds.length cc.1 ks c i [] ∧ cc.1.count false + ks.length = bs.count false + ks'.length)
        (bs, us, nn + 1) rfl a5 (fun _ => rfl) (by intro p hp hm; rcases List.mem_cons.mp hm with h | h; exact apW p hp h; exact apS p hp (List.mem_singleton.mp h)) lF lN ⟨ks', hU, dfs_pop hDf, rfl⟩ ?turn2 ?done2
      case done2 =>
        clear lF lN
        rintro ⟨bs2, ws2, nn2⟩ tl u2 h2 tk2 ⟨ks2, hW2, hD2', hc2⟩ ht F' N'
        dsimp only at hW2 hD2' hc2 F' N'
        have eL2 := hW2.length
        simp only [List.length_map] at eL2
        k_steps
        refine WPost.nx hP1 <| WEnd.intro (bs2, ws2, nn2) (by k_asm) (by k_asm) (fun p hp => ?_) (by (k_extra "tb_start")) ⟨ks2, hW2, dfs_end (by rw [← a6.1]; exact hD2'), by dsimp only; omega⟩ (by dsimp only; simp only [List.length_append, List.length_singleton]; omega)
        rcases List.mem_append.mp hp with hp | hp
        · exact List.mem_append.mpr (.inl hp)
        · exact List.mem_append.mpr (.inr (List.mem_append.mpr (.inr hp)))
      case turn2 =>
        clear lF lN
        rintro i v ⟨bs2, ws2, nn2⟩ tl u2 h2 tk2 rest hv hi hr ht hne ⟨ks2, hW2, hD2', hc2⟩ F' N'
        dsimp only at hW2 hD2' hc2 F' N'
        dsimp only [List.cons_append, List.nil_append] at N'
        generalize hP2 : LPost _ _ _ _ _ _ _ _ _ _ _ = P2; revert P2; refine stayP ?_; intro P2 hP2
        obtain ⟨R, hst, hS0⟩ := a6.get hv
        have hS := hS0.mono hr
        have hDr := hD2.mono hr
        have hS2 := hS
        obtain ⟨gs, hgs⟩ : ∃ gs, G R = gs := ⟨_, rfl⟩
        obtain ⟨hG1, hG2⟩ := hG R (List.mem_of_getElem? hst)
        rw [hgs] at hG1 hG2
        have apS2 : ∀ p ∈ rest, p.1 ≠ sA := fun p hp e => hne p hp (by rw [e]; exact .tail _ (.head _))
        have apW2 : ∀ p ∈ rest, p.1 ≠ wA := fun p hp e => hne p hp (by rw [e]; exact .head _)
        cases hS with
        | mk b1 b2 b3 b4 b5 b6 b7 b8 =>
        k_steps
        · -- a rule that is live here
          rename Fr _ _ _ _ => lF
          rename News _ _ _ _ => lN
          rename (List.any _ _) = true => hlive
          rename AllIn WorthIs _ _ => hW9
          rename_i hx tkx gA ws off
          rw [hG1] at hW9
          have offr : ∀ q ∈ rest, q.1 ≠ gA := off.2.2
          have neW : wA ≠ gA := off.1
          have neS : sA ≠ gA := off.2.1
          have lN3 : News g' L' _ ([(wA, listOf ws2.toArray nn2), (sA, listOf (bs2.map Value.bool).toArray 0)] ++ ((gA, listOf ws.toArray ws.length) :: rest)) := cb_drop lN (fun p hp => by
            rcases List.mem_append.mp hp with h | h
            · rcases List.mem_cons.mp h with h | h
              · exact h ▸ .tail _ (.head _)
              · exact (List.mem_singleton.mp h) ▸ .tail _ (.tail _ (.head _))
            · rcases List.mem_cons.mp h with h | h
              · exact h ▸ .head _
              · exact .tail _ (.tail _ (.tail _ h)))
          clear lN
          refine over_list (σ := List Bool × List Value × Nat) (r₀ := (gA, listOf ws.toArray ws.length) :: rest) (adr := [wA, sA]) (fun c => [(wA, listOf c.2.1.toArray c.2.2), (sA, listOf (c.1.map Value.bool).toArray 0)])
            [Str.ofString "name", Str.ofString "goal"]
            (fun j cc _ _ => ∃ ks : List Nat, IntsAre cc.2.1 (ks.map fun (k : Nat) => (k : Int)) ∧ DfsIn rules G conds.length cc.1 ks c i (gs.take j) ∧ cc.1.count false + ks.length = bs.count false + ks'.length)
            (bs2, ws2, nn2) rfl (.head _) (fun _ => rfl) ?hoff lF lN3 ⟨ks2, hW2, by simpa using hD2', hc2⟩ ?turn3 ?done3
          case hoff =>
            intro p hp hm
            rcases List.mem_cons.mp hp with rfl | hp
            · rcases List.mem_cons.mp hm with h | h
              · exact neW h.symm
              · exact neS (List.mem_singleton.mp h).symm
            · exact hne p hp hm
          case done3 =>
            clear lF lN3
            rintro ⟨bs3, ws3, nn3⟩ tl3 u3 h3 tk3 ⟨ks3, hW3, hD3, hc3⟩ ht3 F' N'
            dsimp only at hW3 hD3 hc3 F' N'
            rw [List.take_of_length_le (by rw [hW9.1, List.length_map]; exact Nat.le_refl _)] at hD3
            k_steps
            refine LPost.nx hP2 <| LEnd.intro (bs3, ws3, nn3) [] (by k_asm) (by k_asm) (fun p hp => ?_) (fun _ h => nomatch h) (fun _ h => nomatch h) (by (k_extra "tb_start")) ⟨ks3, hW3, dfs_yes (by rw [hgs]; exact hD3) hst, hc3⟩
            rcases List.mem_append.mp hp with hp | hp
            · exact List.mem_append.mpr (.inl hp)
            · exact List.mem_append.mpr (.inr (List.mem_append.mpr (.inr (.tail _ hp))))
          case turn3 =>
            clear lF lN3
            rintro j v ⟨bs3, ws3, nn3⟩ tl3 u3 h3 tk3 rest3 hv3 hj hr3 ht3 hne3 ⟨ks3, hW3, hD3, hc3⟩ F' N'
            dsimp only at hW3 hD3 hc3 F' N'
            dsimp only [List.cons_append, List.nil_append] at N'
            generalize hP3 : LPost _ _ _ _ _ _ _ _ _ _ _ = P3; revert P3; refine stayP ?_; intro P3 hP3
            obtain ⟨o, ho, hw⟩ := hW9.get hv3
            rw [List.getElem?_map] at ho
            obtain ⟨k, hk3, hnk⟩ := Option.map_eq_some_iff.mp ho
            have hkl : k < conds.length := hG2 k (List.mem_of_getElem? hk3)
            have hck : ({ conds := conds, rules := rules } : FileD).conds[k]? = some conds[k] := List.getElem?_eq_getElem hkl
            obtain ⟨x, bx, exb⟩ : ∃ x bx, conds[k] = (x, bx) := ⟨_, _, rfl⟩
            rw [exb] at hck
            have eo : o = some x := by
              rw [← hnk]
              show (({ conds := conds, rules := rules } : FileD).conds[k]?).map (·.1) = some x
              rw [hck]; rfl
            subst eo
            have hx1 : ∀ (j : Nat) (y : Str × Bool), j < k → ({ conds := conds, rules := rules } : FileD).conds[j]? = some y → (y.1 == x) = false := by
              intro j y hjk hy
              cases hq : y.1 == x with
              | false => rfl
              | true => exact absurd (hA j k y (x, bx) hy hck hq) (Nat.ne_of_lt hjk)
            have hx2 : ∃ b, ({ conds := conds, rules := rules } : FileD).conds[k]? = some (x, b) := ⟨bx, hck⟩
            have hx3 : k < 2 ^ 20 := by omega
            have a1r := hr3 _ (.tail _ (hr _ a1))
            have a2r := hr3 _ (.tail _ (hr _ a2))
            have hDr3 := hDr.mono (fun p hp => hr3 p (.tail _ hp))
            have apS3 : ∀ p ∈ rest3, p.1 ≠ sA := fun p hp e => hne3 p hp (by rw [e]; exact .tail _ (.head _))
            have apW3 : ∀ p ∈ rest3, p.1 ≠ wA := fun p hp e => hne3 p hp (by rw [e]; exact .head _)
            have hbl : k < bs3.length := by rw [hD3.len]; exact hkl
            obtain ⟨bb, hbb⟩ : ∃ bb, bs3[k]? = some bb := ⟨bs3[k], List.getElem?_eq_getElem hbl⟩
            have hvb : (bs3.map Value.bool)[k]? = some (.bool bb) := by rw [List.getElem?_map, hbb]; rfl
            have hvl : (k : Int) < ((bs3.map Value.bool).length : Int) := by rw [List.length_map]; omega
            have eL3 := hW3.length
            simp only [List.length_map] at eL3
            cases hw with
            | str x t3 =>
            cases bb with
            | true =>
              k_steps
              refine LPost.nx hP3 <| LEnd.intro (bs3, ws3, nn3) [] (by k_asm) (by k_asm) (fun p hp => hp) (fun _ h => nomatch h) (fun _ h => nomatch h) (by (k_extra "tb_start")) ⟨ks3, hW3, ?_, hc3⟩
              rw [take_snoc hk3]
              exact dfs_old hD3 hbb
            | false =>
              k_steps
              rename News _ _ _ _ => lN
              have eM : (bs3.map Value.bool).set (k : Int).toNat (.bool true) = (bs3.set k true).map Value.bool := by rw [Int.toNat_natCast, List.map_set]
              rw [eM] at lN
              have hct := count_set hbb
              refine LPost.nx hP3 <| LEnd.intro (bs3.set k true, ws3 ++ [Value.int (k : Int) _], nn3 + 1) [] (by k_asm) lN (fun p hp => hp) (fun _ h => nomatch h) (fun _ h => nomatch h) (by (k_extra "tb_start")) ⟨ks3 ++ [k], ?_, ?_, ?_⟩
              · rw [List.map_append]
                exact hW3.append (.cons _ _ .nil)
              · rw [take_snoc hk3]
                exact dfs_new hD3 hst hlive (by rw [hgs]; exact List.mem_of_getElem? hk3) hbb
              · simp only [List.length_append, List.length_singleton]
                omega
        · exact LPost.nx hP2 <| LEnd.intro (bs2, ws2, nn2) [] (by k_asm) (by k_asm) (fun p hp => hp) (fun _ h => nomatch h) (fun _ h => nomatch h) (by (k_extra "tb_start")) ⟨ks2, hW2, dfs_no hD2' hst (by assumption), hc2⟩
end
section
example : True := by
  k_with_none
  k_with "k_ne" => ((refine neN ?_; (try dsimp only); with_reducible first | assumption | exact Nat.ne_of_lt (by assumption) | exact Nat.ne_of_gt (by assumption) | exact neC1 (by assumption) | exact (neC1 (by assumption)).symm | exact neC2 (by assumption) | exact (neC2 (by assumption)).symm | exact neC3 (by assumption) | exact (neC3 (by assumption)).symm | exact neC4 (by assumption) | exact (neC4 (by assumption)).symm | exact neD2 (by assumption) | exact (neD2 (by assumption)).symm | exact neD3 (by assumption) | exact (neD3 (by assumption)).symm | exact neC5 (by assumption) | exact (neC5 (by assumption)).symm))
  k_with "ktr_room" => (first | decide | (refine' room_of (c := 1) ?wqh9 ?wqe9 ?wqk9; (case wqh9 => with_reducible assumption); (case wqe9 => exact rfl); (case wqk9 => decide)) | (refine' room_of (c := 0) ?wqh9 ?wqe9 ?wqk9; (case wqh9 => with_reducible assumption); (case wqe9 => exact rfl); (case wqk9 => decide)) | (refine' room_at (c := 0) ?wqh9 ?wqe9 ?wqk9; (case wqh9 => with_reducible assumption); (case wqe9 => exact rfl); (case wqk9 => decide)) | (refine' room_at (c := 1) ?wqh9 ?wqe9 ?wqk9; (case wqh9 => with_reducible assumption); (case wqe9 => exact rfl); (case wqk9 => decide)) | fail "room")
  k_with "ktr_units" => (first | decide | (refine' room_of (c := 3) ?wqh9 ?wqe9 ?wqk9; (case wqh9 => with_reducible assumption); (case wqe9 => exact rfl); (case wqk9 => decide)) | (refine' room_of (c := 0) ?wqh9 ?wqe9 ?wqk9; (case wqh9 => with_reducible assumption); (case wqe9 => exact rfl); (case wqk9 => decide)) | fail "units")
  k_with "exec For Name Attribute cons nil" => ((k_here; (with_reducible show wpAny _ _ (exec (Stmt.For _ _ _ [] _) _) _ _ _); with_unfolding_all refine For_any ?_))
  k_with "exec For Name Name cons nil" => ((k_here; (with_reducible show wpAny _ _ (exec (Stmt.For _ _ _ [] _) _) _ _ _); with_unfolding_all refine For_any ?_))
  k_with "exec For Name Call cons nil" => ((k_here; (with_reducible show wpAny _ _ (exec (Stmt.For _ _ _ [] _) _) _ _ _); with_unfolding_all refine For_any ?_))
  k_with "exec For Name Subscript cons nil" => ((k_here; (with_reducible show wpAny _ _ (exec (Stmt.For _ _ _ [] _) _) _ _ _); with_unfolding_all refine For_any ?_))
  k_with "exec For Name Tuple cons nil" => ((k_here; (with_reducible show wpAny _ _ (exec (Stmt.For _ _ _ [] _) _) _ _ _); with_unfolding_all refine For_any ?_))
  k_with "exec For Tuple Call cons nil" => ((k_here; (with_reducible show wpAny _ _ (exec (Stmt.For _ _ _ [] _) _) _ _ _); with_unfolding_all refine For_any ?_))
  k_with "exec For Tuple Name cons nil" => ((k_here; (with_reducible show wpAny _ _ (exec (Stmt.For _ _ _ [] _) _) _ _ _); with_unfolding_all refine For_any ?_))
  k_with "exec For Tuple Subscript cons nil" => ((k_here; (with_reducible show wpAny _ _ (exec (Stmt.For _ _ _ [] _) _) _ _ _); with_unfolding_all refine For_any ?_))
  k_with "LPost" => ((dsimp only [LPost]))
  k_with "call builtin:len" => ((k_here; (with_reducible show wpAny _ _ (call (Value.builtin "len") [Value.ref _]) _ _ _); k_dflt (refine' len_led ?wqk1 ?wqk2 ?wqk3 ?_; (case wqk1 => k_asm); (case wqk2 => k_mem); (case wqk3 => omega); k_whole)))
  k_with "subscriptTail" => ((k_here; (with_reducible show wpAny _ _ (subscriptTail _ _ (Value.ref _) (Value.int _ _)) _ _ _); (with_unfolding_all refine' item_led ?wqk1 ?wqk2 ?wqk3 ?wqk4 ?wqk5 ?_ ?wqk6; (case wqk1 => k_asm); (case wqk2 => k_mem); (case wqk5 => first | assumption | (simp only [Int.toNat_natCast]; assumption)); (case wqk3 => omega); (case wqk4 => omega); (case wqk6 => with_unfolding_all rfl); k_whole)))
  k_with "tb_start" => ((intro y hy; (try dsimp only); (simp only [List.contains_cons, List.contains_nil, Bool.or_false, Bool.or_eq_false_iff] at hy); (have hy2 := hy); (simp only [beq_eq_false_iff_ne, ne_eq] at hy2); (simp only [List.contains_cons, List.contains_nil, hy, hy2, Bool.or_false, Bool.false_eq_true, if_false])))
  k_with "eval ListComp" => ((k_here; k_dflt (refine LCg.ListComp_U (F₀ := by k_asm) (by with_unfolding_all rfl) (by decide) (by rfl) (by decide) (by rfl) ?_)))
  k_with "eval ListComp" => ((k_here; k_dflt (refine LCt.ListComp_T (F₀ := by k_asm) (by with_unfolding_all rfl) (by decide) (by rfl) (by decide) (by rfl) ?_)))
  k_with "k_mem" => (first | exact List.Mem.head _ | ktr_member | (refine' List.mem_cons_of_mem _ ?_; k_mem))
  k_with "setItem ref int" => ((k_here; (with_reducible show wpAny _ _ (setItem (Value.ref _) (Value.int _ _) _) _ _ _); k_dflt (refine' set_led ?wqk1 ?wqk2 ?wqk3 ?wqk5 ?wqk6 ?wqk7 ?_; (case wqk1 => k_asm); (case wqk2 => k_asm); (case wqk3 => k_upd); (case wqk5 => omega); (case wqk6 => first | assumption | omega | (simp only [List.length_replicate, List.length_set, Int.toNat_natCast] at *; omega)); (case wqk7 => omega); k_whole); intro _ _ _; (try k_sweep)))
  k_with "call builtin:list.pop" => ((k_here; (with_reducible show wpAny _ _ (call (Value.builtin _) [Value.ref _]) _ _ _); k_dflt (refine' pop_led ?wqk1 ?wqk2 ?wqk3 ?wqk4 ?_; (case wqk1 => k_asm); (case wqk2 => k_asm); (case wqk3 => k_upd); (case wqk4 => (first | (rw [sizeLine_eq]; omega) | size_fits)); k_whole); intro _ _ _; (try k_sweep)))
  k_with "truthy ref" => ((k_here; k_dflt (first | (refine' truth_nil ?wqk1 ?wqk2 ?_; (case wqk1 => k_asm); (case wqk2 => k_mem)) | (refine' truth_snoc ?wqk1 ?wqk2 ?wqk3 ?_; (case wqk1 => k_asm); (case wqk2 => k_mem); (case wqk3 => omega)))))
  k_with "binaryOp Mult ref int" => ((k_here; k_dflt (refine' mul_led ?wqk1 ?wqk2 ?wqk3 ?wqk4 ?wqk5 ?_; (case wqk1 => k_asm); (case wqk2 => k_asm); (case wqk3 => k_mem); (case wqk4 => omega); (case wqk5 => omega); k_whole); intro _ _ _ _ l1; (try k_lt l1); (have _ := l1); clear l1; (try k_sweep)))
  k_with "k_all" => (first | with_reducible assumption | (refine' List.forall_mem_cons.mpr ⟨?wqa, ?wqb⟩; (case wqa => k_ne); (case wqb => k_all)))
  k_with "exec While Name cons nil" => ((k_here; refine While_stop ?_))
  k_with "call builtin:list.append" => ((k_here; (with_reducible show wpAny _ _ (call (Value.builtin _) [Value.ref _, _]) _ _ _); k_dflt (refine' append_led ?wqk1 ?wqk2 ?wqk3 ?wqk4 ?_; (case wqk1 => k_asm); (case wqk2 => k_asm); (case wqk3 => k_upd); (case wqk4 => (rw [sizeLine_eq]; (try simp only [List.length_append, List.length_cons, List.length_nil]); omega)); k_whole); intro _ _ _; (try k_sweep)))
  k_with "WPost" => ((dsimp only [WPost]))
  k_with "tb_rel" => (first | assumption | (refine RuleIn.mono (by assumption) ?_; intro p hp; (repeat (first | exact hp | refine List.mem_cons_of_mem _ ?_))) | (refine FileIn.mono (by assumption) ?_; intro p hp; (repeat (first | exact hp | refine List.mem_cons_of_mem _ ?_))))
  k_with "lsm_bools" => (with_reducible assumption)
  k_with "kaf_pre" => (first | assumption | (refine List.mem_cons_of_mem _ ?_; (k_extra "kaf_pre")))
  k_with "kaf_suf" => (first | exact UpdF.head (by first | assumption | k_all) | (refine' UpdF.tail ?wqua7 ?wqub7; (case wqua7 => k_ne); (case wqub7 => (k_extra "kaf_suf"))))
  k_with "kat_tups" => ((intro p hp; (repeat (first | exact hp | refine List.mem_cons_of_mem _ ?_))))
  trivial
example : True := by
  k_with "call ref" => ((k_here; (with_reducible show wpAny _ _ (call (Value.ref 167) _) _ _ _); k_dflt (refine' Spec.use (is_end_spec _ _ _ ?wqhR) ?wqk1 ?wqk2 ?wqk3 ?wqk4 ?wqk5 ?wqk6 ?wqk7 ?wqk8 ?_; (case wqk1 => k_asm); (case wqk2 => k_asm); (case wqk3 => k_asm); (case wqk4 => k_asm); (case wqk5 => k_asm); (case wqk6 => first | exact rfl | assumption); (case wqhR => (k_extra "tb_rel")); (case wqk7 => ktr_room); (case wqk8 => ktr_units); k_whole); intro _ _ _ _ _ _ P9; obtain ⟨e8, e9⟩ := P9; subst e8; subst e9))
  k_with "call ref" => ((k_here; (with_reducible show wpAny _ _ (call (Value.ref 248) _) _ _ _); k_dflt (refine' Spec.use (end_rule_spec _ _ _ _ _ ?wqhR ?wqhx1) ?wqk1 ?wqk2 ?wqk3 ?wqk4 ?wqk5 ?wqk6 ?wqk7 ?wqk8 ?_; (case wqk1 => k_asm); (case wqk2 => k_asm); (case wqk3 => k_asm); (case wqk4 => k_asm); (case wqk5 => k_asm); (case wqk6 => first | exact rfl | assumption); (case wqhR => (k_extra "tb_rel")); (case wqhx1 => assumption); (case wqk7 => ktr_room); (case wqk8 => ktr_units); k_whole); intro _ _ _ _ _ _ P9; obtain ⟨⟨_, _, hR9⟩, e9⟩ := P9; subst e9; cases hR9))
  k_with "call ref" => ((k_here; (with_reducible show wpAny _ _ (call (Value.ref 84) _) _ _ _); k_dflt (refine' Spec.use (entered_spec _ _ _ _ ?wqhR ?wqhx1 ?wqhx2 ?wqhx3) ?wqk1 ?wqk2 ?wqk3 ?wqk4 ?wqk5 ?wqk6 ?wqk7 ?wqk8 ?_; (case wqk1 => k_asm); (case wqk2 => k_asm); (case wqk3 => k_asm); (case wqk4 => k_asm); (case wqk5 => k_asm); (case wqk6 => first | exact rfl | assumption); (case wqhx2 => assumption); (case wqhR => (k_extra "tb_rel")); (case wqhx1 => assumption); (case wqhx3 => assumption); (case wqk7 => ktr_room); (case wqk8 => ktr_units); k_whole); intro _ _ _ _ _ _ P9; obtain ⟨_, _, _, e8, e9, off9, _, _⟩ := P9; subst e8; subst e9; k_lt off9; (have _ := off9); clear off9))
  k_with "eval ListComp" => ((k_here; k_dflt (refine ListComp_tup (F₀ := by k_asm) (by with_unfolding_all rfl) (by decide) (by rfl) (by decide) (by rfl) ?_)))
  trivial

/-- a warning: its line, its kind, its condition -/
structure WarnD where
  line : Int
  kind : Str
  name : Str
inductive WarnIn (news : Led) : Value → WarnD → Prop
  | mk {a : Addr} {i : Int} {x y : Str} {t u v : Tok} {n : Nat} : (a, tupOf #[.int i t, .str x u, .str y v] n) ∈ news → WarnIn news (.ref a) ⟨i, x, y⟩
theorem WarnIn.mono {news news' : Led} {v : Value} {d : WarnD} (h : WarnIn news v d) (hs : ∀ p ∈ news, p ∈ news') : WarnIn news' v d := by
  cases h with
  | mk a => exact .mk (hs _ a)

def CondsIn (D : FileD) : Prop := ∀ R ∈ D.rules, ∀ c ∈ R.conds, 0 ≤ c ∧ c < (D.conds.length : Int)
def nameOf (D : FileD) (k : Nat) : Str := ((D.conds[k]?).map (·.1)).getD (Str.ofString "")
def neverIn (D : FileD) (bs : List Bool) (n : Nat) : List WarnD := ((List.range n).filter fun (k : Nat) => !(bs.getD k false)).map fun k => ⟨0, Str.ofString "never entered", nameOf D k⟩
def endNo (D : FileD) (c : Int) : Int := ((D.rules.find? (liveAt c)).map (·.number)).getD (-1)
def seconds (D : FileD) (R : RuleD) (cs : List Int) : List WarnD := (cs.filter fun c => !(endNo D c == R.number)).map fun c => ⟨R.line, Str.ofString "second end", nameOf D c.toNat⟩
def ruleWarn (D : FileD) (bs : List Bool) (R : RuleD) : List WarnD :=
  if (R.conds.map fun c => bs.getD c.toNat false).any id = true then seconds D R R.conds else [⟨R.line, Str.ofString "never live", Str.ofString ""⟩]

theorem never_succ {D : FileD} {bs : List Bool} {i : Nat} {bb : Bool} (h : bs[i]? = some bb) : neverIn D bs (i + 1) = neverIn D bs i ++ (if bb = true then [] else [⟨0, Str.ofString "never entered", nameOf D i⟩]) := by
  unfold neverIn
  have e : bs.getD i false = bb := by rw [List.getD_eq_getElem?_getD, h]; rfl
  have f : [i].filter (fun (k : Nat) => !(bs.getD k false)) = if bb = true then [] else [i] := by rw [List.filter_cons, e]; cases bb <;> rfl
  rw [List.range_succ, List.filter_append, List.map_append, f]
  cases bb <;> rfl
theorem swap2 {a b : Addr × Obj} {r : Led} : ∀ p ∈ [a] ++ ([b] ++ r), p ∈ b :: a :: r := by
  intro p hp
  rcases List.mem_cons.mp hp with rfl | hp
  · exact .tail _ (.head _)
  · rcases List.mem_cons.mp hp with rfl | hp
    · exact .head _
    · exact .tail _ (.tail _ hp)
theorem swap3 {a b c : Addr × Obj} {r : Led} : ∀ p ∈ [b] ++ ([a, c] ++ r), p ∈ a :: c :: b :: r := by
  intro p hp
  rcases List.mem_cons.mp hp with rfl | hp
  · exact .tail _ (.tail _ (.head _))
  · rcases List.mem_cons.mp hp with rfl | hp
    · exact .head _
    · rcases List.mem_cons.mp hp with rfl | hp
      · exact .tail _ (.head _)
      · exact .tail _ (.tail _ (.tail _ hp))
theorem new1 {lA D : Addr} {o : Obj} (h : @LT.lt Nat _ lA D) : ∀ q ∈ [(D, o)], q.1 ∉ [lA] := by
  intro q hq hm
  rw [List.mem_singleton.mp hq, List.mem_singleton] at hm
  exact Nat.ne_of_gt h hm
theorem new2 {D : Addr} {o : Obj} {r : Led} (h : AllLt D r) : ∀ q ∈ [(D, o)], ∀ p ∈ r, p.1 ≠ q.1 := by
  intro q hq p hp
  rw [List.mem_singleton.mp hq]
  exact Nat.ne_of_lt (tb_ltOf h p hp)
theorem inCons {a : Addr × Obj} {tl : Led} : ∀ p ∈ tl, p ∈ [a] ++ tl := fun p hp => List.mem_append.mpr (.inr hp)
theorem boolsAre_map : ∀ bl : List Bool, LSm.BoolsAre (bl.map Value.bool) bl
  | [] => .nil
  | b :: r => .cons b (boolsAre_map r)
theorem seconds_snoc {D : FileD} {R : RuleD} {cs : List Int} {c : Int} : seconds D R (cs ++ [c]) = seconds D R cs ++ (if endNo D c = R.number then [] else [⟨R.line, Str.ofString "second end", nameOf D c.toNat⟩]) := by
  unfold seconds
  rw [List.filter_append, List.map_append]
  by_cases e : endNo D c = R.number
  · simp [e]
  · simp [e]

theorem warnings_spec : ∀ (news : Led) (v : Value) (D : FileD) (G : RuleD → List Nat), FileIn news v D → 1 ≤ D.conds.length → GoalsOf D G → NamesApart D → CondsIn D →
    Spec news 103 [v] 8 60 (fun r news' => ∃ (g : Addr) (vs : List Value) (nn : Nat) (tl : Led) (bs : List Bool), r = .ref g ∧ news' = (g, listOf vs.toArray nn) :: (tl ++ news) ∧ bs.length = D.conds.length ∧ (∀ k : Nat, bs[k]? = some true ↔ Reach D.rules G k) ∧
      AllIn (WarnIn tl) vs (neverIn D bs D.conds.length ++ D.rules.flatMap (ruleWarn D bs))) := by
  unfold Spec
  w_top off
  k_fill
  intro news v D G hD hlen hG hA hC w p loose mean mg mb dp un gd cn cs a ccd cl outer A₀ base h₀ L m s Q E B F X N T hk hd hu hret
  have hD2 := hD
  cases hD with
  | @mk f d ca ra k1 k2 k3 k4 k5 t1 t2 t3 t4 t5 v1 v4 v5 cvs rvs nc nr conds rules a1 a2 a3 a4 a5 a6 a7 a8 =>
  have hlen1 : 1 ≤ conds.length := hlen
  have e4 : cvs.length = conds.length := a4.1
  refine wpAny_call ?_
  k_dflt (refine' code_defC ?k1 ?k2 ?k3 ?k4 ?k5 ?kA ?kF ?kK ?k6 ?k7 ?k8 ?k9 ?kB ?kD ?_ ?c2 ?c3 ?c4; (case kA => exact rfl); (case kF => exact rfl); (case kK => assumption); (case k1 => k_asm); (case k2 => k_asm); (case k3 => k_asm); (case k4 => k_asm); (case k5 => k_asm); (case k6 => k_is); (case k7 => k_is); (case k8 => ktr_room); (case k9 => exact BindsTo.of_eq rfl); (case kB => exact rfl); (case kD => decide +kernel); (case c2 => exact rfl); (case c3 => exact rfl); (case c4 => exact rfl); k_whole; intro g' L' h' tk' cells' FG' F' N' Y' B' X' T' l1; (try k_lt l1); k_cells Y'; (try simp only [List.cons_append, List.nil_append] at N'); (try dsimp only); (try k_fold))
  refine hideA ?_; intro Ak
  rename Fr _ _ _ _ => lF0; refine letM lF0 ?_; clear lF0; intro m0 F0
  have apC : ∀ p ∈ news, p.1 ≠ L' + 1 := fun p hp => Nat.ne_of_lt (Nat.lt_succ_of_lt (l1 p hp))
  refine wpAny_noRaise (hideQ ?_); intro Qf hQf
  k_steps
  rename_i gA bs nn len9 all9 off9 _ oC dC _ lA _ l1 _ _ _ _ _ _ _ _ rgX lF lN keep
  have gN : @LT.lt Nat _ gA lA := l1.1
  have cN : @LT.lt Nat _ (L' + 1) lA := l1.2.1
  have nN : ∀ p ∈ news, p.1 ≠ lA := fun p hp => Nat.ne_of_lt (tb_ltOf l1.2.2 p hp)
  have lenb : bs.length = conds.length := len9
  obtain ⟨r0, hr0⟩ : ∃ r0 : Led, r0 = (gA, listOf (bs.map Value.bool).toArray nn) :: (L' + 1, oC) :: news := ⟨_, rfl⟩
  have m1 : (gA, listOf (bs.map Value.bool).toArray nn) ∈ r0 := by rw [hr0]; exact .head _
  have m2 : (L' + 1, oC) ∈ r0 := by rw [hr0]; exact .tail _ (.head _)
  have m3 : ∀ p ∈ news, p ∈ r0 := fun p hp => by rw [hr0]; exact .tail _ (.tail _ hp)
  have m4 : ∀ p ∈ r0, p.1 ∉ [lA] := by
    intro p hp hm
    rw [List.mem_singleton] at hm
    rw [hr0] at hp
    rcases List.mem_cons.mp hp with rfl | hp
    · exact Nat.ne_of_lt gN hm
    · rcases List.mem_cons.mp hp with rfl | hp
      · exact Nat.ne_of_lt cN hm
      · exact nN p hp hm
  rw [← hr0] at lN
  refine over_range0 (n := cvs.length) (σ := List Value × Nat) (adr := [lA]) (r₀ := r0) (fun c => [(lA, listOf c.1.toArray c.2)]) [Str.ofString "number"]
    (fun i c tl _ => AllIn (WarnIn tl) c.1 (neverIn ⟨conds, rules⟩ bs i) ∧ c.1.length ≤ i) ([], 0) rfl rgX rfl (by omega) (fun _ => rfl) m4 lF lN ⟨⟨rfl, fun i v d h => by simp at h⟩, Nat.zero_le _⟩ ?turn1 ?done1
  case turn1 =>
    clear lF lN
    rintro i t ⟨vs, nv⟩ tl u h tk rest hi hr ht hne ⟨hJ, hJl⟩ F' N'
    generalize hPl : LPost _ _ _ _ _ _ _ _ _ _ _ = Pl; revert Pl; refine stayP ?_; intro Pl hPl
    dsimp only at hJ hJl F' N'
    dsimp only [List.cons_append, List.nil_append] at N'
    have apL : ∀ p ∈ rest, p.1 ≠ lA := fun p hp e => hne p hp (List.mem_singleton.mpr e)
    have s1 := hr _ m1
    have s2 := hr _ m2
    have b1 := hr _ (m3 _ a1)
    have b2 := hr _ (m3 _ a2)
    have b3 := hr _ (m3 _ a3)
    obtain ⟨v, hv⟩ : ∃ v, cvs[i]? = some v := ⟨cvs[i], by simp⟩
    obtain ⟨cd, hcd, hS⟩ := a4.get hv
    replace hS := hS.mono (fun p hp => hr p (m3 p hp))
    obtain ⟨bb, hbb⟩ : ∃ bb, bs[i]? = some bb := ⟨bs[i]'(by omega), List.getElem?_eq_getElem (by omega)⟩
    have hvb : (bs.map Value.bool)[i]? = some (.bool bb) := by rw [List.getElem?_map, hbb]; rfl
    cases hS with
    | mk c1 =>
    rename_i x bx _ _
    cases bb with
    | true =>
      k_steps
      exact LPost.nx hPl <| LEnd.intro (vs, nv) [] (by k_asm) (by k_asm) (fun p hp => hp) (fun _ h => nomatch h) (fun _ h => nomatch h) (by (k_extra "tb_start")) ⟨by rw [never_succ hbb, if_pos rfl, List.append_nil]; exact hJ, Nat.le_succ_of_le hJl⟩
    | false =>
      k_steps
      rename _ ∧ AllLt _ rest => lt9
      rename News _ _ _ _ => lN
      refine LPost.nx hPl <| LEnd.intro (vs ++ [Value.ref _], nv + 1) [(_, _)] (by k_asm) lN swap2 (new1 lt9.1) (new2 lt9.2) (by (k_extra "tb_start")) ⟨?_, by simp only [List.length_append, List.length_singleton]; omega⟩
      rw [never_succ hbb, if_neg Bool.false_ne_true]
      refine (hJ.mono fun v d q => q.mono inCons).snoc ?_
      have en : nameOf ⟨conds, rules⟩ i = x := by
        show (((conds[i]?).map (·.1)).getD (Str.ofString "")) = x
        rw [hcd]; rfl
      rw [en]
      exact .mk (.head _)
  case done1 =>
    clear lF lN
    rintro ⟨vs1, nv1⟩ tl1 u1 h1 tk1 ⟨hJ1, hJl1⟩ ht1 F' N'
    dsimp only at hJ1 hJl1 F' N'
    obtain ⟨r1, hr1⟩ : ∃ r1 : Led, r1 = tl1 ++ r0 := ⟨_, rfl⟩
    rw [← hr1] at N'
    dsimp only [List.cons_append, List.nil_append] at N'
    have p1 : ∀ p ∈ r0, p ∈ r1 := fun p hp => by rw [hr1]; exact List.mem_append.mpr (.inr hp)
    have p2 : ∀ p ∈ tl1, p ∈ r1 := fun p hp => by rw [hr1]; exact List.mem_append.mpr (.inl hp)
    have p3 : ∀ p ∈ r1, p.1 ∉ [lA] := fun p hp => by
      rw [hr1] at hp
      rcases List.mem_append.mp hp with hp | hp
      · exact ht1 p hp
      · exact m4 p hp
    have b1 := p1 _ (m3 _ a1)
    have b2 := p1 _ (m3 _ a2)
    have a5r := p1 _ (m3 _ a5)
    k_steps
    rename Fr _ _ _ _ => lF
    rename News _ _ _ _ => lN
    refine over_list (σ := List Value × Nat) (adr := [lA]) (r₀ := r1) (fun c => [(lA, listOf c.1.toArray c.2)]) [Str.ofString "rule", Str.ofString "number"]
      (fun i c tl _ => AllIn (WarnIn (tl ++ tl1)) c.1 (neverIn ⟨conds, rules⟩ bs conds.length ++ (rules.take i).flatMap (ruleWarn ⟨conds, rules⟩ bs)) ∧ c.1.length ≤ 100 + 100 * i) (vs1, nv1) rfl a5r (fun _ => rfl) p3 lF lN
      ⟨by rw [List.take_zero, List.flatMap_nil, List.append_nil, List.nil_append, ← e4]; exact hJ1, by show vs1.length ≤ _; omega⟩ ?turn2 ?done2
    case done2 =>
      clear lF lN
      rintro ⟨vs2, nv2⟩ tl2 u2 h2 tk2 ⟨hJ2, hJl2⟩ ht2 F' N'
      dsimp only at hJ2 hJl2 F' N'
      dsimp only [List.cons_append, List.nil_append] at N'
      k_steps
      refine hQf _ _ ?_
      k_steps
      refine hret _ _ _ _ (by k_asm) (cb_drop (by k_asm) fun p hp => ?_) ⟨lA, vs2, nv2, tl2 ++ tl1, bs, rfl, rfl, len9, all9, ?_⟩
      · rcases List.mem_cons.mp hp with rfl | hp
        · exact .head _
        · rw [hr1, hr0]
          rw [List.append_assoc] at hp
          rcases List.mem_append.mp hp with hp | hp
          · exact .tail _ (List.mem_append.mpr (.inl hp))
          · rcases List.mem_append.mp hp with hp | hp
            · exact .tail _ (List.mem_append.mpr (.inr (List.mem_append.mpr (.inl hp))))
            · exact .tail _ (List.mem_append.mpr (.inr (List.mem_append.mpr (.inr (.tail _ (.tail _ hp))))))
      · rw [a6.1, List.take_length] at hJ2
        exact hJ2
    case turn2 =>
      clear lF lN b1 b2 a5r
      rintro i v ⟨vs, nv⟩ tl u h tk rest hv hi hr ht hne ⟨hJ, hJl⟩ F' N'
      generalize hPl : LPost _ _ _ _ _ _ _ _ _ _ _ = Pl; revert Pl; refine stayP ?_; intro Pl hPl
      dsimp only at hJ hJl F' N'
      dsimp only [List.cons_append, List.nil_append] at N'
      have apL : ∀ p ∈ rest, p.1 ≠ lA := fun p hp e => hne p hp (List.mem_singleton.mpr e)
      have s1 := hr _ (p1 _ m1)
      have s2 := hr _ (p1 _ m2)
      have b1 := hr _ (p1 _ (m3 _ a1))
      have b2 := hr _ (p1 _ (m3 _ a2))
      have b3 := hr _ (p1 _ (m3 _ a3))
      have up : ∀ p ∈ news, p ∈ rest := fun p hp => hr p (p1 p (m3 p hp))
      have hDr := hD2.mono up
      obtain ⟨R, hst, hS0⟩ := a6.get hv
      have hS := hS0.mono up
      have hS2 := hS
      have hCR := hC R (List.mem_of_getElem? hst)
      obtain ⟨bl, hbl⟩ : ∃ bl, bl = R.conds.map fun c => bs.getD c.toNat false := ⟨_, rfl⟩
      have eWt : bl.any id = true → ruleWarn ⟨conds, rules⟩ bs R = seconds ⟨conds, rules⟩ R R.conds := fun e => by unfold ruleWarn; rw [← hbl, if_pos e]
      have eWf : bl.any id = false → ruleWarn ⟨conds, rules⟩ bs R = [⟨R.line, Str.ofString "never live", Str.ofString ""⟩] := fun e => by unfold ruleWarn; rw [← hbl, if_neg (by rw [e]; exact Bool.false_ne_true)]
      have eTk : (rules.take (i + 1)).flatMap (ruleWarn ⟨conds, rules⟩ bs) = (rules.take i).flatMap (ruleWarn ⟨conds, rules⟩ bs) ++ ruleWarn ⟨conds, rules⟩ bs R := by rw [take_snoc hst, List.flatMap_append, List.flatMap_singleton]
      cases hS with
      | @mk rr rd rc rsl q1 q2 q3 q4 q5 w1 w2 w3 w4 w5 wn wl num lin cds sts vc vss ncc nss c1 c2 c3 c4 c5 c6 c7 c8 =>
      k_steps
      refine TupSrc.ledger rfl (by k_asm) (by k_asm) (.tail _ c3) (by rw [sizeLine_eq]; omega) (fun gh => ?_)
      refine restU_of (n := bl.length) (fun j ys nw => nw = (lA, listOf vs.toArray nv) :: rest ∧ ys = (bl.take j).map Value.bool) ?step ?fin _ 0 [] _ (by rw [Nat.zero_add, hbl, List.length_map]; exact c4.length) ⟨rfl, by simp⟩
      case step =>
        rintro j ys nw hj ⟨rfl, rfl⟩ v I oI C oC9 D m₂ h9 tk9 E9 hP hC9 hx F9 N9 o1 o2
        refine hideQ ?_; intro Pc hPc
        obtain ⟨q, tq, rfl, hq⟩ := c4.at j v hP
        obtain ⟨q0, q1⟩ := hCR q (List.mem_of_getElem? hq)
        have hql : q.toNat < bs.length := by rw [lenb]; have : q < (conds.length : Int) := q1; omega
        have hvq : (bs.map Value.bool)[q.toNat]? = some (.bool (bs.getD q.toNat false)) := by rw [List.getElem?_map, List.getD_eq_getElem?_getD, List.getElem?_eq_getElem hql]; rfl
        have hblj : bl[j]? = some (bs.getD q.toNat false) := by rw [hbl, List.getElem?_map, hq]; rfl
        have hq63 : q < 2 ^ 63 := by have : q < (conds.length : Int) := q1; omega
        k_steps
        exact hPc _ _ <| LCg.CompEnd.intro (by k_asm) (by k_asm) _ (fun p hp => hp) o1 (.tail _ c3) ⟨rfl, by rw [take_snoc hblj, List.map_append]; rfl⟩
      case fin =>
        rintro ys nw ⟨rfl, rfl⟩ D h9 tk9 F9 N9 o9
        rw [List.take_length] at N9
        have hB := boolsAre_map bl
        have oD := off1_mem o9
        have oDl : @Ne Nat lA D := oD _ (.head _)
        have oDr : ∀ p ∈ rest, p.1 ≠ D := fun p hp => oD p (.tail _ hp)
        k_steps
        · -- a rule that is entered
          rename Fr _ _ _ _ => lF
          rename News _ _ _ _ => lN
          rename_i hany0 _ _
          have eW := eWt hany0
          rw [eW] at eTk
          obtain ⟨r2, hr2⟩ : ∃ r2 : Led, r2 = (D, LCg.lst (bl.map Value.bool)) :: rest := ⟨_, rfl⟩
          have lN2 : News g' L' _ ([(lA, listOf vs.toArray nv)] ++ r2) := cb_drop lN (by rw [hr2]; exact swap2)
          have n1 : ∀ p ∈ rest, p ∈ r2 := fun p hp => by rw [hr2]; exact .tail _ hp
          have n2 : ∀ p ∈ r2, p.1 ∉ [lA] := fun p hp hm => by
            rw [List.mem_singleton] at hm
            rw [hr2] at hp
            rcases List.mem_cons.mp hp with rfl | hp
            · exact oDl hm.symm
            · exact apL p hp hm
          clear lN
          refine over_tuple (σ := List Value × Nat) (adr := [lA]) (r₀ := r2) (fun c => [(lA, listOf c.1.toArray c.2)]) [Str.ofString "number"]
            (fun j c tl3 _ => AllIn (WarnIn (tl3 ++ (tl ++ tl1))) c.1 ((neverIn ⟨conds, rules⟩ bs conds.length ++ (rules.take i).flatMap (ruleWarn ⟨conds, rules⟩ bs)) ++ seconds ⟨conds, rules⟩ ⟨num, cds, sts, lin⟩ (cds.take j)) ∧ c.1.length ≤ 100 + 100 * i + j ∧ ∀ q ∈ tl3, ∀ p ∈ r2, p.1 ≠ q.1) (vs, nv) rfl (n1 _ c3) (fun _ => rfl) n2 lF lN2
            ⟨by rw [List.take_zero]; show AllIn _ _ (_ ++ []); rw [List.append_nil, List.nil_append]; exact hJ, hJl, fun q hq => nomatch hq⟩ ?turn3 ?done3
          case done3 =>
            clear lF lN2
            rintro ⟨vs3, nv3⟩ tl3 u3 h3 tk3 ⟨hJ3, hJl3, hap3⟩ ht3 F' N'
            dsimp only at hJ3 hJl3 F' N'
            dsimp only [List.cons_append, List.nil_append] at N'
            k_steps
            refine LPost.nx hPl <| LEnd.intro (vs3, nv3) (tl3 ++ [(D, LCg.lst (bl.map Value.bool))]) (by k_asm) (by k_asm) ?_ ?_ ?_ (by (k_extra "tb_start")) ⟨?_, ?_⟩
            · intro p hp
              rw [hr2]
              rcases List.mem_append.mp hp with hp | hp
              · rw [List.mem_singleton.mp hp]; exact .head _
              · rw [List.append_assoc] at hp; exact .tail _ hp
            · intro q hq hm
              rcases List.mem_append.mp hq with hq | hq
              · exact ht3 q hq hm
              · rw [List.mem_singleton.mp hq, List.mem_singleton] at hm; exact oDl hm.symm
            · intro q hq p hp
              rcases List.mem_append.mp hq with hq | hq
              · exact hap3 q hq p (n1 p hp)
              · rw [List.mem_singleton.mp hq]; exact oDr p hp
            · rw [eTk, ← List.append_assoc]
              rw [List.take_of_length_le (Nat.le_of_eq c4.length.symm)] at hJ3
              refine hJ3.mono fun v d q => q.mono fun p hp => ?_
              simp only [List.append_assoc]
              rcases List.mem_append.mp hp with hp | hp
              · exact List.mem_append.mpr (.inl hp)
              · exact List.mem_append.mpr (.inr (.tail _ hp))
            · dsimp only; omega
          case turn3 =>
            clear lF lN2 hJ hJl
            rintro j v ⟨vs3, nv3⟩ tl3 u3 h3 tk3 rest3 hv3 hj hr3 ht3 hne3 ⟨hJ3, hJl3, hap3⟩ F' N'
            generalize hPl : LPost _ _ _ _ _ _ _ _ _ _ _ = Pl; revert Pl; refine stayP ?_; intro Pl hPl
            dsimp only at hJ3 hJl3 F' N'
            dsimp only [List.cons_append, List.nil_append] at N'
            have apL3 : ∀ p ∈ rest3, p.1 ≠ lA := fun p hp e => hne3 p hp (List.mem_singleton.mpr e)
            obtain ⟨q, tq, rfl, hq⟩ := c4.at j v hv3
            obtain ⟨x0, x1⟩ := hCR q (List.mem_of_getElem? hq)
            have up3 : ∀ p ∈ news, p ∈ rest3 := fun p hp => hr3 p (n1 p (up p hp))
            have hD3 := hD2.mono up3
            have y1 := hr3 _ (n1 _ c1)
            have y2 := hr3 _ (n1 _ c2)
            have y3 := hr3 _ (n1 _ b1)
            have y4 := hr3 _ (n1 _ b2)
            have y5 := hr3 _ (n1 _ b3)
            have hql : q.toNat < conds.length := by have : q < (conds.length : Int) := x1; omega
            have hq63 : q < 2 ^ 63 := by have : q < (conds.length : Int) := x1; omega
            obtain ⟨vq, hvq⟩ : ∃ vq, cvs[q.toNat]? = some vq := ⟨cvs[q.toNat]'(by omega), List.getElem?_eq_getElem (by omega)⟩
            obtain ⟨cd, hcd, hSc⟩ := a4.get hvq
            replace hSc := hSc.mono up3
            have hliv : ({ conds := conds, rules := rules } : FileD).rules.any (liveAt q) = true := List.any_eq_true.mpr ⟨_, List.mem_of_getElem? hst, List.any_eq_true.mpr ⟨q, List.mem_of_getElem? hq, by simp⟩⟩
            have eTj := take_snoc hq
            have hcd1 : nameOf ⟨conds, rules⟩ q.toNat = cd.1 := by
              show (((conds[q.toNat]?).map (·.1)).getD (Str.ofString "")) = cd.1
              rw [hcd]; rfl
            cases hSc with
            | mk e1 =>
            clear c1 c2 b1 b2 b3 s1 s2
            k_steps
            · rename _ ∧ AllLt _ rest3 => lt9
              rename News _ _ _ _ => lN
              rename List.find? _ _ = _ => hf9
              rename ¬ (_ = num) => hnn
              have en : endNo ⟨conds, rules⟩ q ≠ num := by
                unfold endNo
                rw [hf9]
                exact hnn
              refine LPost.nx hPl <| LEnd.intro (vs3 ++ [Value.ref _], nv3 + 1) [(_, _)] (by k_asm) lN swap2 (new1 lt9.1) (new2 lt9.2) (by (k_extra "tb_start")) ⟨?_, ?_, ?_⟩
              · rw [eTj, seconds_snoc, if_neg en]
                refine Eq.mp (congrArg (AllIn _ _) (List.append_assoc _ _ _)) ?_
                refine (hJ3.mono fun v d q => q.mono fun p hp => .tail _ hp).snoc ?_
                rw [hcd1]
                exact .mk (.head _)
              · dsimp only; simp only [List.length_append, List.length_singleton]; omega
              · intro q hq p hp
                rcases List.mem_cons.mp hq with rfl | hq
                · exact Nat.ne_of_lt (tb_ltOf lt9.2 p (hr3 p hp))
                · exact hap3 q hq p hp
            · rename List.find? _ _ = _ => hf9
              rename _ = num => hnn
              have en : endNo ⟨conds, rules⟩ q = num := by
                unfold endNo
                rw [hf9]
                exact hnn
              refine LPost.nx hPl <| LEnd.intro (vs3, nv3) [] (by k_asm) (by k_asm) (fun p hp => hp) (fun _ h => nomatch h) (fun _ h => nomatch h) (by (k_extra "tb_start")) ⟨?_, ?_, hap3⟩
              · rw [eTj, seconds_snoc, if_pos en, List.append_nil]
                exact hJ3
              · dsimp only; omega
        · rename _ ∧ _ ∧ AllLt _ rest => lt9
          rename News _ _ _ _ => lN
          rename _ = false => hany0
          refine LPost.nx hPl <| LEnd.intro (vs ++ [Value.ref _], nv + 1) [(_, _), (D, _)] (by k_asm) lN swap3 ?_ ?_ (by (k_extra "tb_start")) ⟨?_, ?_⟩
          · intro q hq hm
            rcases List.mem_cons.mp hq with rfl | hq
            · exact Nat.ne_of_gt lt9.2.1 (List.mem_singleton.mp hm)
            · rw [List.mem_singleton.mp hq, List.mem_singleton] at hm; exact oDl hm.symm
          · intro q hq p hp
            rcases List.mem_cons.mp hq with rfl | hq
            · exact Nat.ne_of_lt (tb_ltOf lt9.2.2 p hp)
            · rw [List.mem_singleton.mp hq]; exact oDr p hp
          · rw [eTk, eWf hany0, ← List.append_assoc]
            refine (hJ.mono fun v d q => q.mono fun p hp => .tail _ (.tail _ hp)).snoc ?_
            exact .mk (.head _)
          · dsimp only; simp only [List.length_append, List.length_singleton]; omega
end
section
example : True := by
  k_with_none
  k_with "k_ne" => ((refine neN ?_; (try dsimp only); with_reducible first | assumption | exact Nat.ne_of_lt (by assumption) | exact Nat.ne_of_gt (by assumption) | exact neC1 (by assumption) | exact (neC1 (by assumption)).symm | exact neC2 (by assumption) | exact (neC2 (by assumption)).symm | exact neC3 (by assumption) | exact (neC3 (by assumption)).symm | exact neC4 (by assumption) | exact (neC4 (by assumption)).symm | exact neD2 (by assumption) | exact (neD2 (by assumption)).symm | exact neD3 (by assumption) | exact (neD3 (by assumption)).symm | exact neC5 (by assumption) | exact (neC5 (by assumption)).symm))
  k_with "ktr_room" => (first | decide | (refine' room_of (c := 1) ?wqh9 ?wqe9 ?wqk9; (case wqh9 => with_reducible assumption); (case wqe9 => exact rfl); (case wqk9 => decide)) | (refine' room_of (c := 0) ?wqh9 ?wqe9 ?wqk9; (case wqh9 => with_reducible assumption); (case wqe9 => exact rfl); (case wqk9 => decide)) | (refine' room_at (c := 0) ?wqh9 ?wqe9 ?wqk9; (case wqh9 => with_reducible assumption); (case wqe9 => exact rfl); (case wqk9 => decide)) | (refine' room_at (c := 1) ?wqh9 ?wqe9 ?wqk9; (case wqh9 => with_reducible assumption); (case wqe9 => exact rfl); (case wqk9 => decide)) | fail "room")
  k_with "ktr_units" => (first | decide | (refine' room_of (c := 3) ?wqh9 ?wqe9 ?wqk9; (case wqh9 => with_reducible assumption); (case wqe9 => exact rfl); (case wqk9 => decide)) | (refine' room_of (c := 0) ?wqh9 ?wqe9 ?wqk9; (case wqh9 => with_reducible assumption); (case wqe9 => exact rfl); (case wqk9 => decide)) | fail "units")
  k_with "exec For Name Attribute cons nil" => ((k_here; (with_reducible show wpAny _ _ (exec (Stmt.For _ _ _ [] _) _) _ _ _); with_unfolding_all refine For_any ?_))
  k_with "exec For Name Name cons nil" => ((k_here; (with_reducible show wpAny _ _ (exec (Stmt.For _ _ _ [] _) _) _ _ _); with_unfolding_all refine For_any ?_))
  k_with "exec For Name Call cons nil" => ((k_here; (with_reducible show wpAny _ _ (exec (Stmt.For _ _ _ [] _) _) _ _ _); with_unfolding_all refine For_any ?_))
  k_with "exec For Name Subscript cons nil" => ((k_here; (with_reducible show wpAny _ _ (exec (Stmt.For _ _ _ [] _) _) _ _ _); with_unfolding_all refine For_any ?_))
  k_with "exec For Name Tuple cons nil" => ((k_here; (with_reducible show wpAny _ _ (exec (Stmt.For _ _ _ [] _) _) _ _ _); with_unfolding_all refine For_any ?_))
  k_with "exec For Tuple Call cons nil" => ((k_here; (with_reducible show wpAny _ _ (exec (Stmt.For _ _ _ [] _) _) _ _ _); with_unfolding_all refine For_any ?_))
  k_with "exec For Tuple Name cons nil" => ((k_here; (with_reducible show wpAny _ _ (exec (Stmt.For _ _ _ [] _) _) _ _ _); with_unfolding_all refine For_any ?_))
  k_with "exec For Tuple Subscript cons nil" => ((k_here; (with_reducible show wpAny _ _ (exec (Stmt.For _ _ _ [] _) _) _ _ _); with_unfolding_all refine For_any ?_))
  k_with "LPost" => ((dsimp only [LPost]))
  k_with "call builtin:len" => ((k_here; (with_reducible show wpAny _ _ (call (Value.builtin "len") [Value.ref _]) _ _ _); k_dflt (refine' len_led ?wqk1 ?wqk2 ?wqk3 ?_; (case wqk1 => k_asm); (case wqk2 => k_mem); (case wqk3 => omega); k_whole)))
  k_with "subscriptTail" => ((k_here; (with_reducible show wpAny _ _ (subscriptTail _ _ (Value.ref _) (Value.int _ _)) _ _ _); (with_unfolding_all refine' item_led ?wqk1 ?wqk2 ?wqk3 ?wqk4 ?wqk5 ?_ ?wqk6; (case wqk1 => k_asm); (case wqk2 => k_mem); (case wqk5 => first | assumption | (simp only [Int.toNat_natCast]; assumption)); (case wqk3 => omega); (case wqk4 => omega); (case wqk6 => with_unfolding_all rfl); k_whole)))
  k_with "tb_start" => ((intro y hy; (try dsimp only); (simp only [List.contains_cons, List.contains_nil, Bool.or_false, Bool.or_eq_false_iff] at hy); (have hy2 := hy); (simp only [beq_eq_false_iff_ne, ne_eq] at hy2); (simp only [List.contains_cons, List.contains_nil, hy, hy2, Bool.or_false, Bool.false_eq_true, if_false])))
  k_with "eval ListComp" => ((k_here; k_dflt (refine LCg.ListComp_U (F₀ := by k_asm) (by with_unfolding_all rfl) (by decide) (by rfl) (by decide) (by rfl) ?_)))
  k_with "eval ListComp" => ((k_here; k_dflt (refine LCt.ListComp_T (F₀ := by k_asm) (by with_unfolding_all rfl) (by decide) (by rfl) (by decide) (by rfl) ?_)))
  k_with "k_mem" => (first | exact List.Mem.head _ | ktr_member | (refine' List.mem_cons_of_mem _ ?_; k_mem))
  k_with "setItem ref int" => ((k_here; (with_reducible show wpAny _ _ (setItem (Value.ref _) (Value.int _ _) _) _ _ _); k_dflt (refine' set_led ?wqk1 ?wqk2 ?wqk3 ?wqk5 ?wqk6 ?wqk7 ?_; (case wqk1 => k_asm); (case wqk2 => k_asm); (case wqk3 => k_upd); (case wqk5 => omega); (case wqk6 => first | assumption | omega | (simp only [List.length_replicate, List.length_set, Int.toNat_natCast] at *; omega)); (case wqk7 => omega); k_whole); intro _ _ _; (try k_sweep)))
  k_with "call builtin:list.pop" => ((k_here; (with_reducible show wpAny _ _ (call (Value.builtin _) [Value.ref _]) _ _ _); k_dflt (refine' pop_led ?wqk1 ?wqk2 ?wqk3 ?wqk4 ?_; (case wqk1 => k_asm); (case wqk2 => k_asm); (case wqk3 => k_upd); (case wqk4 => (first | (rw [sizeLine_eq]; omega) | size_fits)); k_whole); intro _ _ _; (try k_sweep)))
  k_with "truthy ref" => ((k_here; k_dflt (first | (refine' truth_nil ?wqk1 ?wqk2 ?_; (case wqk1 => k_asm); (case wqk2 => k_mem)) | (refine' truth_snoc ?wqk1 ?wqk2 ?wqk3 ?_; (case wqk1 => k_asm); (case wqk2 => k_mem); (case wqk3 => omega)))))
  k_with "binaryOp Mult ref int" => ((k_here; k_dflt (refine' mul_led ?wqk1 ?wqk2 ?wqk3 ?wqk4 ?wqk5 ?_; (case wqk1 => k_asm); (case wqk2 => k_asm); (case wqk3 => k_mem); (case wqk4 => omega); (case wqk5 => omega); k_whole); intro _ _ _ _ l1; (try k_lt l1); (have _ := l1); clear l1; (try k_sweep)))
  k_with "k_all" => (first | with_reducible assumption | (refine' List.forall_mem_cons.mpr ⟨?wqa, ?wqb⟩; (case wqa => k_ne); (case wqb => k_all)))
  k_with "exec While Name cons nil" => ((k_here; refine While_stop ?_))
  k_with "call builtin:list.append" => ((k_here; (with_reducible show wpAny _ _ (call (Value.builtin _) [Value.ref _, _]) _ _ _); k_dflt (refine' append_led ?wqk1 ?wqk2 ?wqk3 ?wqk4 ?_; (case wqk1 => k_asm); (case wqk2 => k_asm); (case wqk3 => k_upd); (case wqk4 => (rw [sizeLine_eq]; (try simp only [List.length_append, List.length_cons, List.length_nil]); omega)); k_whole); intro _ _ _; (try k_sweep)))
  k_with "WPost" => ((dsimp only [WPost]))
  k_with "tb_rel" => (first | assumption | (refine RuleIn.mono (by assumption) ?_; intro p hp; (repeat (first | exact hp | refine List.mem_cons_of_mem _ ?_))) | (refine FileIn.mono (by assumption) ?_; intro p hp; (repeat (first | exact hp | refine List.mem_cons_of_mem _ ?_))))
  k_with "lsm_bools" => (with_reducible assumption)
  k_with "kaf_pre" => (first | assumption | (refine List.mem_cons_of_mem _ ?_; (k_extra "kaf_pre")))
  k_with "kaf_suf" => (first | exact UpdF.head (by first | assumption | k_all) | (refine' UpdF.tail ?wqua7 ?wqub7; (case wqua7 => k_ne); (case wqub7 => (k_extra "kaf_suf"))))
  k_with "kat_tups" => ((intro p hp; (repeat (first | exact hp | refine List.mem_cons_of_mem _ ?_))))
  trivial
local macro_rules | `(tactic| walk_at "i1") => `(tactic| (intro r9 h9 tk9 nw9 F9 N9 P9; obtain ⟨hk9, e9⟩ := P9; subst e9; (generalize hko : kindOf _ = o9 at hk9); cases hk9))
example : True := by
  k_with "call ref" => ((k_here; (with_reducible show wpAny _ _ (call (Value.ref 181) _) _ _ _); k_dflt (refine' Spec.use (has_step_spec _ _ _ _ _ ?wqhR) ?wqk1 ?wqk2 ?wqk3 ?wqk4 ?wqk5 ?wqk6 ?wqk7 ?wqk8 ?_; (case wqk1 => k_asm); (case wqk2 => k_asm); (case wqk3 => k_asm); (case wqk4 => k_asm); (case wqk5 => k_asm); (case wqk6 => first | exact rfl | assumption); (case wqhR => (k_extra "tb_rel")); (case wqk7 => ktr_room); (case wqk8 => ktr_units); k_whole); intro _ _ _ _ _ _ P9; obtain ⟨e8, e9⟩ := P9; subst e8; subst e9))
  k_with "call ref" => ((k_here; (with_reducible show wpAny _ _ (call (Value.ref 167) _) _ _ _); k_dflt (refine' Spec.use (is_end_spec _ _ _ ?wqhR) ?wqk1 ?wqk2 ?wqk3 ?wqk4 ?wqk5 ?wqk6 ?wqk7 ?wqk8 ?_; (case wqk1 => k_asm); (case wqk2 => k_asm); (case wqk3 => k_asm); (case wqk4 => k_asm); (case wqk5 => k_asm); (case wqk6 => first | exact rfl | assumption); (case wqhR => (k_extra "tb_rel")); (case wqk7 => ktr_room); (case wqk8 => ktr_units); k_whole); intro _ _ _ _ _ _ P9; obtain ⟨e8, e9⟩ := P9; subst e8; subst e9))
  k_with "call ref" => ((k_here; k_dflt (refine' Spec.use (kind_spec _ _ _ ?wqhR) ?wqk1 ?wqk2 ?wqk3 ?wqk4 ?wqk5 ?wqk6 ?wqk7 ?wqk8 ?_; (case wqk1 => k_asm); (case wqk2 => k_asm); (case wqk3 => k_asm); (case wqk4 => k_asm); (case wqk5 => k_asm); (case wqk6 => first | exact rfl | assumption); (case wqhR => (k_extra "tb_rel")); (case wqk7 => ktr_room); (case wqk8 => ktr_units); k_whole); walk_at "i1"))
  trivial
section
variable {prog : Program} {w : World} {A : Around} {E : Value → Shared → Prop} {s : Shared} {h₀ : Heap} {L : Addr} {news : Led}
theorem notin_led_strs {t : Addr} {vs : List Value} {n : Nat} {ns : List Str} {x : Str} {u : Tok} {Q : Value → Shared → Prop} (N : News h₀ L s.heap news) (hm : (t, listOf vs.toArray n) ∈ news) (hi : StrsAre vs ns)
    (h : Q (.bool (!ns.any (· == x))) s) : wpAny (model prog w) A (compareOp .NotIn (.str x u) (.ref t)) Q E s :=
  notin_list_strs ⟨_, (N _ hm).1, rfl, n, rfl⟩ (by simpa using hi) h
theorem sorted_led_strs {m : Str → Option Value} {l : Addr} {vs : List Value} {n : Nat} {ss : List Str} {Q : Value → Shared → Prop} (F : Fr h₀ L s.heap m) (N : News h₀ L s.heap news) (hm : (l, listOf vs.toArray n) ∈ news) (hi : StrsAre vs ss) (h64 : vs.length < 64)
    (h : ∀ D vs' ss' c h', Fr h₀ L h' m → News h₀ L h' ((D, listOf vs'.toArray c) :: news) → (∀ q ∈ news, q.1 < D) → StrsAre vs' ss' → ss'.Perm ss → sortedS ss' = true → Q (.ref D) { s with heap := h' }) :
    wpAny (model prog w) A (call (.builtin "sorted") [.ref l]) Q E s :=
  sorted_N_str F N ⟨_, (N _ hm).1, rfl, n, rfl⟩ hi h64 fun h' vs' ss' e F' N' a1 a2 a3 => h _ vs' ss' e h' F' N' (fun p hp => Nat.lt_succ_of_lt (Heap.lt_size (N p hp).1)) a1 a2 a3
end
theorem strs_snoc {vs : List Value} {ss : List Str} {x : Str} {t : Tok} (h : StrsAre vs ss) : StrsAre (vs ++ [.str x t]) (ss ++ [x]) := by
  induction h with
  | nil => exact .cons _ _ .nil
  | cons y u _ ih => exact .cons y u ih

def kindIn (ks : List Str) (R : RuleD) : List Str :=
  match kindOf R.steps with
  | none => ks
  | some x => if ks.any (· == x) then ks else ks ++ [x]
def kindsD (rs : List RuleD) : List Str := rs.foldl kindIn []
theorem kindsD_snoc {rs : List RuleD} {R : RuleD} : kindsD (rs ++ [R]) = kindIn (kindsD rs) R := by
  unfold kindsD; rw [List.foldl_append]; rfl
theorem kindIn_len {ks : List Str} {R : RuleD} : (kindIn ks R).length ≤ ks.length + 1 := by
  unfold kindIn
  split
  · omega
  · split
    · omega
    · simp
local macro_rules | `(tactic| walk_at "i2") => `(tactic| (intro D' v' n' c' h' F' N' l1 i' p' o'; (try k_lt l1); (try k_sweep)))
example : True := by
  k_with "compareOp NotIn str ref" => ((k_here; k_dflt (refine' notin_led_strs ?wqk1 ?wqk2 ?wqk3 ?_; (case wqk1 => k_asm); (case wqk2 => k_mem); (case wqk3 => assumption); k_whole)))
  k_with "call builtin:sorted" => ((k_here; (with_reducible show wpAny _ _ (call (Value.builtin _) [Value.ref _]) _ _ _); (k_dflt (refine' sorted_led_strs ?wqk1 ?wqk2 ?wqk3 ?wqk4 ?wqk5 ?_; (case wqk1 => k_asm); (case wqk2 => k_asm); (case wqk3 => k_mem); (case wqk4 => assumption); (case wqk5 => omega); k_whole)); walk_at "i2"))
  trivial

theorem kinds_spec : ∀ (news : Led) (v : Value) (D : FileD), FileIn news v D → D.rules.length ≤ 40 →
    Spec news 77 [v] 4 40 (fun r news' => ∃ (g : Addr) (vs : List Value) (ss : List Str) (nn : Nat) (tl : Led), r = .ref g ∧ news' = (g, listOf vs.toArray nn) :: (tl ++ news) ∧ StrsAre vs ss ∧ ss.Perm (kindsD D.rules) ∧ sortedS ss = true) := by
  unfold Spec
  w_top off
  k_fill
  intro news v D hD hlen w p loose mean mg mb dp un gd cn cs a ccd cl outer A₀ base h₀ L m s Q E B F X N T hk hd hu hret
  have hD2 := hD
  cases hD with
  | @mk f d ca ra k1 k2 k3 k4 k5 t1 t2 t3 t4 t5 v1 v4 v5 cvs rvs nc nr conds rules a1 a2 a3 a4 a5 a6 a7 a8 =>
  have hlen1 : rules.length ≤ 40 := hlen
  have e6 : rvs.length = rules.length := a6.1
  refine wpAny_call ?_
  k_dflt ktr_enter
  refine hideA ?_; intro Ak
  rename Fr _ _ _ _ => lF0; refine letM lF0 ?_; clear lF0; intro m0 F0
  k_steps
  rename_i lA h2 l1 h3 lF lN
  have apA : ∀ p ∈ news, p.1 ∉ [lA] := fun p hp hm => by
    rw [List.mem_singleton] at hm
    exact Nat.ne_of_lt (l1 p hp) hm
  refine over_list (σ := List Value × Nat) (adr := [lA]) (r₀ := news) (fun c => [(lA, listOf c.1.toArray c.2)]) [Str.ofString "rule", Str.ofString "kind"]
    (fun i c tl _ => StrsAre c.1 (kindsD (rules.take i)) ∧ c.1.length ≤ i) ([], 0) rfl a5 (fun _ => rfl) apA lF lN ⟨.nil, Nat.zero_le _⟩ ?turn ?done
  case done =>
    clear lF lN
    rintro ⟨vs1, nv1⟩ tl u h tk ⟨hJ, hJl⟩ ht F' N'
    dsimp only at hJ hJl F' N'
    dsimp only [List.cons_append, List.nil_append] at N'
    have hlv : vs1.length < 64 := by omega
    k_steps
    rename News _ _ _ _ => lN
    refine hret _ _ _ _ (by k_asm) lN ⟨_, _, _, _, (lA, listOf vs1.toArray nv1) :: tl, rfl, rfl, by assumption, ?_, by assumption⟩
    rw [e6, List.take_length] at hJ
    rename List.Perm _ _ => pm
    rw [e6, List.take_length] at pm
    exact pm
  case turn =>
    clear lF lN
    rintro i v ⟨vs1, nv1⟩ tl u h tk rest hv hi hr ht hne ⟨hJ, hJl⟩ F' N'
    generalize hPl : LPost _ _ _ _ _ _ _ _ _ _ _ = Pl; revert Pl; refine stayP ?_; intro Pl hPl
    dsimp only at hJ hJl F' N'
    dsimp only [List.cons_append, List.nil_append] at N'
    have apL : ∀ p ∈ rest, p.1 ≠ lA := fun p hp e => hne p hp (List.mem_singleton.mpr e)
    obtain ⟨R, hst, hS0⟩ := a6.get hv
    have hS := hS0.mono hr
    have hS2 := hS
    have eN : kindOf R.steps = none → kindIn (kindsD (rules.take i)) R = kindsD (rules.take i) := fun e => by unfold kindIn; rw [e]
    have eI : ∀ x, kindOf R.steps = some x → ((kindsD (rules.take i)).any fun y => y == x) = true → kindIn (kindsD (rules.take i)) R = kindsD (rules.take i) := fun x e f => by unfold kindIn; rw [e]; dsimp only; rw [if_pos f]
    have eO : ∀ x, kindOf R.steps = some x → ((kindsD (rules.take i)).any fun y => y == x) = false → kindIn (kindsD (rules.take i)) R = kindsD (rules.take i) ++ [x] := fun x e f => by unfold kindIn; rw [e]; dsimp only; rw [if_neg (by rw [f]; exact Bool.false_ne_true)]
    have eT : kindsD (rules.take (i + 1)) = kindIn (kindsD (rules.take i)) R := by rw [take_snoc hst, kindsD_snoc]
    cases hS with
    | mk c1 c2 c3 c4 c5 c6 c7 c8 =>
    k_steps
    · exact LPost.nx hPl <| LEnd.intro (vs1, nv1) [] (by k_asm) (by k_asm) (fun p hp => hp) (fun _ h => nomatch h) (fun _ h => nomatch h) (by (k_extra "tb_start")) ⟨by rw [eT, eN (by assumption)]; exact hJ, by dsimp only; omega⟩
    · exact LPost.nx hPl <| LEnd.intro (vs1, nv1) [] (by k_asm) (by k_asm) (fun p hp => hp) (fun _ h => nomatch h) (fun _ h => nomatch h) (by (k_extra "tb_start")) ⟨by rw [eT, eI _ (by assumption) (by assumption)]; exact hJ, by dsimp only; omega⟩
    · exact LPost.nx hPl <| LEnd.intro (vs1 ++ [Value.str _ _], nv1 + 1) [] (by k_asm) (by k_asm) (fun p hp => hp) (fun _ h => nomatch h) (fun _ h => nomatch h) (by (k_extra "tb_start")) ⟨by rw [eT, eO _ (by assumption) (by assumption)]; exact strs_snoc hJ, by dsimp only; simp only [List.length_append, List.length_singleton]; omega⟩

theorem costs_spec : ∀ (news : Led) (v : Value) (D : FileD), FileIn news v D → (∀ R ∈ D.rules, R.steps.any (hasWord (Str.ofString "more")) = false ∧ R.steps.any (hasWord (Str.ofString "reject")) = false) →
    Spec news 110 [v] 4 40 (fun r news' => ∃ (g : Addr) (nn : Nat) (tl : Led), r = .ref g ∧ news' = (g, listOf #[] nn) :: (tl ++ news)) := by
  unfold Spec
  w_top off
  k_fill
  intro news v D hD hno w p loose mean mg mb dp un gd cn cs a ccd cl outer A₀ base h₀ L m s Q E B F X N T hk hd hu hret
  have hD2 := hD
  cases hD with
  | @mk f d ca ra k1 k2 k3 k4 k5 t1 t2 t3 t4 t5 v1 v4 v5 cvs rvs nc nr conds rules a1 a2 a3 a4 a5 a6 a7 a8 =>
  refine wpAny_call ?_
  k_dflt ktr_enter
  refine hideA ?_; intro Ak
  rename Fr _ _ _ _ => lF0; refine letM lF0 ?_; clear lF0; intro m0 F0
  k_steps
  rename_i lA h2 l1 h3 lF lN
  have apA : ∀ p ∈ news, p.1 ∉ [lA] := fun p hp hm => by
    rw [List.mem_singleton] at hm
    exact Nat.ne_of_lt (l1 p hp) hm
  refine over_list (σ := Nat) (adr := [lA]) (r₀ := news) (fun c => [(lA, listOf #[] c)]) [Str.ofString "rule", Str.ofString "word"]
    (fun i c tl _ => True) 0 rfl a5 (fun _ => rfl) apA lF lN trivial ?turn ?done
  case done =>
    clear lF lN
    rintro nv1 tl u h tk _ ht F' N'
    (try dsimp only at F' N')
    dsimp only [List.cons_append, List.nil_append] at N'
    k_steps
    exact hret _ _ _ _ (by k_asm) (by k_asm) ⟨lA, nv1, tl, rfl, rfl⟩
  case turn =>
    clear lF lN
    rintro i v nv1 tl u h tk rest hv hi hr ht hne _ F' N'
    generalize hPl : LPost _ _ _ _ _ _ _ _ _ _ _ = Pl; revert Pl; refine stayP ?_; intro Pl hPl
    (try dsimp only at F' N')
    dsimp only [List.cons_append, List.nil_append] at N'
    have apL : ∀ p ∈ rest, p.1 ≠ lA := fun p hp e => hne p hp (List.mem_singleton.mpr e)
    obtain ⟨R, hst, hS0⟩ := a6.get hv
    have hS := hS0.mono hr
    have hS2 := hS
    obtain ⟨hw1, hw2⟩ := hno R (List.mem_of_getElem? hst)
    cases hS with
    | mk c1 c2 c3 c4 c5 c6 c7 c8 =>
    k_steps
    rename_i D3 _ lF lN lt3
    have lD : @LT.lt Nat _ lA D3 := lt3.1
    have lR : ∀ p ∈ rest, p.1 ≠ D3 := fun p hp => Nat.ne_of_lt (tb_ltOf lt3.2 p hp)
    have lN2 := cb_drop lN swap2
    clear lN
    refine over_tuple (σ := Nat) (adr := [lA]) (r₀ := [(D3, _)] ++ rest) (fun c => [(lA, listOf #[] c)]) [Str.ofString "word"]
      (fun j c tl3 _ => ∀ q ∈ tl3, ∀ p ∈ rest, p.1 ≠ q.1) nv1 rfl (.head _) (fun _ => rfl) (by
        intro p hp hm
        rcases List.mem_append.mp hp with hp | hp
        · rw [List.mem_singleton.mp hp] at hm
          exact Nat.ne_of_gt lD (List.mem_singleton.mp hm)
        · exact apL p hp (List.mem_singleton.mp hm)) lF lN2 (fun q hq => nomatch hq) ?turn3 ?done3
    case done3 =>
      clear lF lN2
      rintro nv3 tl3 u3 h3 tk3 hJ3 ht3 F' N'
      k_steps
      refine LPost.nx hPl <| LEnd.intro nv3 (tl3 ++ [(D3, _)]) (by k_asm) (by k_asm) (fun p hp => by simpa only [List.append_assoc] using hp) ?_ ?_ (by (k_extra "tb_start")) trivial
      · intro q hq hm
        rcases List.mem_append.mp hq with hq | hq
        · exact ht3 q hq hm
        · rw [List.mem_singleton.mp hq] at hm
          exact Nat.ne_of_gt lD (List.mem_singleton.mp hm)
      · intro q hq p hp
        rcases List.mem_append.mp hq with hq | hq
        · exact hJ3 q hq p hp
        · rw [List.mem_singleton.mp hq]
          exact lR p hp
    case turn3 =>
      clear lF lN2
      rintro j v nv3 tl3 u3 h3 tk3 rest3 hv3 hj hr3 ht3 hne3 hJ3 F' N'
      generalize hPl : LPost _ _ _ _ _ _ _ _ _ _ _ = Pl; revert Pl; refine stayP ?_; intro Pl hPl
      dsimp only [List.cons_append, List.nil_append] at N'
      have apL3 : ∀ p ∈ rest3, p.1 ≠ lA := fun p hp e => hne3 p hp (List.mem_singleton.mpr e)
      have y1 := hr3 _ (.tail _ c1)
      have y2 := hr3 _ (.tail _ c2)
      have hS3 := hS2.mono (fun p hp => hr3 p (.tail _ hp))
      rcases j with _ | _ | j
      · cases hv3
        k_steps
        exact LPost.nx hPl <| LEnd.intro nv3 [] (by k_asm) (by k_asm) (fun p hp => hp) (fun _ h => nomatch h) (fun _ h => nomatch h) (by (k_extra "tb_start")) hJ3
      · cases hv3
        k_steps
        exact LPost.nx hPl <| LEnd.intro nv3 [] (by k_asm) (by k_asm) (fun p hp => hp) (fun _ h => nomatch h) (fun _ h => nomatch h) (by (k_extra "tb_start")) hJ3
      · exact absurd hj (by simp)
end
section
example : True := by
  k_with_none
  k_with "k_ne" => ((refine neN ?_; (try dsimp only); with_reducible first | assumption | exact Nat.ne_of_lt (by assumption) | exact Nat.ne_of_gt (by assumption) | exact neC1 (by assumption) | exact (neC1 (by assumption)).symm | exact neC2 (by assumption) | exact (neC2 (by assumption)).symm | exact neC3 (by assumption) | exact (neC3 (by assumption)).symm | exact neC4 (by assumption) | exact (neC4 (by assumption)).symm | exact neD2 (by assumption) | exact (neD2 (by assumption)).symm | exact neD3 (by assumption) | exact (neD3 (by assumption)).symm | exact neC5 (by assumption) | exact (neC5 (by assumption)).symm))
  k_with "ktr_room" => (first | decide | (refine' room_of (c := 1) ?wqh9 ?wqe9 ?wqk9; (case wqh9 => with_reducible assumption); (case wqe9 => exact rfl); (case wqk9 => decide)) | (refine' room_of (c := 0) ?wqh9 ?wqe9 ?wqk9; (case wqh9 => with_reducible assumption); (case wqe9 => exact rfl); (case wqk9 => decide)) | (refine' room_at (c := 0) ?wqh9 ?wqe9 ?wqk9; (case wqh9 => with_reducible assumption); (case wqe9 => exact rfl); (case wqk9 => decide)) | (refine' room_at (c := 1) ?wqh9 ?wqe9 ?wqk9; (case wqh9 => with_reducible assumption); (case wqe9 => exact rfl); (case wqk9 => decide)) | fail "room")
  k_with "ktr_units" => (first | decide | (refine' room_of (c := 3) ?wqh9 ?wqe9 ?wqk9; (case wqh9 => with_reducible assumption); (case wqe9 => exact rfl); (case wqk9 => decide)) | (refine' room_of (c := 0) ?wqh9 ?wqe9 ?wqk9; (case wqh9 => with_reducible assumption); (case wqe9 => exact rfl); (case wqk9 => decide)) | fail "units")
  k_with "exec For Name Attribute cons nil" => ((k_here; (with_reducible show wpAny _ _ (exec (Stmt.For _ _ _ [] _) _) _ _ _); with_unfolding_all refine For_any ?_))
  k_with "exec For Name Name cons nil" => ((k_here; (with_reducible show wpAny _ _ (exec (Stmt.For _ _ _ [] _) _) _ _ _); with_unfolding_all refine For_any ?_))
  k_with "exec For Name Call cons nil" => ((k_here; (with_reducible show wpAny _ _ (exec (Stmt.For _ _ _ [] _) _) _ _ _); with_unfolding_all refine For_any ?_))
  k_with "exec For Name Subscript cons nil" => ((k_here; (with_reducible show wpAny _ _ (exec (Stmt.For _ _ _ [] _) _) _ _ _); with_unfolding_all refine For_any ?_))
  k_with "exec For Name Tuple cons nil" => ((k_here; (with_reducible show wpAny _ _ (exec (Stmt.For _ _ _ [] _) _) _ _ _); with_unfolding_all refine For_any ?_))
  k_with "exec For Tuple Call cons nil" => ((k_here; (with_reducible show wpAny _ _ (exec (Stmt.For _ _ _ [] _) _) _ _ _); with_unfolding_all refine For_any ?_))
  k_with "exec For Tuple Name cons nil" => ((k_here; (with_reducible show wpAny _ _ (exec (Stmt.For _ _ _ [] _) _) _ _ _); with_unfolding_all refine For_any ?_))
  k_with "exec For Tuple Subscript cons nil" => ((k_here; (with_reducible show wpAny _ _ (exec (Stmt.For _ _ _ [] _) _) _ _ _); with_unfolding_all refine For_any ?_))
  k_with "LPost" => ((dsimp only [LPost]))
  k_with "call builtin:len" => ((k_here; (with_reducible show wpAny _ _ (call (Value.builtin "len") [Value.ref _]) _ _ _); k_dflt (refine' len_led ?wqk1 ?wqk2 ?wqk3 ?_; (case wqk1 => k_asm); (case wqk2 => k_mem); (case wqk3 => omega); k_whole)))
  k_with "subscriptTail" => ((k_here; (with_reducible show wpAny _ _ (subscriptTail _ _ (Value.ref _) (Value.int _ _)) _ _ _); (with_unfolding_all refine' item_led ?wqk1 ?wqk2 ?wqk3 ?wqk4 ?wqk5 ?_ ?wqk6; (case wqk1 => k_asm); (case wqk2 => k_mem); (case wqk5 => first | assumption | (simp only [Int.toNat_natCast]; assumption)); (case wqk3 => omega); (case wqk4 => omega); (case wqk6 => with_unfolding_all rfl); k_whole)))
  k_with "tb_start" => ((intro y hy; (try dsimp only); (simp only [List.contains_cons, List.contains_nil, Bool.or_false, Bool.or_eq_false_iff] at hy); (have hy2 := hy); (simp only [beq_eq_false_iff_ne, ne_eq] at hy2); (simp only [List.contains_cons, List.contains_nil, hy, hy2, Bool.or_false, Bool.false_eq_true, if_false])))
  k_with "eval ListComp" => ((k_here; k_dflt (refine LCg.ListComp_U (F₀ := by k_asm) (by with_unfolding_all rfl) (by decide) (by rfl) (by decide) (by rfl) ?_)))
  k_with "eval ListComp" => ((k_here; k_dflt (refine LCt.ListComp_T (F₀ := by k_asm) (by with_unfolding_all rfl) (by decide) (by rfl) (by decide) (by rfl) ?_)))
  k_with "k_mem" => (first | exact List.Mem.head _ | ktr_member | (refine' List.mem_cons_of_mem _ ?_; k_mem))
  k_with "setItem ref int" => ((k_here; (with_reducible show wpAny _ _ (setItem (Value.ref _) (Value.int _ _) _) _ _ _); k_dflt (refine' set_led ?wqk1 ?wqk2 ?wqk3 ?wqk5 ?wqk6 ?wqk7 ?_; (case wqk1 => k_asm); (case wqk2 => k_asm); (case wqk3 => k_upd); (case wqk5 => omega); (case wqk6 => first | assumption | omega | (simp only [List.length_replicate, List.length_set, Int.toNat_natCast] at *; omega)); (case wqk7 => omega); k_whole); intro _ _ _; (try k_sweep)))
  k_with "call builtin:list.pop" => ((k_here; (with_reducible show wpAny _ _ (call (Value.builtin _) [Value.ref _]) _ _ _); k_dflt (refine' pop_led ?wqk1 ?wqk2 ?wqk3 ?wqk4 ?_; (case wqk1 => k_asm); (case wqk2 => k_asm); (case wqk3 => k_upd); (case wqk4 => (first | (rw [sizeLine_eq]; omega) | size_fits)); k_whole); intro _ _ _; (try k_sweep)))
  k_with "truthy ref" => ((k_here; k_dflt (first | (refine' truth_nil ?wqk1 ?wqk2 ?_; (case wqk1 => k_asm); (case wqk2 => k_mem)) | (refine' truth_snoc ?wqk1 ?wqk2 ?wqk3 ?_; (case wqk1 => k_asm); (case wqk2 => k_mem); (case wqk3 => omega)))))
  k_with "binaryOp Mult ref int" => ((k_here; k_dflt (refine' mul_led ?wqk1 ?wqk2 ?wqk3 ?wqk4 ?wqk5 ?_; (case wqk1 => k_asm); (case wqk2 => k_asm); (case wqk3 => k_mem); (case wqk4 => omega); (case wqk5 => omega); k_whole); intro _ _ _ _ l1; (try k_lt l1); (have _ := l1); clear l1; (try k_sweep)))
  k_with "k_all" => (first | with_reducible assumption | (refine' List.forall_mem_cons.mpr ⟨?wqa, ?wqb⟩; (case wqa => k_ne); (case wqb => k_all)))
  k_with "exec While Name cons nil" => ((k_here; refine While_stop ?_))
  k_with "call builtin:list.append" => ((k_here; (with_reducible show wpAny _ _ (call (Value.builtin _) [Value.ref _, _]) _ _ _); k_dflt (refine' append_led ?wqk1 ?wqk2 ?wqk3 ?wqk4 ?_; (case wqk1 => k_asm); (case wqk2 => k_asm); (case wqk3 => k_upd); (case wqk4 => (rw [sizeLine_eq]; (try simp only [List.length_append, List.length_cons, List.length_nil]); omega)); k_whole); intro _ _ _; (try k_sweep)))
  k_with "WPost" => ((dsimp only [WPost]))
  k_with "tb_rel" => (first | assumption | (refine RuleIn.mono (by assumption) ?_; intro p hp; (repeat (first | exact hp | refine List.mem_cons_of_mem _ ?_))) | (refine FileIn.mono (by assumption) ?_; intro p hp; (repeat (first | exact hp | refine List.mem_cons_of_mem _ ?_))))
  k_with "lsm_bools" => (with_reducible assumption)
  k_with "kaf_pre" => (first | assumption | (refine List.mem_cons_of_mem _ ?_; (k_extra "kaf_pre")))
  k_with "kaf_suf" => (first | exact UpdF.head (by first | assumption | k_all) | (refine' UpdF.tail ?wqua7 ?wqub7; (case wqua7 => k_ne); (case wqub7 => (k_extra "kaf_suf"))))
  k_with "kat_tups" => ((intro p hp; (repeat (first | exact hp | refine List.mem_cons_of_mem _ ?_))))
  trivial
theorem src_ne {h₀ : Heap} {L : Addr} {h : Heap} {news : Led} {ca src : Addr} {cvs : List Value} {zs : List Int} {nc n : Nat} {at_ : Int} {t : Tok} (N0 : News h₀ L h news) (hca : (ca, listOf cvs.toArray nc) ∈ news) (hs : (src, listOf #[.ref ca, .int at_ t] n) ∈ news) (hi : IntsAre cvs zs) : ca ≠ src := by
  intro e
  subst e
  have h2 := (N0 _ hs).1
  rw [(N0 _ hca).1] at h2
  have h3 : Data.seq cvs.toArray nc = Data.seq #[.ref ca, .int at_ t] n := congrArg Obj.data (Option.some.inj h2)
  have h4 : cvs.toArray = #[.ref ca, .int at_ t] := by injection h3
  have h5 : cvs = [.ref ca, .int at_ t] := by
    have := congrArg Array.toList h4
    simpa using this
  rw [h5] at hi
  cases hi
theorem back3 {a b : Addr × Obj} {pre post : Led} : ∀ p ∈ pre ++ a :: post, p ∈ b :: a :: (pre ++ post) := by
  intro p hp
  rcases List.mem_append.mp hp with hp | hp
  · exact .tail _ (.tail _ (List.mem_append.mpr (.inl hp)))
  · rcases List.mem_cons.mp hp with rfl | hp
    · exact .tail _ (.head _)
    · exact .tail _ (.tail _ (List.mem_append.mpr (.inr hp)))

theorem draw_spec : ∀ (news : Led) (g : Obj → Led) (src ca : Addr) (cvs : List Value) (zs : List Int) (nc n : Nat) (at_ lim : Int) (t tl : Tok), UpdF src (listOf #[.ref ca, .int at_ t] n) news g → (ca, listOf cvs.toArray nc) ∈ news → IntsAre cvs zs → 1 ≤ zs.length → zs.length ≤ 63 →
    0 ≤ at_ → at_ < 2 ^ 40 → 0 < lim → lim < 2 ^ 20 →
    Spec news 267 [.ref src, .int lim tl] 1 16 (fun r news' => ∃ (v : Int) (t1 t2 : Tok), r = .int v t1 ∧ 0 ≤ v ∧ v < lim ∧ news' = g (listOf #[.ref ca, .int (at_ + 1) t2] n)) := by
  unfold Spec
  w_top off
  k_fill
  intro news0 g src ca cvs zs nc n at_ lim t tl hU hca hi hz1 hz2 h0 h1 hl0 hl1 w p loose mean mg mb dp un gd cn cs a ccd cl outer A₀ base h₀ L m s Q E B F X N0 T hk hd hu hret
  obtain ⟨pre, post, rfl, hg, hap, hbp⟩ := hU.split
  have eL := hi.length
  have hne : ca ≠ src := src_ne N0 hca (List.mem_append.mpr (.inr (.head _))) hi
  obtain ⟨rest, hrest⟩ : ∃ rest : Led, rest = pre ++ post := ⟨_, rfl⟩
  have apS : ∀ p ∈ rest, p.1 ≠ src := by
    intro p hp
    rw [hrest] at hp
    rcases List.mem_append.mp hp with hp | hp
    · exact hap p hp
    · exact hbp p hp
  have hcr : (ca, listOf cvs.toArray nc) ∈ rest := by
    rw [hrest]
    rcases List.mem_append.mp hca with h | h
    · exact List.mem_append.mpr (.inl h)
    · rcases List.mem_cons.mp h with h | h
      · exact absurd (congrArg Prod.fst h) hne
      · exact List.mem_append.mpr (.inr h)
  have N : News h₀ L s.heap ((src, listOf #[.ref ca, .int at_ t] n) :: rest) := cb_drop N0 (by
    intro p hp
    rcases List.mem_cons.mp hp with rfl | hp
    · exact List.mem_append.mpr (.inr (.head _))
    · rw [hrest] at hp
      rcases List.mem_append.mp hp with hp | hp
      · exact List.mem_append.mpr (.inl hp)
      · exact List.mem_append.mpr (.inr (.tail _ hp)))
  clear N0 hca
  refine wpAny_call ?_
  k_dflt ktr_enter
  refine hideA ?_; intro Ak
  rename Fr _ _ _ _ => lF0; refine letM lF0 ?_; clear lF0; intro m0 F0
  k_steps
  subst hrest
  exact hret _ _ _ _ (by k_asm) (cb_drop (by k_asm) back3) ⟨_, _, _, rfl, Int.fmod_nonneg_of_pos _ hl0, Int.fmod_lt_of_pos _ hl0, (hg _).symm⟩
end
section
example : True := by
  k_with_none
  k_with "k_ne" => ((refine neN ?_; (try dsimp only); with_reducible first | assumption | exact Nat.ne_of_lt (by assumption) | exact Nat.ne_of_gt (by assumption) | exact neC1 (by assumption) | exact (neC1 (by assumption)).symm | exact neC2 (by assumption) | exact (neC2 (by assumption)).symm | exact neC3 (by assumption) | exact (neC3 (by assumption)).symm | exact neC4 (by assumption) | exact (neC4 (by assumption)).symm | exact neD2 (by assumption) | exact (neD2 (by assumption)).symm | exact neD3 (by assumption) | exact (neD3 (by assumption)).symm | exact neC5 (by assumption) | exact (neC5 (by assumption)).symm))
  k_with "ktr_room" => (first | decide | (refine' room_of (c := 1) ?wqh9 ?wqe9 ?wqk9; (case wqh9 => with_reducible assumption); (case wqe9 => exact rfl); (case wqk9 => decide)) | (refine' room_of (c := 0) ?wqh9 ?wqe9 ?wqk9; (case wqh9 => with_reducible assumption); (case wqe9 => exact rfl); (case wqk9 => decide)) | (refine' room_at (c := 0) ?wqh9 ?wqe9 ?wqk9; (case wqh9 => with_reducible assumption); (case wqe9 => exact rfl); (case wqk9 => decide)) | (refine' room_at (c := 1) ?wqh9 ?wqe9 ?wqk9; (case wqh9 => with_reducible assumption); (case wqe9 => exact rfl); (case wqk9 => decide)) | fail "room")
  k_with "ktr_units" => (first | decide | (refine' room_of (c := 3) ?wqh9 ?wqe9 ?wqk9; (case wqh9 => with_reducible assumption); (case wqe9 => exact rfl); (case wqk9 => decide)) | (refine' room_of (c := 0) ?wqh9 ?wqe9 ?wqk9; (case wqh9 => with_reducible assumption); (case wqe9 => exact rfl); (case wqk9 => decide)) | fail "units")
  k_with "exec For Name Attribute cons nil" => ((k_here; (with_reducible show wpAny _ _ (exec (Stmt.For _ _ _ [] _) _) _ _ _); with_unfolding_all refine For_any ?_))
  k_with "exec For Name Name cons nil" => ((k_here; (with_reducible show wpAny _ _ (exec (Stmt.For _ _ _ [] _) _) _ _ _); with_unfolding_all refine For_any ?_))
  k_with "exec For Name Call cons nil" => ((k_here; (with_reducible show wpAny _ _ (exec (Stmt.For _ _ _ [] _) _) _ _ _); with_unfolding_all refine For_any ?_))
  k_with "exec For Name Subscript cons nil" => ((k_here; (with_reducible show wpAny _ _ (exec (Stmt.For _ _ _ [] _) _) _ _ _); with_unfolding_all refine For_any ?_))
  k_with "exec For Name Tuple cons nil" => ((k_here; (with_reducible show wpAny _ _ (exec (Stmt.For _ _ _ [] _) _) _ _ _); with_unfolding_all refine For_any ?_))
  k_with "exec For Tuple Call cons nil" => ((k_here; (with_reducible show wpAny _ _ (exec (Stmt.For _ _ _ [] _) _) _ _ _); with_unfolding_all refine For_any ?_))
  k_with "exec For Tuple Name cons nil" => ((k_here; (with_reducible show wpAny _ _ (exec (Stmt.For _ _ _ [] _) _) _ _ _); with_unfolding_all refine For_any ?_))
  k_with "exec For Tuple Subscript cons nil" => ((k_here; (with_reducible show wpAny _ _ (exec (Stmt.For _ _ _ [] _) _) _ _ _); with_unfolding_all refine For_any ?_))
  k_with "LPost" => ((dsimp only [LPost]))
  k_with "call builtin:len" => ((k_here; (with_reducible show wpAny _ _ (call (Value.builtin "len") [Value.ref _]) _ _ _); k_dflt (refine' len_led ?wqk1 ?wqk2 ?wqk3 ?_; (case wqk1 => k_asm); (case wqk2 => k_mem); (case wqk3 => omega); k_whole)))
  k_with "subscriptTail" => ((k_here; (with_reducible show wpAny _ _ (subscriptTail _ _ (Value.ref _) (Value.int _ _)) _ _ _); (with_unfolding_all refine' item_led ?wqk1 ?wqk2 ?wqk3 ?wqk4 ?wqk5 ?_ ?wqk6; (case wqk1 => k_asm); (case wqk2 => k_mem); (case wqk5 => first | assumption | (simp only [Int.toNat_natCast]; assumption)); (case wqk3 => omega); (case wqk4 => omega); (case wqk6 => with_unfolding_all rfl); k_whole)))
  k_with "tb_start" => ((intro y hy; (try dsimp only); (simp only [List.contains_cons, List.contains_nil, Bool.or_false, Bool.or_eq_false_iff] at hy); (have hy2 := hy); (simp only [beq_eq_false_iff_ne, ne_eq] at hy2); (simp only [List.contains_cons, List.contains_nil, hy, hy2, Bool.or_false, Bool.false_eq_true, if_false])))
  k_with "eval ListComp" => ((k_here; k_dflt (refine LCg.ListComp_U (F₀ := by k_asm) (by with_unfolding_all rfl) (by decide) (by rfl) (by decide) (by rfl) ?_)))
  k_with "eval ListComp" => ((k_here; k_dflt (refine LCt.ListComp_T (F₀ := by k_asm) (by with_unfolding_all rfl) (by decide) (by rfl) (by decide) (by rfl) ?_)))
  k_with "k_mem" => (first | exact List.Mem.head _ | ktr_member | (refine' List.mem_cons_of_mem _ ?_; k_mem))
  k_with "setItem ref int" => ((k_here; (with_reducible show wpAny _ _ (setItem (Value.ref _) (Value.int _ _) _) _ _ _); k_dflt (refine' set_led ?wqk1 ?wqk2 ?wqk3 ?wqk5 ?wqk6 ?wqk7 ?_; (case wqk1 => k_asm); (case wqk2 => k_asm); (case wqk3 => k_upd); (case wqk5 => omega); (case wqk6 => first | assumption | omega | (simp only [List.length_replicate, List.length_set, Int.toNat_natCast] at *; omega)); (case wqk7 => omega); k_whole); intro _ _ _; (try k_sweep)))
  k_with "call builtin:list.pop" => ((k_here; (with_reducible show wpAny _ _ (call (Value.builtin _) [Value.ref _]) _ _ _); k_dflt (refine' pop_led ?wqk1 ?wqk2 ?wqk3 ?wqk4 ?_; (case wqk1 => k_asm); (case wqk2 => k_asm); (case wqk3 => k_upd); (case wqk4 => (first | (rw [sizeLine_eq]; omega) | size_fits)); k_whole); intro _ _ _; (try k_sweep)))
  k_with "truthy ref" => ((k_here; k_dflt (first | (refine' truth_nil ?wqk1 ?wqk2 ?_; (case wqk1 => k_asm); (case wqk2 => k_mem)) | (refine' truth_snoc ?wqk1 ?wqk2 ?wqk3 ?_; (case wqk1 => k_asm); (case wqk2 => k_mem); (case wqk3 => omega)))))
  k_with "binaryOp Mult ref int" => ((k_here; k_dflt (refine' mul_led ?wqk1 ?wqk2 ?wqk3 ?wqk4 ?wqk5 ?_; (case wqk1 => k_asm); (case wqk2 => k_asm); (case wqk3 => k_mem); (case wqk4 => omega); (case wqk5 => omega); k_whole); intro _ _ _ _ l1; (try k_lt l1); (have _ := l1); clear l1; (try k_sweep)))
  k_with "k_all" => (first | with_reducible assumption | (refine' List.forall_mem_cons.mpr ⟨?wqa, ?wqb⟩; (case wqa => k_ne); (case wqb => k_all)))
  k_with "exec While Name cons nil" => ((k_here; refine While_stop ?_))
  k_with "call builtin:list.append" => ((k_here; (with_reducible show wpAny _ _ (call (Value.builtin _) [Value.ref _, _]) _ _ _); k_dflt (refine' append_led ?wqk1 ?wqk2 ?wqk3 ?wqk4 ?_; (case wqk1 => k_asm); (case wqk2 => k_asm); (case wqk3 => k_upd); (case wqk4 => (rw [sizeLine_eq]; (try simp only [List.length_append, List.length_cons, List.length_nil]); omega)); k_whole); intro _ _ _; (try k_sweep)))
  k_with "WPost" => ((dsimp only [WPost]))
  k_with "tb_rel" => (first | assumption | (refine RuleIn.mono (by assumption) ?_; intro p hp; (repeat (first | exact hp | refine List.mem_cons_of_mem _ ?_))) | (refine FileIn.mono (by assumption) ?_; intro p hp; (repeat (first | exact hp | refine List.mem_cons_of_mem _ ?_))))
  k_with "lsm_bools" => (with_reducible assumption)
  k_with "kaf_pre" => (first | assumption | (refine List.mem_cons_of_mem _ ?_; (k_extra "kaf_pre")))
  k_with "kaf_suf" => (first | exact UpdF.head (by first | assumption | k_all) | (refine' UpdF.tail ?wqua7 ?wqub7; (case wqua7 => k_ne); (case wqub7 => (k_extra "kaf_suf"))))
  k_with "kat_tups" => ((intro p hp; (repeat (first | exact hp | refine List.mem_cons_of_mem _ ?_))))
  trivial
local macro_rules | `(tactic| walk_at "i3") => `(tactic| (intro r9 h9 tk9 nw9 F9 N9 P9; obtain ⟨v9, t8, t9, e8, b8, b9, e9⟩ := P9; subst e8; subst e9; (try dsimp only at N9); (try k_sweep)))
example : True := by
  k_with "call ref" => ((k_here; (with_reducible show wpAny _ _ (call (Value.ref 267) _) _ _ _); k_dflt (refine' Spec.use (draw_spec _ _ _ _ _ _ _ _ _ _ _ _ ?wqhU ?wqhc ?wqhi ?wqz1 ?wqz2 ?wqb0 ?wqb1 ?wql0 ?wql1) ?wqk1 ?wqk2 ?wqk3 ?wqk4 ?wqk5 ?wqk6 ?wqk7 ?wqk8 ?_; (case wqk1 => k_asm); (case wqk2 => k_asm); (case wqk3 => k_asm); (case wqk4 => k_asm); (case wqk5 => k_asm); (case wqk6 => first | exact rfl | assumption); (case wqhU => (k_extra "kaf_suf")); (case wqhc => (k_extra "kaf_pre")); (case wqhi => assumption); (case wqz1 => first | assumption | omega); (case wqz2 => first | assumption | omega); (case wqb0 => omega); (case wqb1 => omega); (case wql0 => omega); (case wql1 => omega); (case wqk7 => ktr_room); (case wqk8 => ktr_units); k_whole); walk_at "i3"))
  k_with "keq_hits" => (first | with_reducible exact Rd.str | with_reducible exact Rd.int | with_reducible exact Rd.none | with_reducible exact Rd.bool | (refine Rd.tuple (by k_mem) ?_; (k_extra "keq_rows")) | (refine Rd.list (by k_mem) ?_; (k_extra "keq_rows")) | with_reducible assumption)
  k_with "keq_rows" => (first | with_reducible exact RdAll.nil | with_reducible assumption | (refine RdAll.mono (by with_reducible assumption) ?_; (k_extra "kat_tups")) | (with_reducible (refine RdAll.snoc ?wqsa ?wqsb); (case wqsa => (k_extra "keq_rows")); (case wqsb => (k_extra "keq_hits"))) | (with_reducible (refine RdAll.cons ?wqsa ?wqsb); (case wqsa => (k_extra "keq_hits")); (case wqsb => (k_extra "keq_rows"))))
  k_with "kcj_in" => (first | with_reducible assumption | with_reducible exact shaped_nil | exact shaped_snoc (by with_reducible assumption) (by decide +kernel) (by decide +kernel))
  k_with "compareOp NotEq ref ref" => ((k_here; (with_reducible show wpAny _ _ (compareOp CmpOp.NotEq (Value.ref _) (Value.ref _)) _ _ _); k_dflt (refine' ne_led ?wqk1 ?wqk2 ?wqk3 ?wqk4 ?wqk5 ?wqk6 ?wqk7 ?wqk8 ?_; (case wqk1 => k_asm); (case wqk2 => k_mem); (case wqk3 => k_mem); (case wqk4 => (k_extra "keq_rows")); (case wqk5 => (k_extra "keq_rows")); (case wqk6 => (k_extra "kcj_in")); (case wqk7 => (k_extra "kcj_in")); (case wqk8 => first | units_room | ktr_units); k_whole); (try simp only [eqvAll_nil, List.isEmpty_append, List.isEmpty_cons, List.isEmpty_map, Bool.and_false, Bool.not_false])))
  k_with "compareOp Eq ref ref" => ((k_here; (with_reducible show wpAny _ _ (compareOp CmpOp.Eq (Value.ref _) (Value.ref _)) _ _ _); k_dflt (refine' eq_led ?wqk1 ?wqk2 ?wqk3 ?wqk4 ?wqk5 ?wqk6 ?wqk7 ?wqk8 ?_; (case wqk1 => k_asm); (case wqk2 => k_mem); (case wqk3 => k_mem); (case wqk4 => (k_extra "keq_rows")); (case wqk5 => (k_extra "keq_rows")); (case wqk6 => (k_extra "kcj_in")); (case wqk7 => (k_extra "kcj_in")); (case wqk8 => first | units_room | ktr_units); k_whole); (try simp only [eqvAll_nil, List.isEmpty_append, List.isEmpty_cons, List.isEmpty_map, Bool.and_false, Bool.not_false])))
  trivial
def CmpA (prog : Program) (w : World) (A : Around) (o : CmpOp) (a b : Value) (Q : Value → Shared → Prop) (E : Value → Shared → Prop) (s : Shared) : Prop := wpAny (model prog w) A (compareOp o a b) Q E s
theorem Cmp_stop {prog : Program} {w : World} {A : Around} {o : CmpOp} {a b : Value} {Q : Value → Shared → Prop} {E : Value → Shared → Prop} {s : Shared} (h : CmpA prog w A o a b Q E s) : wpAny (model prog w) A (compareOp o a b) Q E s := h
example : True := by
  k_with "compareOp NotEq ref ref" => ((k_here; k_dflt (refine Cmp_stop ?_)))
  trivial
/-- what a drawn step says -/
inductive LW where
  | none | int (z : Int) | str (x : Str)
inductive LWIs : Value → LW → Prop
  | none : LWIs .none .none
  | int (z : Int) (t : Tok) : LWIs (.int z t) (.int z)
  | str (x : Str) (t : Tok) : LWIs (.str x t) (.str x)
structure LStep where
  word : Str
  worth : LW
inductive LStepIn (news : Led) : Value → LStep → Prop
  | mk {a : Addr} {x : Str} {t : Tok} {v : Value} {o : LW} {n : Nat} : (a, tupOf #[.str x t, v] n) ∈ news → LWIs v o → LStepIn news (.ref a) ⟨x, o⟩
structure LRule where
  live : List Int
  steps : List LStep
inductive LRuleIn (news : Led) : Value → LRule → Prop
  | mk {a l s : Addr} {n nl ns : Nat} {lv sv : List Value} {live : List Int} {steps : List LStep} : (a, tupOf #[.ref l, .ref s] n) ∈ news → (l, listOf lv.toArray nl) ∈ news → IntsAre lv live → (s, listOf sv.toArray ns) ∈ news → AllIn (LStepIn news) sv steps →
    lv.length ≤ 100 → sv.length ≤ 100 → LRuleIn news (.ref a) ⟨live, steps⟩
theorem LStepIn.mono {news news' : Led} {v : Value} {d : LStep} (h : LStepIn news v d) (hs : ∀ p ∈ news, p ∈ news') : LStepIn news' v d := by
  cases h with
  | mk a b => exact .mk (hs _ a) b
theorem LRuleIn.mono {news news' : Led} {v : Value} {d : LRule} (h : LRuleIn news v d) (hs : ∀ p ∈ news, p ∈ news') : LRuleIn news' v d := by
  cases h with
  | mk a b c e f g i => exact .mk (hs _ a) (hs _ b) c (hs _ e) (f.mono fun v d q => q.mono hs) g i
def StepOk (many : Int) (d : LStep) : Prop :=
  ((d.word = Str.ofString "begin" ∨ d.word = Str.ofString "push") ∧ ∃ z : Int, d.worth = .int z ∧ 0 ≤ z ∧ z < many) ∨ ((d.word = Str.ofString "skip" ∨ d.word = Str.ofString "pop") ∧ d.worth = .none) ∨ (d.word = Str.ofString "return" ∧ ∃ x, d.worth = .str x ∧ PyData.strOk x = true)
/-- a return stands last, if at all -/
def LastRet (ss : List LStep) : Prop := ∃ as bs : List LStep, ss = as ++ bs ∧ (∀ s ∈ as, s.word ≠ Str.ofString "return") ∧ bs.length ≤ 1
def RuleOk (many : Int) (d : LRule) : Prop := (∀ z ∈ d.live, 0 ≤ z ∧ z < many) ∧ (∀ s ∈ d.steps, StepOk many s) ∧ d.live.length ≤ 2 ∧ d.steps.length ≤ 4 ∧ LastRet d.steps

def LW.data : LW → PyData
  | .none => .none
  | .int z => .int z
  | .str x => .str x
def LStep.data (d : LStep) : PyData := .tuple [.str d.word, d.worth.data]
theorem LStepIn.rd {news : Led} {v : Value} {d : LStep} (h : LStepIn news v d) : Rd news v d.data := by
  cases h with
  | mk a b =>
    refine Rd.tuple (vs := [_, _]) a (.cons .str (.cons ?_ .nil))
    cases b with
    | none => exact Rd.none
    | int z t => exact Rd.int
    | str x t => exact Rd.str
theorem StepOk.lay {many : Int} {d : LStep} (h : StepOk many d) : d.data.canLay0 = true ∧ d.data.depth ≤ 5 := by
  obtain ⟨x, y⟩ := d
  have hx : PyData.strOk x = true := by
    rcases h with ⟨h | h, _⟩ | ⟨h | h, _⟩ | ⟨h, _⟩ <;> (dsimp only at h; subst h; decide +kernel)
  have hy : y.data.canLay0 = true ∧ y.data.depth = 0 := by
    rcases h with ⟨_, z, e, _⟩ | ⟨_, e⟩ | ⟨_, z, e, f⟩ <;> (dsimp only at e; subst e)
    · exact ⟨rfl, rfl⟩
    · exact ⟨rfl, rfl⟩
    · exact ⟨f, rfl⟩
  constructor
  · show PyData.canLay0 (.tuple [.str x, y.data]) = true
    rw [PyData.canLay0, PyData.canLayAll0, PyData.canLayAll0, PyData.canLay0, hx, hy.1]; rfl
  · show PyData.depth (.tuple [.str x, y.data]) ≤ 5
    have e1 : PyData.depth (.str x) = 0 := rfl
    rw [PyData.depth, PyData.depthAll, PyData.depthAll, hy.2, PyData.depthAll, e1]
    decide

/-- a conditional, where the walk is to stop -/
def IfA (prog : Program) (w : World) (A : Around) (env : Env) (a b c : Expr) (pos : Pos) (Q : Value → Shared → Prop) (E : Value → Shared → Prop) (s : Shared) : Prop := wpAny (model prog w) A (eval (.IfExp a b c pos) env) Q E s

theorem IfExp_stop {prog : Program} {w : World} {A : Around} {env : Env} {a b c : Expr} {pos : Pos} {Q : Value → Shared → Prop} {E : Value → Shared → Prop} {s : Shared} (h : IfA prog w A env a b c pos Q E s) : wpAny (model prog w) A (eval (.IfExp a b c pos) env) Q E s := h
example : True := by
  k_with "eval IfExp" => ((k_here; (with_reducible show wpAny _ _ (eval (Expr.IfExp _ (Expr.List _ _) _ _) _) _ _ _); k_dflt (refine IfExp_stop ?_)))
  trivial
theorem pick3 {prog : Program} {w : World} {A : Around} {E : Value → Shared → Prop} {s : Shared} {h₀ : Heap} {L : Addr} {news : Led} {value slice : Expr} {l : Addr} {x0 x1 x2 : Value} {n : Nat} {v : Int} {t : Tok} {Q : Value → Shared → Prop} (N : News h₀ L s.heap news) (hm : (l, tupOf #[x0, x1, x2] n) ∈ news) (h0 : 0 ≤ v) (h3 : v < 3)
    (hs : subscripted slice false (.ref l) (.int v t) = operate [.ref l, .int v t] (getItem (.ref l) (.int v t))) (k0 : v = 0 → Q x0 s) (k1 : v = 1 → Q x1 s) (k2 : v = 2 → Q x2 s) :
    wpAny (model prog w) A (subscriptTail value slice (.ref l) (.int v t)) Q E s := by
  have ht : IsTup s.heap l [x0, x1, x2].toArray := News.isTup N hm
  have : v = 0 ∨ v = 1 ∨ v = 2 := by omega
  rcases this with rfl | rfl | rfl
  · exact item_tupleT ht (by decide) (by decide) rfl rfl (k0 rfl) hs
  · exact item_tupleT ht (by decide) (by decide) rfl rfl (k1 rfl) hs
  · exact item_tupleT ht (by decide) (by decide) rfl rfl (k2 rfl) hs
theorem pick4 {prog : Program} {w : World} {A : Around} {E : Value → Shared → Prop} {s : Shared} {h₀ : Heap} {L : Addr} {news : Led} {value slice : Expr} {l : Addr} {x0 x1 x2 x3 : Value} {n : Nat} {v : Int} {t : Tok} {Q : Value → Shared → Prop} (N : News h₀ L s.heap news) (hm : (l, tupOf #[x0, x1, x2, x3] n) ∈ news) (h0 : 0 ≤ v) (h3 : v < 4)
    (hs : subscripted slice false (.ref l) (.int v t) = operate [.ref l, .int v t] (getItem (.ref l) (.int v t))) (k0 : v = 0 → Q x0 s) (k1 : v = 1 → Q x1 s) (k2 : v = 2 → Q x2 s) (k3 : v = 3 → Q x3 s) :
    wpAny (model prog w) A (subscriptTail value slice (.ref l) (.int v t)) Q E s := by
  have ht : IsTup s.heap l [x0, x1, x2, x3].toArray := News.isTup N hm
  have : v = 0 ∨ v = 1 ∨ v = 2 ∨ v = 3 := by omega
  rcases this with rfl | rfl | rfl | rfl
  · exact item_tupleT ht (by decide) (by decide) rfl rfl (k0 rfl) hs
  · exact item_tupleT ht (by decide) (by decide) rfl rfl (k1 rfl) hs
  · exact item_tupleT ht (by decide) (by decide) rfl rfl (k2 rfl) hs
  · exact item_tupleT ht (by decide) (by decide) rfl rfl (k3 rfl) hs
example : True := by
  k_with "subscriptTail" => ((k_here; (with_reducible show wpAny _ _ (subscriptTail _ _ (Value.ref _) (Value.int _ _)) _ _ _); with_unfolding_all (refine' pick3 ?wqp1 ?wqp2 ?wqp3 ?wqp4 ?wqp5 ?_ ?_ ?_; (case wqp1 => k_asm); (case wqp2 => exact List.Mem.head _); (case wqp3 => assumption); (case wqp4 => assumption); (case wqp5 => with_unfolding_all rfl)); (all_goals (intro e; subst e))))
  k_with "subscriptTail" => ((k_here; (with_reducible show wpAny _ _ (subscriptTail _ _ (Value.ref _) (Value.int _ _)) _ _ _); with_unfolding_all (refine' pick4 ?wqp1 ?wqp2 ?wqp3 ?wqp4 ?wqp5 ?_ ?_ ?_ ?_; (case wqp1 => k_asm); (case wqp2 => exact List.Mem.head _); (case wqp3 => assumption); (case wqp4 => assumption); (case wqp5 => with_unfolding_all rfl)); (all_goals (intro e; subst e))))
  trivial
def LiveP (g : Heap) (L : Addr) (m : Str → Option Value) (src : Addr) (so : Obj) (rest : Led) (many : Int) (s : Shared) (v : Value) (s' : Shared) : Prop :=
  ∃ (D : Addr) (vs : List Value) (live : List Int) (h' : Heap) (tk' : Nat) (tl : Led) (n : Nat), v = .ref D ∧ s' = { s with heap := h', toks := tk' } ∧ Fr g L h' m ∧ News g L h' ((D, listOf vs.toArray n) :: (src, so) :: (tl ++ rest)) ∧ IntsAre vs live ∧ (∀ z ∈ live, 0 ≤ z ∧ z < many) ∧ live.length ≤ 2 ∧
    (∀ p ∈ rest, p.1 < D) ∧ (∀ q ∈ tl, ∀ p ∈ rest, p.1 < q.1) ∧ src < D ∧ (∀ q ∈ tl, src < q.1)

theorem swap0 {a b : Addr × Obj} {r : Led} : ∀ p ∈ b :: a :: r, p ∈ a :: b :: r := by
  intro p hp
  rcases List.mem_cons.mp hp with rfl | hp
  · exact .tail _ (.head _)
  · rcases List.mem_cons.mp hp with rfl | hp
    · exact .head _
    · exact .tail _ (.tail _ hp)
theorem live_join {prog : Program} {w : World} {A : Around} {E : Value → Shared → Prop} {s : Shared} {g : Heap} {L : Addr} {m : Str → Option Value} {Q : Value → Shared → Prop} {t : Sem Value} {a : Addr × Obj} {src : Addr} {so : Obj} {rest : Led} {many : Int}
    (_F : Fr g L s.heap m) (_N : News g L s.heap (a :: (src, so) :: rest)) (hA : wpAny (model prog w) A t (LiveP g L m src so (a :: rest) many s) E s) (hB : ∀ v s', LiveP g L m src so (a :: rest) many s v s' → Q v s') : wpAny (model prog w) A t Q E s :=
  wpAny_mono hA hB fun _ _ e => e
theorem swap5 {a b c d : Addr × Obj} {r : Led} : ∀ p ∈ [b, d] ++ (a :: c :: r), p ∈ a :: b :: c :: d :: r := by
  intro p hp
  rcases List.mem_cons.mp hp with rfl | hp
  · exact .tail _ (.head _)
  · rcases List.mem_cons.mp hp with rfl | hp
    · exact .tail _ (.tail _ (.tail _ (.head _)))
    · rcases List.mem_cons.mp hp with rfl | hp
      · exact .head _
      · rcases List.mem_cons.mp hp with rfl | hp
        · exact .tail _ (.tail _ (.head _))
        · exact .tail _ (.tail _ (.tail _ (.tail _ hp)))
theorem swap6 {a b c d : Addr × Obj} {r : Led} : ∀ p ∈ [c, d] ++ ([a, b] ++ r), p ∈ a :: b :: c :: d :: r := by
  intro p hp
  rcases List.mem_cons.mp hp with rfl | hp
  · exact .tail _ (.tail _ (.head _))
  · rcases List.mem_cons.mp hp with rfl | hp
    · exact .tail _ (.tail _ (.tail _ (.head _)))
    · rcases List.mem_cons.mp hp with rfl | hp
      · exact .head _
      · rcases List.mem_cons.mp hp with rfl | hp
        · exact .tail _ (.head _)
        · exact .tail _ (.tail _ (.tail _ (.tail _ hp)))
theorem off2 {lS src D1 D2 : Addr} {o1 o2 : Obj} (a : @LT.lt Nat _ lS D1) (b : @LT.lt Nat _ src D1) (c : @LT.lt Nat _ lS D2) (d : @LT.lt Nat _ src D2) : ∀ q ∈ [(D1, o1), (D2, o2)], q.1 ∉ [lS, src] := by
  intro q hq hm
  have e : q.1 = lS ∨ q.1 = src := by simpa using hm
  rcases List.mem_cons.mp hq with rfl | hq
  · rcases e with e | e
    · exact Nat.ne_of_gt a e
    · exact Nat.ne_of_gt b e
  · rw [List.mem_singleton.mp hq] at e
    rcases e with e | e
    · exact Nat.ne_of_gt c e
    · exact Nat.ne_of_gt d e
theorem apart2 {D1 D2 : Addr} {o1 o2 : Obj} {r : Led} (a : AllLt D1 r) (b : AllLt D2 r) : ∀ q ∈ [(D1, o1), (D2, o2)], ∀ p ∈ r, p.1 ≠ q.1 := by
  intro q hq p hp
  rcases List.mem_cons.mp hq with rfl | hq
  · exact Nat.ne_of_lt (tb_ltOf a p hp)
  · rw [List.mem_singleton.mp hq]
    exact Nat.ne_of_lt (tb_ltOf b p hp)
theorem isEmpty_snoc {α : Type} {xs : List α} {x : α} : (xs ++ [x]).isEmpty = false := by cases xs <;> rfl
theorem step3 {a b c : Addr × Obj} {D : Addr} {x y : Str} {t u : Tok} {r : Led} : LStepIn ([a, b, (D, { cls := .type "tuple", data := .seq #[.str x t, .str y u] }), c] ++ r) (.ref D) ⟨x, .str y⟩ := .mk (n := 0) (.tail _ (.tail _ (.head _))) (.str _ _)
theorem memA {X T r : Led} {a b c : Addr × Obj} : c ∈ X ++ a :: (T ++ b :: c :: r) := List.mem_append.mpr (.inr (.tail _ (List.mem_append.mpr (.inr (.tail _ (.head _))))))
theorem memS {X T : Led} {a : Addr × Obj} : a ∈ X ++ a :: T := List.mem_append.mpr (.inr (.head _))
theorem memT {X T r : Led} {a : Addr × Obj} : ∀ p ∈ T, p ∈ X ++ a :: (T ++ r) := fun _ hp => List.mem_append.mpr (.inr (.tail _ (List.mem_append.mpr (.inl hp))))
theorem LiveP.one {g : Heap} {L : Addr} {m : Str → Option Value} {src D D1 : Addr} {so o : Obj} {rest : Led} {many : Int} {s : Shared} {h' : Heap} {tk' : Nat} {vs : List Value} {live : List Int} {n : Nat}
    (F : Fr g L h' m) (N : News g L h' ((D, listOf vs.toArray n) :: (D1, o) :: (src, so) :: rest)) (lt : D1 < D ∧ src < D ∧ AllLt D rest) (hi : IntsAre vs live) (hr : ∀ z ∈ live, 0 ≤ z ∧ z < many) (hl : live.length ≤ 2) :
    LiveP g L m src so ((D1, o) :: rest) many s (.ref D) { s with heap := h', toks := tk' } := by
  refine ⟨D, vs, live, h', tk', [], n, rfl, rfl, F, cb_drop N ?_, hi, hr, hl, ?_, (fun _ h => nomatch h), lt.2.1, (fun _ h => nomatch h)⟩
  · intro p hp
    rcases List.mem_cons.mp hp with rfl | hp
    · exact .head _
    · exact .tail _ (swap0 p hp)
  · intro p hp
    rcases List.mem_cons.mp hp with rfl | hp
    · exact lt.1
    · exact tb_ltOf lt.2.2 p hp
theorem LiveP.two {g : Heap} {L : Addr} {m : Str → Option Value} {src D D1 D2 : Addr} {so o o2 : Obj} {rest : Led} {many : Int} {s : Shared} {h' : Heap} {tk' : Nat} {vs : List Value} {live : List Int} {n : Nat}
    (F : Fr g L h' m) (N : News g L h' ((D, listOf vs.toArray n) :: (D2, o2) :: (D1, o) :: (src, so) :: rest)) (lt2 : D1 < D2 ∧ src < D2 ∧ AllLt D2 rest) (lt : D2 < D ∧ D1 < D ∧ src < D ∧ AllLt D rest) (hi : IntsAre vs live) (hr : ∀ z ∈ live, 0 ≤ z ∧ z < many) (hl : live.length ≤ 2) :
    LiveP g L m src so ((D1, o) :: rest) many s (.ref D) { s with heap := h', toks := tk' } := by
  refine ⟨D, vs, live, h', tk', [(D2, o2)], n, rfl, rfl, F, cb_drop N ?_, hi, hr, hl, ?_, ?_, lt.2.2.1, ?_⟩
  · intro p hp
    rcases List.mem_cons.mp hp with rfl | hp
    · exact .head _
    · rcases List.mem_cons.mp hp with rfl | hp
      · exact .tail _ (.tail _ (.tail _ (.head _)))
      · rcases List.mem_cons.mp hp with rfl | hp
        · exact .tail _ (.head _)
        · rcases List.mem_cons.mp hp with rfl | hp
          · exact .tail _ (.tail _ (.head _))
          · exact .tail _ (.tail _ (.tail _ (.tail _ hp)))
  · intro p hp
    rcases List.mem_cons.mp hp with rfl | hp
    · exact lt.2.1
    · exact tb_ltOf lt.2.2.2 p hp
  · intro q hq p hp
    rw [List.mem_singleton.mp hq]
    rcases List.mem_cons.mp hp with rfl | hp
    · exact lt2.1
    · exact tb_ltOf lt2.2.2 p hp
  · intro q hq
    rw [List.mem_singleton.mp hq]
    exact lt2.2.1
abbrev srcObj (ca : Addr) (i : Int) (t : Tok) (n : Nat) : Obj := listOf #[.ref ca, .int i t] n

theorem rule_spec : ∀ (news : Led) (g : Obj → Led) (src ca : Addr) (cvs : List Value) (zs : List Int) (nc n : Nat) (at_ many : Int) (t tl : Tok), UpdF src (listOf #[.ref ca, .int at_ t] n) news g → (ca, listOf cvs.toArray nc) ∈ news → IntsAre cvs zs → 1 ≤ zs.length → zs.length ≤ 63 →
    0 ≤ at_ → at_ < 2 ^ 39 → 0 < many → many < 2 ^ 20 →
    Spec news 274 [.ref src, .int many tl] 4 160 (fun r news' => ∃ (a2 : Int) (t2 : Tok) (d : LRule) (tl : Led), at_ ≤ a2 ∧ a2 ≤ at_ + 10 ∧ news' = tl ++ g (listOf #[.ref ca, .int a2 t2] n) ∧ (∀ q ∈ tl, ∀ p ∈ news, p.1 ≠ q.1) ∧ LRuleIn tl r d ∧ RuleOk many d) := by
  unfold Spec
  w_top off
  k_fill
  intro news0 g src ca cvs zs nc n at_ many t tl hU hca hi hz1 hz2 h0 h1 hl0 hl1 w p loose mean mg mb dp un gd cn cs a ccd cl outer A₀ base h₀ L m s Q E B F X N0 T hk hd hu hret
  obtain ⟨pre, post, rfl, hg, hap, hbp⟩ := hU.split
  have eL := hi.length
  have hne : ca ≠ src := src_ne N0 hca (List.mem_append.mpr (.inr (.head _))) hi
  obtain ⟨rest, hrest⟩ : ∃ rest : Led, rest = pre ++ post := ⟨_, rfl⟩
  have apS : ∀ p ∈ rest, p.1 ≠ src := by
    intro p hp
    rw [hrest] at hp
    rcases List.mem_append.mp hp with hp | hp
    · exact hap p hp
    · exact hbp p hp
  have hcr : (ca, listOf cvs.toArray nc) ∈ rest := by
    rw [hrest]
    rcases List.mem_append.mp hca with h | h
    · exact List.mem_append.mpr (.inl h)
    · rcases List.mem_cons.mp h with h | h
      · exact absurd (congrArg Prod.fst h) hne
      · exact List.mem_append.mpr (.inr h)
  have N : News h₀ L s.heap ((src, listOf #[.ref ca, .int at_ t] n) :: rest) := cb_drop N0 (by
    intro p hp
    rcases List.mem_cons.mp hp with rfl | hp
    · exact List.mem_append.mpr (.inr (.head _))
    · rw [hrest] at hp
      rcases List.mem_append.mp hp with hp | hp
      · exact List.mem_append.mpr (.inl hp)
      · exact List.mem_append.mpr (.inr (.tail _ hp)))
  clear N0 hca
  refine wpAny_call ?_
  k_dflt ktr_enter
  refine hideA ?_; intro Ak
  rename Fr _ _ _ _ => lF0; refine letM lF0 ?_; clear lF0; intro m0 F0
  refine wpAny_noRaise (hideQ ?_); intro Qf hQf
  k_steps
  rename_i z1 u1 q1 z1a z1b hh1 tkk1 z2 u2 q2 z2a z2b D1 hh2 lD hh3 hh4 hh5 lF lN
  unfold IfA
  refine live_join (many := many) lF lN ?cA ?cB
  case cA =>
    refine IfExp_ ?_
    k_steps
    · rename_i l9 h8 F8 N8 l8
      exact LiveP.one (by k_asm) (by k_asm) l8 (.cons _ _ .nil) (by simp [z1a, z1b]) (by simp)
    · rename_i l9 h8 l8 D9 v9 n9 c9 h7 F8 N8 i9 e9 p9 o9 p0 l7 b9 s9 t9
      refine LiveP.two (by k_asm) (by k_asm) l8 l7 i9 ?_ (by omega)
      intro z hz
      have := p9.mem_iff.mp hz
      simp only [List.mem_cons, List.not_mem_nil, or_false] at this
      rcases this with rfl | rfl
      · exact ⟨z1a, z1b⟩
      · exact ⟨z2a, z2b⟩
  case cB =>
    clear lF lN
    rintro _ _ ⟨lA, vs, live, h9, tk9, tl0, nl, rfl, rfl, F', N', hlive, hlr, hll, lt1, lt2, lt3, lt4⟩
    have lt5 : @LT.lt Nat _ src lA := lt3
    obtain ⟨r1, hr1⟩ : ∃ r1 : Led, r1 = tl0 ++ (D1, tupOf #[Value.int z1 u1, Value.int z2 u2] 0) :: rest := ⟨_, rfl⟩
    rw [show tl0 ++ (D1, { cls := Value.type "tuple", data := Data.seq #[Value.int z1 u1, Value.int z2 u2] }) :: rest = r1 from hr1.symm] at N'
    have hcr1 : (ca, listOf cvs.toArray nc) ∈ r1 := by rw [hr1]; exact List.mem_append.mpr (.inr (.tail _ hcr))
    have apS1 : ∀ p ∈ r1, p.1 ≠ src := by
      intro p hp
      rw [hr1] at hp
      rcases List.mem_append.mp hp with hp | hp
      · exact Nat.ne_of_gt (lt4 p hp)
      · rcases List.mem_cons.mp hp with rfl | hp
        · exact Nat.ne_of_gt lD.1
        · exact apS p hp
    k_steps
    rename_i lS hA lS1 D2 hB lD2 hC hD hE hh9 tk9' Fx k u3 t3 k0 k3 Nx hF tk1 ta tb tc rgX lF lN keep
    clear Fx Nx
    obtain ⟨r2, hr2⟩ : ∃ r2 : Led, r2 = (D2, tupOf #[Value.ref lA, Value.ref lS] 0) :: (lA, listOf vs.toArray nl) :: r1 := ⟨_, rfl⟩
    have lN2 : News _ _ _ ([(lS, listOf ([] : List Value).toArray 0), (src, listOf #[Value.ref ca, Value.int (at_ + 1 + 1 + 1) t3] n)] ++ r2) := cb_drop lN (by rw [hr2]; exact swap5)
    clear lN
    have hcr2 : (ca, listOf cvs.toArray nc) ∈ r2 := by rw [hr2]; exact .tail _ (.tail _ hcr1)
    have ap2 : ∀ p ∈ r2, p.1 ∉ [lS, src] := by
      intro p hp hm
      rw [hr2] at hp
      have e : p.1 = lS ∨ p.1 = src := by simpa using hm
      rcases List.mem_cons.mp hp with rfl | hp
      · rcases e with e | e
        · exact Nat.ne_of_gt lD2.1 e
        · exact Nat.ne_of_gt lD2.2.2.1 e
      · rcases List.mem_cons.mp hp with rfl | hp
        · rcases e with e | e
          · exact Nat.ne_of_lt lS1.1 e
          · exact Nat.ne_of_gt lt5 e
        · rcases e with e | e
          · exact Nat.ne_of_lt (tb_ltOf lS1.2.2 p hp) e
          · exact apS1 p hp e
    refine over_range0 (n := k.toNat) (σ := List Value × Nat × Int × Tok) (adr := [lS, src]) (r₀ := r2) (fun c => [(lS, listOf c.1.toArray c.2.1), (src, listOf #[Value.ref ca, Value.int c.2.2.1 c.2.2.2] n)]) [Str.ofString "turn", Str.ofString "way"]
      (fun i c tl _ => (∃ ds : List LStep, AllIn (LStepIn tl) c.1 ds ∧ (∀ s ∈ ds, StepOk many s ∧ s.word ≠ Str.ofString "return") ∧ ds.length ≤ i) ∧ at_ ≤ c.2.2.1 ∧ c.2.2.1 ≤ at_ + 3 + 2 * i ∧ ∀ q ∈ tl, ∀ p ∈ r2, p.1 ≠ q.1) ([], 0, at_ + 1 + 1 + 1, t3) rfl rgX (by omega) (by omega) (fun _ => rfl) ap2 lF lN2
      ⟨⟨[], ⟨rfl, fun i v d h => by simp at h⟩, (fun _ h => nomatch h), Nat.zero_le _⟩, by dsimp only; omega, by dsimp only; omega, fun q hq => nomatch hq⟩ ?turn ?done
    case turn =>
      clear lF lN2 keep rgX
      rintro i t5 ⟨vs1, nv, a1, ta1⟩ tl1 u h tk rest3 hi3 hr3 ht3 hne3 ⟨⟨ds, hJ, hJo, hJl⟩, hA1, hA2, hap3⟩ F' N'
      generalize hPl : LPost _ _ _ _ _ _ _ _ _ _ _ = Pl; revert Pl; refine stayP ?_; intro Pl hPl
      dsimp only at hJ hA1 hA2 F' N'
      dsimp only [List.cons_append, List.nil_append] at N'
      have apL : ∀ p ∈ rest3, p.1 ≠ lS := fun p hp e => hne3 p hp (by rw [e]; exact .head _)
      have apS2 : ∀ p ∈ rest3, p.1 ≠ src := fun p hp e => hne3 p hp (by rw [e]; exact .tail _ (.head _))
      have ne1 : @LT.lt Nat _ src lS := lS1.2.1
      have hcr3 : (ca, listOf cvs.toArray nc) ∈ rest3 := hr3 _ hcr2
      have hL1 : vs1.length = ds.length := hJ.1
      have hi9 : ds.length < 10 := by omega
      k_steps
      all_goals
        rename _ ∧ _ ∧ _ ∧ AllLt _ rest3 => lX
        rename _ ∧ _ ∧ AllLt _ rest3 => lY
        rename News _ _ _ _ => lN
        refine LPost.nx hPl <| LEnd.intro (vs1 ++ [Value.ref _], nv + 1, _, _) [(_, _), (_, _)] (by k_asm) lN swap6 (off2 lX.2.1 lX.2.2.1 lY.1 lY.2.1) (apart2 lX.2.2.2 lY.2.2) (by (k_extra "tb_start")) ⟨⟨ds ++ [⟨_, _⟩], (hJ.mono fun v d q => q.mono fun p hp => .tail _ (.tail _ hp)).snoc (.mk (.head _) (by first | exact .int _ _ | exact .none)), ?_, ?_⟩, ?_, ?_, ?_⟩
        · intro s hs
          rcases List.mem_append.mp hs with hs | hs
          · exact hJo s hs
          · rw [List.mem_singleton.mp hs]
            first
              | exact ⟨.inl ⟨.inl rfl, _, rfl, by assumption, by assumption⟩, by dsimp only; decide +kernel⟩
              | exact ⟨.inl ⟨.inr rfl, _, rfl, by assumption, by assumption⟩, by dsimp only; decide +kernel⟩
              | exact ⟨.inr (.inl ⟨.inl rfl, rfl⟩), by dsimp only; decide +kernel⟩
              | exact ⟨.inr (.inl ⟨.inr rfl, rfl⟩), by dsimp only; decide +kernel⟩
        · rw [List.length_append, List.length_singleton]; omega
        · dsimp only; omega
        · dsimp only; omega
        · intro q hq p hp
          rcases List.mem_append.mp hq with hq | hq
          · exact apart2 lX.2.2.2 lY.2.2 q hq p (hr3 p hp)
          · exact hap3 q hq p hp
    case done =>
      clear lF lN2 keep rgX
      rintro ⟨vs1, nv, a1, ta1⟩ tl1 u h tk ⟨⟨ds, hJ, hJo, hJl⟩, hA1, hA2, hap3⟩ ht3 F' N'
      dsimp only at hJ hA1 hA2 F' N'
      dsimp only [List.cons_append, List.nil_append] at N'
      obtain ⟨r3, hr3⟩ : ∃ r3 : Led, r3 = tl1 ++ r2 := ⟨_, rfl⟩
      rw [← hr3] at N'
      have hcr3 : (ca, listOf cvs.toArray nc) ∈ r3 := by rw [hr3]; exact List.mem_append.mpr (.inr hcr2)
      have ap3 : ∀ p ∈ r3, p.1 ∉ [lS, src] := by
        intro p hp
        rw [hr3] at hp
        rcases List.mem_append.mp hp with hp | hp
        · exact ht3 p hp
        · exact ap2 p hp
      have apL : ∀ p ∈ r3, p.1 ≠ lS := fun p hp e => ap3 p hp (by rw [e]; exact .head _)
      have apS2 : ∀ p ∈ r3, p.1 ≠ src := fun p hp e => ap3 p hp (by rw [e]; exact .tail _ (.head _))
      have ne1 : @LT.lt Nat _ src lS := lS1.2.1
      have hL1 : vs1.length = ds.length := hJ.1
      have hi9 : ds.length < 10 := by omega
      have hRd : RdAll tl1 vs1 (ds.map LStep.data) := RdAll.of (fun _ _ q => q.rd) hJ
      replace hRd := hRd.mono fun p hp => (by rw [hr3]; exact List.mem_append.mpr (.inl hp) : p ∈ r3)
      have hSh : SeqAt.shaped (.list (ds.map LStep.data)) = true := shaped_list (by
        intro x hx
        obtain ⟨y, hy, rfl⟩ := List.mem_map.mp hx
        exact (hJo y hy).1.lay)
      have hend : ∀ (X : Led) (sv : List Value) (ns : Nat) (t9 : Tok) (r : Value) (h' : Heap) (tk' : Nat) (d : LRule), Fr h₀ L h' m → News h₀ L h' (X ++ (lS, listOf sv.toArray ns) :: (src, listOf #[.ref ca, .int (a1 + 1) t9] n) :: r3) → (∀ q ∈ X, @LT.lt Nat _ src q.1 ∧ AllLt q.1 r3) →
          LRuleIn (X ++ (lS, listOf sv.toArray ns) :: (tl1 ++ (D2, tupOf #[Value.ref lA, Value.ref lS] 0) :: (lA, listOf vs.toArray nl) :: (tl0 ++ [(D1, tupOf #[Value.int z1 u1, Value.int z2 u2] 0)]))) r d → RuleOk many d → Q r { s with heap := h', toks := tk' } := by
        intro X sv ns t9 r h' tk' d eF eN eX eR eO
        obtain ⟨T0, hT0⟩ : ∃ T0 : Led, T0 = tl1 ++ (D2, tupOf #[Value.ref lA, Value.ref lS] 0) :: (lA, listOf vs.toArray nl) :: (tl0 ++ [(D1, tupOf #[Value.int z1 u1, Value.int z2 u2] 0)]) := ⟨_, rfl⟩
        rw [← hT0] at eR
        have er : r3 = T0 ++ rest := by rw [hr3, hr2, hr1, hT0]; simp only [List.append_assoc, List.cons_append, List.nil_append]
        have eT : ∀ q ∈ T0, ∀ p ∈ rest, p.1 ≠ q.1 := by
          intro q hq p hp
          have hp1 : p ∈ r1 := by rw [hr1]; exact List.mem_append.mpr (.inr (.tail _ hp))
          have hp2 : p ∈ r2 := by rw [hr2]; exact .tail _ (.tail _ hp1)
          rw [hT0] at hq
          rcases List.mem_append.mp hq with hq | hq
          · exact hap3 q hq p hp2
          · rcases List.mem_cons.mp hq with rfl | hq
            · exact Nat.ne_of_lt (tb_ltOf lD2.2.2.2 p hp1)
            · rcases List.mem_cons.mp hq with rfl | hq
              · exact Nat.ne_of_lt (lt1 p (.tail _ hp))
              · rcases List.mem_append.mp hq with hq | hq
                · exact Nat.ne_of_lt (lt2 q hq p (.tail _ hp))
                · rw [List.mem_singleton.mp hq]
                  exact Nat.ne_of_lt (tb_ltOf lD.2 p hp)
        have eS : ∀ q ∈ T0, src ≠ q.1 := fun q hq e => apS2 q (by rw [er]; exact List.mem_append.mpr (.inl hq)) e.symm
        refine hret _ _ _ _ eF (cb_drop eN ?_) ⟨a1 + 1, t9, d, X ++ (lS, listOf sv.toArray ns) :: T0, by omega, by omega, by rw [hg], ?_, eR, eO⟩
        · intro p hp
          rw [er]
          rcases List.mem_append.mp hp with hp | hp
          · rcases List.mem_append.mp hp with hp | hp
            · exact List.mem_append.mpr (.inl hp)
            · rcases List.mem_cons.mp hp with rfl | hp
              · exact List.mem_append.mpr (.inr (.head _))
              · exact List.mem_append.mpr (.inr (.tail _ (.tail _ (List.mem_append.mpr (.inl hp)))))
          · rcases List.mem_append.mp hp with hp | hp
            · exact List.mem_append.mpr (.inr (.tail _ (.tail _ (List.mem_append.mpr (.inr (by rw [hrest]; exact List.mem_append.mpr (.inl hp)))))))
            · rcases List.mem_cons.mp hp with rfl | hp
              · exact List.mem_append.mpr (.inr (.tail _ (.head _)))
              · exact List.mem_append.mpr (.inr (.tail _ (.tail _ (List.mem_append.mpr (.inr (by rw [hrest]; exact List.mem_append.mpr (.inr hp)))))))
        · have key : ∀ q ∈ X ++ (lS, listOf sv.toArray ns) :: T0, src ≠ q.1 ∧ ∀ p ∈ rest, p.1 ≠ q.1 := by
            intro q hq
            rcases List.mem_append.mp hq with hq | hq
            · exact ⟨Nat.ne_of_lt (eX q hq).1, fun p hp => Nat.ne_of_lt (tb_ltOf (eX q hq).2 p (by rw [er]; exact List.mem_append.mpr (.inr hp)))⟩
            · rcases List.mem_cons.mp hq with rfl | hq
              · exact ⟨Nat.ne_of_lt ne1, fun p hp => Nat.ne_of_lt (tb_ltOf lS1.2.2 p (by rw [hr1]; exact List.mem_append.mpr (.inr (.tail _ hp))))⟩
              · exact ⟨eS q hq, eT q hq⟩
          intro q hq p hp
          rcases List.mem_append.mp hp with hp | hp
          · exact (key q hq).2 p (by rw [hrest]; exact List.mem_append.mpr (.inl hp))
          · rcases List.mem_cons.mp hp with rfl | hp
            · exact (key q hq).1
            · exact (key q hq).2 p (by rw [hrest]; exact List.mem_append.mpr (.inr hp))
      k_steps
      · rename_i D4 hA3 l4 b0 b5 b3 D5 hB3 l5 hC3 lE hD3 lF lN l6
        unfold CmpA
        refine ne_led (by k_asm) (by k_mem) (by k_mem) (RdAll.snoc (hRd.mono (by (k_extra "kat_tups"))) (Rd.tuple (vs := [_, _]) (by k_mem) (RdAll.cons Rd.str (RdAll.cons Rd.str RdAll.nil)))) RdAll.nil (shaped_snoc hSh (by decide +kernel) (by decide +kernel)) shaped_nil (by ktr_units) ?_
        simp only [eqvAll_nil, isEmpty_snoc, Bool.not_false]
        k_steps
        all_goals (refine hQf _ _ ?_; k_steps)
        rename _ ∧ _ ∧ _ ∧ _ ∧ _ ∧ AllLt _ r3 => lT
        rename News h₀ _ _ _ => kN
        rename Fr h₀ _ _ _ => kF
        refine hend [(_, _), (_, _), (_, _), (_, _)] _ _ _ _ _ _ ⟨live, ds ++ [⟨Str.ofString "return", .str (Str.ofString "Z")⟩]⟩ kF kN ?_ (.mk (.head _) memA hlive memS ((hJ.mono fun v d q => q.mono memT).snoc step3) (by rw [hlive.length]; omega) (by rw [List.length_append, List.length_singleton]; omega)) ⟨hlr, ?_, hll, by rw [List.length_append, List.length_singleton]; omega, ds, [_], rfl, fun s hs => (hJo s hs).2, Nat.le_refl _⟩
        · exact List.forall_mem_cons.mpr ⟨⟨lT.2.2.2.2.1, lT.2.2.2.2.2⟩, List.forall_mem_cons.mpr ⟨⟨l6.2.2.2.1, l6.2.2.2.2⟩, List.forall_mem_cons.mpr ⟨⟨l5.2.2.1, l5.2.2.2⟩, List.forall_mem_cons.mpr ⟨⟨l4.2.1, l4.2.2⟩, fun _ h => nomatch h⟩⟩⟩⟩
        · intro s hs
          rcases List.mem_append.mp hs with hs | hs
          · exact (hJo s hs).1
          · rw [List.mem_singleton.mp hs]
            exact .inr (.inr ⟨rfl, _, rfl, by decide +kernel⟩)
      · rename_i D4 hA3 l4 b0 b5 b3 D5 hB3 l5 hC3 lE hD3 lF lN l6
        unfold CmpA
        refine ne_led (by k_asm) (by k_mem) (by k_mem) (RdAll.snoc (hRd.mono (by (k_extra "kat_tups"))) (Rd.tuple (vs := [_, _]) (by k_mem) (RdAll.cons Rd.str (RdAll.cons Rd.str RdAll.nil)))) RdAll.nil (shaped_snoc hSh (by decide +kernel) (by decide +kernel)) shaped_nil (by ktr_units) ?_
        simp only [eqvAll_nil, isEmpty_snoc, Bool.not_false]
        k_steps
        all_goals (refine hQf _ _ ?_; k_steps)
        rename _ ∧ _ ∧ _ ∧ _ ∧ _ ∧ AllLt _ r3 => lT
        rename News h₀ _ _ _ => kN
        rename Fr h₀ _ _ _ => kF
        refine hend [(_, _), (_, _), (_, _), (_, _)] _ _ _ _ _ _ ⟨live, ds ++ [⟨Str.ofString "return", .str (Str.ofString "A")⟩]⟩ kF kN ?_ (.mk (.head _) memA hlive memS ((hJ.mono fun v d q => q.mono memT).snoc step3) (by rw [hlive.length]; omega) (by rw [List.length_append, List.length_singleton]; omega)) ⟨hlr, ?_, hll, by rw [List.length_append, List.length_singleton]; omega, ds, [_], rfl, fun s hs => (hJo s hs).2, Nat.le_refl _⟩
        · exact List.forall_mem_cons.mpr ⟨⟨lT.2.2.2.2.1, lT.2.2.2.2.2⟩, List.forall_mem_cons.mpr ⟨⟨l6.2.2.2.1, l6.2.2.2.2⟩, List.forall_mem_cons.mpr ⟨⟨l5.2.2.1, l5.2.2.2⟩, List.forall_mem_cons.mpr ⟨⟨l4.2.1, l4.2.2⟩, fun _ h => nomatch h⟩⟩⟩⟩
        · intro s hs
          rcases List.mem_append.mp hs with hs | hs
          · exact (hJo s hs).1
          · rw [List.mem_singleton.mp hs]
            exact .inr (.inr ⟨rfl, _, rfl, by decide +kernel⟩)
      · rename_i D4 hA3 l4 b0 b5 b3 D5 hB3 l5 hC3 lE hD3 lF lN l6
        unfold CmpA
        refine ne_led (by k_asm) (by k_mem) (by k_mem) (RdAll.snoc (hRd.mono (by (k_extra "kat_tups"))) (Rd.tuple (vs := [_, _]) (by k_mem) (RdAll.cons Rd.str (RdAll.cons Rd.str RdAll.nil)))) RdAll.nil (shaped_snoc hSh (by decide +kernel) (by decide +kernel)) shaped_nil (by ktr_units) ?_
        simp only [eqvAll_nil, isEmpty_snoc, Bool.not_false]
        k_steps
        all_goals (refine hQf _ _ ?_; k_steps)
        rename _ ∧ _ ∧ _ ∧ _ ∧ _ ∧ AllLt _ r3 => lT
        rename News h₀ _ _ _ => kN
        rename Fr h₀ _ _ _ => kF
        refine hend [(_, _), (_, _), (_, _), (_, _)] _ _ _ _ _ _ ⟨live, ds ++ [⟨Str.ofString "return", .str (Str.ofString "';'")⟩]⟩ kF kN ?_ (.mk (.head _) memA hlive memS ((hJ.mono fun v d q => q.mono memT).snoc step3) (by rw [hlive.length]; omega) (by rw [List.length_append, List.length_singleton]; omega)) ⟨hlr, ?_, hll, by rw [List.length_append, List.length_singleton]; omega, ds, [_], rfl, fun s hs => (hJo s hs).2, Nat.le_refl _⟩
        · exact List.forall_mem_cons.mpr ⟨⟨lT.2.2.2.2.1, lT.2.2.2.2.2⟩, List.forall_mem_cons.mpr ⟨⟨l6.2.2.2.1, l6.2.2.2.2⟩, List.forall_mem_cons.mpr ⟨⟨l5.2.2.1, l5.2.2.2⟩, List.forall_mem_cons.mpr ⟨⟨l4.2.1, l4.2.2⟩, fun _ h => nomatch h⟩⟩⟩⟩
        · intro s hs
          rcases List.mem_append.mp hs with hs | hs
          · exact (hJo s hs).1
          · rw [List.mem_singleton.mp hs]
            exact .inr (.inr ⟨rfl, _, rfl, by decide +kernel⟩)
      · rename_i hA3 lE hD3 lF lN l6
        unfold CmpA
        refine ne_led (by k_asm) (by k_mem) (by k_mem) (hRd.mono (by (k_extra "kat_tups"))) RdAll.nil hSh shaped_nil (by ktr_units) ?_
        simp only [eqvAll_nil, List.isEmpty_map]
        k_steps
        all_goals (refine hQf _ _ ?_; k_steps)
        · rename _ ∧ _ ∧ _ ∧ _ ∧ _ ∧ AllLt _ r3 => lT
          rename _ ∧ _ ∧ _ ∧ _ ∧ AllLt _ r3 => lU
          rename _ ∧ _ ∧ _ ∧ AllLt _ r3 => lV
          rename News h₀ _ _ _ => kN
          rename Fr h₀ _ _ _ => kF
          refine hend [(_, _), (_, _), (_, _), (_, _)] _ _ _ _ _ _ ⟨live, [⟨Str.ofString "skip", .none⟩]⟩ kF kN ?_ (.mk (sv := [_]) (.head _) memA hlive (.tail _ (.head _)) (AllIn.snoc (vs := []) (ds := []) ⟨rfl, fun i v d h => by simp at h⟩ (.mk (.tail _ (.tail _ (.head _))) .none)) (by rw [hlive.length]; omega) (by simp)) ⟨hlr, ?_, hll, by simp, [], [_], rfl, (fun _ h => (nomatch h)), Nat.le_refl _⟩
          · exact List.forall_mem_cons.mpr ⟨⟨lT.2.2.2.2.1, lT.2.2.2.2.2⟩, List.forall_mem_cons.mpr ⟨⟨lU.2.2.2.1, lU.2.2.2.2⟩, List.forall_mem_cons.mpr ⟨⟨lV.2.2.1, lV.2.2.2⟩, List.forall_mem_cons.mpr ⟨⟨l6.2.1, l6.2.2⟩, fun _ h => nomatch h⟩⟩⟩⟩
          · intro s hs
            rw [List.mem_singleton.mp hs]
            exact .inr (.inl ⟨.inl rfl, rfl⟩)
        · rename _ ∧ _ ∧ _ ∧ AllLt _ r3 => lT
          rename News h₀ _ _ _ => kN
          rename Fr h₀ _ _ _ => kF
          refine hend [(_, _), (_, _)] _ _ _ _ _ _ ⟨live, ds⟩ kF kN ?_ (.mk (.head _) memA hlive memS (hJ.mono fun v d q => q.mono memT) (by rw [hlive.length]; omega) (by omega)) ⟨hlr, fun s hs => (hJo s hs).1, hll, by dsimp only; omega, ds, [], (List.append_nil _).symm, fun s hs => (hJo s hs).2, Nat.zero_le _⟩
          exact List.forall_mem_cons.mpr ⟨⟨lT.2.2.1, lT.2.2.2⟩, List.forall_mem_cons.mpr ⟨⟨l6.2.1, l6.2.2⟩, fun _ h => nomatch h⟩⟩
end
section
example : True := by
  k_with_none
  k_with "k_ne" => ((refine neN ?_; (try dsimp only); with_reducible first | assumption | exact Nat.ne_of_lt (by assumption) | exact Nat.ne_of_gt (by assumption) | exact neC1 (by assumption) | exact (neC1 (by assumption)).symm | exact neC2 (by assumption) | exact (neC2 (by assumption)).symm | exact neC3 (by assumption) | exact (neC3 (by assumption)).symm | exact neC4 (by assumption) | exact (neC4 (by assumption)).symm | exact neD2 (by assumption) | exact (neD2 (by assumption)).symm | exact neD3 (by assumption) | exact (neD3 (by assumption)).symm | exact neC5 (by assumption) | exact (neC5 (by assumption)).symm))
  k_with "ktr_room" => (first | decide | (refine' room_of (c := 1) ?wqh9 ?wqe9 ?wqk9; (case wqh9 => with_reducible assumption); (case wqe9 => exact rfl); (case wqk9 => decide)) | (refine' room_of (c := 0) ?wqh9 ?wqe9 ?wqk9; (case wqh9 => with_reducible assumption); (case wqe9 => exact rfl); (case wqk9 => decide)) | (refine' room_at (c := 0) ?wqh9 ?wqe9 ?wqk9; (case wqh9 => with_reducible assumption); (case wqe9 => exact rfl); (case wqk9 => decide)) | (refine' room_at (c := 1) ?wqh9 ?wqe9 ?wqk9; (case wqh9 => with_reducible assumption); (case wqe9 => exact rfl); (case wqk9 => decide)) | fail "room")
  k_with "ktr_units" => (first | decide | (refine' room_of (c := 3) ?wqh9 ?wqe9 ?wqk9; (case wqh9 => with_reducible assumption); (case wqe9 => exact rfl); (case wqk9 => decide)) | (refine' room_of (c := 0) ?wqh9 ?wqe9 ?wqk9; (case wqh9 => with_reducible assumption); (case wqe9 => exact rfl); (case wqk9 => decide)) | fail "units")
  k_with "exec For Name Attribute cons nil" => ((k_here; (with_reducible show wpAny _ _ (exec (Stmt.For _ _ _ [] _) _) _ _ _); with_unfolding_all refine For_any ?_))
  k_with "exec For Name Name cons nil" => ((k_here; (with_reducible show wpAny _ _ (exec (Stmt.For _ _ _ [] _) _) _ _ _); with_unfolding_all refine For_any ?_))
  k_with "exec For Name Call cons nil" => ((k_here; (with_reducible show wpAny _ _ (exec (Stmt.For _ _ _ [] _) _) _ _ _); with_unfolding_all refine For_any ?_))
  k_with "exec For Name Subscript cons nil" => ((k_here; (with_reducible show wpAny _ _ (exec (Stmt.For _ _ _ [] _) _) _ _ _); with_unfolding_all refine For_any ?_))
  k_with "exec For Name Tuple cons nil" => ((k_here; (with_reducible show wpAny _ _ (exec (Stmt.For _ _ _ [] _) _) _ _ _); with_unfolding_all refine For_any ?_))
  k_with "exec For Tuple Call cons nil" => ((k_here; (with_reducible show wpAny _ _ (exec (Stmt.For _ _ _ [] _) _) _ _ _); with_unfolding_all refine For_any ?_))
  k_with "exec For Tuple Name cons nil" => ((k_here; (with_reducible show wpAny _ _ (exec (Stmt.For _ _ _ [] _) _) _ _ _); with_unfolding_all refine For_any ?_))
  k_with "exec For Tuple Subscript cons nil" => ((k_here; (with_reducible show wpAny _ _ (exec (Stmt.For _ _ _ [] _) _) _ _ _); with_unfolding_all refine For_any ?_))
  k_with "LPost" => ((dsimp only [LPost]))
  k_with "call builtin:len" => ((k_here; (with_reducible show wpAny _ _ (call (Value.builtin "len") [Value.ref _]) _ _ _); k_dflt (refine' len_led ?wqk1 ?wqk2 ?wqk3 ?_; (case wqk1 => k_asm); (case wqk2 => k_mem); (case wqk3 => omega); k_whole)))
  k_with "subscriptTail" => ((k_here; (with_reducible show wpAny _ _ (subscriptTail _ _ (Value.ref _) (Value.int _ _)) _ _ _); (with_unfolding_all refine' item_led ?wqk1 ?wqk2 ?wqk3 ?wqk4 ?wqk5 ?_ ?wqk6; (case wqk1 => k_asm); (case wqk2 => k_mem); (case wqk5 => first | assumption | (simp only [Int.toNat_natCast]; assumption)); (case wqk3 => omega); (case wqk4 => omega); (case wqk6 => with_unfolding_all rfl); k_whole)))
  k_with "tb_start" => ((intro y hy; (try dsimp only); (simp only [List.contains_cons, List.contains_nil, Bool.or_false, Bool.or_eq_false_iff] at hy); (have hy2 := hy); (simp only [beq_eq_false_iff_ne, ne_eq] at hy2); (simp only [List.contains_cons, List.contains_nil, hy, hy2, Bool.or_false, Bool.false_eq_true, if_false])))
  k_with "eval ListComp" => ((k_here; k_dflt (refine LCg.ListComp_U (F₀ := by k_asm) (by with_unfolding_all rfl) (by decide) (by rfl) (by decide) (by rfl) ?_)))
  k_with "eval ListComp" => ((k_here; k_dflt (refine LCt.ListComp_T (F₀ := by k_asm) (by with_unfolding_all rfl) (by decide) (by rfl) (by decide) (by rfl) ?_)))
  k_with "k_mem" => (first | exact List.Mem.head _ | ktr_member | (refine' List.mem_cons_of_mem _ ?_; k_mem))
  k_with "setItem ref int" => ((k_here; (with_reducible show wpAny _ _ (setItem (Value.ref _) (Value.int _ _) _) _ _ _); k_dflt (refine' set_led ?wqk1 ?wqk2 ?wqk3 ?wqk5 ?wqk6 ?wqk7 ?_; (case wqk1 => k_asm); (case wqk2 => k_asm); (case wqk3 => k_upd); (case wqk5 => omega); (case wqk6 => first | assumption | omega | (simp only [List.length_replicate, List.length_set, Int.toNat_natCast] at *; omega)); (case wqk7 => omega); k_whole); intro _ _ _; (try k_sweep)))
  k_with "call builtin:list.pop" => ((k_here; (with_reducible show wpAny _ _ (call (Value.builtin _) [Value.ref _]) _ _ _); k_dflt (refine' pop_led ?wqk1 ?wqk2 ?wqk3 ?wqk4 ?_; (case wqk1 => k_asm); (case wqk2 => k_asm); (case wqk3 => k_upd); (case wqk4 => (first | (rw [sizeLine_eq]; omega) | size_fits)); k_whole); intro _ _ _; (try k_sweep)))
  k_with "truthy ref" => ((k_here; k_dflt (first | (refine' truth_nil ?wqk1 ?wqk2 ?_; (case wqk1 => k_asm); (case wqk2 => k_mem)) | (refine' truth_snoc ?wqk1 ?wqk2 ?wqk3 ?_; (case wqk1 => k_asm); (case wqk2 => k_mem); (case wqk3 => omega)))))
  k_with "binaryOp Mult ref int" => ((k_here; k_dflt (refine' mul_led ?wqk1 ?wqk2 ?wqk3 ?wqk4 ?wqk5 ?_; (case wqk1 => k_asm); (case wqk2 => k_asm); (case wqk3 => k_mem); (case wqk4 => omega); (case wqk5 => omega); k_whole); intro _ _ _ _ l1; (try k_lt l1); (have _ := l1); clear l1; (try k_sweep)))
  k_with "k_all" => (first | with_reducible assumption | (refine' List.forall_mem_cons.mpr ⟨?wqa, ?wqb⟩; (case wqa => k_ne); (case wqb => k_all)))
  k_with "exec While Name cons nil" => ((k_here; refine While_stop ?_))
  k_with "call builtin:list.append" => ((k_here; (with_reducible show wpAny _ _ (call (Value.builtin _) [Value.ref _, _]) _ _ _); k_dflt (refine' append_led ?wqk1 ?wqk2 ?wqk3 ?wqk4 ?_; (case wqk1 => k_asm); (case wqk2 => k_asm); (case wqk3 => k_upd); (case wqk4 => (rw [sizeLine_eq]; (try simp only [List.length_append, List.length_cons, List.length_nil]); omega)); k_whole); intro _ _ _; (try k_sweep)))
  k_with "WPost" => ((dsimp only [WPost]))
  k_with "tb_rel" => (first | assumption | (refine RuleIn.mono (by assumption) ?_; intro p hp; (repeat (first | exact hp | refine List.mem_cons_of_mem _ ?_))) | (refine FileIn.mono (by assumption) ?_; intro p hp; (repeat (first | exact hp | refine List.mem_cons_of_mem _ ?_))))
  k_with "lsm_bools" => (with_reducible assumption)
  k_with "kaf_pre" => (first | assumption | (refine List.mem_cons_of_mem _ ?_; (k_extra "kaf_pre")))
  k_with "kaf_suf" => (first | exact UpdF.head (by first | assumption | k_all) | (refine' UpdF.tail ?wqua7 ?wqub7; (case wqua7 => k_ne); (case wqub7 => (k_extra "kaf_suf"))))
  k_with "kat_tups" => ((intro p hp; (repeat (first | exact hp | refine List.mem_cons_of_mem _ ?_))))
  trivial
def ListA (prog : Program) (w : World) (A : Around) (e : Expr) (env : Env) (Q : Value → Shared → Prop) (E : Value → Shared → Prop) (s : Shared) : Prop := wpAny (model prog w) A (eval e env) Q E s
theorem List_stop {prog : Program} {w : World} {A : Around} {e : Expr} {env : Env} {Q : Value → Shared → Prop} {E : Value → Shared → Prop} {s : Shared} (h : ListA prog w A e env Q E s) : wpAny (model prog w) A (eval e env) Q E s := h
example : True := by
  k_with "eval ListComp" => ((refine List_stop ?_))
  trivial
def SetA (prog : Program) (w : World) (A : Around) (l k v : Value) (Q : Unit → Shared → Prop) (E : Value → Shared → Prop) (s : Shared) : Prop := wpAny (model prog w) A (setItem l k v) Q E s
theorem Set_stop {prog : Program} {w : World} {A : Around} {l k v : Value} {Q : Unit → Shared → Prop} {E : Value → Shared → Prop} {s : Shared} (h : SetA prog w A l k v Q E s) : wpAny (model prog w) A (setItem l k v) Q E s := h
example : True := by
  k_with "setItem ref int" => ((refine Set_stop ?_))
  trivial
def CompA (prog : Program) (w : World) (A : Around) (h₀ : Heap) (L : Addr) (m : Str → Option Value) (env : Env) (elt : Expr) (x : Str) (scope : Scope) (cl : List (Str × Addr)) (Fin : Shared → List Value → Led → Prop) (xv : Value) (s₁ : Shared) : Prop := LCg.CompSrc prog w A h₀ L m env elt x scope cl Fin xv s₁
theorem Comp_stop {prog : Program} {w : World} {A : Around} {h₀ : Heap} {L : Addr} {m : Str → Option Value} {env : Env} {elt : Expr} {x : Str} {scope : Scope} {cl : List (Str × Addr)} {Fin : Shared → List Value → Led → Prop} {xv : Value} {s₁ : Shared} (h : CompA prog w A h₀ L m env elt x scope cl Fin xv s₁) : LCg.CompSrc prog w A h₀ L m env elt x scope cl Fin xv s₁ := h
example : True := by
  k_with "CompSrc" => ((refine Comp_stop ?_))
  trivial
theorem intEq_dec {i j : Nat} : Value.bool (((i : Nat) : Int) == (j : Int)) = Value.bool (decide (i = j)) := by
  congr 1
  by_cases e : i = j
  · subst e; simp
  · rw [decide_eq_false e]
    simp only [beq_eq_false_iff_ne, ne_eq]
    omega
def isGo (x : Str) : Prop := x = Str.ofString "begin" ∨ x = Str.ofString "push"
/-- a rule leads from i to j -/
def Go (d : LRule) (i j : Nat) : Prop := (i : Int) ∈ d.live ∧ ∃ s ∈ d.steps, isGo s.word ∧ s.worth = .int (j : Int)
theorem goes_not {k q : Nat} {P : Prop} {live : List Int} {ss : List LStep} {x : Str} {o : LW} (h : ¬ isGo x) :
    (P ∨ ((k : Int) ∈ live ∧ ∃ s ∈ ss, isGo s.word ∧ s.worth = .int (q : Int))) ↔ (P ∨ ((k : Int) ∈ live ∧ ∃ s ∈ ss ++ [⟨x, o⟩], isGo s.word ∧ s.worth = .int (q : Int))) := by
  refine or_congr Iff.rfl (and_congr Iff.rfl ⟨?_, ?_⟩)
  · rintro ⟨s, a, b⟩
    exact ⟨s, List.mem_append.mpr (.inl a), b⟩
  · rintro ⟨s, a, b⟩
    rcases List.mem_append.mp a with a | a
    · exact ⟨s, a, b⟩
    · rw [List.mem_singleton.mp a] at b
      exact absurd b.1 h
theorem go_snoc {k q : Nat} {es : List LRule} {live : List Int} {ss : List LStep} :
    ((k = q ∨ ∃ d ∈ es, Go d k q) ∨ ((k : Int) ∈ live ∧ ∃ s ∈ ss, isGo s.word ∧ s.worth = .int (q : Int))) ↔ (k = q ∨ ∃ d ∈ es ++ [⟨live, ss⟩], Go d k q) := by
  constructor
  · rintro ((e | ⟨d, a, b⟩) | h)
    · exact .inl e
    · exact .inr ⟨d, List.mem_append.mpr (.inl a), b⟩
    · exact .inr ⟨_, List.mem_append.mpr (.inr (List.mem_singleton.mpr rfl)), h⟩
  · rintro (e | ⟨d, a, b⟩)
    · exact .inl (.inl e)
    · rcases List.mem_append.mp a with a | a
      · exact .inl (.inr ⟨d, a, b⟩)
      · rw [List.mem_singleton.mp a] at b
        exact .inr b
theorem go_step {k q : Nat} {P : Prop} {live : List Int} {ss : List LStep} {x : Str} {z : Int} (h : isGo x) (hz : z = ((z.toNat : Nat) : Int)) :
    ((P ∨ ((k : Int) ∈ live ∧ ∃ s ∈ ss, isGo s.word ∧ s.worth = .int (q : Int))) ∨ ((k : Int) ∈ live ∧ q = z.toNat)) ↔ (P ∨ ((k : Int) ∈ live ∧ ∃ s ∈ ss ++ [⟨x, .int z⟩], isGo s.word ∧ s.worth = .int (q : Int))) := by
  constructor
  · rintro ((h | ⟨a, s, b, c⟩) | ⟨a, b⟩)
    · exact .inl h
    · exact .inr ⟨a, s, List.mem_append.mpr (.inl b), c⟩
    · exact .inr ⟨a, _, List.mem_append.mpr (.inr (List.mem_singleton.mpr rfl)), h, by rw [b, ← hz]⟩
  · rintro (h | ⟨a, s, b, c⟩)
    · exact .inl (.inl h)
    · rcases List.mem_append.mp b with b | b
      · exact .inl (.inr ⟨a, s, b, c⟩)
      · rw [List.mem_singleton.mp b] at c
        refine .inr ⟨a, ?_⟩
        have e := c.2
        injection e with e
        omega
theorem set_hit {k p n : Nat} {P : Prop} {live : List Int} {y : Int} (h : (k : Int) = y) : ((P ∨ ((k : Int) ∈ live ∧ p = n)) ∨ p = n) ↔ (P ∨ ((k : Int) ∈ live ++ [y] ∧ p = n)) := by
  have e : (k : Int) ∈ live ++ [y] := List.mem_append.mpr (.inr (List.mem_singleton.mpr h))
  constructor
  · rintro ((a | a) | a)
    · exact .inl a
    · exact .inr ⟨e, a.2⟩
    · exact .inr ⟨e, a⟩
  · rintro (a | a)
    · exact .inl (.inl a)
    · exact .inr a.2
theorem set_miss {k p n : Nat} {P : Prop} {live : List Int} {y : Int} (h : (k : Int) ≠ y) : (P ∨ ((k : Int) ∈ live ∧ p = n)) ↔ (P ∨ ((k : Int) ∈ live ++ [y] ∧ p = n)) := by
  have e : (k : Int) ∈ live ++ [y] ↔ (k : Int) ∈ live := by simp [h]
  rw [e]
theorem swapB {a b c d : Addr × Obj} {r : Led} : ∀ p ∈ [b, c, a] ++ (d :: r), p ∈ a :: b :: c :: d :: r := by
  intro p hp
  rcases List.mem_cons.mp hp with rfl | hp
  · exact .tail _ (.head _)
  · rcases List.mem_cons.mp hp with rfl | hp
    · exact .tail _ (.tail _ (.head _))
    · rcases List.mem_cons.mp hp with rfl | hp
      · exact .head _
      · exact .tail _ (.tail _ (.tail _ hp))
theorem swapE {a b c d : Addr × Obj} {t r : Led} : ∀ p ∈ d :: a :: b :: c :: (t ++ r), p ∈ a :: b :: c :: (t ++ d :: r) := by
  intro p hp
  rcases List.mem_cons.mp hp with rfl | hp
  · exact .tail _ (.tail _ (.tail _ (List.mem_append.mpr (.inr (.head _)))))
  · rcases List.mem_cons.mp hp with rfl | hp
    · exact .head _
    · rcases List.mem_cons.mp hp with rfl | hp
      · exact .tail _ (.head _)
      · rcases List.mem_cons.mp hp with rfl | hp
        · exact .tail _ (.tail _ (.head _))
        · rcases List.mem_append.mp hp with hp | hp
          · exact .tail _ (.tail _ (.tail _ (List.mem_append.mpr (.inl hp))))
          · exact .tail _ (.tail _ (.tail _ (List.mem_append.mpr (.inr (.tail _ hp)))))
theorem swapF {a b c d : Addr × Obj} {t r : Led} : ∀ p ∈ [a, b, d] ++ ((c :: t) ++ r), p ∈ d :: a :: b :: c :: (t ++ r) := by
  intro p hp
  rcases List.mem_cons.mp hp with rfl | hp
  · exact .tail _ (.head _)
  · rcases List.mem_cons.mp hp with rfl | hp
    · exact .tail _ (.tail _ (.head _))
    · rcases List.mem_cons.mp hp with rfl | hp
      · exact .head _
      · exact .tail _ (.tail _ (.tail _ hp))
theorem swapG {a b c d : Addr × Obj} {r : Led} : ∀ p ∈ [c, a] ++ (b :: d :: r), p ∈ a :: b :: c :: d :: r := by
  intro p hp
  rcases List.mem_cons.mp hp with rfl | hp
  · exact .tail _ (.tail _ (.head _))
  · rcases List.mem_cons.mp hp with rfl | hp
    · exact .head _
    · rcases List.mem_cons.mp hp with rfl | hp
      · exact .tail _ (.head _)
      · exact .tail _ (.tail _ (.tail _ hp))
theorem swapH {a b c d : Addr × Obj} {r : Led} : ∀ p ∈ d :: a :: c :: b :: r, p ∈ a :: b :: c :: d :: r := by
  intro p hp
  rcases List.mem_cons.mp hp with rfl | hp
  · exact .tail _ (.tail _ (.tail _ (.head _)))
  · rcases List.mem_cons.mp hp with rfl | hp
    · exact .head _
    · rcases List.mem_cons.mp hp with rfl | hp
      · exact .tail _ (.tail _ (.head _))
      · rcases List.mem_cons.mp hp with rfl | hp
        · exact .tail _ (.head _)
        · exact .tail _ (.tail _ (.tail _ (.tail _ hp)))
theorem swapI {a b c d : Addr × Obj} {r : Led} : ∀ p ∈ [b, a, c] ++ ([d] ++ r), p ∈ c :: a :: b :: d :: r := by
  intro p hp
  rcases List.mem_cons.mp hp with rfl | hp
  · exact .tail _ (.tail _ (.head _))
  · rcases List.mem_cons.mp hp with rfl | hp
    · exact .tail _ (.head _)
    · rcases List.mem_cons.mp hp with rfl | hp
      · exact .head _
      · exact .tail _ (.tail _ (.tail _ hp))
theorem swapJ {a b d : Addr × Obj} {r : Led} : ∀ p ∈ [a, b] ++ ([] ++ r), p ∈ d :: a :: b :: r := by
  intro p hp
  exact .tail _ hp
theorem push_map {bs : List Bool} {x : Bool} : ((bs ++ [x]).map Value.bool).toArray = (bs.map Value.bool).toArray.push (.bool x) := by
  rw [List.map_append, List.push_toArray]; rfl
theorem hs1 {x a : Addr × Obj} {R rest rr : Led} (e : rr = R ++ rest) : ∀ p ∈ (a :: R) ++ ([] ++ rest), p ∈ x :: a :: rr := by
  intro p hp
  rw [e]
  exact .tail _ hp
set_option maxHeartbeats 1500000 in
theorem ways_spec : ∀ (news : Led) (ra : Addr) (rvs : List Value) (nr : Nat) (ds : List LRule) (many : Nat) (tm : Tok), (ra, listOf rvs.toArray nr) ∈ news → AllIn (LRuleIn news) rvs ds → rvs.length ≤ 100 → 1 ≤ many → many < 2 ^ 18 → (∀ d ∈ ds, RuleOk many d) →
    Spec news 279 [.ref ra, .int many tm] 4 160 (fun r news' => ∃ (T : Addr) (tl : Led) (rv : List Value) (n : Nat), r = .ref T ∧ news' = tl ++ news ∧ (∀ q ∈ tl, ∀ p ∈ news, p.1 ≠ q.1) ∧ (T, listOf rv.toArray n) ∈ tl ++ news ∧ MatAt (tl ++ news) rv many many (powR many (fun k q => k = q ∨ ∃ d ∈ ds, Go d k q) 3)) := by
  unfold Spec
  w_top off
  k_fill
  intro news ra rvs nr ds many tm hra hA hlen hm1 hm7 hOk w p loose mean mg mb dp un gd cn cs a ccd cl outer A₀ base h₀ L m s Q E B F X N T hk hd hu hret
  refine wpAny_call ?_
  k_dflt (refine' code_defC ?k1 ?k2 ?k3 ?k4 ?k5 ?kA ?kF ?kK ?k6 ?k7 ?k8 ?k9 ?kB ?kD ?_ ?c2 ?c3 ?c4; (case kA => exact rfl); (case kF => exact rfl); (case kK => assumption); (case k1 => k_asm); (case k2 => k_asm); (case k3 => k_asm); (case k4 => k_asm); (case k5 => k_asm); (case k6 => k_is); (case k7 => k_is); (case k8 => ktr_room); (case k9 => exact BindsTo.of_eq rfl); (case kB => exact rfl); (case kD => decide +kernel); (case c2 => exact rfl); (case c3 => exact rfl); (case c4 => exact rfl); k_whole; intro g' L' h' tk' cells' FG' F' N' Y' B' X' T' l1; (try k_lt l1); k_cells Y'; (try simp only [List.cons_append, List.nil_append] at N'); (try dsimp only); (try k_fold))
  refine hideA ?_; intro Ak
  rename Fr _ _ _ _ => lF0; refine letM lF0 ?_; clear lF0; intro m0 F0
  rename_i oT oR oO oM dT dR dO dM
  replace dT : oT.data = .cell none := dT
  replace dR : oR.data = .cell none := dR
  replace dO : oO.data = .cell none := dO
  replace dM : oM.data = .cell (some (.int many tm)) := dM
  refine wpAny_noRaise (hideQ ?_); intro Qf hQf
  k_steps
  unfold ListA
  refine' ListComp_cell (by k_asm) ?a1 ?a2 ?a3 ?a4 ?a5 ?a6 ?_ ?a7
  case a1 => with_unfolding_all rfl
  case a2 => rfl
  case a3 => decide
  case a4 => intro _; rfl
  case a5 => intro _; rfl
  case a6 => intro _ _; rfl
  case a7 => intro _; rfl
  k_steps
  rename_i tk1 ta tb tc rgX lF lN keep
  obtain ⟨L0, hL0⟩ : ∃ L0 : Led, L0 = (L' + 1 + 1 + 1 + 1, oT) :: (L' + 1 + 1 + 1, oR) :: (L' + 1 + 1, oO) :: (L' + 1, oM) :: news := ⟨_, rfl⟩
  rw [← hL0] at lN
  have mM : (L' + 1, oM) ∈ L0 := by rw [hL0]; exact .tail _ (.tail _ (.tail _ (.head _)))
  refine ⟨_, _, _, _, _, many, L0, fun i ys nw => ∃ as : List Addr, as.length = i ∧ ys = as.map Value.ref ∧ as.Nodup ∧ (∀ a ∈ as, ∀ p ∈ L0, p.1 ≠ a) ∧ nw = rowsL as (fun k => (idRow many k many, many)) ++ L0, rfl, rfl, by k_asm, lN, rgX, rfl, by omega, ⟨[], rfl, rfl, .nil, fun _ h => (nomatch h), rfl⟩, ?turn, ?fin⟩
  case turn =>
    rintro i ys nw I oI K oK C oC D h9 tk9 tv E9 hi ⟨as, hal, rfl, hnd, hap, hnw⟩ dK F9 N9 off ⟨eIK, eIC, eID, eKC, eKD, eCD⟩
    have mM9 : (L' + 1, oM) ∈ nw := by rw [hnw]; exact List.mem_append.mpr (.inr mM)
    refine' LCg.ListComp_U (F₀ := by k_asm) ?b1 ?b2 ?b3 ?b4 ?b5 ?_ ?b7
    case b1 => with_unfolding_all rfl
    case b2 => decide
    case b3 => rfl
    case b4 => decide
    case b5 => rfl
    case b7 => intro _; rfl
    k_steps
    clear rgX keep lF lN
    rename_i tk1 ta tb tc rgX lF lN keep
    unfold CompA
    refine LCg.CompSrc.range rfl (by k_asm) lN rgX (small_one (by omega) (by omega) (by omega) (by omega)) (by simpa using rangeSize_nat 0 many) (by rw [sizeLine_eq]; omega) (fun gh => ?_)
    refine restU_of (n := many) (fun j ys nw' => nw' = (I, oI) :: (K, oK) :: (C, oC) :: (D, LCg.lst (as.map Value.ref)) :: nw ∧ ys = (idRow many i j).map Value.bool) ?step ?fin1 _ 0 [] _ (by omega) ⟨rfl, rfl⟩
    case step =>
      rintro j ys nw' hj ⟨rfl, rfl⟩ v I2 oI2 C2 oC2 D2 m₂ h9 tk9 E9 ⟨t2, rfl⟩ hC9 hx F9 N9 o1 o2
      refine hideQ ?_; intro Pc hPc
      k_steps
      exact hPc _ _ <| LCg.CompEnd.intro (by k_asm) (by k_asm) _ (fun p hp => hp) o1 trivial ⟨rfl, by rw [idRow_succ, List.map_append]; simp only [List.map_cons, List.map_nil, Int.zero_add]; congr 2; exact intEq_dec⟩
    case fin1 =>
      rintro ys nw' ⟨rfl, rfl⟩ D2 h2 tk2 F2 N2 o2
      have o2' := off1_mem o2
      have eR : LCg.lst ((idRow many i many).map Value.bool) = rowO (idRow many i many, many) := by
        show ({ cls := .type "list", data := .seq _ ((idRow many i many).map Value.bool).length } : Obj) = _
        rw [List.length_map, idRow, List.length_map, List.length_range]
      rw [eR] at N2
      k_steps
      refine KEnd.intro (by k_asm) (by k_asm) (rowsL (as ++ [D2]) (fun k => (idRow many k many, many)) ++ L0) ?_ ?_ ⟨as ++ [D2], by rw [List.length_append, hal]; rfl, by rw [List.map_append]; rfl, ?_, ?_, rfl⟩
      · intro p hp
        rcases List.mem_cons.mp hp with rfl | hp
        · exact .tail _ (.head _)
        · rcases List.mem_cons.mp hp with rfl | hp
          · exact .tail _ (.tail _ (.head _))
          · rcases List.mem_cons.mp hp with rfl | hp
            · exact .tail _ (.tail _ (.tail _ (.head _)))
            · rcases List.mem_cons.mp hp with rfl | hp
              · exact .tail _ (.tail _ (.tail _ (.tail _ (.head _))))
              · rcases List.mem_append.mp hp with hp | hp
                · rcases rowsL_snoc hp with hp | rfl
                  · exact .tail _ (.tail _ (.tail _ (.tail _ (.tail _ (by rw [hnw]; exact List.mem_append.mpr (.inl hp))))))
                  · rw [hal]; exact .head _
                · exact .tail _ (.tail _ (.tail _ (.tail _ (.tail _ (by rw [hnw]; exact List.mem_append.mpr (.inr hp))))))
      · intro p hp
        rcases List.mem_append.mp hp with hp | hp
        · rcases rowsL_snoc hp with hp | rfl
          · exact off p (by rw [hnw]; exact List.mem_append.mpr (.inl hp))
          · exact ⟨(o2' _ (.head _)).symm, (o2' _ (.tail _ (.head _))).symm, (o2' _ (.tail _ (.tail _ (.head _)))).symm, (o2' _ (.tail _ (.tail _ (.tail _ (.head _))))).symm⟩
        · exact off p (by rw [hnw]; exact List.mem_append.mpr (.inr hp))
      · refine List.nodup_append.mpr ⟨hnd, List.pairwise_singleton _ _, ?_⟩
        intro a ha b hb e
        rw [List.mem_singleton.mp hb] at e
        have := rowsL_fst as (fun k => (idRow many k many, many))
        rw [← this] at ha
        obtain ⟨p, hp, rfl⟩ := List.mem_map.mp ha
        exact o2' p (.tail _ (.tail _ (.tail _ (.tail _ (by rw [hnw]; exact List.mem_append.mpr (.inl hp)))))) e
      · intro a ha p hp
        rcases List.mem_append.mp ha with ha | ha
        · exact hap a ha p hp
        · rw [List.mem_singleton.mp ha]
          exact o2' p (.tail _ (.tail _ (.tail _ (.tail _ (by rw [hnw]; exact List.mem_append.mpr (.inr hp))))))
  case fin =>
    clear lF lN keep rgX
    rintro ys nw D h9 tk9 ⟨as, hal, rfl, hnd, hap, rfl⟩ F9 N9 off
    have eT : LCg.lst (as.map Value.ref) = listOf (as.map Value.ref).toArray (as.map Value.ref).length := rfl
    rw [eT] at N9
    have lt0 : ∀ p ∈ news, @LT.lt Nat _ p.1 L' := l1
    have neD : ∀ p ∈ L0, @Ne Nat p.1 D := fun p hp => off p (List.mem_append.mpr (.inr hp))
    obtain ⟨nT, hnT⟩ : ∃ nT, nT = (as.map Value.ref).length := ⟨_, rfl⟩
    rw [← hnT] at N9
    obtain ⟨r0, hr0⟩ : ∃ r0 : Led, r0 = (D, listOf (as.map Value.ref).toArray nT) :: (L' + 1 + 1 + 1, oR) :: (L' + 1, oM) :: news := ⟨_, rfl⟩
    have q1 : (D, listOf (as.map Value.ref).toArray nT) ∈ r0 := by rw [hr0]; exact .head _
    have q2 : (L' + 1 + 1 + 1, oR) ∈ r0 := by rw [hr0]; exact .tail _ (.head _)
    have q3 : (L' + 1, oM) ∈ r0 := by rw [hr0]; exact .tail _ (.tail _ (.head _))
    have q4 : ∀ p ∈ news, p ∈ r0 := fun p hp => by rw [hr0]; exact .tail _ (.tail _ (.tail _ hp))
    have t4 : (L' + 1 + 1 + 1 + 1, oT) ∈ L0 := by rw [hL0]; exact .head _
    have t3 : (L' + 1 + 1 + 1, oR) ∈ L0 := by rw [hL0]; exact .tail _ (.head _)
    have t2 : (L' + 1 + 1, oO) ∈ L0 := by rw [hL0]; exact .tail _ (.tail _ (.head _))
    have inL0 : ∀ p ∈ r0, p.1 ≠ D → p ∈ L0 := by
      intro p hp hne
      rw [hr0] at hp
      rw [hL0]
      rcases List.mem_cons.mp hp with rfl | hp
      · exact absurd rfl hne
      · rcases List.mem_cons.mp hp with rfl | hp
        · exact .tail _ (.head _)
        · rcases List.mem_cons.mp hp with rfl | hp
          · exact .tail _ (.tail _ (.tail _ (.head _)))
          · exact .tail _ (.tail _ (.tail _ (.tail _ hp)))
    have asD : ∀ a ∈ as, D ≠ a := by
      intro a ha e
      obtain ⟨k, hk⟩ := List.mem_iff_getElem?.mp ha
      exact off _ (List.mem_append.mpr (.inl (rowsL_at hk))) e.symm
    have as0 : ∀ a ∈ as, ∀ p ∈ r0, p.1 ≠ a := by
      intro a ha p hp
      by_cases e : p.1 = D
      · rw [e]; exact asD a ha
      · exact hap a ha p (inL0 p hp e)
    have c4 : ∀ p ∈ r0, p.1 ≠ L' + 1 + 1 + 1 + 1 := by
      intro p hp
      rw [hr0] at hp
      rcases List.mem_cons.mp hp with rfl | hp
      · exact (neD _ t4).symm
      · rcases List.mem_cons.mp hp with rfl | hp
        · exact Nat.ne_of_lt (Nat.lt_succ_self _)
        · rcases List.mem_cons.mp hp with rfl | hp
          · exact Nat.ne_of_lt (by show L' + 1 < L' + 1 + 1 + 1 + 1; exact Nat.lt_add_of_pos_right (n := L' + 1) (by decide : 0 < 3))
          · exact Nat.ne_of_lt (Nat.lt_of_lt_of_le (lt0 p hp) (Nat.le_add_right L' 4))
    have c2 : ∀ p ∈ r0, p.1 ≠ L' + 1 + 1 := by
      intro p hp
      rw [hr0] at hp
      rcases List.mem_cons.mp hp with rfl | hp
      · exact (neD _ t2).symm
      · rcases List.mem_cons.mp hp with rfl | hp
        · exact Nat.ne_of_gt (Nat.lt_succ_self _)
        · rcases List.mem_cons.mp hp with rfl | hp
          · exact Nat.ne_of_lt (Nat.lt_succ_self _)
          · exact Nat.ne_of_lt (Nat.lt_of_lt_of_le (lt0 p hp) (Nat.le_add_right L' 2))
    obtain ⟨f0, hf0⟩ : ∃ f0 : Nat → List Bool × Nat, f0 = fun k => (idRow many k many, many) := ⟨_, rfl⟩
    rw [← hf0] at N9
    obtain ⟨r1, hr1⟩ : ∃ r1 : Led, r1 = (L' + 1 + 1, oO) :: (rowsL as f0 ++ r0) := ⟨_, rfl⟩
    have N10 : News g' L' h9 ((L' + 1 + 1 + 1 + 1, oT) :: r1) := by
      refine cb_drop N9 ?_
      intro p hp
      rw [hL0]
      rcases List.mem_cons.mp hp with rfl | hp
      · exact .tail _ (List.mem_append.mpr (.inr (.head _)))
      · rw [hr1] at hp
        rcases List.mem_cons.mp hp with rfl | hp
        · exact .tail _ (List.mem_append.mpr (.inr (.tail _ (.tail _ (.head _)))))
        · rcases List.mem_append.mp hp with hp | hp
          · exact .tail _ (List.mem_append.mpr (.inl hp))
          · rw [hr0] at hp
            rcases List.mem_cons.mp hp with rfl | hp
            · exact .head _
            · refine .tail _ (List.mem_append.mpr (.inr ?_))
              rcases List.mem_cons.mp hp with rfl | hp
              · exact .tail _ (.head _)
              · rcases List.mem_cons.mp hp with rfl | hp
                · exact .tail _ (.tail _ (.tail _ (.head _)))
                · exact .tail _ (.tail _ (.tail _ (.tail _ hp)))
    have c4r : ∀ p ∈ r1, p.1 ≠ L' + 1 + 1 + 1 + 1 := by
      intro p hp
      rw [hr1] at hp
      rcases List.mem_cons.mp hp with rfl | hp
      · exact Nat.ne_of_lt (by show L' + 1 + 1 < L' + 1 + 1 + 1 + 1; exact Nat.lt_add_of_pos_right (n := L' + 1 + 1) (by decide : 0 < 2))
      · rcases List.mem_append.mp hp with hp | hp
        · obtain ⟨k, a, hk, rfl⟩ := rowsL_mem.mp hp
          exact (hap a (List.mem_of_getElem? hk) _ t4).symm
        · exact c4 p hp
    have hra1 : (ra, listOf rvs.toArray nr) ∈ r1 := by rw [hr1]; exact .tail _ (List.mem_append.mpr (.inr (q4 _ hra)))
    clear N9
    k_steps
    rename_i h10 oT2 lF lN dT2
    replace dT2 : oT2.data = .cell (some (.ref D)) := dT2
    obtain ⟨r2, hr2⟩ : ∃ r2 : Led, r2 = (L' + 1 + 1 + 1 + 1, oT2) :: r0 := ⟨_, rfl⟩
    have u4 : (L' + 1 + 1 + 1 + 1, oT2) ∈ r2 := by rw [hr2]; exact .head _
    have u0 : ∀ p ∈ r0, p ∈ r2 := fun p hp => by rw [hr2]; exact .tail _ hp
    have as2 : ∀ a ∈ as, ∀ p ∈ r2, p.1 ≠ a := by
      intro a ha p hp
      rw [hr2] at hp
      rcases List.mem_cons.mp hp with rfl | hp
      · have e : L' + 1 + 1 + 1 + 1 ≠ a := hap a ha (_, oT) t4
        exact e
      · exact as0 a ha p hp
    have c22 : ∀ p ∈ r2, p.1 ≠ L' + 1 + 1 := by
      intro p hp
      rw [hr2] at hp
      rcases List.mem_cons.mp hp with rfl | hp
      · exact Nat.ne_of_gt (by show L' + 1 + 1 < L' + 1 + 1 + 1 + 1; exact Nat.lt_add_of_pos_right (n := L' + 1 + 1) (by decide : 0 < 2))
      · exact c2 p hp
    have asO : ∀ a ∈ as, L' + 1 + 1 ≠ a := fun a ha => hap a ha _ t2
    have lN2 : News g' L' h10 (((L' + 1 + 1, oO) :: rowsL as f0) ++ r2) := cb_drop lN (by
      intro p hp
      rw [hr2] at hp
      rw [hr1]
      rcases List.mem_append.mp hp with hp | hp
      · rcases List.mem_cons.mp hp with rfl | hp
        · exact .tail _ (.head _)
        · exact .tail _ (.tail _ (List.mem_append.mpr (.inl hp)))
      · rcases List.mem_cons.mp hp with rfl | hp
        · exact .head _
        · exact .tail _ (.tail _ (List.mem_append.mpr (.inr hp))))
    clear lN
    have hoff2 : ∀ p ∈ r2, p.1 ∉ (L' + 1 + 1) :: as := by
      intro p hp hm
      rcases List.mem_cons.mp hm with e | hm
      · exact c22 p hp e
      · exact as2 _ hm p hp rfl
    refine over_list (σ := Obj × (Nat → List Bool × Nat)) (adr := (L' + 1 + 1) :: as) (r₀ := r2) (fun c => (L' + 1 + 1, c.1) :: rowsL as c.2) [Str.ofString "live", Str.ofString "steps", Str.ofString "word", Str.ofString "worth"]
      (fun i c tl _ => (tl = [] ∧ ∃ vo, c.1.data = .cell vo) ∧ ∀ k, k < many → RowIs many (fun j => k = j ∨ ∃ d ∈ ds.take i, Go d k j) (c.2 k).1) (oO, f0) rfl (u0 _ (q4 _ hra)) (fun c => by show _ :: (rowsL as c.2).map _ = _; rw [rowsL_fst]) hoff2 lF lN2
      ⟨⟨rfl, _, dO⟩, fun k hk => by
        rw [hf0]
        refine idRow_is.congr fun j hj => ⟨.inl, fun h => h.elim id ?_⟩
        rintro ⟨d, hd, _⟩
        exact nomatch hd⟩ ?turn1 ?done1
    case turn1 =>
      clear lF lN2
      rintro i v ⟨oN, f⟩ tl u h tk rest hv hi hr ht hne ⟨⟨rfl, vo, dN⟩, hJ⟩ F' N'
      generalize hPl : LPost _ _ _ _ _ _ _ _ _ _ _ = Pl; revert Pl; refine stayP ?_; intro Pl hPl
      dsimp only at dN hJ F' N'
      dsimp only [List.cons_append] at N'
      obtain ⟨dd, hdd, hS⟩ := hA.get hv
      replace hS := hS.mono (fun p hp => hr p (u0 p (q4 p hp)))
      have hdk := hOk dd (List.mem_of_getElem? hdd)
      obtain ⟨rr, hrr⟩ : ∃ rr : Led, rr = rowsL as f ++ rest := ⟨_, rfl⟩
      rw [← hrr] at N'
      cases hS with
      | @mk pa la sa np nl ns lv sv live steps b1 b2 b3 b4 b5 b6 b7 =>
      have b1r : (pa, tupOf #[.ref la, .ref sa] np) ∈ rr := by rw [hrr]; exact List.mem_append.mpr (.inr b1)
      have b4r : (sa, listOf sv.toArray ns) ∈ rr := by rw [hrr]; exact List.mem_append.mpr (.inr b4)
      k_steps
      rename News _ _ _ _ => lN
      rename Fr _ _ _ _ => lF
      rw [hrr] at lN
      have hoffr : ∀ p ∈ rest, p.1 ∉ (L' + 1 + 1) :: as := hne
      refine over_list (σ := Obj × (Nat → List Bool × Nat)) (adr := (L' + 1 + 1) :: as) (r₀ := rest) (fun c => (L' + 1 + 1, c.1) :: rowsL as c.2) [Str.ofString "word", Str.ofString "worth"]
        (fun j c tl _ => (tl = [] ∧ ∃ vo, c.1.data = .cell vo) ∧ ∀ k, k < many → RowIs many (fun q => (k = q ∨ ∃ d ∈ ds.take i, Go d k q) ∨ ((k : Int) ∈ live ∧ ∃ s ∈ steps.take j, isGo s.word ∧ s.worth = .int (q : Int))) (c.2 k).1) (oN, f) rfl b4 (fun c => by show _ :: (rowsL as c.2).map _ = _; rw [rowsL_fst]) hoffr lF lN
        ⟨⟨rfl, _, dN⟩, fun k hk => (hJ k hk).congr fun j hj => ⟨.inl, fun h => h.elim id (fun h => by
          obtain ⟨_, s, hs, _⟩ := h
          exact nomatch hs)⟩⟩ ?turn2 ?done2
      case turn2 =>
        clear lF lN hJ dN hrr b1r b4r
        rintro j v2 ⟨oN2, f2⟩ tl2 u2 h2 tk2 rest2 hv2 hj hr2 ht2 hne2 ⟨⟨rfl, vo2, dN2⟩, hJ2⟩ F' N'
        generalize hPl : LPost _ _ _ _ _ _ _ _ _ _ _ = Pl; revert Pl; refine stayP ?_; intro Pl hPl
        dsimp only at dN2 hJ2 F' N'
        dsimp only [List.cons_append] at N'
        obtain ⟨d2, hd2, hS2⟩ := b5.get hv2
        have hok2 := hdk.2.1 d2 (List.mem_of_getElem? hd2)
        obtain ⟨rr, hrr⟩ : ∃ rr : Led, rr = rowsL as f2 ++ rest2 := ⟨_, rfl⟩
        rw [← hrr] at N'
        cases hS2 with
        | @mk pa2 x tx vw o n2 s1 s2 =>
        have s1r : (pa2, tupOf #[.str x tx, vw] n2) ∈ rr := by rw [hrr]; exact List.mem_append.mpr (.inr (hr2 _ s1))
        have eTk : steps.take (j + 1) = steps.take j ++ [⟨x, o⟩] := take_snoc hd2
        rcases hok2 with ⟨hx, z, hz, z0, z1⟩ | ⟨hx, hz⟩ | ⟨hx, z, hz, _⟩
        · dsimp only at hx hz
          subst hz
          cases s2 with
          | int z tz =>
          have hgo : isGo x := hx
          have hex : z = ((z.toNat : Nat) : Int) := by omega
          have hzm : z.toNat < many := by omega
          rcases hx with rfl | rfl
          all_goals
            k_steps
            rename News _ _ _ _ => lN
            rename Fr _ _ _ _ => lF
            have lN2 : News g' L' _ (((L' + 1 + 1, oN2) :: rowsL as f2) ++ rest2) := cb_drop lN (hs1 hrr)
            clear lN
            refine over_list (σ := Obj × (Nat → List Bool × Nat)) (adr := (L' + 1 + 1) :: as) (r₀ := rest2) (fun c => (L' + 1 + 1, c.1) :: rowsL as c.2) ([] : List Str)
              (fun q c tl _ => (tl = [] ∧ ∃ vo, c.1.data = .cell vo) ∧ ∀ k, k < many → RowIs many (fun p => ((k = p ∨ ∃ d ∈ ds.take i, Go d k p) ∨ ((k : Int) ∈ live ∧ ∃ s ∈ steps.take j, isGo s.word ∧ s.worth = .int (p : Int))) ∨ ((k : Int) ∈ live.take q ∧ p = z.toNat)) (c.2 k).1) (oN2, f2) rfl (hr2 _ b2) (fun c => by show _ :: (rowsL as c.2).map _ = _; rw [rowsL_fst]) hne2 lF lN2
              ⟨⟨rfl, _, dN2⟩, fun k hk => (hJ2 k hk).congr fun q hq => ⟨.inl, fun h => h.elim id (fun h => nomatch h.1)⟩⟩ ?turn3 ?done3
            case turn3 =>
              clear lF lN2 hJ2 dN2 hrr s1r
              rintro q v3 ⟨oN3, f3⟩ tl3 u3 h3 tk3 rest3 hv3 hq hr3 ht3 hne3 ⟨⟨rfl, vo3, dN3⟩, hJ3⟩ F' N'
              generalize hPl : LPost _ _ _ _ _ _ _ _ _ _ _ = Pl; revert Pl; refine stayP ?_; intro Pl hPl
              dsimp only at dN3 hJ3 F' N'
              dsimp only [List.cons_append] at N'
              obtain ⟨y, ty, rfl, hy⟩ := b3.at q v3 hv3
              obtain ⟨y0, y1⟩ := hdk.1 y (List.mem_of_getElem? hy)
              have hyk : y.toNat < many := by omega
              have hyl : y.toNat < as.length := by omega
              obtain ⟨a, ha⟩ : ∃ a, as[y.toNat]? = some a := ⟨as[y.toNat], List.getElem?_eq_getElem hyl⟩
              have haT : (as.map Value.ref)[y.toNat]? = some (.ref a) := by rw [List.getElem?_map, ha]; rfl
              obtain ⟨rr, hrr⟩ : ∃ rr : Led, rr = rowsL as f3 ++ rest3 := ⟨_, rfl⟩
              rw [← hrr] at N'
              have w1 : (D, listOf (as.map Value.ref).toArray nT) ∈ rr := by rw [hrr]; exact List.mem_append.mpr (.inr (hr3 _ (hr2 _ (hr _ (u0 _ q1)))))
              have w2 : (L' + 1 + 1 + 1 + 1, oT2) ∈ rr := by rw [hrr]; exact List.mem_append.mpr (.inr (hr3 _ (hr2 _ (hr _ u4))))
              have w3 : ∀ p ∈ rr, p.1 ≠ L' + 1 + 1 := by
                intro p hp
                rw [hrr] at hp
                rcases List.mem_append.mp hp with hp | hp
                · obtain ⟨k, a', hk, rfl⟩ := rowsL_mem.mp hp
                  exact (asO a' (List.mem_of_getElem? hk)).symm
                · exact fun e => hne3 p hp (by rw [e]; exact .head _)
              k_steps
              rename News _ _ _ _ => lN
              rename Fr _ _ _ _ => lF
              rename _ = Data.cell (some (Value.int y ty)) => dN4
              rename_i oN4
              unfold SetA
              obtain ⟨g3, hg3⟩ : ∃ g3 : Nat → List Bool × Nat, g3 = fun k => if k = y.toNat then ((f3 k).1.set z.toNat true, (f3 k).2) else f3 k := ⟨_, rfl⟩
              have e3 : g3 y.toNat = ((f3 y.toNat).1.set z.toNat true, (f3 y.toNat).2) := by rw [hg3]; exact if_pos rfl
              have e3' : ∀ k, k ≠ y.toNat → g3 k = f3 k := fun k hk => by rw [hg3]; exact if_neg hk
              have hU : Upd a (listOf ((f3 y.toNat).1.map Value.bool).toArray (f3 y.toNat).2) (listOf (((f3 y.toNat).1.map Value.bool).set z.toNat (.bool true)).toArray (f3 y.toNat).2) ((L' + 1 + 1, oN4) :: rr) ((L' + 1 + 1, oN4) :: (rowsL as g3 ++ rest3)) := by
                have := rowsL_upd (r := rest3) (f := f3) (g := g3) ha hnd (fun p hp e => hne3 p hp (by rw [e]; exact .tail _ (List.mem_of_getElem? ha))) e3'
                rw [e3] at this
                rw [hrr]
                refine Upd.tail (asO a (List.mem_of_getElem? ha)) ?_
                simpa only [rowO, List.map_set] using this
              have hrl := (hJ3 y.toNat hyk).1
              refine set_led lF lN hU z0 (by rw [List.length_map, hrl]; exact z1) (by omega) (fun h5 F5 N5 => ?_)
              k_steps
              refine LPost.nx hPl <| LEnd.intro (oN4, g3) [] (by k_asm) (by k_asm) (fun p hp => hp) (fun _ h => nomatch h) (fun _ h => nomatch h) (fun y _ => rfl) ⟨⟨rfl, _, dN4⟩, fun k hk => ?_⟩
              by_cases hky : k = y.toNat
              · subst hky
                show RowIs many _ (g3 y.toNat).1
                rw [e3]
                refine ((hJ3 y.toNat hyk).set hzm).congr fun p hp => ?_
                rw [take_snoc hy]
                exact set_hit (by omega)
              · show RowIs many _ (g3 k).1
                rw [e3' k hky]
                refine (hJ3 k hk).congr fun p hp => ?_
                rw [take_snoc hy]
                exact set_miss (by omega)
            case done3 =>
              clear lF lN2 hJ2 dN2 hrr s1r
              rintro ⟨oN3, f3⟩ tl3 u3 h3 tk3 ⟨⟨rfl, vo3, dN3⟩, hJ3⟩ ht3 F' N'
              dsimp only at dN3 hJ3 F' N'
              k_steps
              refine LPost.nx hPl <| LEnd.intro (oN3, f3) [] (by k_asm) (by k_asm) (fun p hp => hp) (fun _ h => nomatch h) (fun _ h => nomatch h) (by (k_extra "tb_start")) ⟨⟨rfl, _, dN3⟩, fun k hk => (hJ3 k hk).congr fun q hq => ?_⟩
              rw [eTk, b3.length, List.take_length]
              exact go_step hgo hex
        · dsimp only at hx hz
          subst hz
          cases s2 with
          | none =>
          have hng : ¬ isGo x := by rcases hx with rfl | rfl <;> (rintro (e | e) <;> exact absurd e (by decide +kernel))
          rcases hx with rfl | rfl
          all_goals
            k_steps
            refine LPost.nx hPl <| LEnd.intro (oN2, f2) [] (by k_asm) (by k_asm) (hs1 hrr) (fun _ h => nomatch h) (fun _ h => nomatch h) (by (k_extra "tb_start")) ⟨⟨rfl, _, dN2⟩, fun k hk => (hJ2 k hk).congr fun q hq => ?_⟩
            rw [eTk]
            exact goes_not hng
        · dsimp only at hx hz
          subst hz
          subst hx
          cases s2 with
          | str z tz =>
          k_steps
          refine LPost.nx hPl <| LEnd.intro (oN2, f2) [] (by k_asm) (by k_asm) (hs1 hrr) (fun _ h => nomatch h) (fun _ h => nomatch h) (by (k_extra "tb_start")) ⟨⟨rfl, _, dN2⟩, fun k hk => (hJ2 k hk).congr fun q hq => ?_⟩
          rw [eTk]
          exact goes_not (by rintro (e | e) <;> exact absurd e (by decide +kernel))
      case done2 =>
        clear lF lN hJ dN hrr b1r b4r
        rintro ⟨oN2, f2⟩ tl2 u2 h2 tk2 ⟨⟨rfl, vo2, dN2⟩, hJ2⟩ ht2 F' N'
        dsimp only at dN2 hJ2 F' N'
        k_steps
        refine LPost.nx hPl <| LEnd.intro (oN2, f2) [] (by k_asm) (by k_asm) (fun p hp => hp) (fun _ h => nomatch h) (fun _ h => nomatch h) (by (k_extra "tb_start")) ⟨⟨rfl, _, dN2⟩, fun k hk => (hJ2 k hk).congr fun q hq => ?_⟩
        rw [take_snoc hdd, b5.1, List.take_length]
        exact go_snoc
    case done1 =>
      clear lF lN2
      rintro ⟨oN, f⟩ tl u h tk ⟨⟨rfl, vo, dN⟩, hJ⟩ ht F' N'
      dsimp only at dN hJ F' N'
      dsimp only [List.cons_append, List.nil_append] at N'
      rw [hA.1, List.take_length] at hJ
      k_steps
      rename_i tk1 ta tb tc rgX lF lN keep
      clear keep
      obtain ⟨R0, hR0⟩ : ∃ R0 : Nat → Nat → Prop, R0 = fun k q => k = q ∨ ∃ d ∈ ds, Go d k q := ⟨_, rfl⟩
      obtain ⟨rB, hrB⟩ : ∃ rB : Led, rB = (D, listOf (as.map Value.ref).toArray nT) :: (L' + 1, oM) :: (rowsL as f ++ news) := ⟨_, rfl⟩
      have v1 : (D, listOf (as.map Value.ref).toArray nT) ∈ rB := by rw [hrB]; exact .head _
      have v2 : (L' + 1, oM) ∈ rB := by rw [hrB]; exact .tail _ (.head _)
      have lN3 : News g' L' _ ([(L' + 1 + 1, oN), (L' + 1 + 1 + 1, oR), (L' + 1 + 1 + 1 + 1, oT2)] ++ rB) := cb_drop lN (by
        intro p hp
        rw [hrB] at hp
        rw [hr2, hr0]
        rcases List.mem_cons.mp hp with rfl | hp
        · exact .head _
        · refine .tail _ (List.mem_append.mpr ?_)
          rcases List.mem_cons.mp hp with rfl | hp
          · exact .inr (.tail _ (.tail _ (.head _)))
          · rcases List.mem_cons.mp hp with rfl | hp
            · exact .inr (.head _)
            · rcases List.mem_cons.mp hp with rfl | hp
              · exact .inr (.tail _ (.head _))
              · rcases List.mem_cons.mp hp with rfl | hp
                · exact .inr (.tail _ (.tail _ (.tail _ (.head _))))
                · rcases List.mem_append.mp hp with hp | hp
                  · exact .inl hp
                  · exact .inr (.tail _ (.tail _ (.tail _ (.tail _ hp)))))
      clear lN
      have c3 : ∀ p ∈ rB, p.1 ≠ L' + 1 + 1 + 1 := by
        intro p hp
        rw [hrB] at hp
        rcases List.mem_cons.mp hp with rfl | hp
        · exact (neD _ t3).symm
        · rcases List.mem_cons.mp hp with rfl | hp
          · exact Nat.ne_of_lt (by show L' + 1 < L' + 1 + 1 + 1; exact Nat.lt_add_of_pos_right (n := L' + 1) (by decide : 0 < 2))
          · rcases List.mem_append.mp hp with hp | hp
            · obtain ⟨k, a', hk, rfl⟩ := rowsL_mem.mp hp
              exact (hap a' (List.mem_of_getElem? hk) _ t3).symm
            · exact Nat.ne_of_lt (Nat.lt_of_lt_of_le (lt0 p hp) (Nat.le_add_right L' 3))
      have sub0 : ∀ p ∈ rB, p ∈ rowsL as f ∨ p ∈ r0 := by
        intro p hp
        rw [hrB] at hp
        rw [hr0]
        rcases List.mem_cons.mp hp with rfl | hp
        · exact .inr (.head _)
        · rcases List.mem_cons.mp hp with rfl | hp
          · exact .inr (.tail _ (.tail _ (.head _)))
          · rcases List.mem_append.mp hp with hp | hp
            · exact .inl hp
            · exact .inr (.tail _ (.tail _ (.tail _ hp)))
      have c24 : ∀ p ∈ rB, p.1 ≠ L' + 1 + 1 ∧ p.1 ≠ L' + 1 + 1 + 1 + 1 := by
        intro p hp
        rcases sub0 p hp with hp | hp
        · obtain ⟨k, a', hk, rfl⟩ := rowsL_mem.mp hp
          exact ⟨(hap a' (List.mem_of_getElem? hk) _ t2).symm, (hap a' (List.mem_of_getElem? hk) _ t4).symm⟩
        · exact ⟨c2 p hp, c4 p hp⟩
      have hoffB : ∀ p ∈ rB, p.1 ∉ [L' + 1 + 1, L' + 1 + 1 + 1, L' + 1 + 1 + 1 + 1] := by
        intro p hp hm
        rcases List.mem_cons.mp hm with e | hm
        · exact (c24 p hp).1 e
        · rcases List.mem_cons.mp hm with e | hm
          · exact c3 p hp e
          · exact (c24 p hp).2 (List.mem_singleton.mp hm)
      have hM0 : MatAt rB (as.map Value.ref) many many R0 := by
        refine ⟨by rw [List.length_map, hal], fun k hk => ?_⟩
        have hkl : k < as.length := by omega
        refine ⟨as[k], (f k).1, (f k).2, by rw [List.getElem?_map, List.getElem?_eq_getElem hkl]; rfl, ?_, ?_⟩
        · rw [hrB]
          exact .tail _ (.tail _ (List.mem_append.mpr (.inl (rowsL_at (List.getElem?_eq_getElem hkl)))))
        · rw [hR0]; exact hJ k hk
      clear hJ hr2 hr0 hoff2 as2 c22 c2 c4 as0 asO hf0
      refine over_range0 (n := 3) (σ := Obj × Obj × Obj) (adr := [L' + 1 + 1, L' + 1 + 1 + 1, L' + 1 + 1 + 1 + 1]) (r₀ := rB) (fun c => [(L' + 1 + 1, c.1), (L' + 1 + 1 + 1, c.2.1), (L' + 1 + 1 + 1 + 1, c.2.2)]) [Str.ofString "turn", Str.ofString "later", Str.ofString "row"]
        (fun t c tl _ => ((∃ vo, c.1.data = .cell vo) ∧ (∃ vo, c.2.1.data = .cell vo) ∧ ∀ q ∈ tl, ∀ p ∈ rB, p.1 ≠ q.1) ∧ ∃ (T : Addr) (rv : List Value) (n : Nat), c.2.2.data = .cell (some (.ref T)) ∧ (T, listOf rv.toArray n) ∈ tl ++ rB ∧ MatAt (tl ++ rB) rv many many (powR many R0 t)) (oN, oR, oT2) rfl rgX rfl (by omega) (fun _ => rfl) hoffB lF lN3
        ⟨⟨⟨_, dN⟩, ⟨_, dR⟩, fun _ h => nomatch h⟩, D, _, _, dT2, v1, hM0⟩ ?turnA ?doneA
      case turnA =>
        clear lF lN3 hM0 rgX dN dR dT2
        rintro t tt ⟨o1, o2, o3⟩ tl u h tk rest hi hr ht hne ⟨⟨⟨vo1, d1⟩, ⟨vo2, d2⟩, hap2⟩, Tb, rv, nTb, d3, hTm, hM⟩ F' N'
        generalize hPl : LPost _ _ _ _ _ _ _ _ _ _ _ = Pl; revert Pl; refine stayP ?_; intro Pl hPl
        dsimp only at d1 d2 d3 F' N'
        dsimp only [List.cons_append, List.nil_append] at N'
        obtain ⟨Rt, hRt⟩ : ∃ Rt : Nat → Nat → Prop, Rt = powR many R0 t := ⟨_, rfl⟩
        have eRt : powR many R0 (t + 1) = sqR many Rt := by rw [hRt]; rfl
        rw [← hRt] at hM
        have up : ∀ p ∈ tl ++ rB, p ∈ rest := fun p hp => (List.mem_append.mp hp).elim (ht p) (hr p)
        have hTm' := up _ hTm
        replace hM := hM.mono up
        have w2 : (L' + 1, oM) ∈ rest := hr _ v2
        have n2 : ∀ p ∈ rest, p.1 ≠ L' + 1 + 1 := fun p hp e => hne p hp (by rw [e]; exact .head _)
        have n3 : ∀ p ∈ rest, p.1 ≠ L' + 1 + 1 + 1 := fun p hp e => hne p hp (by rw [e]; exact .tail _ (.head _))
        have n4 : ∀ p ∈ rest, p.1 ≠ L' + 1 + 1 + 1 + 1 := fun p hp e => hne p hp (by rw [e]; exact .tail _ (.tail _ (.head _)))
        k_steps
        rename_i lA _ l9 _ _ _ _ tk2 ta2 tb2 tc2 rgX2 lF2 lN2 keep2
        clear keep2
        obtain ⟨a2, a3, a4, aR⟩ := l9
        obtain ⟨rC, hrC⟩ : ∃ rC : Led, rC = (L' + 1 + 1 + 1 + 1, o3) :: rest := ⟨_, rfl⟩
        have lN4 : News g' L' _ ([(L' + 1 + 1, o1), (L' + 1 + 1 + 1, o2), (lA, listOf ([] : List Value).toArray 0)] ++ rC) := cb_drop lN2 (by rw [hrC]; exact swapB)
        clear lN2
        have x1 : (L' + 1 + 1 + 1 + 1, o3) ∈ rC := by rw [hrC]; exact .head _
        have x2 : ∀ p ∈ rest, p ∈ rC := fun p hp => by rw [hrC]; exact .tail _ hp
        have s23 : @Ne Nat (L' + 1 + 1 + 1) (L' + 1 + 1) := Nat.ne_of_gt (Nat.lt_succ_self _)
        have s24 : @Ne Nat (L' + 1 + 1 + 1 + 1) (L' + 1 + 1) := Nat.ne_of_gt (by omega)
        have s34 : @Ne Nat (L' + 1 + 1 + 1 + 1) (L' + 1 + 1 + 1) := Nat.ne_of_gt (by omega)
        have hoffC : ∀ p ∈ rC, p.1 ∉ [L' + 1 + 1, L' + 1 + 1 + 1, lA] := by
          intro p hp hm
          rw [hrC] at hp
          rcases List.mem_cons.mp hp with rfl | hp
          · rcases List.mem_cons.mp hm with e | hm
            · exact s24 e
            · rcases List.mem_cons.mp hm with e | hm
              · exact s34 e
              · exact Nat.ne_of_lt a4 (List.mem_singleton.mp hm)
          · rcases List.mem_cons.mp hm with e | hm
            · exact n2 p hp e
            · rcases List.mem_cons.mp hm with e | hm
              · exact n3 p hp e
              · exact Nat.ne_of_lt (tb_ltOf aR p hp) (List.mem_singleton.mp hm)
        refine over_range0 (n := many) (σ := Obj × Obj × (List Value × Nat)) (adr := [L' + 1 + 1, L' + 1 + 1 + 1, lA]) (r₀ := rC) (fun c => [(L' + 1 + 1, c.1), (L' + 1 + 1 + 1, c.2.1), (lA, listOf c.2.2.1.toArray c.2.2.2)]) [Str.ofString "row"]
          (fun i c tl _ => ((∃ vo, c.1.data = .cell vo) ∧ (∃ vo, c.2.1.data = .cell vo) ∧ ∀ q ∈ tl, ∀ p ∈ rC, p.1 ≠ q.1) ∧ MatAt tl c.2.2.1 i many (sqR many Rt)) (o1, o2, [], 0) rfl rgX2 rfl (by omega) (fun _ => rfl) hoffC lF2 lN4
          ⟨⟨⟨_, d1⟩, ⟨_, d2⟩, fun _ h => nomatch h⟩, MatAt.nil⟩ ?turnB ?doneB
        case turnB =>
          clear lF2 lN4 rgX2 d1 d2
          rintro i ti ⟨o1, o2, vs, nv⟩ tl2 u2 h2 tk3 rest2 hi2 hr2 ht2 hne2 ⟨⟨⟨vo1, d1⟩, ⟨vo2, d2⟩, hap3⟩, hM2⟩ F' N'
          generalize hPl : LPost _ _ _ _ _ _ _ _ _ _ _ = Pl; revert Pl; refine stayP ?_; intro Pl hPl
          dsimp only at d1 d2 hM2 F' N'
          dsimp only [List.cons_append, List.nil_append] at N'
          have m2 : ∀ p ∈ rest2, p.1 ≠ L' + 1 + 1 := fun p hp e => hne2 p hp (by rw [e]; exact .head _)
          have m3 : ∀ p ∈ rest2, p.1 ≠ L' + 1 + 1 + 1 := fun p hp e => hne2 p hp (by rw [e]; exact .tail _ (.head _))
          have mA : ∀ p ∈ rest2, p.1 ≠ lA := fun p hp e => hne2 p hp (by rw [e]; exact .tail _ (.tail _ (.head _)))
          have y1 : (L' + 1 + 1 + 1 + 1, o3) ∈ rest2 := hr2 _ x1
          have y2 : (L' + 1, oM) ∈ rest2 := hr2 _ (x2 _ w2)
          k_steps
          rename_i oO dO1 _ rA _ l9 _ _ _ _ tk4 ta3 tb3 tc3 rgX3 lF3 lN5 keep3
          clear keep3
          obtain ⟨e2, e3, eA, eR⟩ := l9
          obtain ⟨rD, hrD⟩ : ∃ rD : Led, rD = (L' + 1 + 1, oO) :: (lA, listOf vs.toArray nv) :: rest2 := ⟨_, rfl⟩
          have lN6 : News g' L' _ ([(L' + 1 + 1 + 1, o2), (rA, listOf (([] : List Bool).map Value.bool).toArray 0)] ++ rD) := cb_drop lN5 (by rw [hrD]; exact swapG)
          clear lN5
          have z1 : (L' + 1 + 1, oO) ∈ rD := by rw [hrD]; exact .head _
          have z2 : ∀ p ∈ rest2, p ∈ rD := fun p hp => by rw [hrD]; exact .tail _ (.tail _ hp)
          have hoffD : ∀ p ∈ rD, p.1 ∉ [L' + 1 + 1 + 1, rA] := by
            intro p hp hm
            rw [hrD] at hp
            rcases List.mem_cons.mp hp with rfl | hp
            · rcases List.mem_cons.mp hm with e | hm
              · exact s23.symm e
              · exact Nat.ne_of_lt e2 (List.mem_singleton.mp hm)
            · rcases List.mem_cons.mp hp with rfl | hp
              · rcases List.mem_cons.mp hm with e | hm
                · exact Nat.ne_of_gt a3 e
                · exact Nat.ne_of_lt eA (List.mem_singleton.mp hm)
              · rcases List.mem_cons.mp hm with e | hm
                · exact m3 p hp e
                · exact Nat.ne_of_lt (tb_ltOf eR p hp) (List.mem_singleton.mp hm)
          refine over_range0 (n := many) (σ := Obj × (List Bool × Nat)) (adr := [L' + 1 + 1 + 1, rA]) (r₀ := rD) (fun c => [(L' + 1 + 1 + 1, c.1), (rA, listOf (c.2.1.map Value.bool).toArray c.2.2)]) ([] : List Str)
            (fun j c tl _ => (tl = [] ∧ ∃ vo, c.1.data = .cell vo) ∧ RowIs j (sqR many Rt i) c.2.1) (o2, [], 0) rfl rgX3 rfl (by omega) (fun _ => rfl) hoffD lF3 lN6
            ⟨⟨rfl, _, d2⟩, RowIs.nil⟩ ?turnC ?doneC
          case turnC =>
            clear lF3 lN6 rgX3 d2
            rintro j tj ⟨o2, bs, nb⟩ tl3 u3 h3 tk5 rest3 hj3 hr3 ht3 hne3 ⟨⟨rfl, vo2, d2⟩, hRw⟩ F' N'
            generalize hPl : LPost _ _ _ _ _ _ _ _ _ _ _ = Pl; revert Pl; refine stayP ?_; intro Pl hPl
            dsimp only at d2 hRw F' N'
            dsimp only [List.cons_append, List.nil_append] at N'
            have q3 : ∀ p ∈ rest3, p.1 ≠ L' + 1 + 1 + 1 := fun p hp e => hne3 p hp (by rw [e]; exact .head _)
            have qA : ∀ p ∈ rest3, p.1 ≠ rA := fun p hp e => hne3 p hp (by rw [e]; exact .tail _ (.head _))
            have g1 : (L' + 1 + 1 + 1 + 1, o3) ∈ rest3 := hr3 _ (z2 _ y1)
            have g2 : (L' + 1, oM) ∈ rest3 := hr3 _ (z2 _ y2)
            have g3 : (L' + 1 + 1, oO) ∈ rest3 := hr3 _ z1
            have up3 : ∀ p ∈ rest, p ∈ rest3 := fun p hp => hr3 _ (z2 _ (hr2 _ (x2 _ hp)))
            have g4 : (Tb, listOf rv.toArray nTb) ∈ rest3 := up3 _ hTm'
            have hbl := hRw.1
            k_steps
            rename_i o5 _ _ d5
            unfold ListA
            refine' LCg.ListComp_U (F₀ := by k_asm) ?b1 ?b2 ?b3 ?b4 ?b5 ?_ ?b7
            case b1 => with_unfolding_all rfl
            case b2 => decide
            case b3 => rfl
            case b4 => decide
            case b5 => rfl
            case b7 => intro _; rfl
            k_steps
            rename_i tk6 ta4 tb4 tc4 rgX4 lF7 lN7 keep7
            clear keep7
            unfold CompA
            refine LCg.CompSrc.range rfl (by k_asm) lN7 rgX4 (small_one (by omega) (by omega) (by omega) (by omega)) (by simpa using rangeSize_nat 0 many) (by rw [sizeLine_eq]; omega) (fun gh => ?_)
            refine restU_of (n := many) (fun v ys nw' => nw' = (L' + 1 + 1 + 1, o5) :: (rA, listOf (bs.map Value.bool).toArray nb) :: rest3 ∧ ys = (ways Rt i j v).map Value.bool) ?step ?fin1 _ 0 [] _ (by omega) ⟨rfl, rfl⟩
            case step =>
              rintro v ys nw' hv ⟨rfl, rfl⟩ x I2 oI2 C2 oC2 D2 m₂ h9 tk9 E9 ⟨t2, rfl⟩ hC9 hx F9 N9 o1 o2
              refine hideQ ?_; intro Pc hPc
              rw [Int.zero_add] at hx
              obtain ⟨ai, bsi, ki, e1, p1, r1⟩ := hM.2 i hi2
              obtain ⟨av, bsv, kv, e2, p2, r2⟩ := hM.2 v hv
              obtain ⟨b1, f1, i1⟩ := r1.get hv
              obtain ⟨b2, f2, i2⟩ := r2.get hj3
              have p1' := up3 _ p1
              have p2' := up3 _ p2
              have f1' : (bsi.map Value.bool)[v]? = some (.bool b1) := by rw [List.getElem?_map, f1]; rfl
              have f2' : (bsv.map Value.bool)[j]? = some (.bool b2) := by rw [List.getElem?_map, f2]; rfl
              cases b1 with
              | true =>
                k_steps
                exact hPc _ _ <| LCg.CompEnd.intro (by k_asm) (by k_asm) _ (fun p hp => hp) o1 trivial ⟨rfl, by rw [ways_succ, pb_eq (b := b2) ⟨fun e => ⟨i1.mp rfl, i2.mp e⟩, fun e => i2.mpr e.2⟩, List.map_append]; rfl⟩
              | false =>
                k_steps
                exact hPc _ _ <| LCg.CompEnd.intro (by k_asm) (by k_asm) _ (fun p hp => hp) o1 trivial ⟨rfl, by rw [ways_succ, pb_eq (b := false) ⟨fun e => absurd e Bool.false_ne_true, fun e => i1.mpr e.1⟩, List.map_append]; rfl⟩
            case fin1 =>
              rintro ys nw' ⟨rfl, rfl⟩ D2 h9 tk9 F9 N9 o9
              have hB := boolsAre_map (ways Rt i j many)
              have oD := off1_mem o9
              have oD1 : @Ne Nat (L' + 1 + 1 + 1) D2 := oD _ (.head _)
              have oD2 : @Ne Nat rA D2 := oD _ (.tail _ (.head _))
              have oD3 : ∀ p ∈ rest3, p.1 ≠ D2 := fun p hp => oD p (.tail _ (.tail _ hp))
              have oD4 : @Ne Nat rA (L' + 1 + 1 + 1) := Nat.ne_of_gt e3
              k_steps
              rename News _ _ _ _ => lN
              refine LPost.nx hPl <| LEnd.intro (o5, bs ++ [(ways Rt i j many).any id], nb + 1) [] (by k_asm) lN ?_ (fun _ h => nomatch h) (fun _ h => nomatch h) (fun y _ => rfl) ⟨⟨rfl, _, d5⟩, hRw.snoc ways_any⟩
              dsimp only
              rw [push_map]
              exact swapJ
          case doneC =>
            clear lF3 lN6 rgX3 d2
            rintro ⟨o2, bs, nb⟩ tl3 u3 h3 tk5 ⟨⟨rfl, vo2, d2⟩, hRw⟩ ht3 F' N'
            dsimp only at d2 hRw F' N'
            dsimp only [List.cons_append, List.nil_append] at N'
            have N6 : News g' L' _ ((lA, listOf vs.toArray nv) :: (L' + 1 + 1 + 1, o2) :: (L' + 1 + 1, oO) :: (rA, listOf (bs.map Value.bool).toArray nb) :: rest2) := cb_drop N' (by rw [hrD]; exact swapH)
            clear N'
            have nA3 : @Ne Nat lA (L' + 1 + 1 + 1) := Nat.ne_of_gt a3
            have nA2 : @Ne Nat lA (L' + 1 + 1) := Nat.ne_of_gt a2
            have hvl := hM2.1
            have mA' : AllLt rA rest2 := eR
            k_steps
            rename News _ _ _ _ => lN
            have hmem : ∀ p ∈ tl2, p ∈ [(rA, listOf (bs.map Value.bool).toArray nb)] ++ tl2 := fun p hp => .tail _ hp
            refine LPost.nx hPl <| LEnd.intro (oO, o2, vs ++ [Value.ref rA], nv + 1) [(rA, listOf (bs.map Value.bool).toArray nb)] (by k_asm) lN swapI ?_ ?_ (by (k_extra "tb_start")) ⟨⟨⟨_, dO1⟩, ⟨_, d2⟩, ?_⟩, (hM2.mono hmem).snoc (.head _) hRw⟩
            · intro q hq hm
              rw [List.mem_singleton.mp hq] at hm
              rcases List.mem_cons.mp hm with e | hm
              · exact Nat.ne_of_gt e2 e
              · rcases List.mem_cons.mp hm with e | hm
                · exact Nat.ne_of_gt e3 e
                · exact Nat.ne_of_gt eA (List.mem_singleton.mp hm)
            · intro q hq p hp
              rw [List.mem_singleton.mp hq]
              exact Nat.ne_of_lt (tb_ltOf eR p hp)
            · intro q hq p hp
              rcases List.mem_append.mp hq with hq | hq
              · rw [List.mem_singleton.mp hq]
                exact Nat.ne_of_lt (tb_ltOf eR p (hr2 p hp))
              · exact hap3 q hq p hp
        case doneB =>
          clear lF2 lN4 rgX2 d1 d2
          rintro ⟨o1, o2, vs, nv⟩ tl2 u2 h2 tk3 ⟨⟨⟨vo1, d1⟩, ⟨vo2, d2⟩, hap3⟩, hM2⟩ ht2 F' N'
          dsimp only at d1 d2 hM2 F' N'
          dsimp only [List.cons_append, List.nil_append] at N'
          obtain ⟨rE, hrE⟩ : ∃ rE : Led, rE = (L' + 1 + 1, o1) :: (L' + 1 + 1 + 1, o2) :: (lA, listOf vs.toArray nv) :: (tl2 ++ rest) := ⟨_, rfl⟩
          have N4 : News g' L' _ ((L' + 1 + 1 + 1 + 1, o3) :: rE) := cb_drop N' (by rw [hrE, hrC]; exact swapE)
          have nE : ∀ p ∈ rE, p.1 ≠ L' + 1 + 1 + 1 + 1 := by
            intro p hp
            rw [hrE] at hp
            rcases List.mem_cons.mp hp with rfl | hp
            · exact s24.symm
            · rcases List.mem_cons.mp hp with rfl | hp
              · exact s34.symm
              · rcases List.mem_cons.mp hp with rfl | hp
                · exact Nat.ne_of_gt a4
                · rcases List.mem_append.mp hp with hp | hp
                  · exact (hap3 p hp _ x1).symm
                  · exact n4 p hp
          clear N'
          k_steps
          rename News _ _ _ _ => lN
          rename _ = Data.cell (some (Value.ref lA)) => d4
          rename Fr _ _ _ _ => lF
          rename_i o4
          refine LPost.nx hPl <| LEnd.intro (o1, o2, o4) ((lA, listOf vs.toArray nv) :: tl2) (by k_asm) lN ?_ ?_ ?_ (by (k_extra "tb_start")) ⟨⟨⟨_, d1⟩, ⟨_, d2⟩, ?_⟩, lA, vs, nv, d4, ?_, ?_⟩
          · rw [hrE]; exact swapF
          · intro q hq hm
            rcases List.mem_cons.mp hq with rfl | hq
            · rcases List.mem_cons.mp hm with e | hm
              · exact Nat.ne_of_gt a2 e
              · rcases List.mem_cons.mp hm with e | hm
                · exact Nat.ne_of_gt a3 e
                · exact Nat.ne_of_gt a4 (List.mem_singleton.mp hm)
            · rcases List.mem_cons.mp hm with e | hm
              · exact ht2 q hq (by rw [e]; exact .head _)
              · rcases List.mem_cons.mp hm with e | hm
                · exact ht2 q hq (by rw [e]; exact .tail _ (.head _))
                · exact hap3 q hq _ x1 (List.mem_singleton.mp hm).symm
          · intro q hq p hp
            rcases List.mem_cons.mp hq with rfl | hq
            · exact Nat.ne_of_lt (tb_ltOf aR p hp)
            · exact hap3 q hq p (x2 p hp)
          · intro q hq p hp
            rcases List.mem_append.mp hq with hq | hq
            · rcases List.mem_cons.mp hq with rfl | hq
              · exact Nat.ne_of_lt (tb_ltOf aR p (hr p hp))
              · exact hap3 q hq p (x2 p (hr p hp))
            · exact hap2 q hq p hp
          · exact .head _
          · rw [eRt]
            exact hM2.mono fun p hp => .tail _ (List.mem_append.mpr (.inl (List.mem_append.mpr (.inl hp))))
      case doneA =>
        clear lF lN3 hM0 rgX dN dR dT2
        rintro ⟨o1, o2, o3⟩ tl u h tk ⟨⟨⟨vo1, d1⟩, ⟨vo2, d2⟩, hap2⟩, Tb, rv, nTb, d3, hTm, hM⟩ ht F' N'
        dsimp only at d1 d2 d3 F' N'
        dsimp only [List.cons_append, List.nil_append] at N'
        k_steps
        refine hQf _ _ ?_
        k_steps
        have eB : tl ++ rB = (tl ++ ((D, listOf (as.map Value.ref).toArray nT) :: (L' + 1, oM) :: rowsL as f)) ++ news := by rw [hrB]; simp only [List.append_assoc, List.cons_append]
        have keyN : ∀ q ∈ (D, listOf (as.map Value.ref).toArray nT) :: (L' + 1, oM) :: rowsL as f, ∀ p ∈ news, p.1 ≠ q.1 := by
          intro q hq p hp
          rcases List.mem_cons.mp hq with rfl | hq
          · exact neD p (by rw [hL0]; exact .tail _ (.tail _ (.tail _ (.tail _ hp))))
          · rcases List.mem_cons.mp hq with rfl | hq
            · exact Nat.ne_of_lt (Nat.lt_of_lt_of_le (lt0 p hp) (Nat.le_add_right L' 1))
            · obtain ⟨k, a', hk, rfl⟩ := rowsL_mem.mp hq
              exact hap a' (List.mem_of_getElem? hk) p (by rw [hL0]; exact .tail _ (.tail _ (.tail _ (.tail _ hp))))
        have keyP : ∀ q ∈ tl ++ ((D, listOf (as.map Value.ref).toArray nT) :: (L' + 1, oM) :: rowsL as f), ∀ p ∈ news, p.1 ≠ q.1 := by
          intro q hq p hp
          rcases List.mem_append.mp hq with hq | hq
          · exact hap2 q hq p (by rw [hrB]; exact .tail _ (.tail _ (List.mem_append.mpr (.inr hp))))
          · exact keyN q hq p hp
        rw [eB] at hTm hM
        refine hret _ _ _ _ (by k_asm) (cb_drop (by k_asm) fun p hp => ?_) ⟨Tb, tl ++ ((D, listOf (as.map Value.ref).toArray nT) :: (L' + 1, oM) :: rowsL as f), rv, nTb, rfl, rfl, keyP, hTm, ?_⟩
        · rw [eB]
          exact .tail _ (.tail _ (.tail _ hp))
        · rw [← hR0]; exact hM
end
section
example : True := by
  k_with_none
  k_with "k_ne" => ((refine neN ?_; (try dsimp only); with_reducible first | assumption | exact Nat.ne_of_lt (by assumption) | exact Nat.ne_of_gt (by assumption) | exact neC1 (by assumption) | exact (neC1 (by assumption)).symm | exact neC2 (by assumption) | exact (neC2 (by assumption)).symm | exact neC3 (by assumption) | exact (neC3 (by assumption)).symm | exact neC4 (by assumption) | exact (neC4 (by assumption)).symm | exact neD2 (by assumption) | exact (neD2 (by assumption)).symm | exact neD3 (by assumption) | exact (neD3 (by assumption)).symm | exact neC5 (by assumption) | exact (neC5 (by assumption)).symm))
  k_with "ktr_room" => (first | decide | (refine' room_of (c := 1) ?wqh9 ?wqe9 ?wqk9; (case wqh9 => with_reducible assumption); (case wqe9 => exact rfl); (case wqk9 => decide)) | (refine' room_of (c := 0) ?wqh9 ?wqe9 ?wqk9; (case wqh9 => with_reducible assumption); (case wqe9 => exact rfl); (case wqk9 => decide)) | (refine' room_at (c := 0) ?wqh9 ?wqe9 ?wqk9; (case wqh9 => with_reducible assumption); (case wqe9 => exact rfl); (case wqk9 => decide)) | (refine' room_at (c := 1) ?wqh9 ?wqe9 ?wqk9; (case wqh9 => with_reducible assumption); (case wqe9 => exact rfl); (case wqk9 => decide)) | fail "room")
  k_with "ktr_units" => (first | decide | (refine' room_of (c := 3) ?wqh9 ?wqe9 ?wqk9; (case wqh9 => with_reducible assumption); (case wqe9 => exact rfl); (case wqk9 => decide)) | (refine' room_of (c := 0) ?wqh9 ?wqe9 ?wqk9; (case wqh9 => with_reducible assumption); (case wqe9 => exact rfl); (case wqk9 => decide)) | fail "units")
  k_with "exec For Name Attribute cons nil" => ((k_here; (with_reducible show wpAny _ _ (exec (Stmt.For _ _ _ [] _) _) _ _ _); with_unfolding_all refine For_any ?_))
  k_with "exec For Name Name cons nil" => ((k_here; (with_reducible show wpAny _ _ (exec (Stmt.For _ _ _ [] _) _) _ _ _); with_unfolding_all refine For_any ?_))
  k_with "exec For Name Call cons nil" => ((k_here; (with_reducible show wpAny _ _ (exec (Stmt.For _ _ _ [] _) _) _ _ _); with_unfolding_all refine For_any ?_))
  k_with "exec For Name Subscript cons nil" => ((k_here; (with_reducible show wpAny _ _ (exec (Stmt.For _ _ _ [] _) _) _ _ _); with_unfolding_all refine For_any ?_))
  k_with "exec For Name Tuple cons nil" => ((k_here; (with_reducible show wpAny _ _ (exec (Stmt.For _ _ _ [] _) _) _ _ _); with_unfolding_all refine For_any ?_))
  k_with "exec For Tuple Call cons nil" => ((k_here; (with_reducible show wpAny _ _ (exec (Stmt.For _ _ _ [] _) _) _ _ _); with_unfolding_all refine For_any ?_))
  k_with "exec For Tuple Name cons nil" => ((k_here; (with_reducible show wpAny _ _ (exec (Stmt.For _ _ _ [] _) _) _ _ _); with_unfolding_all refine For_any ?_))
  k_with "exec For Tuple Subscript cons nil" => ((k_here; (with_reducible show wpAny _ _ (exec (Stmt.For _ _ _ [] _) _) _ _ _); with_unfolding_all refine For_any ?_))
  k_with "LPost" => ((dsimp only [LPost]))
  k_with "call builtin:len" => ((k_here; (with_reducible show wpAny _ _ (call (Value.builtin "len") [Value.ref _]) _ _ _); k_dflt (refine' len_led ?wqk1 ?wqk2 ?wqk3 ?_; (case wqk1 => k_asm); (case wqk2 => k_mem); (case wqk3 => omega); k_whole)))
  k_with "subscriptTail" => ((k_here; (with_reducible show wpAny _ _ (subscriptTail _ _ (Value.ref _) (Value.int _ _)) _ _ _); (with_unfolding_all refine' item_led ?wqk1 ?wqk2 ?wqk3 ?wqk4 ?wqk5 ?_ ?wqk6; (case wqk1 => k_asm); (case wqk2 => k_mem); (case wqk5 => first | assumption | (simp only [Int.toNat_natCast]; assumption)); (case wqk3 => omega); (case wqk4 => omega); (case wqk6 => with_unfolding_all rfl); k_whole)))
  k_with "tb_start" => ((intro y hy; (try dsimp only); (simp only [List.contains_cons, List.contains_nil, Bool.or_false, Bool.or_eq_false_iff] at hy); (have hy2 := hy); (simp only [beq_eq_false_iff_ne, ne_eq] at hy2); (simp only [List.contains_cons, List.contains_nil, hy, hy2, Bool.or_false, Bool.false_eq_true, if_false])))
  k_with "eval ListComp" => ((k_here; k_dflt (refine LCg.ListComp_U (F₀ := by k_asm) (by with_unfolding_all rfl) (by decide) (by rfl) (by decide) (by rfl) ?_)))
  k_with "eval ListComp" => ((k_here; k_dflt (refine LCt.ListComp_T (F₀ := by k_asm) (by with_unfolding_all rfl) (by decide) (by rfl) (by decide) (by rfl) ?_)))
  k_with "k_mem" => (first | exact List.Mem.head _ | ktr_member | (refine' List.mem_cons_of_mem _ ?_; k_mem))
  k_with "setItem ref int" => ((k_here; (with_reducible show wpAny _ _ (setItem (Value.ref _) (Value.int _ _) _) _ _ _); k_dflt (refine' set_led ?wqk1 ?wqk2 ?wqk3 ?wqk5 ?wqk6 ?wqk7 ?_; (case wqk1 => k_asm); (case wqk2 => k_asm); (case wqk3 => k_upd); (case wqk5 => omega); (case wqk6 => first | assumption | omega | (simp only [List.length_replicate, List.length_set, Int.toNat_natCast] at *; omega)); (case wqk7 => omega); k_whole); intro _ _ _; (try k_sweep)))
  k_with "call builtin:list.pop" => ((k_here; (with_reducible show wpAny _ _ (call (Value.builtin _) [Value.ref _]) _ _ _); k_dflt (refine' pop_led ?wqk1 ?wqk2 ?wqk3 ?wqk4 ?_; (case wqk1 => k_asm); (case wqk2 => k_asm); (case wqk3 => k_upd); (case wqk4 => (first | (rw [sizeLine_eq]; omega) | size_fits)); k_whole); intro _ _ _; (try k_sweep)))
  k_with "truthy ref" => ((k_here; k_dflt (first | (refine' truth_nil ?wqk1 ?wqk2 ?_; (case wqk1 => k_asm); (case wqk2 => k_mem)) | (refine' truth_snoc ?wqk1 ?wqk2 ?wqk3 ?_; (case wqk1 => k_asm); (case wqk2 => k_mem); (case wqk3 => omega)))))
  k_with "binaryOp Mult ref int" => ((k_here; k_dflt (refine' mul_led ?wqk1 ?wqk2 ?wqk3 ?wqk4 ?wqk5 ?_; (case wqk1 => k_asm); (case wqk2 => k_asm); (case wqk3 => k_mem); (case wqk4 => omega); (case wqk5 => omega); k_whole); intro _ _ _ _ l1; (try k_lt l1); (have _ := l1); clear l1; (try k_sweep)))
  k_with "k_all" => (first | with_reducible assumption | (refine' List.forall_mem_cons.mpr ⟨?wqa, ?wqb⟩; (case wqa => k_ne); (case wqb => k_all)))
  k_with "exec While Name cons nil" => ((k_here; refine While_stop ?_))
  k_with "call builtin:list.append" => ((k_here; (with_reducible show wpAny _ _ (call (Value.builtin _) [Value.ref _, _]) _ _ _); k_dflt (refine' append_led ?wqk1 ?wqk2 ?wqk3 ?wqk4 ?_; (case wqk1 => k_asm); (case wqk2 => k_asm); (case wqk3 => k_upd); (case wqk4 => (rw [sizeLine_eq]; (try simp only [List.length_append, List.length_cons, List.length_nil]); omega)); k_whole); intro _ _ _; (try k_sweep)))
  k_with "WPost" => ((dsimp only [WPost]))
  k_with "tb_rel" => (first | assumption | (refine RuleIn.mono (by assumption) ?_; intro p hp; (repeat (first | exact hp | refine List.mem_cons_of_mem _ ?_))) | (refine FileIn.mono (by assumption) ?_; intro p hp; (repeat (first | exact hp | refine List.mem_cons_of_mem _ ?_))))
  k_with "lsm_bools" => (with_reducible assumption)
  k_with "kaf_pre" => (first | assumption | (refine List.mem_cons_of_mem _ ?_; (k_extra "kaf_pre")))
  k_with "kaf_suf" => (first | exact UpdF.head (by first | assumption | k_all) | (refine' UpdF.tail ?wqua7 ?wqub7; (case wqua7 => k_ne); (case wqub7 => (k_extra "kaf_suf"))))
  k_with "kat_tups" => ((intro p hp; (repeat (first | exact hp | refine List.mem_cons_of_mem _ ?_))))
  trivial
/-- what the law itself finds of a rule -/
def lawWarn (ds : List LRule) (D : FileD) (bs : List Bool) (i : Nat) (d : LRule) : List WarnD :=
  if (d.live.filter fun c => bs.getD c.toNat false) = [] then [⟨10 + 3 * (i : Int), Str.ofString "never live", Str.ofString ""⟩]
  else (d.live.filter fun c => !((ds.take i).filter fun e => e.live.any (· == c)).isEmpty).map fun c => ⟨10 + 3 * (i : Int), Str.ofString "second end", nameOf D c.toNat⟩
def dueTo (ds : List LRule) (D : FileD) (bs : List Bool) (i : Nat) : List WarnD := (List.range i).flatMap fun k => ((ds[k]?).map (lawWarn ds D bs k)).getD []
theorem dueTo_succ {ds : List LRule} {D : FileD} {bs : List Bool} {i : Nat} {d : LRule} (h : ds[i]? = some d) : dueTo ds D bs (i + 1) = dueTo ds D bs i ++ lawWarn ds D bs i d := by
  unfold dueTo
  rw [List.range_succ, List.flatMap_append, List.flatMap_singleton, h]
  rfl
def LRule.data (d : LRule) : PyData := .tuple [.list (d.live.map PyData.int), .list (d.steps.map LStep.data)]
theorem LRuleIn.rd {news : Led} {v : Value} {d : LRule} (h : LRuleIn news v d) : Rd news v d.data := by
  cases h with
  | mk a b c e f g i =>
    exact Rd.tuple (vs := [_, _]) a (.cons (Rd.list b (RdAll.ints c)) (.cons (Rd.list e (RdAll.of (fun _ _ q => q.rd) f)) .nil))
theorem ints_lay : ∀ zs : List Int, PyData.canLayAll0 (zs.map PyData.int) = true ∧ PyData.depthAll (zs.map PyData.int) = 0
  | [] => ⟨rfl, rfl⟩
  | z :: r => by
    have h := ints_lay r
    constructor
    · rw [List.map_cons, PyData.canLayAll0, h.1]; rfl
    · rw [List.map_cons, PyData.depthAll, h.2]; rfl
theorem steps_lay {many : Int} : ∀ {ss : List LStep}, (∀ s ∈ ss, StepOk many s) → PyData.canLayAll0 (ss.map LStep.data) = true ∧ PyData.depthAll (ss.map LStep.data) ≤ 1
  | [], _ => ⟨rfl, by decide⟩
  | s :: r, h => by
    have hr := steps_lay fun s hs => h s (.tail _ hs)
    have hs := h s (.head _)
    have hl := hs.lay
    have hd : s.data.depth ≤ 1 := by
      obtain ⟨x, y⟩ := s
      show PyData.depth (.tuple [.str x, y.data]) ≤ 1
      have hy : y.data.depth = 0 := by
        rcases hs with ⟨_, z, e, _⟩ | ⟨_, e⟩ | ⟨_, z, e, f⟩ <;> (dsimp only at e; subst e; rfl)
      have e1 : PyData.depth (.str x) = 0 := rfl
      rw [PyData.depth, PyData.depthAll, PyData.depthAll, hy, PyData.depthAll, e1]
      decide
    constructor
    · rw [List.map_cons, PyData.canLayAll0, hl.1, hr.1]; rfl
    · rw [List.map_cons, PyData.depthAll]; omega
theorem LRule.lay {many : Int} {d : LRule} (h : RuleOk many d) : d.data.canLay0 = true ∧ d.data.depth ≤ 5 := by
  obtain ⟨l, s⟩ := d
  have h1 := ints_lay l
  have h2 := steps_lay (ss := s) h.2.1
  constructor
  · show PyData.canLay0 (.tuple [.list (l.map PyData.int), .list (s.map LStep.data)]) = true
    rw [PyData.canLay0, PyData.canLayAll0, PyData.canLayAll0, PyData.canLayAll0, PyData.canLay0, PyData.canLay0, h1.1, h2.1]
    rfl
  · show PyData.depth (.tuple [.list (l.map PyData.int), .list (s.map LStep.data)]) ≤ 5
    have h3 : PyData.depthAll (List.map PyData.int l) = 0 := h1.2
    have h4 : PyData.depthAll (List.map LStep.data s) ≤ 1 := h2.2
    clear h1 h2 h
    rw [PyData.depth, PyData.depthAll, PyData.depthAll, PyData.depthAll, PyData.depth, PyData.depth, h3]
    omega
end
section
example : True := by
  k_with_none
  k_with "k_ne" => ((refine neN ?_; (try dsimp only); with_reducible first | assumption | exact Nat.ne_of_lt (by assumption) | exact Nat.ne_of_gt (by assumption) | exact neC1 (by assumption) | exact (neC1 (by assumption)).symm | exact neC2 (by assumption) | exact (neC2 (by assumption)).symm | exact neC3 (by assumption) | exact (neC3 (by assumption)).symm | exact neC4 (by assumption) | exact (neC4 (by assumption)).symm | exact neD2 (by assumption) | exact (neD2 (by assumption)).symm | exact neD3 (by assumption) | exact (neD3 (by assumption)).symm | exact neC5 (by assumption) | exact (neC5 (by assumption)).symm))
  k_with "ktr_room" => (first | decide | (refine' room_of (c := 1) ?wqh9 ?wqe9 ?wqk9; (case wqh9 => with_reducible assumption); (case wqe9 => exact rfl); (case wqk9 => decide)) | (refine' room_of (c := 0) ?wqh9 ?wqe9 ?wqk9; (case wqh9 => with_reducible assumption); (case wqe9 => exact rfl); (case wqk9 => decide)) | (refine' room_at (c := 0) ?wqh9 ?wqe9 ?wqk9; (case wqh9 => with_reducible assumption); (case wqe9 => exact rfl); (case wqk9 => decide)) | (refine' room_at (c := 1) ?wqh9 ?wqe9 ?wqk9; (case wqh9 => with_reducible assumption); (case wqe9 => exact rfl); (case wqk9 => decide)) | fail "room")
  k_with "ktr_units" => (first | decide | (refine' room_of (c := 3) ?wqh9 ?wqe9 ?wqk9; (case wqh9 => with_reducible assumption); (case wqe9 => exact rfl); (case wqk9 => decide)) | (refine' room_of (c := 0) ?wqh9 ?wqe9 ?wqk9; (case wqh9 => with_reducible assumption); (case wqe9 => exact rfl); (case wqk9 => decide)) | fail "units")
  k_with "exec For Name Attribute cons nil" => ((k_here; (with_reducible show wpAny _ _ (exec (Stmt.For _ _ _ [] _) _) _ _ _); with_unfolding_all refine For_any ?_))
  k_with "exec For Name Name cons nil" => ((k_here; (with_reducible show wpAny _ _ (exec (Stmt.For _ _ _ [] _) _) _ _ _); with_unfolding_all refine For_any ?_))
  k_with "exec For Name Call cons nil" => ((k_here; (with_reducible show wpAny _ _ (exec (Stmt.For _ _ _ [] _) _) _ _ _); with_unfolding_all refine For_any ?_))
  k_with "exec For Name Subscript cons nil" => ((k_here; (with_reducible show wpAny _ _ (exec (Stmt.For _ _ _ [] _) _) _ _ _); with_unfolding_all refine For_any ?_))
  k_with "exec For Name Tuple cons nil" => ((k_here; (with_reducible show wpAny _ _ (exec (Stmt.For _ _ _ [] _) _) _ _ _); with_unfolding_all refine For_any ?_))
  k_with "exec For Tuple Call cons nil" => ((k_here; (with_reducible show wpAny _ _ (exec (Stmt.For _ _ _ [] _) _) _ _ _); with_unfolding_all refine For_any ?_))
  k_with "exec For Tuple Name cons nil" => ((k_here; (with_reducible show wpAny _ _ (exec (Stmt.For _ _ _ [] _) _) _ _ _); with_unfolding_all refine For_any ?_))
  k_with "exec For Tuple Subscript cons nil" => ((k_here; (with_reducible show wpAny _ _ (exec (Stmt.For _ _ _ [] _) _) _ _ _); with_unfolding_all refine For_any ?_))
  k_with "LPost" => ((dsimp only [LPost]))
  k_with "call builtin:len" => ((k_here; (with_reducible show wpAny _ _ (call (Value.builtin "len") [Value.ref _]) _ _ _); k_dflt (refine' len_led ?wqk1 ?wqk2 ?wqk3 ?_; (case wqk1 => k_asm); (case wqk2 => k_mem); (case wqk3 => omega); k_whole)))
  k_with "subscriptTail" => ((k_here; (with_reducible show wpAny _ _ (subscriptTail _ _ (Value.ref _) (Value.int _ _)) _ _ _); (with_unfolding_all refine' item_led ?wqk1 ?wqk2 ?wqk3 ?wqk4 ?wqk5 ?_ ?wqk6; (case wqk1 => k_asm); (case wqk2 => k_mem); (case wqk5 => first | assumption | (simp only [Int.toNat_natCast]; assumption)); (case wqk3 => omega); (case wqk4 => omega); (case wqk6 => with_unfolding_all rfl); k_whole)))
  k_with "tb_start" => ((intro y hy; (try dsimp only); (simp only [List.contains_cons, List.contains_nil, Bool.or_false, Bool.or_eq_false_iff] at hy); (have hy2 := hy); (simp only [beq_eq_false_iff_ne, ne_eq] at hy2); (simp only [List.contains_cons, List.contains_nil, hy, hy2, Bool.or_false, Bool.false_eq_true, if_false])))
  k_with "eval ListComp" => ((k_here; k_dflt (refine LCg.ListComp_U (F₀ := by k_asm) (by with_unfolding_all rfl) (by decide) (by rfl) (by decide) (by rfl) ?_)))
  k_with "eval ListComp" => ((k_here; k_dflt (refine LCt.ListComp_T (F₀ := by k_asm) (by with_unfolding_all rfl) (by decide) (by rfl) (by decide) (by rfl) ?_)))
  k_with "k_mem" => (first | exact List.Mem.head _ | ktr_member | (refine' List.mem_cons_of_mem _ ?_; k_mem))
  k_with "setItem ref int" => ((k_here; (with_reducible show wpAny _ _ (setItem (Value.ref _) (Value.int _ _) _) _ _ _); k_dflt (refine' set_led ?wqk1 ?wqk2 ?wqk3 ?wqk5 ?wqk6 ?wqk7 ?_; (case wqk1 => k_asm); (case wqk2 => k_asm); (case wqk3 => k_upd); (case wqk5 => omega); (case wqk6 => first | assumption | omega | (simp only [List.length_replicate, List.length_set, Int.toNat_natCast] at *; omega)); (case wqk7 => omega); k_whole); intro _ _ _; (try k_sweep)))
  k_with "call builtin:list.pop" => ((k_here; (with_reducible show wpAny _ _ (call (Value.builtin _) [Value.ref _]) _ _ _); k_dflt (refine' pop_led ?wqk1 ?wqk2 ?wqk3 ?wqk4 ?_; (case wqk1 => k_asm); (case wqk2 => k_asm); (case wqk3 => k_upd); (case wqk4 => (first | (rw [sizeLine_eq]; omega) | size_fits)); k_whole); intro _ _ _; (try k_sweep)))
  k_with "truthy ref" => ((k_here; k_dflt (first | (refine' truth_nil ?wqk1 ?wqk2 ?_; (case wqk1 => k_asm); (case wqk2 => k_mem)) | (refine' truth_snoc ?wqk1 ?wqk2 ?wqk3 ?_; (case wqk1 => k_asm); (case wqk2 => k_mem); (case wqk3 => omega)))))
  k_with "binaryOp Mult ref int" => ((k_here; k_dflt (refine' mul_led ?wqk1 ?wqk2 ?wqk3 ?wqk4 ?wqk5 ?_; (case wqk1 => k_asm); (case wqk2 => k_asm); (case wqk3 => k_mem); (case wqk4 => omega); (case wqk5 => omega); k_whole); intro _ _ _ _ l1; (try k_lt l1); (have _ := l1); clear l1; (try k_sweep)))
  k_with "k_all" => (first | with_reducible assumption | (refine' List.forall_mem_cons.mpr ⟨?wqa, ?wqb⟩; (case wqa => k_ne); (case wqb => k_all)))
  k_with "exec While Name cons nil" => ((k_here; refine While_stop ?_))
  k_with "call builtin:list.append" => ((k_here; (with_reducible show wpAny _ _ (call (Value.builtin _) [Value.ref _, _]) _ _ _); k_dflt (refine' append_led ?wqk1 ?wqk2 ?wqk3 ?wqk4 ?_; (case wqk1 => k_asm); (case wqk2 => k_asm); (case wqk3 => k_upd); (case wqk4 => (rw [sizeLine_eq]; (try simp only [List.length_append, List.length_cons, List.length_nil]); omega)); k_whole); intro _ _ _; (try k_sweep)))
  k_with "WPost" => ((dsimp only [WPost]))
  k_with "tb_rel" => (first | assumption | (refine RuleIn.mono (by assumption) ?_; intro p hp; (repeat (first | exact hp | refine List.mem_cons_of_mem _ ?_))) | (refine FileIn.mono (by assumption) ?_; intro p hp; (repeat (first | exact hp | refine List.mem_cons_of_mem _ ?_))))
  k_with "lsm_bools" => (with_reducible assumption)
  k_with "kaf_pre" => (first | assumption | (refine List.mem_cons_of_mem _ ?_; (k_extra "kaf_pre")))
  k_with "kaf_suf" => (first | exact UpdF.head (by first | assumption | k_all) | (refine' UpdF.tail ?wqua7 ?wqub7; (case wqua7 => k_ne); (case wqub7 => (k_extra "kaf_suf"))))
  k_with "kat_tups" => ((intro p hp; (repeat (first | exact hp | refine List.mem_cons_of_mem _ ?_))))
  trivial
def cName : Nat → Str
  | 0 => Str.ofString "INITIAL"
  | k + 1 => Str.ofString "C" ++ Str.ofString (toString ((1 : Int) + (k : Int)))
def LW.cond : LW → Option Str
  | .none => Option.none
  | .int z => some (cName z.toNat)
  | .str x => some x
def toStep (d : LStep) : StepD := ⟨d.word, d.worth.cond⟩
def toRule (k : Nat) (d : LRule) : RuleD := ⟨(k : Int), d.live, d.steps.map toStep, 10 + 3 * (k : Int)⟩
/-- the texts that a rule's steps return -/
def ret1 (s : LStep) : List Str := if (s.word == Str.ofString "return") = true then (match s.worth with | .str x => [x] | _ => []) else []
def rets (ss : List LStep) : List Str := ss.flatMap ret1
def retsTo (ds : List LRule) (i : Nat) : List Str := (ds.take i).flatMap fun d => rets d.steps
def stepsAt (ds : List LRule) (i : Nat) : List LStep := ((ds[i]?).map (·.steps)).getD []
theorem rets_snoc {ss : List LStep} {j : Nat} {s : LStep} (h : ss[j]? = some s) : rets (ss.take (j + 1)) = rets (ss.take j) ++ ret1 s := by
  unfold rets
  rw [take_snoc h, List.flatMap_append, List.flatMap_singleton]
theorem retsTo_succ {ds : List LRule} {i : Nat} {d : LRule} (h : ds[i]? = some d) : retsTo ds (i + 1) = retsTo ds i ++ rets d.steps := by
  unfold retsTo
  rw [take_snoc h, List.flatMap_append, List.flatMap_singleton]
theorem stepsAt_eq {ds : List LRule} {i : Nat} {d : LRule} (h : ds[i]? = some d) : stepsAt ds i = d.steps := by
  unfold stepsAt
  rw [h]; rfl
inductive RetIn (led : Led) : Value → Str → Prop
  | mk {T : Addr} {n : Nat} {x : Str} {t : Tok} : (T, tupOf #[.str x t, .bool true] n) ∈ led → RetIn led (.ref T) x
theorem RetIn.mono {led led' : Led} {v : Value} {x : Str} (h : RetIn led v x) (hs : ∀ p ∈ led, p ∈ led') : RetIn led' v x := by
  cases h with
  | mk a => exact .mk (hs _ a)
def kvOf (xs : List Str) : List (Str × Value) := xs.map fun x => (x, Value.bool true)
theorem rets_pairs {h₀ h : Heap} {L : Addr} {news : Led} {vs : List Value} {xs : List Str} (N : News h₀ L h news) (hA : AllIn (RetIn news) vs xs) : PairsAt h vs (kvOf xs) := by
  refine ⟨by rw [kvOf, List.length_map]; exact hA.1, fun i v hv => ?_⟩
  obtain ⟨x, hx, hr⟩ := hA.get hv
  cases hr with
  | @mk T n x t hT =>
  exact ⟨T, n, x, t, .bool true, rfl, (N _ hT).1, by rw [kvOf, List.getElem?_map, hx]; rfl⟩
def WarnD.data (d : WarnD) : PyData := .tuple [.int d.line, .str d.kind, .str d.name]
theorem WarnIn.rd {news : Led} {v : Value} {d : WarnD} (h : WarnIn news v d) : Rd news v d.data := by
  cases h with
  | mk a => exact Rd.tuple (vs := [_, _, _]) a (.cons Rd.int (.cons Rd.str (.cons Rd.str .nil)))
def lawSec (ds : List LRule) (D : FileD) (i : Nat) (cs : List Int) : List WarnD := (cs.filter fun c => !((ds.take i).filter fun e => e.live.any (· == c)).isEmpty).map fun c => ⟨10 + 3 * (i : Int), Str.ofString "second end", nameOf D c.toNat⟩
theorem lawSec_snoc {ds : List LRule} {D : FileD} {i : Nat} {cs : List Int} {c : Int} : lawSec ds D i (cs ++ [c]) = lawSec ds D i cs ++ (if ((ds.take i).filter fun e => e.live.any (· == c)).isEmpty = true then [] else [⟨10 + 3 * (i : Int), Str.ofString "second end", nameOf D c.toNat⟩]) := by
  unfold lawSec
  rw [List.filter_append, List.map_append]
  cases h : ((ds.take i).filter fun e => e.live.any (· == c)).isEmpty with
  | true => simp [h]
  | false => simp [h]
theorem lawWarn_nil {ds : List LRule} {D : FileD} {bs : List Bool} {i : Nat} {d : LRule} (h : (d.live.filter fun c => bs.getD c.toNat false).isEmpty = true) : lawWarn ds D bs i d = [⟨10 + 3 * (i : Int), Str.ofString "never live", Str.ofString ""⟩] := by
  unfold lawWarn
  rw [if_pos (List.isEmpty_iff.mp h)]
theorem lawWarn_cons {ds : List LRule} {D : FileD} {bs : List Bool} {i : Nat} {d : LRule} (h : (d.live.filter fun c => bs.getD c.toNat false).isEmpty = false) : lawWarn ds D bs i d = lawSec ds D i d.live := by
  unfold lawWarn
  rw [if_neg fun e => by rw [e] at h; cases h]
  rfl
theorem shaped_ints (zs : List Int) : SeqAt.shaped (.list (zs.map PyData.int)) = true := shaped_list fun x hx => by
  obtain ⟨z, _, rfl⟩ := List.mem_map.mp hx
  exact ⟨rfl, by show (0 : Nat) ≤ 5; decide⟩
theorem shaped_rules {many : Int} {ds : List LRule} (h : ∀ d ∈ ds, RuleOk many d) : SeqAt.shaped (.list (ds.map LRule.data)) = true := shaped_list fun x hx => by
  obtain ⟨d, hd, rfl⟩ := List.mem_map.mp hx
  exact LRule.lay (h d hd)
section
variable {prog : Program} {w : World} {A : Around} {E : Value → Shared → Prop} {s : Shared} {h₀ : Heap} {L : Addr} {m : Str → Option Value} {news : Led} {a b : Addr} {vs us : List Value} {n k : Nat} {xs ys : List PyData} {Q : Value → Shared → Prop}
theorem ne_nil_led {bb : Bool} (N : News h₀ L s.heap news) (ha : (a, listOf vs.toArray n) ∈ news) (hb : (b, listOf #[] k) ∈ news) (ra : RdAll news vs xs) (sa : SeqAt.shaped (.list xs) = true) (hu : A.units + 64 < cLine) (he : xs.isEmpty = bb)
    (h : Q (.bool (!bb)) s) : wpAny (model prog w) A (compareOp .NotEq (.ref a) (.ref b)) Q E s :=
  ne_led (us := []) N ha hb ra .nil sa shaped_nil hu (by rw [eqvAll_nil, he]; exact h)
theorem eq_nil_led {bb : Bool} (N : News h₀ L s.heap news) (ha : (a, listOf vs.toArray n) ∈ news) (hb : (b, listOf #[] k) ∈ news) (ra : RdAll news vs xs) (sa : SeqAt.shaped (.list xs) = true) (hu : A.units + 64 < cLine) (he : xs.isEmpty = bb)
    (h : Q (.bool bb) s) : wpAny (model prog w) A (compareOp .Eq (.ref a) (.ref b)) Q E s :=
  eq_led (us := []) N ha hb ra .nil sa shaped_nil hu (by rw [eqvAll_nil, he]; exact h)
theorem in_led {l : Addr} {zs : List Int} {x : Int} {u : Tok} {bb : Bool} (N : News h₀ L s.heap news) (hm : (l, listOf vs.toArray n) ∈ news) (hi : IntsAre vs zs) (he : zs.any (· == x) = bb)
    (h : Q (.bool bb) s) : wpAny (model prog w) A (compareOp .In (.int x u) (.ref l)) Q E s :=
  in_list_ints ⟨_, (N _ hm).1, rfl, n, rfl⟩ hi (by rw [he]; exact h)
theorem slice_led {value slice : Expr} {l : Addr} {i : Nat} {t : Tok} (F : Fr h₀ L s.heap m) (N : News h₀ L s.heap news) (hm : (l, listOf vs.toArray n) ∈ news) (hi : i ≤ vs.length) (hz : vs.length ≤ sizeLine)
    (h : ∀ D h', Fr h₀ L h' m → News h₀ L h' ((D, listOf (vs.take i).toArray 0) :: news) → (∀ p ∈ news, p.1 < D) → Q (.ref D) { s with heap := h' })
    (hs : subscripted slice false (.ref l) (.ref s.heap.objs.size) = operate [.ref s.heap.objs.size, .ref l] (getItem (.ref l) (.ref s.heap.objs.size))) (ht : ∀ r, letTemporaryGo value (.ref l) r = pure ()) :
    wpAny (model prog w) A (subscriptTail value slice (.ref l) (.ref s.heap.objs.size)) Q E { s with heap := s.heap.push { cls := .type "slice", data := .fields #[.none, .int (i : Int) t, .none] } } := by
  have hl : s.heap.IsList l vs.toArray := ⟨_, (N _ hm).1, rfl, n, rfl⟩
  refine kmk_slice_lit F N hl (lo := none) (hi := some (i : Int)) ?_ ?_ (slice_take hi) h hs ht (by rw [List.size_toArray]; exact hz)
  · kmk_part
  · kmk_part
end
end
section
example : True := by
  k_with_none
  k_with "k_ne" => ((refine neN ?_; (try dsimp only); with_reducible first | assumption | exact Nat.ne_of_lt (by assumption) | exact Nat.ne_of_gt (by assumption) | exact neC1 (by assumption) | exact (neC1 (by assumption)).symm | exact neC2 (by assumption) | exact (neC2 (by assumption)).symm | exact neC3 (by assumption) | exact (neC3 (by assumption)).symm | exact neC4 (by assumption) | exact (neC4 (by assumption)).symm | exact neD2 (by assumption) | exact (neD2 (by assumption)).symm | exact neD3 (by assumption) | exact (neD3 (by assumption)).symm | exact neC5 (by assumption) | exact (neC5 (by assumption)).symm))
  k_with "ktr_room" => (first | decide | (refine' room_of (c := 1) ?wqh9 ?wqe9 ?wqk9; (case wqh9 => with_reducible assumption); (case wqe9 => exact rfl); (case wqk9 => decide)) | (refine' room_of (c := 0) ?wqh9 ?wqe9 ?wqk9; (case wqh9 => with_reducible assumption); (case wqe9 => exact rfl); (case wqk9 => decide)) | (refine' room_at (c := 0) ?wqh9 ?wqe9 ?wqk9; (case wqh9 => with_reducible assumption); (case wqe9 => exact rfl); (case wqk9 => decide)) | (refine' room_at (c := 1) ?wqh9 ?wqe9 ?wqk9; (case wqh9 => with_reducible assumption); (case wqe9 => exact rfl); (case wqk9 => decide)) | fail "room")
  k_with "ktr_units" => (first | decide | (refine' room_of (c := 3) ?wqh9 ?wqe9 ?wqk9; (case wqh9 => with_reducible assumption); (case wqe9 => exact rfl); (case wqk9 => decide)) | (refine' room_of (c := 0) ?wqh9 ?wqe9 ?wqk9; (case wqh9 => with_reducible assumption); (case wqe9 => exact rfl); (case wqk9 => decide)) | fail "units")
  k_with "exec For Name Attribute cons nil" => ((k_here; (with_reducible show wpAny _ _ (exec (Stmt.For _ _ _ [] _) _) _ _ _); with_unfolding_all refine For_any ?_))
  k_with "exec For Name Name cons nil" => ((k_here; (with_reducible show wpAny _ _ (exec (Stmt.For _ _ _ [] _) _) _ _ _); with_unfolding_all refine For_any ?_))
  k_with "exec For Name Call cons nil" => ((k_here; (with_reducible show wpAny _ _ (exec (Stmt.For _ _ _ [] _) _) _ _ _); with_unfolding_all refine For_any ?_))
  k_with "exec For Name Subscript cons nil" => ((k_here; (with_reducible show wpAny _ _ (exec (Stmt.For _ _ _ [] _) _) _ _ _); with_unfolding_all refine For_any ?_))
  k_with "exec For Name Tuple cons nil" => ((k_here; (with_reducible show wpAny _ _ (exec (Stmt.For _ _ _ [] _) _) _ _ _); with_unfolding_all refine For_any ?_))
  k_with "exec For Tuple Call cons nil" => ((k_here; (with_reducible show wpAny _ _ (exec (Stmt.For _ _ _ [] _) _) _ _ _); with_unfolding_all refine For_any ?_))
  k_with "exec For Tuple Name cons nil" => ((k_here; (with_reducible show wpAny _ _ (exec (Stmt.For _ _ _ [] _) _) _ _ _); with_unfolding_all refine For_any ?_))
  k_with "exec For Tuple Subscript cons nil" => ((k_here; (with_reducible show wpAny _ _ (exec (Stmt.For _ _ _ [] _) _) _ _ _); with_unfolding_all refine For_any ?_))
  k_with "LPost" => ((dsimp only [LPost]))
  k_with "call builtin:len" => ((k_here; (with_reducible show wpAny _ _ (call (Value.builtin "len") [Value.ref _]) _ _ _); k_dflt (refine' len_led ?wqk1 ?wqk2 ?wqk3 ?_; (case wqk1 => k_asm); (case wqk2 => k_mem); (case wqk3 => omega); k_whole)))
  k_with "subscriptTail" => ((k_here; (with_reducible show wpAny _ _ (subscriptTail _ _ (Value.ref _) (Value.int _ _)) _ _ _); (with_unfolding_all refine' item_led ?wqk1 ?wqk2 ?wqk3 ?wqk4 ?wqk5 ?_ ?wqk6; (case wqk1 => k_asm); (case wqk2 => k_mem); (case wqk5 => first | assumption | (simp only [Int.toNat_natCast]; assumption)); (case wqk3 => omega); (case wqk4 => omega); (case wqk6 => with_unfolding_all rfl); k_whole)))
  k_with "tb_start" => ((intro y hy; (try dsimp only); (simp only [List.contains_cons, List.contains_nil, Bool.or_false, Bool.or_eq_false_iff] at hy); (have hy2 := hy); (simp only [beq_eq_false_iff_ne, ne_eq] at hy2); (simp only [List.contains_cons, List.contains_nil, hy, hy2, Bool.or_false, Bool.false_eq_true, if_false])))
  k_with "eval ListComp" => ((k_here; k_dflt (refine LCg.ListComp_U (F₀ := by k_asm) (by with_unfolding_all rfl) (by decide) (by rfl) (by decide) (by rfl) ?_)))
  k_with "eval ListComp" => ((k_here; k_dflt (refine LCt.ListComp_T (F₀ := by k_asm) (by with_unfolding_all rfl) (by decide) (by rfl) (by decide) (by rfl) ?_)))
  k_with "k_mem" => (first | exact List.Mem.head _ | ktr_member | (refine' List.mem_cons_of_mem _ ?_; k_mem))
  k_with "setItem ref int" => ((k_here; (with_reducible show wpAny _ _ (setItem (Value.ref _) (Value.int _ _) _) _ _ _); k_dflt (refine' set_led ?wqk1 ?wqk2 ?wqk3 ?wqk5 ?wqk6 ?wqk7 ?_; (case wqk1 => k_asm); (case wqk2 => k_asm); (case wqk3 => k_upd); (case wqk5 => omega); (case wqk6 => first | assumption | omega | (simp only [List.length_replicate, List.length_set, Int.toNat_natCast] at *; omega)); (case wqk7 => omega); k_whole); intro _ _ _; (try k_sweep)))
  k_with "call builtin:list.pop" => ((k_here; (with_reducible show wpAny _ _ (call (Value.builtin _) [Value.ref _]) _ _ _); k_dflt (refine' pop_led ?wqk1 ?wqk2 ?wqk3 ?wqk4 ?_; (case wqk1 => k_asm); (case wqk2 => k_asm); (case wqk3 => k_upd); (case wqk4 => (first | (rw [sizeLine_eq]; omega) | size_fits)); k_whole); intro _ _ _; (try k_sweep)))
  k_with "truthy ref" => ((k_here; k_dflt (first | (refine' truth_nil ?wqk1 ?wqk2 ?_; (case wqk1 => k_asm); (case wqk2 => k_mem)) | (refine' truth_snoc ?wqk1 ?wqk2 ?wqk3 ?_; (case wqk1 => k_asm); (case wqk2 => k_mem); (case wqk3 => omega)))))
  k_with "binaryOp Mult ref int" => ((k_here; k_dflt (refine' mul_led ?wqk1 ?wqk2 ?wqk3 ?wqk4 ?wqk5 ?_; (case wqk1 => k_asm); (case wqk2 => k_asm); (case wqk3 => k_mem); (case wqk4 => omega); (case wqk5 => omega); k_whole); intro _ _ _ _ l1; (try k_lt l1); (have _ := l1); clear l1; (try k_sweep)))
  k_with "k_all" => (first | with_reducible assumption | (refine' List.forall_mem_cons.mpr ⟨?wqa, ?wqb⟩; (case wqa => k_ne); (case wqb => k_all)))
  k_with "exec While Name cons nil" => ((k_here; refine While_stop ?_))
  k_with "call builtin:list.append" => ((k_here; (with_reducible show wpAny _ _ (call (Value.builtin _) [Value.ref _, _]) _ _ _); k_dflt (refine' append_led ?wqk1 ?wqk2 ?wqk3 ?wqk4 ?_; (case wqk1 => k_asm); (case wqk2 => k_asm); (case wqk3 => k_upd); (case wqk4 => (rw [sizeLine_eq]; (try simp only [List.length_append, List.length_cons, List.length_nil]); omega)); k_whole); intro _ _ _; (try k_sweep)))
  k_with "WPost" => ((dsimp only [WPost]))
  k_with "tb_rel" => (first | assumption | (refine RuleIn.mono (by assumption) ?_; intro p hp; (repeat (first | exact hp | refine List.mem_cons_of_mem _ ?_))) | (refine FileIn.mono (by assumption) ?_; intro p hp; (repeat (first | exact hp | refine List.mem_cons_of_mem _ ?_))))
  k_with "lsm_bools" => (with_reducible assumption)
  k_with "kaf_pre" => (first | assumption | (refine List.mem_cons_of_mem _ ?_; (k_extra "kaf_pre")))
  k_with "kaf_suf" => (first | exact UpdF.head (by first | assumption | k_all) | (refine' UpdF.tail ?wqua7 ?wqub7; (case wqua7 => k_ne); (case wqub7 => (k_extra "kaf_suf"))))
  k_with "kat_tups" => ((intro p hp; (repeat (first | exact hp | refine List.mem_cons_of_mem _ ?_))))
  trivial
-- the plain law: names, goals, what is reached
theorem cName_inj {j k : Nat} (hj : j < 8) (hk : k < 8) (h : (cName j == cName k) = true) : j = k := by
  have H : ∀ j : Fin 8, ∀ k : Fin 8, (cName j == cName k) = true → j = k := by decide +kernel
  exact congrArg Fin.val (H ⟨j, hj⟩ ⟨k, hk⟩ h)
theorem cName_ok {k : Nat} (hk : k < 8) : PyData.strOk (cName k) = true := by
  have H : ∀ k : Fin 8, PyData.strOk (cName k) = true := by decide +kernel
  exact H ⟨k, hk⟩
def NamesAre (cs : List (Str × Bool)) (many : Nat) : Prop := cs.length = many ∧ many < 8 ∧ ∀ k, k < many → (cs[k]?).map (·.1) = some (cName k)
theorem NamesAre.name {cs : List (Str × Bool)} {many j : Nat} {y : Str × Bool} (h : NamesAre cs many) (hy : cs[j]? = some y) : j < many ∧ y.1 = cName j := by
  have lj : j < many := by rw [← h.1]; exact (List.getElem?_eq_some_iff.mp hy).1
  have e := h.2.2 j lj
  rw [hy] at e
  exact ⟨lj, Option.some.inj e⟩
theorem NamesAre.apart {cs : List (Str × Bool)} {many : Nat} {rs : List RuleD} (h : NamesAre cs many) : NamesApart ⟨cs, rs⟩ := by
  intro j k y z hy hz e
  obtain ⟨lj, ej⟩ := h.name hy
  obtain ⟨lk, ek⟩ := h.name hz
  have hm := h.2.1
  exact cName_inj (by omega) (by omega) (by rw [← ej, ← ek]; exact e)
theorem nameOf_ok {cs : List (Str × Bool)} {many : Nat} {rs : List RuleD} (h : NamesAre cs many) (k : Nat) : PyData.strOk (nameOf ⟨cs, rs⟩ k) = true := by
  unfold nameOf
  show PyData.strOk (((cs[k]?).map (·.1)).getD (Str.ofString "")) = true
  cases e : cs[k]? with
  | none => show PyData.strOk (Str.ofString "") = true; decide +kernel
  | some y =>
    obtain ⟨lj, ej⟩ := h.name e
    show PyData.strOk y.1 = true
    rw [ej]
    have hm := h.2.1
    exact cName_ok (by omega)
theorem mem_rules {ds : List LRule} {R : RuleD} : R ∈ ds.mapIdx toRule ↔ ∃ i d, ds[i]? = some d ∧ R = toRule i d := by
  rw [List.mem_iff_getElem?]
  constructor
  · rintro ⟨i, h⟩
    rw [List.getElem?_mapIdx] at h
    cases e : ds[i]? with
    | none => rw [e] at h; cases h
    | some d => rw [e] at h; exact ⟨i, d, e, (Option.some.inj h).symm⟩
  · rintro ⟨i, d, h, rfl⟩
    exact ⟨i, by rw [List.getElem?_mapIdx, h]; rfl⟩
theorem conds_of {cs : List (Str × Bool)} {many : Nat} {ds : List LRule} (h : NamesAre cs many) (hO : ∀ d ∈ ds, RuleOk many d) : CondsIn ⟨cs, ds.mapIdx toRule⟩ := by
  intro R hR c hc
  obtain ⟨i, d, hd, rfl⟩ := mem_rules.mp hR
  show 0 ≤ c ∧ c < (cs.length : Int)
  rw [h.1]
  exact (hO d (List.mem_of_getElem? hd)).1 c hc
def goalsD (many : Nat) (R : RuleD) : List Nat := (R.steps.filter isGoal).map fun s => ((List.range many).find? fun k => s.worth == some (cName k)).getD 0
theorem find_name {many z : Nat} (hm : many < 8) (hz : z < many) : ((List.range many).find? fun k => some (cName z) == some (cName k)) = some z := by
  have H : ∀ many : Fin 8, ∀ z : Fin 8, z.1 < many.1 → ((List.range many).find? fun k => some (cName z) == some (cName k)) = some z.1 := by decide +kernel
  exact H ⟨many, hm⟩ ⟨z, by omega⟩ hz
theorem goal_step {many : Nat} {l : LStep} (h : StepOk many l) (hg : isGoal (toStep l) = true) : isGo l.word ∧ ∃ z : Nat, z < many ∧ l.worth = .int (z : Int) := by
  rcases h with ⟨hw, z, hz, z0, z1⟩ | ⟨hw, _⟩ | ⟨hw, _⟩
  · exact ⟨hw, z.toNat, by omega, by rw [hz]; congr 1; omega⟩
  · exfalso
    obtain ⟨x, y⟩ := l
    rcases hw with e | e <;> (dsimp only at e; subst e; revert hg; show (isGoal ⟨_, _⟩ = true) → False; unfold isGoal; dsimp only; decide +kernel)
  · exfalso
    obtain ⟨x, y⟩ := l
    dsimp only at hw
    subst hw
    revert hg
    show (isGoal ⟨_, _⟩ = true) → False
    unfold isGoal; dsimp only; decide +kernel
theorem go_isGoal {l : LStep} (h : isGo l.word) : isGoal (toStep l) = true := by
  obtain ⟨x, y⟩ := l
  rcases h with e | e <;> (dsimp only at e; subst e; show isGoal ⟨_, _⟩ = true; unfold isGoal; dsimp only; decide +kernel)
theorem mem_goals {many i g : Nat} {d : LRule} (hm : many < 8) (hO : RuleOk many d) : g ∈ goalsD many (toRule i d) ↔ ∃ s ∈ d.steps, isGo s.word ∧ s.worth = .int (g : Int) := by
  unfold goalsD
  constructor
  · intro h
    obtain ⟨s', hs', e⟩ := List.mem_map.mp h
    obtain ⟨hs1, hs2⟩ := List.mem_filter.mp hs'
    obtain ⟨l, hl, rfl⟩ := List.mem_map.mp (show s' ∈ d.steps.map toStep from hs1)
    obtain ⟨hg, z, hz, hw⟩ := goal_step (hO.2.1 l hl) hs2
    refine ⟨l, hl, hg, ?_⟩
    have ew : (toStep l).worth = some (cName z) := by show l.worth.cond = _; rw [hw]; rfl
    rw [ew, find_name hm hz] at e
    have e : z = g := e
    rw [hw, e]
  · rintro ⟨l, hl, hg, hw⟩
    have hgo := go_isGoal hg
    obtain ⟨_, z, hz, hw'⟩ := goal_step (hO.2.1 l hl) hgo
    have ez : z = g := by
      rw [hw] at hw'
      injection hw' with e
      omega
    subst ez
    refine List.mem_map.mpr ⟨toStep l, List.mem_filter.mpr ⟨List.mem_map.mpr ⟨l, hl, rfl⟩, hgo⟩, ?_⟩
    have ew : (toStep l).worth = some (cName z) := by show l.worth.cond = _; rw [hw]; rfl
    rw [ew, find_name hm hz]; rfl
theorem goals_of {cs : List (Str × Bool)} {many : Nat} {ds : List LRule} (h : NamesAre cs many) (hO : ∀ d ∈ ds, RuleOk many d) : GoalsOf ⟨cs, ds.mapIdx toRule⟩ (goalsD many) := by
  intro R hR
  obtain ⟨i, d, hd, rfl⟩ := mem_rules.mp hR
  have hOd := hO d (List.mem_of_getElem? hd)
  constructor
  · unfold goalsD
    rw [List.map_map]
    refine List.map_congr_left fun s' hs' => ?_
    obtain ⟨hs1, hs2⟩ := List.mem_filter.mp hs'
    obtain ⟨l, hl, rfl⟩ := List.mem_map.mp (show s' ∈ d.steps.map toStep from hs1)
    obtain ⟨hg, z, hz, hw⟩ := goal_step (hOd.2.1 l hl) hs2
    have ew : (toStep l).worth = some (cName z) := by show l.worth.cond = _; rw [hw]; rfl
    show (toStep l).worth = nameAt _ (((List.range many).find? fun k => (toStep l).worth == some (cName k)).getD 0)
    rw [ew, find_name h.2.1 hz]
    exact (h.2.2 z hz).symm
  · intro k hk
    obtain ⟨l, hl, hg, hw⟩ := (mem_goals h.2.1 hOd).mp hk
    obtain ⟨_, z, hz, hw'⟩ := goal_step (hOd.2.1 l hl) (go_isGoal hg)
    show k < cs.length
    rw [h.1]
    rw [hw] at hw'
    injection hw' with e
    omega
end
section
example : True := by
  k_with_none
  k_with "k_ne" => ((refine neN ?_; (try dsimp only); with_reducible first | assumption | exact Nat.ne_of_lt (by assumption) | exact Nat.ne_of_gt (by assumption) | exact neC1 (by assumption) | exact (neC1 (by assumption)).symm | exact neC2 (by assumption) | exact (neC2 (by assumption)).symm | exact neC3 (by assumption) | exact (neC3 (by assumption)).symm | exact neC4 (by assumption) | exact (neC4 (by assumption)).symm | exact neD2 (by assumption) | exact (neD2 (by assumption)).symm | exact neD3 (by assumption) | exact (neD3 (by assumption)).symm | exact neC5 (by assumption) | exact (neC5 (by assumption)).symm))
  k_with "ktr_room" => (first | decide | (refine' room_of (c := 1) ?wqh9 ?wqe9 ?wqk9; (case wqh9 => with_reducible assumption); (case wqe9 => exact rfl); (case wqk9 => decide)) | (refine' room_of (c := 0) ?wqh9 ?wqe9 ?wqk9; (case wqh9 => with_reducible assumption); (case wqe9 => exact rfl); (case wqk9 => decide)) | (refine' room_at (c := 0) ?wqh9 ?wqe9 ?wqk9; (case wqh9 => with_reducible assumption); (case wqe9 => exact rfl); (case wqk9 => decide)) | (refine' room_at (c := 1) ?wqh9 ?wqe9 ?wqk9; (case wqh9 => with_reducible assumption); (case wqe9 => exact rfl); (case wqk9 => decide)) | fail "room")
  k_with "ktr_units" => (first | decide | (refine' room_of (c := 3) ?wqh9 ?wqe9 ?wqk9; (case wqh9 => with_reducible assumption); (case wqe9 => exact rfl); (case wqk9 => decide)) | (refine' room_of (c := 0) ?wqh9 ?wqe9 ?wqk9; (case wqh9 => with_reducible assumption); (case wqe9 => exact rfl); (case wqk9 => decide)) | fail "units")
  k_with "exec For Name Attribute cons nil" => ((k_here; (with_reducible show wpAny _ _ (exec (Stmt.For _ _ _ [] _) _) _ _ _); with_unfolding_all refine For_any ?_))
  k_with "exec For Name Name cons nil" => ((k_here; (with_reducible show wpAny _ _ (exec (Stmt.For _ _ _ [] _) _) _ _ _); with_unfolding_all refine For_any ?_))
  k_with "exec For Name Call cons nil" => ((k_here; (with_reducible show wpAny _ _ (exec (Stmt.For _ _ _ [] _) _) _ _ _); with_unfolding_all refine For_any ?_))
  k_with "exec For Name Subscript cons nil" => ((k_here; (with_reducible show wpAny _ _ (exec (Stmt.For _ _ _ [] _) _) _ _ _); with_unfolding_all refine For_any ?_))
  k_with "exec For Name Tuple cons nil" => ((k_here; (with_reducible show wpAny _ _ (exec (Stmt.For _ _ _ [] _) _) _ _ _); with_unfolding_all refine For_any ?_))
  k_with "exec For Tuple Call cons nil" => ((k_here; (with_reducible show wpAny _ _ (exec (Stmt.For _ _ _ [] _) _) _ _ _); with_unfolding_all refine For_any ?_))
  k_with "exec For Tuple Name cons nil" => ((k_here; (with_reducible show wpAny _ _ (exec (Stmt.For _ _ _ [] _) _) _ _ _); with_unfolding_all refine For_any ?_))
  k_with "exec For Tuple Subscript cons nil" => ((k_here; (with_reducible show wpAny _ _ (exec (Stmt.For _ _ _ [] _) _) _ _ _); with_unfolding_all refine For_any ?_))
  k_with "LPost" => ((dsimp only [LPost]))
  k_with "call builtin:len" => ((k_here; (with_reducible show wpAny _ _ (call (Value.builtin "len") [Value.ref _]) _ _ _); k_dflt (refine' len_led ?wqk1 ?wqk2 ?wqk3 ?_; (case wqk1 => k_asm); (case wqk2 => k_mem); (case wqk3 => omega); k_whole)))
  k_with "subscriptTail" => ((k_here; (with_reducible show wpAny _ _ (subscriptTail _ _ (Value.ref _) (Value.int _ _)) _ _ _); (with_unfolding_all refine' item_led ?wqk1 ?wqk2 ?wqk3 ?wqk4 ?wqk5 ?_ ?wqk6; (case wqk1 => k_asm); (case wqk2 => k_mem); (case wqk5 => first | assumption | (simp only [Int.toNat_natCast]; assumption)); (case wqk3 => omega); (case wqk4 => omega); (case wqk6 => with_unfolding_all rfl); k_whole)))
  k_with "tb_start" => ((intro y hy; (try dsimp only); (simp only [List.contains_cons, List.contains_nil, Bool.or_false, Bool.or_eq_false_iff] at hy); (have hy2 := hy); (simp only [beq_eq_false_iff_ne, ne_eq] at hy2); (simp only [List.contains_cons, List.contains_nil, hy, hy2, Bool.or_false, Bool.false_eq_true, if_false])))
  k_with "eval ListComp" => ((k_here; k_dflt (refine LCg.ListComp_U (F₀ := by k_asm) (by with_unfolding_all rfl) (by decide) (by rfl) (by decide) (by rfl) ?_)))
  k_with "eval ListComp" => ((k_here; k_dflt (refine LCt.ListComp_T (F₀ := by k_asm) (by with_unfolding_all rfl) (by decide) (by rfl) (by decide) (by rfl) ?_)))
  k_with "k_mem" => (first | exact List.Mem.head _ | ktr_member | (refine' List.mem_cons_of_mem _ ?_; k_mem))
  k_with "setItem ref int" => ((k_here; (with_reducible show wpAny _ _ (setItem (Value.ref _) (Value.int _ _) _) _ _ _); k_dflt (refine' set_led ?wqk1 ?wqk2 ?wqk3 ?wqk5 ?wqk6 ?wqk7 ?_; (case wqk1 => k_asm); (case wqk2 => k_asm); (case wqk3 => k_upd); (case wqk5 => omega); (case wqk6 => first | assumption | omega | (simp only [List.length_replicate, List.length_set, Int.toNat_natCast] at *; omega)); (case wqk7 => omega); k_whole); intro _ _ _; (try k_sweep)))
  k_with "call builtin:list.pop" => ((k_here; (with_reducible show wpAny _ _ (call (Value.builtin _) [Value.ref _]) _ _ _); k_dflt (refine' pop_led ?wqk1 ?wqk2 ?wqk3 ?wqk4 ?_; (case wqk1 => k_asm); (case wqk2 => k_asm); (case wqk3 => k_upd); (case wqk4 => (first | (rw [sizeLine_eq]; omega) | size_fits)); k_whole); intro _ _ _; (try k_sweep)))
  k_with "truthy ref" => ((k_here; k_dflt (first | (refine' truth_nil ?wqk1 ?wqk2 ?_; (case wqk1 => k_asm); (case wqk2 => k_mem)) | (refine' truth_snoc ?wqk1 ?wqk2 ?wqk3 ?_; (case wqk1 => k_asm); (case wqk2 => k_mem); (case wqk3 => omega)))))
  k_with "binaryOp Mult ref int" => ((k_here; k_dflt (refine' mul_led ?wqk1 ?wqk2 ?wqk3 ?wqk4 ?wqk5 ?_; (case wqk1 => k_asm); (case wqk2 => k_asm); (case wqk3 => k_mem); (case wqk4 => omega); (case wqk5 => omega); k_whole); intro _ _ _ _ l1; (try k_lt l1); (have _ := l1); clear l1; (try k_sweep)))
  k_with "k_all" => (first | with_reducible assumption | (refine' List.forall_mem_cons.mpr ⟨?wqa, ?wqb⟩; (case wqa => k_ne); (case wqb => k_all)))
  k_with "exec While Name cons nil" => ((k_here; refine While_stop ?_))
  k_with "call builtin:list.append" => ((k_here; (with_reducible show wpAny _ _ (call (Value.builtin _) [Value.ref _, _]) _ _ _); k_dflt (refine' append_led ?wqk1 ?wqk2 ?wqk3 ?wqk4 ?_; (case wqk1 => k_asm); (case wqk2 => k_asm); (case wqk3 => k_upd); (case wqk4 => (rw [sizeLine_eq]; (try simp only [List.length_append, List.length_cons, List.length_nil]); omega)); k_whole); intro _ _ _; (try k_sweep)))
  k_with "WPost" => ((dsimp only [WPost]))
  k_with "tb_rel" => (first | assumption | (refine RuleIn.mono (by assumption) ?_; intro p hp; (repeat (first | exact hp | refine List.mem_cons_of_mem _ ?_))) | (refine FileIn.mono (by assumption) ?_; intro p hp; (repeat (first | exact hp | refine List.mem_cons_of_mem _ ?_))))
  k_with "lsm_bools" => (with_reducible assumption)
  k_with "kaf_pre" => (first | assumption | (refine List.mem_cons_of_mem _ ?_; (k_extra "kaf_pre")))
  k_with "kaf_suf" => (first | exact UpdF.head (by first | assumption | k_all) | (refine' UpdF.tail ?wqua7 ?wqub7; (case wqua7 => k_ne); (case wqub7 => (k_extra "kaf_suf"))))
  k_with "kat_tups" => ((intro p hp; (repeat (first | exact hp | refine List.mem_cons_of_mem _ ?_))))
  trivial
-- the plain law: eight steps reach all
section
variable {n : Nat} {R : Nat → Nat → Prop}
noncomputable def pathL (n : Nat) (R : Nat → Nat → Prop) : Nat → Nat → Nat → Prop
  | 0, i, j => i = j
  | t + 1, i, j => ∃ v, v < n ∧ pathL n R t i v ∧ R v j
theorem pathL_add {a : Nat} : ∀ {b i j : Nat}, j < n → (pathL n R (a + b) i j ↔ ∃ v, v < n ∧ pathL n R a i v ∧ pathL n R b v j)
  | 0, i, j, hj => by
    constructor
    · intro h; exact ⟨j, hj, h, rfl⟩
    · rintro ⟨v, _, h, e⟩
      have e : v = j := e
      rw [← e]; exact h
  | b + 1, i, j, hj => by
    constructor
    · rintro ⟨u, hu, h, r⟩
      obtain ⟨v, hv, h1, h2⟩ := (pathL_add (b := b) hu).mp h
      exact ⟨v, hv, h1, u, hu, h2, r⟩
    · rintro ⟨v, hv, h1, u, hu, h2, r⟩
      exact ⟨u, hu, (pathL_add (b := b) hu).mpr ⟨v, hv, h1, h2⟩, r⟩
theorem powR_path : ∀ (t : Nat) {i j : Nat}, i < n → j < n → (powR n R t i j ↔ pathL n R (2 ^ t) i j)
  | 0, i, j, hi, _ => by
    constructor
    · intro h; exact ⟨i, hi, rfl, h⟩
    · rintro ⟨v, _, e, r⟩
      have e : i = v := e
      rw [e]; exact r
  | t + 1, i, j, hi, hj => by
    rw [show 2 ^ (t + 1) = 2 ^ t + 2 ^ t by rw [Nat.pow_succ]; omega, pathL_add hj]
    constructor
    · rintro ⟨v, hv, h1, h2⟩
      exact ⟨v, hv, (powR_path t hi hv).mp h1, (powR_path t hv hj).mp h2⟩
    · rintro ⟨v, hv, h1, h2⟩
      exact ⟨v, hv, (powR_path t hi hv).mpr h1, (powR_path t hv hj).mpr h2⟩
theorem pathL_more (hr : ∀ i, R i i) {i k t : Nat} (hk : k < n) (h : pathL n R t i k) : pathL n R (t + 1) i k := ⟨k, hk, h, hr k⟩
theorem pathL_le (hr : ∀ i, R i i) {i k t : Nat} (hk : k < n) : ∀ {u : Nat}, t ≤ u → pathL n R t i k → pathL n R u i k
  | 0, h, p => by
    obtain rfl : t = 0 := by omega
    exact p
  | u + 1, h, p => by
    rcases Nat.lt_or_ge u t with hlt | hge
    · obtain rfl : t = u + 1 := by omega
      exact p
    · exact pathL_more hr hk (pathL_le hr hk hge p)
noncomputable def cnt (n : Nat) (P : Nat → Prop) : Nat := ((List.range n).filter fun k => pb (P k)).length
theorem filter_lt {α : Type} {p q : α → Bool} : ∀ {l : List α}, (∀ x ∈ l, p x = true → q x = true) → (l.filter p).length ≤ (l.filter q).length ∧ ((∃ x ∈ l, q x = true ∧ p x = false) → (l.filter p).length < (l.filter q).length)
  | [], _ => ⟨Nat.le_refl _, fun ⟨x, hx, _⟩ => nomatch hx⟩
  | a :: l, h => by
    obtain ⟨h1, h2⟩ := filter_lt (p := p) (q := q) (l := l) fun x hx => h x (.tail _ hx)
    have ha := h a (.head _)
    cases hp : p a with
    | true =>
      rw [List.filter_cons_of_pos hp, List.filter_cons_of_pos (ha hp)]
      refine ⟨Nat.succ_le_succ h1, ?_⟩
      rintro ⟨x, hx, hq, hn⟩
      rcases List.mem_cons.mp hx with rfl | hx
      · rw [hp] at hn; cases hn
      · exact Nat.succ_lt_succ (h2 ⟨x, hx, hq, hn⟩)
    | false =>
      rw [List.filter_cons_of_neg (by rw [hp]; exact Bool.false_ne_true)]
      cases hq : q a with
      | true =>
        rw [List.filter_cons_of_pos hq]
        exact ⟨Nat.le_succ_of_le h1, fun _ => Nat.lt_succ_of_le h1⟩
      | false =>
        rw [List.filter_cons_of_neg (by rw [hq]; exact Bool.false_ne_true)]
        refine ⟨h1, ?_⟩
        rintro ⟨x, hx, hq', hn⟩
        rcases List.mem_cons.mp hx with rfl | hx
        · rw [hq] at hq'; cases hq'
        · exact h2 ⟨x, hx, hq', hn⟩
theorem cnt_lt {P Q : Nat → Prop} (h : ∀ k, k < n → P k → Q k) (hx : ∃ k, k < n ∧ Q k ∧ ¬ P k) : cnt n P < cnt n Q := by
  refine (filter_lt fun x hx hp => pb_iff.mpr (h x (List.mem_range.mp hx) (pb_iff.mp hp))).2 ?_
  obtain ⟨k, hk, q, np⟩ := hx
  refine ⟨k, List.mem_range.mpr hk, pb_iff.mpr q, ?_⟩
  cases e : pb (P k) with
  | false => rfl
  | true => exact absurd (pb_iff.mp e) np
theorem cnt_le {P : Nat → Prop} : cnt n P ≤ n := by
  have := List.length_filter_le (fun k => pb (P k)) (List.range n)
  rw [List.length_range] at this
  exact this
def Stable (n : Nat) (R : Nat → Nat → Prop) (s : Nat) : Prop := ∀ k, k < n → pathL n R (s + 1) 0 k → pathL n R s 0 k
theorem stable_all (hr : ∀ i, R i i) {s : Nat} (hs : Stable n R s) (hn : 0 < n) : ∀ (t : Nat) {k : Nat}, k < n → pathL n R t 0 k → pathL n R s 0 k
  | 0, k, hk, h => pathL_le hr hk (Nat.zero_le _) h
  | t + 1, k, hk, ⟨v, hv, h, r⟩ => hs k hk ⟨v, hv, stable_all hr hs hn t hv h, r⟩
theorem stable_or (hr : ∀ i, R i i) (hn : 0 < n) : ∀ t : Nat, (∃ s, s ≤ t ∧ Stable n R s) ∨ t + 1 ≤ cnt n (fun k => pathL n R t 0 k)
  | 0 => by
    right
    unfold cnt
    have : (0 : Nat) ∈ (List.range n).filter fun k => pb (pathL n R 0 0 k) := List.mem_filter.mpr ⟨List.mem_range.mpr hn, pb_iff.mpr rfl⟩
    exact List.length_pos_of_mem this
  | t + 1 => by
    rcases stable_or hr hn t with ⟨s, h1, h2⟩ | h
    · exact .inl ⟨s, Nat.le_succ_of_le h1, h2⟩
    · by_cases hs : Stable n R t
      · exact .inl ⟨t, Nat.le_succ _, hs⟩
      · right
        have : ∃ k, k < n ∧ pathL n R (t + 1) 0 k ∧ ¬ pathL n R t 0 k := by
          refine Classical.byContradiction fun hno => hs fun k hk hp => ?_
          exact Classical.byContradiction fun hnp => hno ⟨k, hk, hp, hnp⟩
        have := cnt_lt (n := n) (P := fun k => pathL n R t 0 k) (Q := fun k => pathL n R (t + 1) 0 k) (fun k hk hp => pathL_more hr hk hp) this
        omega
theorem path_eight (hr : ∀ i, R i i) (hn : 0 < n) (hm : n < 8) {t k : Nat} (hk : k < n) (h : pathL n R t 0 k) : pathL n R 8 0 k := by
  rcases stable_or (R := R) hr hn 7 with ⟨s, h1, h2⟩ | h'
  · exact pathL_le hr hk (by omega) (stable_all hr h2 hn t hk h)
  · have := cnt_le (n := n) (P := fun k => pathL n R 7 0 k)
    omega
end
/-- what the law's table says of row 0 is what is reached -/
theorem reach_pow {many : Nat} {ds : List LRule} (hm0 : 0 < many) (hm : many < 8) (hO : ∀ d ∈ ds, RuleOk many d) {k : Nat} (hk : k < many) :
    powR many (fun k q => k = q ∨ ∃ d ∈ ds, Go d k q) 3 0 k ↔ Reach (ds.mapIdx toRule) (goalsD many) k := by
  rw [powR_path 3 hm0 hk]
  constructor
  · have H : ∀ (t k : Nat), pathL many (fun k q => k = q ∨ ∃ d ∈ ds, Go d k q) t 0 k → Reach (ds.mapIdx toRule) (goalsD many) k := by
      intro t
      induction t with
      | zero =>
        intro k h
        have h : 0 = k := h
        rw [← h]; exact .zero
      | succ t ih =>
        rintro k ⟨v, hv, h, r⟩
        have hR := ih v h
        rcases r with e | ⟨d, hd, hl, s, hs, hg, hw⟩
        · have e : v = k := e
          rw [← e]; exact hR
        · obtain ⟨i, hi, e⟩ := List.mem_iff_getElem.mp hd
          have hdi : ds[i]? = some d := by rw [List.getElem?_eq_getElem hi, e]
          exact .step hR (mem_rules.mpr ⟨i, d, hdi, rfl⟩) (List.any_eq_true.mpr ⟨_, hl, by simp⟩) ((mem_goals hm (hO d hd)).mpr ⟨s, hs, hg, hw⟩)
    exact H 8 k
  · intro h
    have H : ∀ k, Reach (ds.mapIdx toRule) (goalsD many) k → k < many ∧ ∃ t, pathL many (fun k q => k = q ∨ ∃ d ∈ ds, Go d k q) t 0 k := by
      intro k h
      induction h with
      | zero => exact ⟨hm0, 0, rfl⟩
      | @step c g R _ hR hl hg ih =>
        obtain ⟨hc, t, ht⟩ := ih
        obtain ⟨i, d, hd, rfl⟩ := mem_rules.mp hR
        have hd' := List.mem_of_getElem? hd
        obtain ⟨l, hl', hgo, hw⟩ := (mem_goals hm (hO d hd')).mp hg
        obtain ⟨_, z, hz, hw'⟩ := goal_step ((hO d hd').2.1 l hl') (go_isGoal hgo)
        have ez : z = g := by
          rw [hw] at hw'
          injection hw' with e
          omega
        refine ⟨by omega, t + 1, c, hc, ht, .inr ⟨d, hd', ?_, l, hl', hgo, hw⟩⟩
        obtain ⟨y, hy, e⟩ := List.any_eq_true.mp (show d.live.any (· == (c : Int)) = true from hl)
        have e : y = (c : Int) := by simpa using e
        rw [← e]; exact hy
    obtain ⟨_, t, ht⟩ := H k h
    exact path_eight (fun i => .inl rfl) hm0 hm hk ht
theorem bools_ext : ∀ {as bs : List Bool}, as.length = bs.length → (∀ j, j < bs.length → (as[j]? = some true ↔ bs[j]? = some true)) → as = bs
  | [], [], _, _ => rfl
  | [], _ :: _, h, _ => by cases h
  | _ :: _, [], h, _ => by cases h
  | a :: as, b :: bs, h, hj => by
    have h0 := hj 0 (Nat.succ_pos _)
    have e : a = b := by
      simp only [List.getElem?_cons_zero, Option.some.injEq] at h0
      cases a <;> cases b <;> simp_all
    have ih := bools_ext (as := as) (bs := bs) (by simpa using h) fun j hlt => by simpa using hj (j + 1) (Nat.succ_lt_succ hlt)
    rw [e, ih]
theorem seen_eq {many : Nat} {ds : List LRule} {bs bs1 : List Bool} (hm0 : 0 < many) (hm : many < 8) (hO : ∀ d ∈ ds, RuleOk many d) (hR : RowIs many (powR many (fun k q => k = q ∨ ∃ d ∈ ds, Go d k q) 3 0) bs)
    (hl : bs1.length = many) (h1 : ∀ k : Nat, bs1[k]? = some true ↔ Reach (ds.mapIdx toRule) (goalsD many) k) : bs1 = bs := by
  refine bools_ext (by rw [hl, hR.1]) fun j hj => ?_
  rw [hR.1] at hj
  rw [h1 j, hR.2 j hj, reach_pow hm0 hm hO hj]
end
section
example : True := by
  k_with_none
  k_with "k_ne" => ((refine neN ?_; (try dsimp only); with_reducible first | assumption | exact Nat.ne_of_lt (by assumption) | exact Nat.ne_of_gt (by assumption) | exact neC1 (by assumption) | exact (neC1 (by assumption)).symm | exact neC2 (by assumption) | exact (neC2 (by assumption)).symm | exact neC3 (by assumption) | exact (neC3 (by assumption)).symm | exact neC4 (by assumption) | exact (neC4 (by assumption)).symm | exact neD2 (by assumption) | exact (neD2 (by assumption)).symm | exact neD3 (by assumption) | exact (neD3 (by assumption)).symm | exact neC5 (by assumption) | exact (neC5 (by assumption)).symm))
  k_with "ktr_room" => (first | decide | (refine' room_of (c := 1) ?wqh9 ?wqe9 ?wqk9; (case wqh9 => with_reducible assumption); (case wqe9 => exact rfl); (case wqk9 => decide)) | (refine' room_of (c := 0) ?wqh9 ?wqe9 ?wqk9; (case wqh9 => with_reducible assumption); (case wqe9 => exact rfl); (case wqk9 => decide)) | (refine' room_at (c := 0) ?wqh9 ?wqe9 ?wqk9; (case wqh9 => with_reducible assumption); (case wqe9 => exact rfl); (case wqk9 => decide)) | (refine' room_at (c := 1) ?wqh9 ?wqe9 ?wqk9; (case wqh9 => with_reducible assumption); (case wqe9 => exact rfl); (case wqk9 => decide)) | fail "room")
  k_with "ktr_units" => (first | decide | (refine' room_of (c := 3) ?wqh9 ?wqe9 ?wqk9; (case wqh9 => with_reducible assumption); (case wqe9 => exact rfl); (case wqk9 => decide)) | (refine' room_of (c := 0) ?wqh9 ?wqe9 ?wqk9; (case wqh9 => with_reducible assumption); (case wqe9 => exact rfl); (case wqk9 => decide)) | fail "units")
  k_with "exec For Name Attribute cons nil" => ((k_here; (with_reducible show wpAny _ _ (exec (Stmt.For _ _ _ [] _) _) _ _ _); with_unfolding_all refine For_any ?_))
  k_with "exec For Name Name cons nil" => ((k_here; (with_reducible show wpAny _ _ (exec (Stmt.For _ _ _ [] _) _) _ _ _); with_unfolding_all refine For_any ?_))
  k_with "exec For Name Call cons nil" => ((k_here; (with_reducible show wpAny _ _ (exec (Stmt.For _ _ _ [] _) _) _ _ _); with_unfolding_all refine For_any ?_))
  k_with "exec For Name Subscript cons nil" => ((k_here; (with_reducible show wpAny _ _ (exec (Stmt.For _ _ _ [] _) _) _ _ _); with_unfolding_all refine For_any ?_))
  k_with "exec For Name Tuple cons nil" => ((k_here; (with_reducible show wpAny _ _ (exec (Stmt.For _ _ _ [] _) _) _ _ _); with_unfolding_all refine For_any ?_))
  k_with "exec For Tuple Call cons nil" => ((k_here; (with_reducible show wpAny _ _ (exec (Stmt.For _ _ _ [] _) _) _ _ _); with_unfolding_all refine For_any ?_))
  k_with "exec For Tuple Name cons nil" => ((k_here; (with_reducible show wpAny _ _ (exec (Stmt.For _ _ _ [] _) _) _ _ _); with_unfolding_all refine For_any ?_))
  k_with "exec For Tuple Subscript cons nil" => ((k_here; (with_reducible show wpAny _ _ (exec (Stmt.For _ _ _ [] _) _) _ _ _); with_unfolding_all refine For_any ?_))
  k_with "LPost" => ((dsimp only [LPost]))
  k_with "call builtin:len" => ((k_here; (with_reducible show wpAny _ _ (call (Value.builtin "len") [Value.ref _]) _ _ _); k_dflt (refine' len_led ?wqk1 ?wqk2 ?wqk3 ?_; (case wqk1 => k_asm); (case wqk2 => k_mem); (case wqk3 => omega); k_whole)))
  k_with "subscriptTail" => ((k_here; (with_reducible show wpAny _ _ (subscriptTail _ _ (Value.ref _) (Value.int _ _)) _ _ _); (with_unfolding_all refine' item_led ?wqk1 ?wqk2 ?wqk3 ?wqk4 ?wqk5 ?_ ?wqk6; (case wqk1 => k_asm); (case wqk2 => k_mem); (case wqk5 => first | assumption | (simp only [Int.toNat_natCast]; assumption)); (case wqk3 => omega); (case wqk4 => omega); (case wqk6 => with_unfolding_all rfl); k_whole)))
  k_with "tb_start" => ((intro y hy; (try dsimp only); (simp only [List.contains_cons, List.contains_nil, Bool.or_false, Bool.or_eq_false_iff] at hy); (have hy2 := hy); (simp only [beq_eq_false_iff_ne, ne_eq] at hy2); (simp only [List.contains_cons, List.contains_nil, hy, hy2, Bool.or_false, Bool.false_eq_true, if_false])))
  k_with "eval ListComp" => ((k_here; k_dflt (refine LCg.ListComp_U (F₀ := by k_asm) (by with_unfolding_all rfl) (by decide) (by rfl) (by decide) (by rfl) ?_)))
  k_with "eval ListComp" => ((k_here; k_dflt (refine LCt.ListComp_T (F₀ := by k_asm) (by with_unfolding_all rfl) (by decide) (by rfl) (by decide) (by rfl) ?_)))
  k_with "k_mem" => (first | exact List.Mem.head _ | ktr_member | (refine' List.mem_cons_of_mem _ ?_; k_mem))
  k_with "setItem ref int" => ((k_here; (with_reducible show wpAny _ _ (setItem (Value.ref _) (Value.int _ _) _) _ _ _); k_dflt (refine' set_led ?wqk1 ?wqk2 ?wqk3 ?wqk5 ?wqk6 ?wqk7 ?_; (case wqk1 => k_asm); (case wqk2 => k_asm); (case wqk3 => k_upd); (case wqk5 => omega); (case wqk6 => first | assumption | omega | (simp only [List.length_replicate, List.length_set, Int.toNat_natCast] at *; omega)); (case wqk7 => omega); k_whole); intro _ _ _; (try k_sweep)))
  k_with "call builtin:list.pop" => ((k_here; (with_reducible show wpAny _ _ (call (Value.builtin _) [Value.ref _]) _ _ _); k_dflt (refine' pop_led ?wqk1 ?wqk2 ?wqk3 ?wqk4 ?_; (case wqk1 => k_asm); (case wqk2 => k_asm); (case wqk3 => k_upd); (case wqk4 => (first | (rw [sizeLine_eq]; omega) | size_fits)); k_whole); intro _ _ _; (try k_sweep)))
  k_with "truthy ref" => ((k_here; k_dflt (first | (refine' truth_nil ?wqk1 ?wqk2 ?_; (case wqk1 => k_asm); (case wqk2 => k_mem)) | (refine' truth_snoc ?wqk1 ?wqk2 ?wqk3 ?_; (case wqk1 => k_asm); (case wqk2 => k_mem); (case wqk3 => omega)))))
  k_with "binaryOp Mult ref int" => ((k_here; k_dflt (refine' mul_led ?wqk1 ?wqk2 ?wqk3 ?wqk4 ?wqk5 ?_; (case wqk1 => k_asm); (case wqk2 => k_asm); (case wqk3 => k_mem); (case wqk4 => omega); (case wqk5 => omega); k_whole); intro _ _ _ _ l1; (try k_lt l1); (have _ := l1); clear l1; (try k_sweep)))
  k_with "k_all" => (first | with_reducible assumption | (refine' List.forall_mem_cons.mpr ⟨?wqa, ?wqb⟩; (case wqa => k_ne); (case wqb => k_all)))
  k_with "exec While Name cons nil" => ((k_here; refine While_stop ?_))
  k_with "call builtin:list.append" => ((k_here; (with_reducible show wpAny _ _ (call (Value.builtin _) [Value.ref _, _]) _ _ _); k_dflt (refine' append_led ?wqk1 ?wqk2 ?wqk3 ?wqk4 ?_; (case wqk1 => k_asm); (case wqk2 => k_asm); (case wqk3 => k_upd); (case wqk4 => (rw [sizeLine_eq]; (try simp only [List.length_append, List.length_cons, List.length_nil]); omega)); k_whole); intro _ _ _; (try k_sweep)))
  k_with "WPost" => ((dsimp only [WPost]))
  k_with "tb_rel" => (first | assumption | (refine RuleIn.mono (by assumption) ?_; intro p hp; (repeat (first | exact hp | refine List.mem_cons_of_mem _ ?_))) | (refine FileIn.mono (by assumption) ?_; intro p hp; (repeat (first | exact hp | refine List.mem_cons_of_mem _ ?_))))
  k_with "lsm_bools" => (with_reducible assumption)
  k_with "kaf_pre" => (first | assumption | (refine List.mem_cons_of_mem _ ?_; (k_extra "kaf_pre")))
  k_with "kaf_suf" => (first | exact UpdF.head (by first | assumption | k_all) | (refine' UpdF.tail ?wqua7 ?wqub7; (case wqua7 => k_ne); (case wqub7 => (k_extra "kaf_suf"))))
  k_with "kat_tups" => ((intro p hp; (repeat (first | exact hp | refine List.mem_cons_of_mem _ ?_))))
  trivial
-- the plain law: warnings, kinds, costs
theorem endNo_at {cs : List (Str × Bool)} {ds : List LRule} {i : Nat} {d : LRule} {c : Int} (hd : ds[i]? = some d) (hc : c ∈ d.live) :
    (endNo ⟨cs, ds.mapIdx toRule⟩ c == (i : Int)) = ((ds.take i).filter fun e => e.live.any (· == c)).isEmpty := by
  have hi : i < ds.length := (List.getElem?_eq_some_iff.mp hd).1
  have hli : (ds.mapIdx toRule)[i]? = some (toRule i d) := by rw [List.getElem?_mapIdx, hd]; rfl
  have hlive : liveAt c (toRule i d) = true := List.any_eq_true.mpr ⟨c, hc, by simp⟩
  cases hf : (ds.mapIdx toRule).find? (liveAt c) with
  | none =>
    have := List.find?_eq_none.mp hf _ (List.mem_of_getElem? hli)
    exact absurd hlive this
  | some R =>
    have en : endNo ⟨cs, ds.mapIdx toRule⟩ c = R.number := by
      unfold endNo
      show (((ds.mapIdx toRule).find? (liveAt c)).map (·.number)).getD (-1) = _
      rw [hf]; rfl
    obtain ⟨hp, f, hfl, hR, hmin⟩ := List.find?_eq_some_iff_getElem.mp hf
    have hfl' : f < ds.length := by simpa using hfl
    have eR : R = toRule f ds[f] := by
      rw [← hR, List.getElem_mapIdx]
    have hn : R.number = (f : Int) := by rw [eR]; rfl
    have hfi : f ≤ i := by
      refine Nat.le_of_not_lt fun hlt => ?_
      have := hmin i hlt
      rw [List.getElem_mapIdx] at this
      have e : ds[i] = d := by
        have := List.getElem?_eq_getElem hi
        rw [hd] at this
        exact (Option.some.inj this).symm
      rw [e, hlive] at this
      cases this
    rw [en, hn]
    by_cases e : f = i
    · subst e
      have h1 : ((ds.take f).filter fun e => e.live.any (· == c)) = [] := by
        rw [List.filter_eq_nil_iff]
        intro a ha hla
        obtain ⟨j, hj, e⟩ := List.mem_iff_getElem.mp ha
        have hjf : j < f := by rw [List.length_take] at hj; omega
        have := hmin j hjf
        rw [List.getElem_mapIdx] at this
        have e2 : ds[j] = a := by rw [← e, List.getElem_take]
        rw [e2] at this
        have h2 : liveAt c (toRule j a) = true := hla
        rw [h2] at this
        cases this
      rw [h1]
      simp
    · have hlt : f < i := by omega
      have h1 : ds[f] ∈ (ds.take i).filter fun e => e.live.any (· == c) := by
        refine List.mem_filter.mpr ⟨?_, ?_⟩
        · rw [List.mem_iff_getElem?]
          exact ⟨f, by rw [List.getElem?_take, if_pos hlt]; exact List.getElem?_eq_getElem hfl'⟩
        · rw [eR] at hp; exact hp
      cases hL : (ds.take i).filter fun e => e.live.any (· == c) with
      | nil => rw [hL] at h1; cases h1
      | cons a r =>
        simp only [List.isEmpty_cons, beq_eq_false_iff_ne, ne_eq]
        omega
theorem warn_rule {cs : List (Str × Bool)} {ds : List LRule} {bs : List Bool} {i : Nat} {d : LRule} (hd : ds[i]? = some d) : ruleWarn ⟨cs, ds.mapIdx toRule⟩ bs (toRule i d) = lawWarn ds ⟨cs, ds.mapIdx toRule⟩ bs i d := by
  unfold ruleWarn
  show (if (d.live.map fun c => bs.getD c.toNat false).any id = true then seconds ⟨cs, ds.mapIdx toRule⟩ (toRule i d) d.live else [⟨10 + 3 * (i : Int), Str.ofString "never live", Str.ofString ""⟩]) = _
  have ea : ((d.live.map fun c => bs.getD c.toNat false).any id) = !(d.live.filter fun c => bs.getD c.toNat false).isEmpty := by
    induction d.live with
    | nil => rfl
    | cons a r ih =>
      rw [List.map_cons, List.any_cons, ih, List.filter_cons]
      cases bs.getD a.toNat false <;> rfl
  cases he : (d.live.filter fun c => bs.getD c.toNat false).isEmpty with
  | true =>
    rw [lawWarn_nil he, if_neg (by rw [ea, he]; exact Bool.false_ne_true)]
  | false =>
    rw [lawWarn_cons he, if_pos (by rw [ea, he]; rfl)]
    unfold seconds lawSec
    have : (d.live.filter fun c => !(endNo ⟨cs, ds.mapIdx toRule⟩ c == (toRule i d).number)) = d.live.filter fun c => !((ds.take i).filter fun e => e.live.any (· == c)).isEmpty := by
      refine List.filter_congr fun c hc => ?_
      have := endNo_at (cs := cs) hd hc
      show (!(endNo ⟨cs, ds.mapIdx toRule⟩ c == (i : Int))) = _
      rw [this]
    rw [this]
    rfl
theorem warn_all {cs : List (Str × Bool)} {ds : List LRule} {bs : List Bool} : (ds.mapIdx toRule).flatMap (ruleWarn ⟨cs, ds.mapIdx toRule⟩ bs) = dueTo ds ⟨cs, ds.mapIdx toRule⟩ bs ds.length := by
  have H : ∀ i, i ≤ ds.length → ((ds.take i).mapIdx toRule).flatMap (ruleWarn ⟨cs, ds.mapIdx toRule⟩ bs) = dueTo ds ⟨cs, ds.mapIdx toRule⟩ bs i := by
    intro i
    induction i with
    | zero => intro _; rfl
    | succ i ih =>
      intro hi
      have hd : ds[i]? = some ds[i] := List.getElem?_eq_getElem (by omega)
      rw [take_snoc hd, List.mapIdx_concat, List.flatMap_append, List.flatMap_singleton, ih (by omega), dueTo_succ hd, List.length_take, Nat.min_eq_left (by omega), warn_rule hd]
  have := H ds.length (Nat.le_refl _)
  rw [List.take_length] at this
  exact this
theorem warn_ok {cs : List (Str × Bool)} {many : Nat} {ds : List LRule} {bs : List Bool} {n i : Nat} (h : NamesAre cs many) {w : WarnD} (hw : w ∈ neverIn ⟨cs, ds.mapIdx toRule⟩ bs n ++ dueTo ds ⟨cs, ds.mapIdx toRule⟩ bs i) : w.data.canLay0 = true ∧ w.data.depth ≤ 5 := by
  have key : PyData.strOk w.kind = true ∧ PyData.strOk w.name = true := by
    rcases List.mem_append.mp hw with hw | hw
    · obtain ⟨k, _, rfl⟩ := List.mem_map.mp hw
      exact ⟨by show PyData.strOk (Str.ofString "never entered") = true; decide +kernel, nameOf_ok h k⟩
    · obtain ⟨k, _, hw⟩ := List.mem_flatMap.mp hw
      cases hd : ds[k]? with
      | none => rw [hd] at hw; cases hw
      | some d =>
        rw [hd] at hw
        have hw : w ∈ lawWarn ds ⟨cs, ds.mapIdx toRule⟩ bs k d := hw
        unfold lawWarn at hw
        split at hw
        · rw [List.mem_singleton.mp hw]
          exact ⟨by show PyData.strOk (Str.ofString "never live") = true; decide +kernel, by show PyData.strOk (Str.ofString "") = true; decide +kernel⟩
        · obtain ⟨c, _, rfl⟩ := List.mem_map.mp hw
          exact ⟨by show PyData.strOk (Str.ofString "second end") = true; decide +kernel, nameOf_ok h _⟩
  obtain ⟨l, x, y⟩ := w
  constructor
  · show PyData.canLay0 (.tuple [.int l, .str x, .str y]) = true
    rw [PyData.canLay0, PyData.canLayAll0, PyData.canLayAll0, PyData.canLayAll0, PyData.canLayAll0, PyData.canLay0, PyData.canLay0, PyData.canLay0, key.1, key.2]
    rfl
  · show PyData.depth (.tuple [.int l, .str x, .str y]) ≤ 5
    rw [PyData.depth, PyData.depthAll, PyData.depthAll, PyData.depthAll, PyData.depthAll, PyData.depth, PyData.depth, PyData.depth]
    decide
def addK (ks : List Str) (x : Str) : List Str := if ks.any (· == x) then ks else ks ++ [x]
theorem rets_nil {ss : List LStep} (h : ∀ s ∈ ss, s.word ≠ Str.ofString "return") : rets ss = [] := by
  unfold rets
  rw [List.flatMap_eq_nil_iff]
  intro s hs
  unfold ret1
  rw [if_neg (by simpa using h s hs)]
theorem kindIn_eq {many : Int} {i : Nat} {d : LRule} (hO : RuleOk many d) (ks : List Str) : kindIn ks (toRule i d) = (rets d.steps).foldl addK ks := by
  obtain ⟨as, bs, e, ha, hb⟩ := hO.2.2.2.2
  have ef : ∀ ss : List LStep, (∀ s ∈ ss, s.word ≠ Str.ofString "return") → (ss.map toStep).find? isRet = none := by
    intro ss h
    rw [List.find?_eq_none]
    intro s hs hr
    obtain ⟨l, hl, rfl⟩ := List.mem_map.mp hs
    have : (l.word == Str.ofString "return") = true := hr
    exact h l hl (by simpa using this)
  have er : rets d.steps = rets bs := by
    rw [e]
    unfold rets
    rw [List.flatMap_append]
    have := rets_nil ha
    unfold rets at this
    rw [this]; rfl
  have ek : kindOf (toRule i d).steps = kindOf (bs.map toStep) := by
    show kindOf (d.steps.map toStep) = _
    unfold kindOf
    rw [e, List.map_append, List.find?_append, ef as ha]; rfl
  unfold kindIn
  rw [ek, er]
  match bs, hb, e with
  | [], _, _ => rfl
  | [b], _, e =>
    have hbs : StepOk many b := hO.2.1 b (by rw [e]; exact List.mem_append.mpr (.inr (.head _)))
    have e1 : rets [b] = ret1 b := by unfold rets; rw [List.flatMap_singleton]
    rw [e1]
    cases hr : (b.word == Str.ofString "return") with
    | false =>
      have k1 : kindOf [toStep b] = none := by
        unfold kindOf
        rw [List.find?_cons_of_neg (by show ¬ (b.word == Str.ofString "return") = true; rw [hr]; exact Bool.false_ne_true)]; rfl
      have k2 : ret1 b = [] := by unfold ret1; rw [hr]; rfl
      show (match kindOf [toStep b] with | none => ks | some x => if ks.any (· == x) then ks else ks ++ [x]) = _
      rw [k1, k2]; rfl
    | true =>
      obtain ⟨x, y⟩ := b
      have hx : x = Str.ofString "return" := by simpa using hr
      rcases hbs with ⟨hw, _⟩ | ⟨hw, _⟩ | ⟨_, z, hz, _⟩
      · exfalso
        dsimp only at hw
        rw [hx] at hw
        rcases hw with hw | hw <;> revert hw <;> decide +kernel
      · exfalso
        dsimp only at hw
        rw [hx] at hw
        rcases hw with hw | hw <;> revert hw <;> decide +kernel
      · dsimp only at hz
        subst hz
        have k1 : kindOf [toStep ⟨x, .str z⟩] = some z := by
          unfold kindOf
          rw [List.find?_cons_of_pos (by exact hr)]; rfl
        have k2 : ret1 ⟨x, .str z⟩ = [z] := by unfold ret1; rw [if_pos hr]
        show (match kindOf [toStep ⟨x, .str z⟩] with | none => ks | some x => if ks.any (· == x) then ks else ks ++ [x]) = _
        rw [k1, k2]; rfl
theorem kinds_eq {many : Int} {ds : List LRule} (hO : ∀ d ∈ ds, RuleOk many d) : kindsD (ds.mapIdx toRule) = (retsTo ds ds.length).foldl addK [] := by
  have H : ∀ i, i ≤ ds.length → kindsD ((ds.take i).mapIdx toRule) = (retsTo ds i).foldl addK [] := by
    intro i
    induction i with
    | zero => intro _; rfl
    | succ i ih =>
      intro hi
      have hd : ds[i]? = some ds[i] := List.getElem?_eq_getElem (by omega)
      rw [take_snoc hd, List.mapIdx_concat, kindsD_snoc, ih (by omega), retsTo_succ hd, List.foldl_append, kindIn_eq (hO _ (List.mem_of_getElem? hd))]
  have := H ds.length (Nat.le_refl _)
  rw [List.take_length] at this
  exact this
theorem stored_keys {kvs : List (Str × Value)} {x : Str} {v : Value} : (stored kvs x v).map (·.1) = addK (kvs.map (·.1)) x := by
  unfold stored addK
  have e : (kvs.map (·.1)).any (· == x) = kvs.any (fun kv => decide (kv.1 = x)) := by
    rw [List.any_map]
    congr 1
  rw [e]
  split
  · exact keys_map_store ..
  · rw [List.map_append]; rfl
theorem merged_keys : ∀ (xs : List Str) (kvs : List (Str × Value)), (merged kvs (kvOf xs)).map (·.1) = xs.foldl addK (kvs.map (·.1))
  | [], _ => rfl
  | x :: xs, kvs => by
    show (merged (stored kvs x (.bool true)) (kvOf xs)).map (·.1) = xs.foldl addK (addK (kvs.map (·.1)) x)
    rw [merged_keys xs, stored_keys]

theorem sortedS_pairwise : ∀ {l : List Str}, sortedS l = true → l.Pairwise (fun a b => a.cps.toList ≤ b.cps.toList)
  | [], _ => .nil
  | [_], _ => List.pairwise_singleton _ _
  | x :: y :: r, h => by
    have h' : (!Spec.ltCps y.cps.toList x.cps.toList && risingS y r) = true := h
    rw [Bool.and_eq_true] at h'
    have ih := sortedS_pairwise (l := y :: r) h'.2
    have hxy : x.cps.toList ≤ y.cps.toList := by
      have := h'.1
      rw [ltCps_eq] at this
      simpa using this
    refine List.pairwise_cons.mpr ⟨fun z hz => ?_, ih⟩
    rcases List.mem_cons.mp hz with rfl | hz
    · exact hxy
    · exact List.le_trans hxy ((List.pairwise_cons.mp ih).1 z hz)
theorem sorted_unique {a b : List Str} (hp : a.Perm b) (ha : sortedS a = true) (hb : sortedS b = true) : a = b := by
  refine List.Perm.eq_of_pairwise (le := fun a b : Str => a.cps.toList ≤ b.cps.toList) ?_ (sortedS_pairwise ha) (sortedS_pairwise hb) hp
  intro x y _ _ h1 h2
  have := List.le_antisymm h1 h2
  obtain ⟨x⟩ := x
  obtain ⟨y⟩ := y
  have e : x = y := Array.toList_inj.mp this
  rw [e]
theorem kinds_law {many : Int} {ds : List LRule} {ss kss : List Str} (hO : ∀ d ∈ ds, RuleOk many d) (h1 : ss.Perm (kindsD (ds.mapIdx toRule))) (h2 : sortedS ss = true) (h3 : kss.Perm ((merged [] (kvOf (retsTo ds ds.length))).map (·.1))) (h4 : sortedS kss = true) : ss = kss := by
  refine sorted_unique ?_ h2 h4
  rw [merged_keys] at h3
  rw [kinds_eq hO] at h1
  exact h1.trans h3.symm
theorem no_costs {cs : List (Str × Bool)} {many : Int} {ds : List LRule} (hO : ∀ d ∈ ds, RuleOk many d) : ∀ R ∈ ({ conds := cs, rules := ds.mapIdx toRule } : FileD).rules, R.steps.any (hasWord (Str.ofString "more")) = false ∧ R.steps.any (hasWord (Str.ofString "reject")) = false := by
  intro R hR
  obtain ⟨i, d, hd, rfl⟩ := mem_rules.mp hR
  have hOd := (hO d (List.mem_of_getElem? hd)).2.1
  have H : ∀ s ∈ d.steps, (s.word == Str.ofString "more") = false ∧ (s.word == Str.ofString "reject") = false := by
    intro s hs
    obtain ⟨x, y⟩ := s
    rcases hOd _ hs with ⟨hw | hw, _⟩ | ⟨hw | hw, _⟩ | ⟨hw, _⟩ <;> (dsimp only at hw; subst hw; dsimp only; decide +kernel)
  constructor
  · rw [List.any_eq_false]
    intro s' hs' h
    obtain ⟨l, hl, rfl⟩ := List.mem_map.mp (show s' ∈ d.steps.map toStep from hs')
    have h : (l.word == Str.ofString "more") = true := h
    rw [(H l hl).1] at h; cases h
  · rw [List.any_eq_false]
    intro s' hs' h
    obtain ⟨l, hl, rfl⟩ := List.mem_map.mp (show s' ∈ d.steps.map toStep from hs')
    have h : (l.word == Str.ofString "reject") = true := h
    rw [(H l hl).2] at h; cases h
theorem strs_lay {ss : List Str} (h : ∀ x ∈ ss, PyData.strOk x = true) : ∀ d ∈ ss.map PyData.str, d.canLay0 = true ∧ d.depth ≤ 5 := by
  intro d hd
  obtain ⟨x, hx, rfl⟩ := List.mem_map.mp hd
  exact ⟨by rw [PyData.canLay0]; exact h x hx, by rw [PyData.depth]; decide⟩
theorem foldl_addK_mem : ∀ {xs ks : List Str} {x : Str}, x ∈ xs.foldl addK ks → x ∈ ks ∨ x ∈ xs
  | [], _, _, h => .inl h
  | y :: xs, ks, x, h => by
    rcases foldl_addK_mem (xs := xs) (ks := addK ks y) h with h | h
    · unfold addK at h
      split at h
      · exact .inl h
      · rcases List.mem_append.mp h with h | h
        · exact .inl h
        · rw [List.mem_singleton.mp h]; exact .inr (.head _)
    · exact .inr (.tail _ h)
theorem rets_ok {many : Int} {ds : List LRule} (hO : ∀ d ∈ ds, RuleOk many d) : ∀ x ∈ retsTo ds ds.length, PyData.strOk x = true := by
  intro x hx
  unfold retsTo at hx
  rw [List.take_length] at hx
  obtain ⟨d, hd, hx⟩ := List.mem_flatMap.mp hx
  obtain ⟨s, hs, hx⟩ := List.mem_flatMap.mp hx
  unfold ret1 at hx
  split at hx
  · rcases (hO d hd).2.1 s hs with ⟨_, z, hz, _⟩ | ⟨_, hz⟩ | ⟨_, z, hz, ho⟩
    · rw [hz] at hx; cases hx
    · rw [hz] at hx; cases hx
    · rw [hz] at hx
      have hx : x ∈ [z] := hx
      rw [List.mem_singleton.mp hx]; exact ho
  · cases hx
theorem kss_ok {many : Int} {ds : List LRule} {kss : List Str} (hO : ∀ d ∈ ds, RuleOk many d) (h3 : kss.Perm ((merged [] (kvOf (retsTo ds ds.length))).map (·.1))) : ∀ x ∈ kss, PyData.strOk x = true := by
  intro x hx
  have hx := h3.mem_iff.mp hx
  rw [merged_keys] at hx
  rcases foldl_addK_mem hx with h | h
  · cases h
  · exact rets_ok hO x h

theorem canLayAll_of : ∀ {xs : List PyData}, (∀ x ∈ xs, x.canLay0 = true ∧ x.depth ≤ 5) → PyData.canLayAll0 xs = true
  | [], _ => rfl
  | x :: xs, h => by
    rw [PyData.canLayAll0, (h x (.head _)).1, canLayAll_of fun y hy => h y (.tail _ hy)]; rfl
theorem bools_each (bs : List Bool) : ∀ x ∈ bs.map PyData.bool, x.canLay0 = true ∧ x.depth ≤ 5 := by
  intro x hx
  obtain ⟨b, _, rfl⟩ := List.mem_map.mp hx
  exact ⟨rfl, by show (0 : Nat) ≤ 5; decide⟩
theorem bools_lay (bs : List Bool) : PyData.canLayAll0 (bs.map PyData.bool) = true := canLayAll_of (bools_each bs)
theorem shaped_bools (bs : List Bool) : SeqAt.shaped (.list (bs.map PyData.bool)) = true := shaped_list (bools_each bs)
end
section
example : True := by
  k_with_none
  k_with "k_ne" => ((refine neN ?_; (try dsimp only); with_reducible first | assumption | exact Nat.ne_of_lt (by assumption) | exact Nat.ne_of_gt (by assumption) | exact neC1 (by assumption) | exact (neC1 (by assumption)).symm | exact neC2 (by assumption) | exact (neC2 (by assumption)).symm | exact neC3 (by assumption) | exact (neC3 (by assumption)).symm | exact neC4 (by assumption) | exact (neC4 (by assumption)).symm | exact neD2 (by assumption) | exact (neD2 (by assumption)).symm | exact neD3 (by assumption) | exact (neD3 (by assumption)).symm | exact neC5 (by assumption) | exact (neC5 (by assumption)).symm))
  k_with "ktr_room" => (first | decide | (refine' room_of (c := 1) ?wqh9 ?wqe9 ?wqk9; (case wqh9 => with_reducible assumption); (case wqe9 => exact rfl); (case wqk9 => decide)) | (refine' room_of (c := 0) ?wqh9 ?wqe9 ?wqk9; (case wqh9 => with_reducible assumption); (case wqe9 => exact rfl); (case wqk9 => decide)) | (refine' room_at (c := 0) ?wqh9 ?wqe9 ?wqk9; (case wqh9 => with_reducible assumption); (case wqe9 => exact rfl); (case wqk9 => decide)) | (refine' room_at (c := 1) ?wqh9 ?wqe9 ?wqk9; (case wqh9 => with_reducible assumption); (case wqe9 => exact rfl); (case wqk9 => decide)) | fail "room")
  k_with "ktr_units" => (first | decide | (refine' room_of (c := 3) ?wqh9 ?wqe9 ?wqk9; (case wqh9 => with_reducible assumption); (case wqe9 => exact rfl); (case wqk9 => decide)) | (refine' room_of (c := 0) ?wqh9 ?wqe9 ?wqk9; (case wqh9 => with_reducible assumption); (case wqe9 => exact rfl); (case wqk9 => decide)) | fail "units")
  k_with "exec For Name Attribute cons nil" => ((k_here; (with_reducible show wpAny _ _ (exec (Stmt.For _ _ _ [] _) _) _ _ _); with_unfolding_all refine For_any ?_))
  k_with "exec For Name Name cons nil" => ((k_here; (with_reducible show wpAny _ _ (exec (Stmt.For _ _ _ [] _) _) _ _ _); with_unfolding_all refine For_any ?_))
  k_with "exec For Name Call cons nil" => ((k_here; (with_reducible show wpAny _ _ (exec (Stmt.For _ _ _ [] _) _) _ _ _); with_unfolding_all refine For_any ?_))
  k_with "exec For Name Subscript cons nil" => ((k_here; (with_reducible show wpAny _ _ (exec (Stmt.For _ _ _ [] _) _) _ _ _); with_unfolding_all refine For_any ?_))
  k_with "exec For Name Tuple cons nil" => ((k_here; (with_reducible show wpAny _ _ (exec (Stmt.For _ _ _ [] _) _) _ _ _); with_unfolding_all refine For_any ?_))
  k_with "exec For Tuple Call cons nil" => ((k_here; (with_reducible show wpAny _ _ (exec (Stmt.For _ _ _ [] _) _) _ _ _); with_unfolding_all refine For_any ?_))
  k_with "exec For Tuple Name cons nil" => ((k_here; (with_reducible show wpAny _ _ (exec (Stmt.For _ _ _ [] _) _) _ _ _); with_unfolding_all refine For_any ?_))
  k_with "exec For Tuple Subscript cons nil" => ((k_here; (with_reducible show wpAny _ _ (exec (Stmt.For _ _ _ [] _) _) _ _ _); with_unfolding_all refine For_any ?_))
  k_with "LPost" => ((dsimp only [LPost]))
  k_with "call builtin:len" => ((k_here; (with_reducible show wpAny _ _ (call (Value.builtin "len") [Value.ref _]) _ _ _); k_dflt (refine' len_led ?wqk1 ?wqk2 ?wqk3 ?_; (case wqk1 => k_asm); (case wqk2 => k_mem); (case wqk3 => omega); k_whole)))
  k_with "subscriptTail" => ((k_here; (with_reducible show wpAny _ _ (subscriptTail _ _ (Value.ref _) (Value.int _ _)) _ _ _); (with_unfolding_all refine' item_led ?wqk1 ?wqk2 ?wqk3 ?wqk4 ?wqk5 ?_ ?wqk6; (case wqk1 => k_asm); (case wqk2 => k_mem); (case wqk5 => first | assumption | (simp only [Int.toNat_natCast]; assumption)); (case wqk3 => omega); (case wqk4 => omega); (case wqk6 => with_unfolding_all rfl); k_whole)))
  k_with "tb_start" => ((intro y hy; (try dsimp only); (simp only [List.contains_cons, List.contains_nil, Bool.or_false, Bool.or_eq_false_iff] at hy); (have hy2 := hy); (simp only [beq_eq_false_iff_ne, ne_eq] at hy2); (simp only [List.contains_cons, List.contains_nil, hy, hy2, Bool.or_false, Bool.false_eq_true, if_false])))
  k_with "eval ListComp" => ((k_here; k_dflt (refine LCg.ListComp_U (F₀ := by k_asm) (by with_unfolding_all rfl) (by decide) (by rfl) (by decide) (by rfl) ?_)))
  k_with "eval ListComp" => ((k_here; k_dflt (refine LCt.ListComp_T (F₀ := by k_asm) (by with_unfolding_all rfl) (by decide) (by rfl) (by decide) (by rfl) ?_)))
  k_with "k_mem" => (first | exact List.Mem.head _ | ktr_member | (refine' List.mem_cons_of_mem _ ?_; k_mem))
  k_with "setItem ref int" => ((k_here; (with_reducible show wpAny _ _ (setItem (Value.ref _) (Value.int _ _) _) _ _ _); k_dflt (refine' set_led ?wqk1 ?wqk2 ?wqk3 ?wqk5 ?wqk6 ?wqk7 ?_; (case wqk1 => k_asm); (case wqk2 => k_asm); (case wqk3 => k_upd); (case wqk5 => omega); (case wqk6 => first | assumption | omega | (simp only [List.length_replicate, List.length_set, Int.toNat_natCast] at *; omega)); (case wqk7 => omega); k_whole); intro _ _ _; (try k_sweep)))
  k_with "call builtin:list.pop" => ((k_here; (with_reducible show wpAny _ _ (call (Value.builtin _) [Value.ref _]) _ _ _); k_dflt (refine' pop_led ?wqk1 ?wqk2 ?wqk3 ?wqk4 ?_; (case wqk1 => k_asm); (case wqk2 => k_asm); (case wqk3 => k_upd); (case wqk4 => (first | (rw [sizeLine_eq]; omega) | size_fits)); k_whole); intro _ _ _; (try k_sweep)))
  k_with "truthy ref" => ((k_here; k_dflt (first | (refine' truth_nil ?wqk1 ?wqk2 ?_; (case wqk1 => k_asm); (case wqk2 => k_mem)) | (refine' truth_snoc ?wqk1 ?wqk2 ?wqk3 ?_; (case wqk1 => k_asm); (case wqk2 => k_mem); (case wqk3 => omega)))))
  k_with "binaryOp Mult ref int" => ((k_here; k_dflt (refine' mul_led ?wqk1 ?wqk2 ?wqk3 ?wqk4 ?wqk5 ?_; (case wqk1 => k_asm); (case wqk2 => k_asm); (case wqk3 => k_mem); (case wqk4 => omega); (case wqk5 => omega); k_whole); intro _ _ _ _ l1; (try k_lt l1); (have _ := l1); clear l1; (try k_sweep)))
  k_with "k_all" => (first | with_reducible assumption | (refine' List.forall_mem_cons.mpr ⟨?wqa, ?wqb⟩; (case wqa => k_ne); (case wqb => k_all)))
  k_with "exec While Name cons nil" => ((k_here; refine While_stop ?_))
  k_with "call builtin:list.append" => ((k_here; (with_reducible show wpAny _ _ (call (Value.builtin _) [Value.ref _, _]) _ _ _); k_dflt (refine' append_led ?wqk1 ?wqk2 ?wqk3 ?wqk4 ?_; (case wqk1 => k_asm); (case wqk2 => k_asm); (case wqk3 => k_upd); (case wqk4 => (rw [sizeLine_eq]; (try simp only [List.length_append, List.length_cons, List.length_nil]); omega)); k_whole); intro _ _ _; (try k_sweep)))
  k_with "WPost" => ((dsimp only [WPost]))
  k_with "tb_rel" => (first | assumption | (refine RuleIn.mono (by assumption) ?_; intro p hp; (repeat (first | exact hp | refine List.mem_cons_of_mem _ ?_))) | (refine FileIn.mono (by assumption) ?_; intro p hp; (repeat (first | exact hp | refine List.mem_cons_of_mem _ ?_))))
  k_with "lsm_bools" => (with_reducible assumption)
  k_with "kaf_pre" => (first | assumption | (refine List.mem_cons_of_mem _ ?_; (k_extra "kaf_pre")))
  k_with "kaf_suf" => (first | exact UpdF.head (by first | assumption | k_all) | (refine' UpdF.tail ?wqua7 ?wqub7; (case wqua7 => k_ne); (case wqub7 => (k_extra "kaf_suf"))))
  k_with "kat_tups" => ((intro p hp; (repeat (first | exact hp | refine List.mem_cons_of_mem _ ?_))))
  trivial
theorem namesX : namesOk hd.view_39 (looseW hd.view_39 []) (namesW hd.view_39 []) = true := by decide +kernel
theorem importsX : PyProof.Rows.importsNone hd.view_39 = true := by decide +kernel
local macro_rules | `(tactic| k_qdec) => `(tactic| first | exact namesX | exact importsX)
def Lim (v b : Int) : Prop := v < b
theorem Lim.mk {v b : Int} (h : v < b) : Lim v b := h
theorem Lim.many {m : Nat} {v : Int} (h : (m : Int) = 2 + v) (hv : Lim v 6) : Lim m 8 := by unfold Lim at *; omega
theorem Lim.far {v b : Int} (h : v < b) (hb : b ≤ 100) : v < 1000 := by omega
local macro_rules | `(tactic| walk_at "i4") => `(tactic| (intro r9 h9 tk9 nw9 F9 N9 P9; obtain ⟨v9, t8, t9, e8, b8, b9, e9⟩ := P9; subst e8; subst e9; have lim9 := Lim.mk b9; replace b9 := Lim.far b9 (by decide); (try dsimp only at N9); (try k_sweep)))
example : True := by
  k_with "call ref" => ((k_here; (with_reducible show wpAny _ _ (call (Value.ref 267) _) _ _ _); k_dflt (refine' Spec.use (draw_spec _ _ _ _ _ _ _ _ _ _ _ _ ?wqhU ?wqhc ?wqhi ?wqz1 ?wqz2 ?wqb0 ?wqb1 ?wql0 ?wql1) ?wqk1 ?wqk2 ?wqk3 ?wqk4 ?wqk5 ?wqk6 ?wqk7 ?wqk8 ?_; (case wqk1 => k_asm); (case wqk2 => k_asm); (case wqk3 => k_asm); (case wqk4 => k_asm); (case wqk5 => k_asm); (case wqk6 => first | exact rfl | assumption); (case wqhU => (k_extra "kaf_suf")); (case wqhc => (k_extra "kaf_pre")); (case wqhi => assumption); (case wqz1 => first | assumption | omega); (case wqz2 => first | assumption | omega); (case wqb0 => omega); (case wqb1 => omega); (case wql0 => omega); (case wql1 => omega); (case wqk7 => ktr_room); (case wqk8 => ktr_units); k_whole); walk_at "i4"))
  k_with "call ref" => ((k_here; (with_reducible show wpAny _ _ (call (Value.ref 256) _) _ _ _); k_dflt (refine' Spec.use (newFile_spec _ _ _ _) ?wqk1 ?wqk2 ?wqk3 ?wqk4 ?wqk5 ?wqk6 ?wqk7 ?wqk8 ?_; (case wqk1 => k_asm); (case wqk2 => k_asm); (case wqk3 => k_asm); (case wqk4 => k_asm); (case wqk5 => k_asm); (case wqk6 => first | exact rfl | assumption); (case wqk7 => ktr_room); (case wqk8 => ktr_units); k_whole); intro _ _ _ _ _ _ P9; obtain ⟨_, _, _, _, _, _, _, _, _, _, _, _, _, _, e8, e9, off9, _⟩ := P9; subst e8; subst e9; k_lt off9; (have _ := off9); clear off9))
  k_with "call ref" => ((k_here; (with_reducible show wpAny _ _ (call (Value.ref 201) _) _ _ _); k_dflt (refine' Spec.use (newRule_spec _ _ _ _ _ _ _) ?wqk1 ?wqk2 ?wqk3 ?wqk4 ?wqk5 ?wqk6 ?wqk7 ?wqk8 ?_; (case wqk1 => k_asm); (case wqk2 => k_asm); (case wqk3 => k_asm); (case wqk4 => k_asm); (case wqk5 => k_asm); (case wqk6 => first | exact rfl | assumption); (case wqk7 => ktr_room); (case wqk8 => ktr_units); k_whole); intro _ _ _ _ _ _ P9; obtain ⟨_, _, _, _, _, _, _, _, _, _, _, _, e8, e9, off9, _⟩ := P9; subst e8; subst e9; k_lt off9; (have _ := off9); clear off9))
  k_with "call ref" => ((k_here; (with_reducible show wpAny _ _ (call (Value.ref 142) _) _ _ _); k_dflt (refine' Spec.use (newStep_spec _ _ _ _) ?wqk1 ?wqk2 ?wqk3 ?wqk4 ?wqk5 ?wqk6 ?wqk7 ?wqk8 ?_; (case wqk1 => k_asm); (case wqk2 => k_asm); (case wqk3 => k_asm); (case wqk4 => k_asm); (case wqk5 => k_asm); (case wqk6 => first | exact rfl | assumption); (case wqk7 => ktr_room); (case wqk8 => ktr_units); k_whole); intro _ _ _ _ _ _ P9; obtain ⟨_, _, _, _, _, _, e8, e9, off9, _⟩ := P9; subst e8; subst e9; k_lt off9; (have _ := off9); clear off9))
  trivial
def CallA (prog : Program) (w : World) (A : Around) (f : Value) (vs : List Value) (Q : Value → Shared → Prop) (E : Value → Shared → Prop) (s : Shared) : Prop := wpAny (model prog w) A (call f vs) Q E s
theorem Call_stop {prog : Program} {w : World} {A : Around} {f : Value} {vs : List Value} {Q : Value → Shared → Prop} {E : Value → Shared → Prop} {s : Shared} (h : CallA prog w A f vs Q E s) : wpAny (model prog w) A (call f vs) Q E s := h
example : True := by
  k_with "call ref" => (((with_reducible show wpAny _ _ (call (Value.ref 274) _) _ _ _); refine Call_stop ?_))
  k_with "call ref" => (((with_reducible show wpAny _ _ (call (Value.ref 279) _) _ _ _); refine Call_stop ?_))
  k_with "call ref" => (((with_reducible show wpAny _ _ (call (Value.ref 84) _) _ _ _); refine Call_stop ?_))
  k_with "call ref" => (((with_reducible show wpAny _ _ (call (Value.ref 103) _) _ _ _); refine Call_stop ?_))
  k_with "call ref" => (((with_reducible show wpAny _ _ (call (Value.ref 77) _) _ _ _); refine Call_stop ?_))
  k_with "call ref" => (((with_reducible show wpAny _ _ (call (Value.ref 110) _) _ _ _); refine Call_stop ?_))
  k_with "kaf_suf" => (first | (refine UpdF.head ?_; first | with_reducible assumption | k_all) | (refine' UpdF.tail ?wqua7 ?wqub7; (case wqua7 => k_ne); (case wqub7 => (k_extra "kaf_suf"))))
  k_with "kaf_pre" => (first | with_reducible exact List.mem_cons_self | with_reducible assumption | (refine List.mem_cons_of_mem _ ?_; (k_extra "kaf_pre")))
  k_with "k_all" => ((with_reducible exact (List.forall_mem_nil _)))
  trivial
def IfA9 (prog : Program) (w : World) (A : Around) (env : Env) (a b c : Expr) (pos : Pos) (Q : Value → Shared → Prop) (E : Value → Shared → Prop) (s : Shared) : Prop := wpAny (model prog w) A (eval (.IfExp a b c pos) env) Q E s
theorem IfExp_stop9 {prog : Program} {w : World} {A : Around} {env : Env} {a b c : Expr} {pos : Pos} {Q : Value → Shared → Prop} {E : Value → Shared → Prop} {s : Shared} (h : IfA9 prog w A env a b c pos Q E s) : wpAny (model prog w) A (eval (.IfExp a b c pos) env) Q E s := h
example : True := by
  k_with "eval IfExp" => ((k_here; (with_reducible show wpAny _ _ (eval (Expr.IfExp (Expr.Name _ _) _ _ _) _) _ _ _); k_dflt (refine IfExp_stop9 ?_)))
  trivial
/-- the cells that the law draws from -/
def CellsP (g : Heap) (L : Addr) (m : Str → Option Value) (r : Led) (s : Shared) (v : Value) (s' : Shared) : Prop :=
  ∃ (ca : Addr) (cvs : List Value) (zs : List Int) (nc : Nat) (h' : Heap) (tk' : Nat), v = .ref ca ∧ s' = { s with heap := h', toks := tk' } ∧ Fr g L h' m ∧ News g L h' ((ca, listOf cvs.toArray nc) :: r) ∧ IntsAre cvs zs ∧ 1 ≤ zs.length ∧ zs.length ≤ 63 ∧ ∀ p ∈ r, @Ne Nat p.1 ca
theorem cells_join {prog : Program} {w : World} {A : Around} {E : Value → Shared → Prop} {s : Shared} {g : Heap} {L : Addr} {m : Str → Option Value} {Q : Value → Shared → Prop} {t : Sem Value} {r : Led}
    (_F : Fr g L s.heap m) (hA : wpAny (model prog w) A t (CellsP g L m r s) E s) (hB : ∀ v s', CellsP g L m r s v s' → Q v s') : wpAny (model prog w) A t Q E s :=
  wpAny_mono hA hB fun _ _ e => e
theorem dropB {a b : Addr × Obj} {r : Led} : ∀ p ∈ a :: r, p ∈ a :: b :: r := by
  intro p hp
  rcases List.mem_cons.mp hp with rfl | hp
  · exact .head _
  · exact .tail _ (.tail _ hp)
theorem nin2 {a b x : Addr} (h1 : @Ne Nat x a) (h2 : @Ne Nat x b) : x ∉ [a, b] := by
  intro h
  rcases List.mem_cons.mp h with e | h
  · exact h1 e
  · exact h2 (List.mem_singleton.mp h)
theorem split3 {g h : Heap} {L : Addr} {cA cI sa : Addr} {o1 o3 : Obj} {x : Str} {b : Bool} {t : Tok} {r : Led} (N : News g L h ((cA, o1) :: (cI, tupOf #[.str x t, .bool b] 0) :: (sa, o3) :: r)) : ∃ t', News g L h ([(cA, o1), (sa, o3)] ++ ((cI, tupOf #[.str x t', .bool b] 0) :: r)) := by
  refine ⟨t, cb_drop N fun p hp => ?_⟩
  rcases List.mem_cons.mp hp with rfl | hp
  · exact .head _
  · rcases List.mem_cons.mp hp with rfl | hp
    · exact .tail _ (.tail _ (.head _))
    · rcases List.mem_cons.mp hp with rfl | hp
      · exact .tail _ (.head _)
      · exact .tail _ (.tail _ (.tail _ hp))
theorem cond_cons {a : Addr × Obj} {tl r : Led} : ∀ v d, CondIn (tl ++ r) v d → CondIn (([a] ++ tl) ++ r) v d := fun _ _ q => q.mono fun _ hp => .tail _ hp
example : True := by
  k_with "eval ListComp" => ((refine List_stop ?_))
  trivial
theorem swapK {a b c : Addr × Obj} {r : Led} : ∀ p ∈ [b, c] ++ ([a] ++ r), p ∈ a :: b :: c :: r := by
  intro p hp
  rcases List.mem_cons.mp hp with rfl | hp
  · exact .tail _ (.head _)
  · rcases List.mem_cons.mp hp with rfl | hp
    · exact .tail _ (.tail _ (.head _))
    · rcases List.mem_cons.mp hp with rfl | hp
      · exact .head _
      · exact .tail _ (.tail _ (.tail _ hp))
theorem updF_app {d : Addr} {o : Obj} {r : Led} {g : Obj → Led} : ∀ {tl : Led}, (∀ p ∈ tl, p.1 ≠ d) → UpdF d o r g → UpdF d o (tl ++ r) (fun o' => tl ++ g o')
  | [], _, h => h
  | p :: tl, hp, h => .tail (hp p (.head _)) (updF_app (fun q hq => hp q (.tail _ hq)) h)
theorem swapL {a b c : Addr × Obj} {t r : Led} : ∀ p ∈ a :: b :: c :: (t ++ r), p ∈ t ++ (a :: b :: c :: r) := by
  intro p hp
  rcases List.mem_cons.mp hp with rfl | hp
  · exact List.mem_append.mpr (.inr (.head _))
  · rcases List.mem_cons.mp hp with rfl | hp
    · exact List.mem_append.mpr (.inr (.tail _ (.head _)))
    · rcases List.mem_cons.mp hp with rfl | hp
      · exact List.mem_append.mpr (.inr (.tail _ (.tail _ (.head _))))
      · rcases List.mem_append.mp hp with hp | hp
        · exact List.mem_append.mpr (.inl hp)
        · exact List.mem_append.mpr (.inr (.tail _ (.tail _ (.tail _ hp))))
theorem swapM {a b c d : Addr × Obj} {r : Led} : ∀ p ∈ [d] ++ ([a, b] ++ r), p ∈ a :: b :: c :: d :: r := by
  intro p hp
  rcases List.mem_cons.mp hp with rfl | hp
  · exact .tail _ (.tail _ (.tail _ (.head _)))
  · rcases List.mem_cons.mp hp with rfl | hp
    · exact .head _
    · rcases List.mem_cons.mp hp with rfl | hp
      · exact .tail _ (.head _)
      · exact .tail _ (.tail _ (.tail _ (.tail _ hp)))
theorem newX {l d x : Addr} {o1 o2 : Obj} (h1 : @LT.lt Nat _ l d) (h2 : @LT.lt Nat _ d x) : ∀ q ∈ [(x, o1), (d, o2)], q.1 ∉ [l] := by
  intro q hq hm
  rw [List.mem_singleton] at hm
  rcases List.mem_cons.mp hq with rfl | hq
  · exact Nat.ne_of_gt (Nat.lt_trans h1 h2) hm
  · rw [List.mem_singleton.mp hq] at hm
    exact Nat.ne_of_gt h1 hm
theorem apartX {d x : Addr} {o1 o2 : Obj} {r : Led} (h1 : AllLt d r) (h2 : @LT.lt Nat _ d x) : ∀ q ∈ [(x, o1), (d, o2)], ∀ p ∈ r, p.1 ≠ q.1 := by
  intro q hq p hp
  rcases List.mem_cons.mp hq with rfl | hq
  · exact Nat.ne_of_lt (Nat.lt_trans (tb_ltOf h1 p hp) h2)
  · rw [List.mem_singleton.mp hq]
    exact Nat.ne_of_lt (tb_ltOf h1 p hp)
theorem apartY {d x : Addr} {o1 o2 : Obj} {r r0 tl : Led} (hs : ∀ p ∈ r0, p ∈ r) (h1 : AllLt d r) (h2 : @LT.lt Nat _ d x) (h : ∀ q ∈ tl, ∀ p ∈ r0, p.1 ≠ q.1) : ∀ q ∈ [(x, o1), (d, o2)] ++ tl, ∀ p ∈ r0, p.1 ≠ q.1 := by
  intro q hq p hp
  rcases List.mem_append.mp hq with hq | hq
  · exact apartX h1 h2 q hq p (hs p hp)
  · exact h q hq p hp
theorem stepIn3 {x d : Addr} {k1 k2 : Int} {t1 t2 t3 : Tok} {word : Str} {v : Value} {o : Option Str} {r : Led} (h : WorthIs v o) : StepIn ([(x, instObj 142 d), (d, dictOf [⟨k1, .str "word" t1, .str word t3⟩, ⟨k2, .str "worth" t2, v⟩] 2)] ++ r) (.ref x) ⟨word, o⟩ :=
  .mk (.head _) (.tail _ (.head _)) h
example : True := by
  k_with "call type:tuple" => ((k_here; (with_reducible show wpAny _ _ (call (Value.type _) [Value.ref _]) _ _ _); k_dflt (refine' tup_led ?wqk1 ?wqk2 ?wqk3 ?wqk4 ?_; (case wqk1 => k_asm); (case wqk2 => k_asm); (case wqk3 => k_mem); (case wqk4 => (rw [sizeLine_eq]; omega)); k_whole); intro _ _ _ _ l1; (try k_lt l1); (have _ := l1); clear l1))
  trivial
theorem swapO {a b c d e : Addr × Obj} {t r rT : Led} (h : rT = e :: (t ++ r)) : ∀ p ∈ [d] ++ (([a, b, c, e] ++ t) ++ r), p ∈ a :: b :: c :: d :: rT := by
  intro p hp
  rw [h]
  rcases List.mem_cons.mp hp with rfl | hp
  · exact .tail _ (.tail _ (.tail _ (.head _)))
  · rcases List.mem_cons.mp hp with rfl | hp
    · exact .head _
    · rcases List.mem_cons.mp hp with rfl | hp
      · exact .tail _ (.head _)
      · rcases List.mem_cons.mp hp with rfl | hp
        · exact .tail _ (.tail _ (.head _))
        · exact .tail _ (.tail _ (.tail _ (.tail _ hp)))
theorem newO {l x d c e : Addr} {o1 o2 o3 o4 : Obj} {t : Led} (h1 : @LT.lt Nat _ l d) (h2 : @LT.lt Nat _ d x) (h3 : @LT.lt Nat _ l c) (h4 : @LT.lt Nat _ l e) (h5 : ∀ q ∈ t, q.1 ≠ l) : ∀ q ∈ [(x, o1), (d, o2), (c, o3), (e, o4)] ++ t, q.1 ∉ [l] := by
  intro q hq hm
  rw [List.mem_singleton] at hm
  rcases List.mem_cons.mp hq with rfl | hq
  · exact Nat.ne_of_gt (Nat.lt_trans h1 h2) hm
  · rcases List.mem_cons.mp hq with rfl | hq
    · exact Nat.ne_of_gt h1 hm
    · rcases List.mem_cons.mp hq with rfl | hq
      · exact Nat.ne_of_gt h3 hm
      · rcases List.mem_cons.mp hq with rfl | hq
        · exact Nat.ne_of_gt h4 hm
        · exact h5 q hq hm
theorem apartO {x d c e : Addr} {o1 o2 o3 o4 : Obj} {t r : Led} (h1 : AllLt d r) (h2 : @LT.lt Nat _ d x) (h3 : AllLt c r) (h4 : AllLt e r) (h5 : ∀ q ∈ t, ∀ p ∈ r, p.1 ≠ q.1) : ∀ q ∈ [(x, o1), (d, o2), (c, o3), (e, o4)] ++ t, ∀ p ∈ r, p.1 ≠ q.1 := by
  intro q hq p hp
  rcases List.mem_cons.mp hq with rfl | hq
  · exact Nat.ne_of_lt (Nat.lt_trans (tb_ltOf h1 p hp) h2)
  · rcases List.mem_cons.mp hq with rfl | hq
    · exact Nat.ne_of_lt (tb_ltOf h1 p hp)
    · rcases List.mem_cons.mp hq with rfl | hq
      · exact Nat.ne_of_lt (tb_ltOf h3 p hp)
      · rcases List.mem_cons.mp hq with rfl | hq
        · exact Nat.ne_of_lt (tb_ltOf h4 p hp)
        · exact h5 q hq p hp
theorem cell_list {o : Obj} {v : Option Value} {vs : List Value} {n : Nat} {P : Prop} (h : o.data = .cell v) (e : o = listOf vs.toArray n) : P := by
  rw [e] at h
  exact nomatch h
theorem file_split {g h : Heap} {L a d dd ca ra : Addr} {od : Obj} {x4 x5 : Addr × Obj} {k1 k2 k3 k4 k5 : Int} {t1 t2 t3 t4 t5 : Tok} {v4 v5 : Value} {rP : Led} (N : News g L h ((a, instObj 256 d) :: (d, dictOf [⟨k1, .str "definitions" t1, .ref dd⟩, ⟨k2, .str "conditions" t2, .ref ca⟩, ⟨k3, .str "rules" t3, .ref ra⟩, ⟨k4, .str "has_default" t4, v4⟩, ⟨k5, .str "tail" t5, v5⟩] 5) :: (dd, od) :: x4 :: x5 :: rP)) :
    ∃ rV : Led, News g L h (x4 :: x5 :: rV) ∧ (∀ p ∈ rP, p ∈ rV) ∧ (∀ p ∈ rV, p ∈ rP ∨ p.1 = a ∨ p.1 = d) ∧ ∀ conds rules cvs nc rvs nr, (ca, listOf cvs.toArray nc) ∈ rP → AllIn (CondIn rP) cvs conds → (ra, listOf rvs.toArray nr) ∈ rP → AllIn (RuleIn rP) rvs rules → cvs.length ≤ 100 → rvs.length ≤ 100 → FileIn rV (.ref a) ⟨conds, rules⟩ := by
  refine ⟨(a, instObj 256 d) :: (d, dictOf [⟨k1, .str "definitions" t1, .ref dd⟩, ⟨k2, .str "conditions" t2, .ref ca⟩, ⟨k3, .str "rules" t3, .ref ra⟩, ⟨k4, .str "has_default" t4, v4⟩, ⟨k5, .str "tail" t5, v5⟩] 5) :: rP, ?_, fun p hp => .tail _ (.tail _ hp), ?_, ?_⟩
  · refine cb_drop N fun p hp => ?_
    rcases List.mem_cons.mp hp with rfl | hp
    · exact .tail _ (.tail _ (.tail _ (.head _)))
    · rcases List.mem_cons.mp hp with rfl | hp
      · exact .tail _ (.tail _ (.tail _ (.tail _ (.head _))))
      · rcases List.mem_cons.mp hp with rfl | hp
        · exact .head _
        · rcases List.mem_cons.mp hp with rfl | hp
          · exact .tail _ (.head _)
          · exact .tail _ (.tail _ (.tail _ (.tail _ (.tail _ hp))))
  · intro p hp
    rcases List.mem_cons.mp hp with rfl | hp
    · exact .inr (.inl rfl)
    · rcases List.mem_cons.mp hp with rfl | hp
      · exact .inr (.inr rfl)
      · exact .inl hp
  · intro conds rules cvs nc rvs nr hc hcs hr hrs l1 l2
    exact .mk (.head _) (.tail _ (.head _)) (.tail _ (.tail _ hc)) (hcs.mono fun v d q => q.mono fun p hp => .tail _ (.tail _ hp)) (.tail _ (.tail _ hr)) (hrs.mono fun v d q => q.mono fun p hp => .tail _ (.tail _ hp)) l1 l2
def CompTA (prog : Program) (w : World) (A : Around) (h₀ : Heap) (L : Addr) (m : Str → Option Value) (env : Env) (ct elt : Expr) (x : Str) (scope : Scope) (cl : List (Str × Addr)) (Fin : Shared → List Value → Led → Prop) (xv : Value) (s₁ : Shared) : Prop := LCt.CompSrcT prog w A h₀ L m env ct elt x scope cl Fin xv s₁
theorem CompT_stop {prog : Program} {w : World} {A : Around} {h₀ : Heap} {L : Addr} {m : Str → Option Value} {env : Env} {ct elt : Expr} {x : Str} {scope : Scope} {cl : List (Str × Addr)} {Fin : Shared → List Value → Led → Prop} {xv : Value} {s₁ : Shared} (h : CompTA prog w A h₀ L m env ct elt x scope cl Fin xv s₁) : LCt.CompSrcT prog w A h₀ L m env ct elt x scope cl Fin xv s₁ := h
example : True := by
  k_with "exec Assign cons ListComp" => ((k_here; (with_reducible show wpAny _ _ (exec (Stmt.Assign [Expr.Name (Str.ofString "due") _] _ _) _) _ _ _); k_dflt (refine LCt.Assign_ListComp_T (F₀ := by k_asm) (by rfl) (by with_unfolding_all rfl) (by with_unfolding_all rfl) (by decide) (by rfl) (by decide) (by rfl) (by rfl) (by rfl) ?_)))
  k_with "CompSrcT" => ((refine CompT_stop ?_))
  trivial
theorem swapP {a b c d : Addr × Obj} {r : Led} : ∀ p ∈ a :: b :: c :: d :: r, p ∈ d :: a :: b :: c :: r := by
  intro p hp
  rcases List.mem_cons.mp hp with rfl | hp
  · exact .tail _ (.head _)
  · rcases List.mem_cons.mp hp with rfl | hp
    · exact .tail _ (.tail _ (.head _))
    · rcases List.mem_cons.mp hp with rfl | hp
      · exact .tail _ (.tail _ (.tail _ (.head _)))
      · rcases List.mem_cons.mp hp with rfl | hp
        · exact .head _
        · exact .tail _ (.tail _ (.tail _ (.tail _ hp)))
theorem swapQ {a b c d e : Addr × Obj} {r : Led} : ∀ p ∈ [d, e] ++ ([a] ++ r), p ∈ a :: b :: c :: d :: e :: r := by
  intro p hp
  rcases List.mem_cons.mp hp with rfl | hp
  · exact .tail _ (.tail _ (.tail _ (.head _)))
  · rcases List.mem_cons.mp hp with rfl | hp
    · exact .tail _ (.tail _ (.tail _ (.tail _ (.head _))))
    · rcases List.mem_cons.mp hp with rfl | hp
      · exact .head _
      · exact .tail _ (.tail _ (.tail _ (.tail _ (.tail _ hp))))
theorem swapR {a b c d e f : Addr × Obj} {r : Led} : ∀ p ∈ [e, f] ++ ([a] ++ r), p ∈ a :: b :: c :: d :: e :: f :: r := by
  intro p hp
  rcases List.mem_cons.mp hp with rfl | hp
  · exact .tail _ (.tail _ (.tail _ (.tail _ (.head _))))
  · rcases List.mem_cons.mp hp with rfl | hp
    · exact .tail _ (.tail _ (.tail _ (.tail _ (.tail _ (.head _)))))
    · rcases List.mem_cons.mp hp with rfl | hp
      · exact .head _
      · exact .tail _ (.tail _ (.tail _ (.tail _ (.tail _ (.tail _ hp)))))
theorem swapT {a i c d e : Addr × Obj} {tl r : Led} : ∀ p ∈ i :: c :: d :: e :: ((a :: tl) ++ r), p ∈ a :: i :: c :: d :: e :: (tl ++ r) := by
  intro p hp
  rcases List.mem_cons.mp hp with rfl | hp
  · exact .tail _ (.head _)
  · rcases List.mem_cons.mp hp with rfl | hp
    · exact .tail _ (.tail _ (.head _))
    · rcases List.mem_cons.mp hp with rfl | hp
      · exact .tail _ (.tail _ (.tail _ (.head _)))
      · rcases List.mem_cons.mp hp with rfl | hp
        · exact .tail _ (.tail _ (.tail _ (.tail _ (.head _))))
        · rcases List.mem_cons.mp hp with rfl | hp
          · exact .head _
          · exact .tail _ (.tail _ (.tail _ (.tail _ (.tail _ hp))))
structure Mark9 : Prop where
local macro_rules | `(tactic| walk_at "CompSrc") => `(tactic| (rename Mark9 => mk9; refine Comp_stop ?_))
theorem truth_cons {prog : Program} {w : World} {A : Around} {E : Value → Shared → Prop} {s : Shared} {h₀ : Heap} {L : Addr} {news : Led} {l : Addr} {n : Nat} {y : Value} {yr : List Value} {Q : Bool → Shared → Prop} (N : News h₀ L s.heap news) (hm : (l, listOf (y :: yr).toArray n) ∈ news) (hz : (y :: yr).length < 2 ^ 60) (h : Q true { s with toks := s.toks + 1 + 1 }) : wpAny (model prog w) A (truthy (.ref l)) Q E s := by
  have hl : s.heap.IsList l (y :: yr).toArray := ⟨_, (N _ hm).1, rfl, n, rfl⟩
  refine wpAny_truthy_list hl (by rw [List.size_toArray]; omega) ?_
  have e : (!(y :: yr).toArray.isEmpty) = true := by simp
  rw [e]
  exact h
example : True := by
  k_with "truthy ref" => ((k_here; k_dflt (refine' truth_cons ?wqk1 ?wqk2 ?wqk3 ?_; (case wqk1 => k_asm); (case wqk2 => k_mem); (case wqk3 => omega))))
  k_with "call type:dict" => (((with_reducible show wpAny _ _ (call (Value.type "dict") [Value.ref _]) _ _ _); refine Call_stop ?_))
  k_with "call builtin:sorted" => (((with_reducible show wpAny _ _ (call (Value.builtin "sorted") [Value.ref _]) _ _ _); refine Call_stop ?_))
  k_with "compareOp NotEq ref ref" => ((k_here; k_dflt (refine Cmp_stop ?_)))
  k_with "compareOp Eq ref ref" => ((k_here; k_dflt (refine Cmp_stop ?_)))
  k_with "compareOp Eq ref ref" => ((k_here; (with_reducible show wpAny _ _ (compareOp CmpOp.Eq (Value.ref _) (Value.ref _)) _ _ _); k_dflt (refine' eq_nil_led ?wqk1 ?wqk2 ?wqk3 ?wqk4 ?wqk5 ?wqk6 ?wqk7 ?_; (case wqk1 => k_asm); (case wqk2 => k_mem); (case wqk3 => k_mem); (case wqk4 => refine RdAll.mono (by with_reducible assumption) ?_; (k_extra "kat_tups")); (case wqk5 => with_reducible assumption); (case wqk6 => first | (simp only [Ak]; units_room) | units_room | ktr_units); (case wqk7 => with_reducible assumption); k_whole)))
  k_with "compareOp NotEq ref ref" => ((k_here; (with_reducible show wpAny _ _ (compareOp CmpOp.NotEq (Value.ref _) (Value.ref _)) _ _ _); k_dflt (refine' ne_nil_led ?wqk1 ?wqk2 ?wqk3 ?wqk4 ?wqk5 ?wqk6 ?wqk7 ?_; (case wqk1 => k_asm); (case wqk2 => k_mem); (case wqk3 => k_mem); (case wqk4 => refine RdAll.mono (by with_reducible assumption) ?_; (k_extra "kat_tups")); (case wqk5 => with_reducible assumption); (case wqk6 => first | (simp only [Ak]; units_room) | units_room | ktr_units); (case wqk7 => with_reducible assumption); k_whole)))
  k_with "compareOp In int ref" => ((k_here; (with_reducible show wpAny _ _ (compareOp CmpOp.In (Value.int _ _) (Value.ref _)) _ _ _); k_dflt (refine' in_led ?wqk1 ?wqk2 ?wqk3 ?wqk4 ?_; (case wqk1 => k_asm); (case wqk2 => k_mem); (case wqk3 => with_reducible assumption); (case wqk4 => with_reducible assumption); k_whole)))
  k_with "subscriptTail Name Slice ref ref" => ((k_here; (with_reducible show wpAny _ _ (subscriptTail _ (PySem.Expr.Slice none _ none _) (Value.ref _) (Value.ref _)) _ _ _); k_dflt (refine' slice_led ?wqF ?wqN ?wqm ?wqi ?wqz ?_ ?wqs ?wqt; (case wqF => k_asm); (case wqN => k_asm); (case wqm => k_mem); (case wqi => omega); (case wqz => rw [sizeLine_eq]; omega); (case wqs => with_unfolding_all rfl); (case wqt => kmk_pure)); intro _ _ _ _ l1; (try k_lt l1); (have _ := l1); clear l1; (try k_sweep)))
  k_with "newTuple" => ((k_here; (with_reducible show wpAny _ _ (newTuple [Value.int _ _, Value.str (Str.ofString "never live") _, Value.str _ _]) _ _ _); k_dflt (refine' kup_newTuple ?wqF ?wqN ?_ ?wqz; (case wqF => k_asm); (case wqN => k_asm); (case wqz => kmk_size)); intro _ _ _ _ l1; (try k_lt l1); (have _ := l1); clear l1; (try k_sweep)))
  k_with "newTuple" => ((k_here; (with_reducible show wpAny _ _ (newTuple [Value.int _ _, Value.str (Str.ofString "second end") _, Value.str _ _]) _ _ _); k_dflt (refine' kup_newTuple ?wqF ?wqN ?_ ?wqz; (case wqF => k_asm); (case wqN => k_asm); (case wqz => kmk_size)); intro _ _ _ _ l1; (try k_lt l1); (have _ := l1); clear l1; (try k_sweep)))
  trivial
set_option maxHeartbeats 20000000 in
theorem dev9 : PySem.Challenge.rw_on0169_01.Holds := Mine.hdW (by rfl) (by rfl) (by rfl) (by
  k_go0
  all_goals try k_fold
  rename Top _ _ _ _ _ _ => T'
  rename IntsAre _ _ => hI
  rename_i oA oS oC oM oR dA dS dC dM dR N0 _
  replace dA : oA.data = .cell none := dA
  replace dS : oS.data = .cell none := dS
  replace dC : oC.data = .cell none := dC
  replace dM : oM.data = .cell none := dM
  replace dR : oR.data = .cell none := dR
  rename Shared => s1
  refine hideA ?_; intro Ak
  k_steps
  rename Fr _ _ _ _ => lF
  rename News _ _ _ _ => lN
  rename IntsAre ys _ => hIy
  rename ys.length = _ => hLy
  rename_i D h9 tk9 oD
  generalize bindL _ _ _ = m0 at lF
  obtain ⟨r5, hr5⟩ : ∃ r5 : Led, r5 = [(s1.heap.objs.size + 1 + 1 + 1 + 1 + 1, oA), (s1.heap.objs.size + 1 + 1 + 1 + 1, oS), (s1.heap.objs.size + 1 + 1 + 1, oC), (s1.heap.objs.size + 1 + 1, oM), (s1.heap.objs.size + 1, oR)] := ⟨_, rfl⟩
  have lN2 : News s1.heap s1.heap.objs.size h9 ((D, LCg.lst ys) :: r5) := cb_drop lN (by
    intro p hp
    rcases List.mem_cons.mp hp with rfl | hp
    · exact .head _
    · rw [hr5] at hp; exact .tail _ (.tail _ hp))
  have oD' : ∀ p ∈ r5, p.1 ≠ D := by
    rw [hr5]
    exact off1_mem (by simpa [LCg.Off1] using oD.2)
  clear lN
  rw [List.map_id'] at hIy hLy
  have hl63 : ys.length ≤ 63 := by rw [hLy, List.length_take]; omega
  have hIl := hIy.length
  refine cells_join (r := r5) lF ?_ ?_
  · refine IfExp_ ?_
    cases ys with
    | nil =>
      k_steps
      rename News _ _ _ _ => kN
      rename Fr _ _ _ _ => kF
      rename _ ∧ AllLt _ r5 => l9
      exact ⟨_, _, [0], _, _, _, rfl, rfl, kF, cb_drop kN dropB, .cons _ _ .nil, by decide, by decide, fun p hp => Nat.ne_of_lt (tb_ltOf l9.2 p hp)⟩
    | cons y yr =>
      k_steps
      rename News _ _ _ _ => kN
      rename Fr _ _ _ _ => kF
      exact ⟨D, y :: yr, _, _, _, _, rfl, rfl, kF, kN, hIy, by simp only [List.length_cons] at *; omega, by omega, oD'⟩
  · clear lN2 oD' hl63 hIl hLy hIy oD lF
    rintro v s' ⟨ca, cvs, zs, nc, h1, tk1, rfl, rfl, F1, N1, hi, hz1, hz2, oca⟩
    rw [hr5] at N1 oca
    simp only [List.forall_mem_cons] at oca
    k_steps
    rename_i sa _ lS _ oR2 _ _ dR2 _ _ _ v9 t8 t9 b8 limM b9 _ oM2 dM2 _ cI _ lI cA _ lC _ oC2 _ _ dC2 _ _ ta tb tc rgX lF lN keep
    clear keep
    obtain ⟨many, hmany⟩ : ∃ many : Nat, (many : Int) = 2 + v9 := ⟨(2 + v9).toNat, by omega⟩
    have hmLim : Lim many 8 := Lim.many hmany limM
    rw [← hmany] at rgX
    have dM3 : ∃ t : Tok, oM2.data = .cell (some (.int many t)) := ⟨_, by rw [hmany]; exact dM2⟩
    obtain ⟨tM, dM4⟩ := dM3
    have dR3 : oR2.data = .cell (some (.ref sa)) := dR2
    have dC3 : oC2.data = .cell (some (.ref cA)) := dC2
    have hm2 : 2 ≤ many := by omega
    have hm3 : many < 2000 := by omega
    clear dM2 dR2 dC2 limM b8 b9 hmany
    obtain ⟨tI, lN2⟩ := split3 lN
    clear lN
    obtain ⟨rA, hrA⟩ : ∃ rA : Led, rA = (cI, tupOf #[Value.str (Str.ofString "INITIAL") tI, Value.bool false] 0) :: (ca, listOf cvs.toArray nc) :: [(s1.heap.objs.size + 1 + 1 + 1 + 1 + 1, oA), (s1.heap.objs.size + 1 + 1 + 1 + 1, oS), (s1.heap.objs.size + 1 + 1 + 1, oC2), (s1.heap.objs.size + 1 + 1, oM2), (s1.heap.objs.size + 1, oR2)] := ⟨_, rfl⟩
    rw [← hrA] at lN2
    have mI : (cI, tupOf #[Value.str (Str.ofString "INITIAL") tI, Value.bool false] 0) ∈ rA := by rw [hrA]; exact .head _
    have mca : (ca, listOf cvs.toArray nc) ∈ rA := by rw [hrA]; exact .tail _ (.head _)
    have mA : (s1.heap.objs.size + 1 + 1 + 1 + 1 + 1, oA) ∈ rA := by rw [hrA]; exact .tail _ (.tail _ (.head _))
    have mS : (s1.heap.objs.size + 1 + 1 + 1 + 1, oS) ∈ rA := by rw [hrA]; exact .tail _ (.tail _ (.tail _ (.head _)))
    have mC : (s1.heap.objs.size + 1 + 1 + 1, oC2) ∈ rA := by rw [hrA]; exact .tail _ (.tail _ (.tail _ (.tail _ (.head _))))
    have mM : (s1.heap.objs.size + 1 + 1, oM2) ∈ rA := by rw [hrA]; exact .tail _ (.tail _ (.tail _ (.tail _ (.tail _ (.head _)))))
    have mR : (s1.heap.objs.size + 1, oR2) ∈ rA := by rw [hrA]; exact .tail _ (.tail _ (.tail _ (.tail _ (.tail _ (.tail _ (.head _))))))
    have ltS : @LT.lt Nat _ sa cA := lC.2.1
    have offA : ∀ p ∈ rA, p.1 ∉ [cA, sa] := by
      rw [hrA]
      obtain ⟨x1, x2, x3, x4, x5, x6, x7, x8⟩ := lC
      obtain ⟨y2, y3, y4, y5, y6, y7⟩ := lS
      have z1 : @LT.lt Nat _ sa cI := lI.1
      exact List.forall_mem_cons.mpr ⟨nin2 (Nat.ne_of_lt x1) (Nat.ne_of_gt z1), List.forall_mem_cons.mpr ⟨nin2 (Nat.ne_of_lt x3) (Nat.ne_of_lt y2), List.forall_mem_cons.mpr ⟨nin2 (Nat.ne_of_lt x4) (Nat.ne_of_lt y3), List.forall_mem_cons.mpr ⟨nin2 (Nat.ne_of_lt x5) (Nat.ne_of_lt y4), List.forall_mem_cons.mpr ⟨nin2 (Nat.ne_of_lt x6) (Nat.ne_of_lt y5), List.forall_mem_cons.mpr ⟨nin2 (Nat.ne_of_lt x7) (Nat.ne_of_lt y6), List.forall_mem_cons.mpr ⟨nin2 (Nat.ne_of_lt x8) (Nat.ne_of_lt y7), List.forall_mem_nil _⟩⟩⟩⟩⟩⟩⟩
    have neI : @LT.lt Nat _ (s1.heap.objs.size + 1 + 1 + 1 + 1 + 1) cI ∧ @LT.lt Nat _ (s1.heap.objs.size + 1 + 1 + 1 + 1) cI := ⟨lI.2.2.1, lI.2.2.2.1⟩
    clear lC lS lI
    refine over_range (n := many - 1) (σ := List Value × Nat × Int × Tok) (adr := [cA, sa]) (r₀ := rA) (fun c => [(cA, listOf c.1.toArray c.2.1), (sa, listOf #[Value.ref ca, Value.int c.2.2.1 c.2.2.2] 0)]) [Str.ofString "turn"]
      (fun i c tl _ => (c.2.2.1 = 1 + (i : Int) ∧ ∀ q ∈ tl, ∀ p ∈ rA, p.1 ≠ q.1) ∧ ∃ cs : List (Str × Bool), AllIn (CondIn (tl ++ [(cI, tupOf #[Value.str (Str.ofString "INITIAL") tI, Value.bool false] 0)])) c.1 cs ∧ cs.length = i + 1 ∧ ∀ k, k < i + 1 → (cs[k]?).map (·.1) = some (cName k)) ([Value.ref cI], 0, 0 + 1, t9) rfl rgX (small_one (by omega) (by omega) (by omega) (by omega)) (by rw [rangeSize_one]; omega) (fun _ => rfl) offA lF lN2
      ⟨⟨rfl, fun _ h => nomatch h⟩, [(Str.ofString "INITIAL", false)], ⟨rfl, ?c0⟩, rfl, ?c1⟩ ?turnC ?doneC
    case c0 =>
      intro k v d hv hd
      cases k with
      | zero =>
        simp at hv hd
        subst hv; subst hd
        exact .mk (List.mem_append.mpr (.inr (.head _)))
      | succ k => simp at hv
    case c1 =>
      intro k hk
      obtain rfl : k = 0 := by omega
      rfl
    case turnC =>
      --[turnC
      clear lF lN2 rgX
      rintro i t ⟨vs, nv, at_, ta_⟩ tl u h tk2 rest hi2 hr ht hne ⟨⟨hat, hap⟩, cs, hJ, hJl, hJn⟩ F' N'
      generalize hPl : LPost _ _ _ _ _ _ _ _ _ _ _ = Pl; revert Pl; refine stayP ?_; intro Pl hPl
      dsimp only at hat hJ F' N'
      dsimp only [List.cons_append, List.nil_append] at N'
      have apA : ∀ p ∈ rest, p.1 ≠ cA := fun p hp e => hne p hp (by rw [e]; exact .head _)
      have apS : ∀ p ∈ rest, p.1 ≠ sa := fun p hp e => hne p hp (by rw [e]; exact .tail _ (.head _))
      have b1 := hr _ mC
      have b2 := hr _ mR
      have b3 := hr _ mM
      have b4 := hr _ mca
      have hvl := hJ.1
      k_steps
      rename _ ∧ _ ∧ AllLt _ rest => l9
      rename News _ _ _ _ => lN
      rename_i v9 _ _ _ _ _ _ _ _ _
      refine LPost.nx hPl <| LEnd.intro (vs ++ [Value.ref _], nv + 1, _, _) [(_, _)] (by k_asm) lN swapK ?_ ?_ (by (k_extra "tb_start")) ⟨⟨?_, ?_⟩, cs ++ [(cName (i + 1), (v9 == 1))], (hJ.mono cond_cons).snoc (.mk (.head _)), by rw [List.length_append, hJl]; rfl, ?_⟩
      · intro q hq
        rw [List.mem_singleton.mp hq]
        exact nin2 (Nat.ne_of_gt l9.1) (Nat.ne_of_gt l9.2.1)
      · intro q hq p hp
        rw [List.mem_singleton.mp hq]
        exact Nat.ne_of_lt (tb_ltOf l9.2.2 p hp)
      · dsimp only; omega
      · intro q hq p hp
        rcases List.mem_append.mp hq with hq | hq
        · rw [List.mem_singleton.mp hq]
          exact Nat.ne_of_lt (tb_ltOf l9.2.2 p (hr p hp))
        · exact hap q hq p hp
      · intro k hk
        rcases Nat.lt_or_ge k cs.length with hlt | hge
        · rw [List.getElem?_append_left hlt]
          exact hJn k (by omega)
        · obtain rfl : k = cs.length := by omega
          rw [List.getElem?_append_right (Nat.le_refl _), Nat.sub_self, hJl]
          rfl
      --]turnC
    case doneC =>
      clear lF lN2 rgX
      rintro ⟨vs, nv, at_, ta_⟩ tl u h tk2 ⟨⟨hat, hap⟩, cs, hJ, hJl, hJn⟩ ht F' N'
      dsimp only at hat hJ F' N'
      dsimp only [List.cons_append, List.nil_append] at N'
      obtain ⟨rB, hrB⟩ : ∃ rB : Led, rB = tl ++ rA := ⟨_, rfl⟩
      rw [← hrB] at N'
      have upB : ∀ p ∈ rA, p ∈ rB := fun p hp => by rw [hrB]; exact List.mem_append.mpr (.inr hp)
      have offB : ∀ p ∈ rB, p.1 ∉ [cA, sa] := by
        intro p hp
        rw [hrB] at hp
        rcases List.mem_append.mp hp with hp | hp
        · exact ht p hp
        · exact offA p hp
      have apA : ∀ p ∈ rB, p.1 ≠ cA := fun p hp e => offB p hp (by rw [e]; exact .head _)
      have apS : ∀ p ∈ rB, p.1 ≠ sa := fun p hp e => offB p hp (by rw [e]; exact .tail _ (.head _))
      have b1 := upB _ mC
      have b2 := upB _ mR
      have b3 := upB _ mM
      have b4 := upB _ mca
      clear offA
      have mk9 : Mark9 := ⟨⟩
      rename ReadsAll _ _ _ _ => x1
      rename Well _ _ _ _ => x3
      rename Reads _ _ _ _ => x4
      rename Tables _ _ _ _ => x5
      rename TopE _ _ _ _ => x6
      rename TopW _ _ _ => x7
      rename LooseAre _ _ _ => x8
      rename Ground _ _ _ _ _ _ _ _ _ => x9
      rename ReadsAllW _ _ _ _ _ _ => x10
      clear x1 x3 x4 x5 x6 x7 x8 x9 x10
      k_steps
      rename_i _ _ _ _ v9 t8 t9 b8 _ lim9 b9 _ _ ta2 tb2 tc2 rgX lF lN keep
      clear keep
      unfold CompA
      obtain ⟨cnt, hcnt⟩ : ∃ cnt : Nat, v9 = (cnt : Int) := ⟨v9.toNat, by omega⟩
      subst hcnt
      have hc10 : Lim (cnt : Int) 10 := lim9
      have hnAS : @Ne Nat cA sa := Nat.ne_of_gt ltS
      refine LCg.CompSrc.range rfl (by k_asm) lN rgX (small_one (by omega) (by omega) (by omega) (by omega)) (by simpa using rangeSize_nat 0 cnt) (by rw [sizeLine_eq]; omega) (fun gh => ?_)
      refine restU_of (n := cnt) (fun i ys nw => ∃ (tl : Led) (ds : List LRule) (a : Int) (ta : Tok), nw = tl ++ ((cA, listOf vs.toArray nv) :: (sa, listOf #[.ref ca, .int a ta] 0) :: rB) ∧ (at_ + 1 ≤ a ∧ a ≤ at_ + 1 + 10 * i) ∧ AllIn (LRuleIn tl) ys ds ∧ (∀ d ∈ ds, RuleOk many d) ∧ ys.length = i ∧
        (∀ q ∈ tl, @Ne Nat q.1 cA ∧ @Ne Nat q.1 sa ∧ ∀ p ∈ rB, p.1 ≠ q.1)) ?step ?fin _ 0 [] _ (by omega) ⟨[], [], at_ + 1, t9, rfl, ⟨by omega, by omega⟩, ⟨rfl, fun i v d h => by simp at h⟩, (fun _ h => nomatch h), rfl, (fun _ h => nomatch h)⟩
      case step =>
        --[step
        rintro i ys nw hi8 ⟨tl2, ds, a, ta2, hnw, ⟨ha1, ha2⟩, hA2, hO2, hl2, hap2⟩ v I oI C oC D2 m₂ h9 tk9 E9 hP hC9 hx F9 N9 o1 o2
        refine hideQ ?_; intro Pc hPc
        have o3 := LCg.Off3.mem o1
        have inB : ∀ p ∈ rB, p ∈ nw := fun p hp => by rw [hnw]; exact List.mem_append.mpr (.inr (.tail _ (.tail _ hp)))
        have d1 := inB _ b1
        have d2 := inB _ b2
        have d3 := inB _ b3
        have d4 := inB _ b4
        have dsa : (sa, listOf #[.ref ca, .int a ta2] 0) ∈ nw := by rw [hnw]; exact List.mem_append.mpr (.inr (.tail _ (.head _)))
        have hU : UpdF sa (listOf #[.ref ca, .int a ta2] 0) ((I, oI) :: (C, oC) :: (D2, LCg.lst ys) :: nw) (fun o' => (I, oI) :: (C, oC) :: (D2, LCg.lst ys) :: (tl2 ++ ((cA, listOf vs.toArray nv) :: (sa, o') :: rB))) := by
          rw [hnw]
          exact .tail (o3 _ dsa).1.symm (.tail (o3 _ dsa).2.1.symm (.tail (o3 _ dsa).2.2.symm (updF_app (fun p hp => (hap2 p hp).2.1) (.tail hnAS (.head apS)))))
        k_steps
        unfold CallA
        refine Spec.use (rule_spec _ _ _ _ _ _ _ _ _ _ _ _ hU (.tail _ (.tail _ (.tail _ d4))) hi hz1 hz2 (by omega) (by omega) (by omega) (by omega)) (by k_asm) (by k_asm) (by k_asm) (by k_asm) (by k_asm) (by first | exact rfl | assumption) (by ktr_room) (by ktr_units) ?_
        intro r8 h8 tk8 nw8 F8 N8 ⟨a8, t8, d8, tl8, x1, x2, e8, hap8, hR8, hO8⟩
        subst e8
        refine hPc _ _ <| LCg.CompEnd.intro (by k_asm) N8 (tl8 ++ (tl2 ++ ((cA, listOf vs.toArray nv) :: (sa, listOf #[.ref ca, .int a8 t8] 0) :: rB))) (swapL) ?_ trivial ⟨tl8 ++ tl2, ds ++ [d8], a8, t8, by rw [List.append_assoc], ⟨by omega, by omega⟩, ?_, ?_, by rw [List.length_append, hl2]; rfl, ?_⟩
        · refine LCg.Off3.of fun p hp => ?_
          rcases List.mem_append.mp hp with hp | hp
          · exact ⟨(hap8 p hp _ (.head _)).symm, (hap8 p hp _ (.tail _ (.head _))).symm, (hap8 p hp _ (.tail _ (.tail _ (.head _)))).symm⟩
          · rcases List.mem_append.mp hp with hp | hp
            · exact o3 p (by rw [hnw]; exact List.mem_append.mpr (.inl hp))
            · rcases List.mem_cons.mp hp with rfl | hp
              · exact o3 _ (by rw [hnw]; exact List.mem_append.mpr (.inr (.head _)))
              · rcases List.mem_cons.mp hp with rfl | hp
                · have z := o3 _ dsa
                  exact z
                · exact o3 p (inB p hp)
        · exact AllIn.snoc (hA2.mono fun v d q => q.mono fun p hp => List.mem_append.mpr (.inr hp)) (hR8.mono fun p hp => List.mem_append.mpr (.inl hp))
        · intro d hd
          rcases List.mem_append.mp hd with hd | hd
          · exact hO2 d hd
          · rw [List.mem_singleton.mp hd]; exact hO8
        · intro q hq
          rcases List.mem_append.mp hq with hq | hq
          · have z := hap8 q hq
            exact ⟨(z _ (.tail _ (.tail _ (.tail _ (by rw [hnw]; exact List.mem_append.mpr (.inr (.head _))))))).symm, (z _ (.tail _ (.tail _ (.tail _ dsa)))).symm, fun p hp => z p (.tail _ (.tail _ (.tail _ (inB p hp))))⟩
          · exact hap2 q hq
        --]step
      case fin =>
        rintro ys nw ⟨tl2, ds, a, ta2, hnw, ⟨ha1, ha2⟩, hA2, hO2, hl2, hap2⟩ D2 h9 tk9 F9 N9 o9
        have oD := off1_mem o9
        have inB : ∀ p ∈ rB, p ∈ nw := fun p hp => by rw [hnw]; exact List.mem_append.mpr (.inr (.tail _ (.tail _ hp)))
        have d1 := inB _ b1
        have d3 := inB _ b3
        have dcA : (cA, listOf vs.toArray nv) ∈ nw := by rw [hnw]; exact List.mem_append.mpr (.inr (.head _))
        have inT : ∀ p ∈ tl2, p ∈ nw := fun p hp => by rw [hnw]; exact List.mem_append.mpr (.inl hp)
        have hA3 : AllIn (LRuleIn nw) ys ds := hA2.mono fun v d q => q.mono inT
        have hJ3 : AllIn (CondIn nw) vs cs := hJ.mono fun v d q => q.mono fun p hp => inB p (by
          rcases List.mem_append.mp hp with hp | hp
          · rw [hrB]; exact List.mem_append.mpr (.inl hp)
          · rw [List.mem_singleton.mp hp]; exact upB _ mI)
        have hJ9 := hJ
        k_steps
        rename News _ _ _ _ => lN
        rename Fr _ _ _ _ => lF
        rename _ ∧ AllLt _ nw => lMd1
        rename_i lMd _ _ _ _
        have hA9 := hA2
        clear hA2 hJ
        have ltD : @LT.lt Nat _ D2 lMd := lMd1.1
        have ltN : AllLt lMd nw := lMd1.2
        obtain ⟨rM, hrM⟩ : ∃ rM : Led, rM = (D2, LCg.lst ys) :: nw := ⟨_, rfl⟩
        rw [← hrM] at lN
        have mD : (D2, listOf ys.toArray ys.length) ∈ rM := by rw [hrM]; exact .head _
        have inN : ∀ p ∈ nw, p ∈ rM := fun p hp => by rw [hrM]; exact .tail _ hp
        have offM : ∀ p ∈ rM, p.1 ∉ [lMd] := by
          intro p hp hm
          rw [List.mem_singleton] at hm
          rw [hrM] at hp
          rcases List.mem_cons.mp hp with rfl | hp
          · exact Nat.ne_of_lt ltD hm
          · exact Nat.ne_of_lt (tb_ltOf ltN p hp) hm
        refine over_enum (σ := List Value × Nat) (adr := [lMd]) (r₀ := rM) (fun c => [(lMd, listOf c.1.toArray c.2)]) [Str.ofString "number", Str.ofString "row", Str.ofString "steps", Str.ofString "word", Str.ofString "worth"]
          (fun i c tl _ => AllIn (RuleIn tl) c.1 ((ds.take i).mapIdx toRule) ∧ ∀ q ∈ tl, ∀ p ∈ rM, p.1 ≠ q.1) ([], 0) rfl mD (fun _ => rfl) offM lF lN
          ⟨⟨rfl, fun i v d h => by simp at h⟩, fun _ h => nomatch h⟩ ?turnM ?doneM
        case turnM =>
          --[turnM
          clear lF lN
          rintro i T t v ⟨us, nu⟩ tl3 u3 h3 tk3 rest hv hi3 hT hr ht hne ⟨hRs, hap3⟩ F' N'
          generalize hPl : LPost _ _ _ _ _ _ _ _ _ _ _ = Pl; revert Pl; refine stayP ?_; intro Pl hPl
          dsimp only at hRs F' N'
          dsimp only [List.cons_append, List.nil_append] at N'
          have apM : ∀ p ∈ rest, p.1 ≠ lMd := fun p hp e => hne p hp (List.mem_singleton.mpr e)
          obtain ⟨dd, hdd, hS⟩ := hA3.get hv
          have hdk := hO2 dd (List.mem_of_getElem? hdd)
          have inR : ∀ p ∈ nw, p ∈ rest := fun p hp => hr p (inN p hp)
          replace hS := hS.mono inR
          have g1 := inR _ d1
          have g2 := inR _ dcA
          cases hS with
          | @mk pa la sl np nl ns lv sv live steps f1 f2 f3 f4 f5 f6 f7 =>
          k_steps
          rename News _ _ _ _ => kN
          rename Fr _ _ _ _ => kF
          rename _ ∧ AllLt _ rest => lS1
          rename_i lSt _ _
          obtain ⟨rS, hrS⟩ : ∃ rS : Led, rS = (lMd, listOf us.toArray nu) :: rest := ⟨_, rfl⟩
          rw [← hrS] at kN
          have inS : ∀ p ∈ rest, p ∈ rS := fun p hp => by rw [hrS]; exact .tail _ hp
          have offS : ∀ p ∈ rS, p.1 ∉ [lSt] := by
            intro p hp hm
            rw [List.mem_singleton] at hm
            rw [hrS] at hp
            rcases List.mem_cons.mp hp with rfl | hp
            · exact Nat.ne_of_lt lS1.1 hm
            · exact Nat.ne_of_lt (tb_ltOf lS1.2 p hp) hm
          refine over_list (σ := List Value × Nat) (adr := [lSt]) (r₀ := rS) (fun c => [(lSt, listOf c.1.toArray c.2)]) [Str.ofString "word", Str.ofString "worth"]
            (fun j c tl _ => AllIn (StepIn tl) c.1 ((steps.take j).map toStep) ∧ ∀ q ∈ tl, ∀ p ∈ rS, p.1 ≠ q.1) ([], 0) rfl (inS _ f4) (fun _ => rfl) offS kF kN
            ⟨⟨rfl, fun i v d h => by simp at h⟩, fun _ h => nomatch h⟩ ?turnS ?doneS
          case turnS =>
            --[turnS
            clear kF kN
            rintro j v2 ⟨ws, nw2⟩ tl4 u4 h4 tk4 rest4 hv4 hj4 hr4 ht4 hne4 ⟨hSs, hap4⟩ F' N'
            generalize hPl : LPost _ _ _ _ _ _ _ _ _ _ _ = Pl; revert Pl; refine stayP ?_; intro Pl hPl
            dsimp only at hSs F' N'
            dsimp only [List.cons_append, List.nil_append] at N'
            have apS4 : ∀ p ∈ rest4, p.1 ≠ lSt := fun p hp e => hne4 p hp (List.mem_singleton.mpr e)
            obtain ⟨sd, hsd, hS4⟩ := f5.get hv4
            have hwl : ws.length ≤ 100 := by
              rw [hSs.1, List.length_map, List.length_take]
              have e1 := f5.1
              omega
            have hok4 := hdk.2.1 sd (List.mem_of_getElem? hsd)
            have up4 : ∀ p ∈ rest, p ∈ rest4 := fun p hp => hr4 p (inS p hp)
            replace hS4 := hS4.mono up4
            have g3 := up4 _ g1
            have g4 := up4 _ g2
            have eTk : (steps.take (j + 1)).map toStep = (steps.take j).map toStep ++ [toStep sd] := by rw [take_snoc hsd, List.map_append]; rfl
            cases hS4 with
            | @mk pa2 x tx vw o n2 s1' s2' =>
            rcases hok4 with ⟨hx, z, hz, z0, z1⟩ | ⟨hx, hz⟩ | ⟨hx, z, hz, _⟩
            · dsimp only at hx hz
              subst hz
              cases s2' with
              | int z tz =>
              have hzl : z.toNat < vs.length := by rw [hJ3.1, hJl]; omega
              obtain ⟨cd, hcd, hC4⟩ := hJ3.get (List.getElem?_eq_getElem hzl)
              have hvz := List.getElem?_eq_getElem hzl
              generalize vs[z.toNat] = vz at hvz hC4
              have hnm : cd.1 = cName z.toNat := by
                have := hJn z.toNat (by omega)
                rw [hcd] at this
                exact Option.some.inj this
              replace hC4 := hC4.mono (fun p hp => up4 p (inR p hp))
              cases hC4 with
              | @mk ct cx ctt cb cn4 c4m =>
              rcases hx with rfl | rfl
              all_goals
                k_steps
                rename News _ _ _ _ => eN
                rename Fr _ _ _ _ => eF
                rename _ ∧ _ ∧ AllLt _ rest4 => m1
                refine LPost.nx hPl <| LEnd.intro (ws ++ [Value.ref _], nw2 + 1) [(_, _), (_, _)] eF eN swapM (newX m1.2.1 (by assumption)) (apartX m1.2.2 (by assumption)) (by (k_extra "tb_start")) ⟨?_, apartY (fun p hp => hr4 p hp) m1.2.2 (by assumption) hap4⟩
                rw [eTk]
                exact (hSs.mono fun v d q => q.mono fun p hp => List.mem_append.mpr (.inr hp)).snoc (stepIn3 (by show WorthIs (.str cx ctt) (some (cName z.toNat)); rw [← hnm]; exact .str _ _))
            · dsimp only at hx hz
              subst hz
              cases s2' with
              | none =>
              rcases hx with rfl | rfl
              all_goals
                k_steps
                rename News _ _ _ _ => eN
                rename Fr _ _ _ _ => eF
                rename _ ∧ _ ∧ AllLt _ rest4 => m1
                refine LPost.nx hPl <| LEnd.intro (ws ++ [Value.ref _], nw2 + 1) [(_, _), (_, _)] eF eN swapM (newX m1.2.1 (by assumption)) (apartX m1.2.2 (by assumption)) (by (k_extra "tb_start")) ⟨?_, apartY (fun p hp => hr4 p hp) m1.2.2 (by assumption) hap4⟩
                rw [eTk]
                exact (hSs.mono fun v d q => q.mono fun p hp => List.mem_append.mpr (.inr hp)).snoc (stepIn3 .none)
            · dsimp only at hx hz
              subst hz
              subst hx
              cases s2' with
              | str z tz =>
              k_steps
              rename News _ _ _ _ => eN
              rename Fr _ _ _ _ => eF
              rename _ ∧ _ ∧ AllLt _ rest4 => m1
              refine LPost.nx hPl <| LEnd.intro (ws ++ [Value.ref _], nw2 + 1) [(_, _), (_, _)] eF eN swapM (newX m1.2.1 (by assumption)) (apartX m1.2.2 (by assumption)) (by (k_extra "tb_start")) ⟨?_, apartY (fun p hp => hr4 p hp) m1.2.2 (by assumption) hap4⟩
              rw [eTk]
              exact (hSs.mono fun v d q => q.mono fun p hp => List.mem_append.mpr (.inr hp)).snoc (stepIn3 (.str _ _))
            --]turnS
          case doneS =>
            clear kF kN
            rintro ⟨ws, nw2⟩ tl4 u4 h4 tk4 ⟨hSs, hap4⟩ ht4 F' N'
            dsimp only at hSs F' N'
            dsimp only [List.cons_append, List.nil_append] at N'
            have hul : us.length ≤ 1000 := by
              rw [hRs.1, List.length_mapIdx, List.length_take]
              have e1 := hA3.1
              omega
            obtain ⟨rT, hrT⟩ : ∃ rT : Led, rT = (lSt, listOf ws.toArray nw2) :: (tl4 ++ rest) := ⟨_, rfl⟩
            have N4 : News T'.heap s1.heap.objs.size h4 ((lMd, listOf us.toArray nu) :: rT) := cb_drop N' (by
              intro p hp
              rw [hrS]
              rcases List.mem_cons.mp hp with rfl | hp
              · exact .tail _ (List.mem_append.mpr (.inr (.head _)))
              · rw [hrT] at hp
                rcases List.mem_cons.mp hp with rfl | hp
                · exact .head _
                · rcases List.mem_append.mp hp with hp | hp
                  · exact .tail _ (List.mem_append.mpr (.inl hp))
                  · exact .tail _ (List.mem_append.mpr (.inr (.tail _ hp))))
            clear N'
            have nT : ∀ p ∈ rT, p.1 ≠ lMd := by
              intro p hp
              rw [hrT] at hp
              rcases List.mem_cons.mp hp with rfl | hp
              · exact Nat.ne_of_gt lS1.1
              · rcases List.mem_append.mp hp with hp | hp
                · exact (hap4 p hp (lMd, listOf us.toArray nu) (by rw [hrS]; exact .head _)).symm
                · exact apM p hp
            have inTT : ∀ p ∈ rest, p ∈ rT := fun p hp => by rw [hrT]; exact .tail _ (List.mem_append.mpr (.inr hp))
            have f1T := inTT _ f1
            have f2T := inTT _ f2
            have mSt : (lSt, listOf ws.toArray nw2) ∈ rT := by rw [hrT]; exact .head _
            k_steps
            rename News _ _ _ _ => eN
            rename Fr _ _ _ _ => eF
            rename _ ∧ AllLt _ rT => m1
            rename _ ∧ _ ∧ AllLt _ rT => m2
            rename @LT.lt Nat _ _ _ => m3
            have apR : ∀ q ∈ tl4, ∀ p ∈ rest, p.1 ≠ q.1 := fun q hq p hp => hap4 q hq p (inS p hp)
            have m1' : AllLt _ rest := allLt_of fun p hp => tb_ltOf m1.2 p (inTT p hp)
            have m2' : AllLt _ rest := allLt_of fun p hp => tb_ltOf m2.2.2 p (inTT p hp)
            have nT4 : ∀ q ∈ tl4, q.1 ≠ lMd := fun q hq => nT q (by rw [hrT]; exact .tail _ (List.mem_append.mpr (.inl hq)))
            refine LPost.nx hPl <| LEnd.intro (us ++ [Value.ref _], nu + 1) ([(_, _), (_, _), (_, _), (lSt, listOf ws.toArray nw2)] ++ tl4) eF eN (swapO hrT) (newO m2.2.1 m3 m1.1 lS1.1 nT4) (apartO m2' m3 m1' lS1.2 apR) (by (k_extra "tb_start")) ⟨?_, ?_⟩
            · rw [take_snoc hdd, List.mapIdx_concat, List.length_take, Nat.min_eq_left (by have := hA3.1; omega)]
              rw [f5.1, List.take_length] at hSs
              refine AllIn.snoc (hRs.mono fun v d q => q.mono fun p hp => List.mem_append.mpr (.inr hp)) ?_
              exact .mk (.head _) (.tail _ (.head _)) (.tail _ (.tail _ (.head _))) f3 (.tail _ (.tail _ (.tail _ (.head _)))) (hSs.mono fun v d q => q.mono fun p hp => List.mem_append.mpr (.inl (List.mem_append.mpr (.inr hp)))) (by rw [hSs.1, List.length_map, ← f5.1]; exact f7) f6
            · intro q hq p hp
              rcases List.mem_append.mp hq with hq | hq
              · exact apartO m2' m3 m1' lS1.2 apR q hq p (hr p hp)
              · exact hap3 q hq p hp
          --]turnM
        case doneM =>
          clear lF lN
          rintro ⟨us, nu⟩ tl3 u3 h3 tk3 ⟨hRs, hap3⟩ ht F' N'
          dsimp only at hRs F' N'
          dsimp only [List.cons_append, List.nil_append] at N'
          have hdl : ds.length = cnt := by rw [← hA3.1]; exact hl2
          rw [hl2, ← hdl, List.take_length] at hRs
          have hc100 : ds.length ≤ 100 := by rw [hdl]; have := hc10; unfold Lim at this; omega
          have inNB : ∀ p ∈ rB, p ∈ rM := fun p hp => inN p (inB p hp)
          have kS : (s1.heap.objs.size + 1 + 1 + 1 + 1, oS) ∈ rB := upB _ mS
          have kA : (s1.heap.objs.size + 1 + 1 + 1 + 1 + 1, oA) ∈ rB := upB _ mA
          obtain ⟨rQ, hrQ⟩ : ∃ rQ : Led, rQ = tl3 ++ ((D2, listOf ys.toArray ys.length) :: (tl2 ++ ((cA, listOf vs.toArray nv) :: (tl ++ ((cI, tupOf #[Value.str (Str.ofString "INITIAL") tI, Value.bool false] 0) :: [(s1.heap.objs.size + 1 + 1 + 1, oC2), (s1.heap.objs.size + 1 + 1, oM2)]))))) := ⟨_, rfl⟩
          have subQ : ∀ p ∈ rQ, p ∈ tl3 ++ rM := by
            intro p hp
            rw [hrQ] at hp
            rcases List.mem_append.mp hp with hp | hp
            · exact List.mem_append.mpr (.inl hp)
            · refine List.mem_append.mpr (.inr ?_)
              rcases List.mem_cons.mp hp with rfl | hp
              · exact mD
              · refine inN p ?_
                rcases List.mem_append.mp hp with hp | hp
                · exact inT p hp
                · rcases List.mem_cons.mp hp with rfl | hp
                  · exact dcA
                  · refine inB p ?_
                    rcases List.mem_append.mp hp with hp | hp
                    · rw [hrB]; exact List.mem_append.mpr (.inl hp)
                    · rcases List.mem_cons.mp hp with rfl | hp
                      · exact upB _ mI
                      · rcases List.mem_cons.mp hp with rfl | hp
                        · exact b1
                        · rw [List.mem_singleton.mp hp]; exact b3
          have neQ : ∀ (c : Addr) (o : Obj), (c, o) ∈ rA → c ≠ cI → c ≠ s1.heap.objs.size + 1 + 1 + 1 → c ≠ s1.heap.objs.size + 1 + 1 → ∀ p ∈ rQ, p.1 ≠ c := by
            intro c o hc e1 e2 e3 p hp
            have hcB := upB _ hc
            rw [hrQ] at hp
            rcases List.mem_append.mp hp with hp | hp
            · exact (hap3 p hp _ (inNB _ hcB)).symm
            · rcases List.mem_cons.mp hp with rfl | hp
              · exact (oD _ (inB _ hcB)).symm
              · rcases List.mem_append.mp hp with hp | hp
                · exact ((hap2 p hp).2.2 _ hcB).symm
                · rcases List.mem_cons.mp hp with rfl | hp
                  · exact (apA _ hcB).symm
                  · rcases List.mem_append.mp hp with hp | hp
                    · exact (hap p hp _ hc).symm
                    · rcases List.mem_cons.mp hp with rfl | hp
                      · exact e1.symm
                      · rcases List.mem_cons.mp hp with rfl | hp
                        · exact e2.symm
                        · rw [List.mem_singleton.mp hp]; exact e3.symm
          have q4 : ∀ p ∈ rQ, p.1 ≠ s1.heap.objs.size + 1 + 1 + 1 + 1 := neQ _ _ mS (Nat.ne_of_lt neI.2) (Nat.ne_of_gt (by omega)) (Nat.ne_of_gt (by omega))
          have q5 : ∀ p ∈ rQ, p.1 ≠ s1.heap.objs.size + 1 + 1 + 1 + 1 + 1 := neQ _ _ mA (Nat.ne_of_lt neI.1) (Nat.ne_of_gt (by omega)) (Nat.ne_of_gt (by omega))
          have qM : ∀ p ∈ rQ, p.1 ≠ lMd := fun p hp => by
            rcases List.mem_append.mp (subQ p hp) with hp | hp
            · exact fun e => ht p hp (List.mem_singleton.mpr e)
            · exact fun e => offM p hp (List.mem_singleton.mpr e)
          have lM4 : @LT.lt Nat _ (s1.heap.objs.size + 1 + 1 + 1 + 1) lMd := tb_ltOf ltN _ (inB _ kS)
          have lM5 : @LT.lt Nat _ (s1.heap.objs.size + 1 + 1 + 1 + 1 + 1) lMd := tb_ltOf ltN _ (inB _ kA)
          obtain ⟨rP, hrP⟩ : ∃ rP : Led, rP = (lMd, listOf us.toArray nu) :: rQ := ⟨_, rfl⟩
          have N5 : News T'.heap s1.heap.objs.size h3 ((s1.heap.objs.size + 1 + 1 + 1 + 1, oS) :: (s1.heap.objs.size + 1 + 1 + 1 + 1 + 1, oA) :: rP) := cb_drop N' (by
            intro p hp
            rcases List.mem_cons.mp hp with rfl | hp
            · exact .tail _ (List.mem_append.mpr (.inr (inNB _ kS)))
            · rcases List.mem_cons.mp hp with rfl | hp
              · exact .tail _ (List.mem_append.mpr (.inr (inNB _ kA)))
              · rw [hrP] at hp
                rcases List.mem_cons.mp hp with rfl | hp
                · exact .head _
                · exact .tail _ (subQ p hp))
          clear N'
          have inQ : ∀ p ∈ rQ, p ∈ rP := fun p hp => by rw [hrP]; exact .tail _ hp
          have p4 : ∀ p ∈ rP, p.1 ≠ s1.heap.objs.size + 1 + 1 + 1 + 1 := by
            intro p hp
            rw [hrP] at hp
            rcases List.mem_cons.mp hp with rfl | hp
            · exact Nat.ne_of_gt lM4
            · exact q4 p hp
          have p5 : ∀ p ∈ rP, p.1 ≠ s1.heap.objs.size + 1 + 1 + 1 + 1 + 1 := by
            intro p hp
            rw [hrP] at hp
            rcases List.mem_cons.mp hp with rfl | hp
            · exact Nat.ne_of_gt lM5
            · exact q5 p hp
          have t3 : ∀ p ∈ tl3, p ∈ rP := fun p hp => inQ p (by rw [hrQ]; exact List.mem_append.mpr (.inl hp))
          have tD : (D2, listOf ys.toArray ys.length) ∈ rP := inQ _ (by rw [hrQ]; exact List.mem_append.mpr (.inr (.head _)))
          have t2' : ∀ p ∈ tl2, p ∈ rP := fun p hp => inQ p (by rw [hrQ]; exact List.mem_append.mpr (.inr (.tail _ (List.mem_append.mpr (.inl hp)))))
          have tC : (cA, listOf vs.toArray nv) ∈ rP := inQ _ (by rw [hrQ]; exact List.mem_append.mpr (.inr (.tail _ (List.mem_append.mpr (.inr (.head _))))))
          have tTl : ∀ p ∈ tl, p ∈ rP := fun p hp => inQ p (by rw [hrQ]; exact List.mem_append.mpr (.inr (.tail _ (List.mem_append.mpr (.inr (.tail _ (List.mem_append.mpr (.inl hp))))))))
          have tIn : (cI, tupOf #[Value.str (Str.ofString "INITIAL") tI, Value.bool false] 0) ∈ rP := inQ _ (by rw [hrQ]; exact List.mem_append.mpr (.inr (.tail _ (List.mem_append.mpr (.inr (.tail _ (List.mem_append.mpr (.inr (.head _)))))))))
          have tC3 : (s1.heap.objs.size + 1 + 1 + 1, oC2) ∈ rP := inQ _ (by rw [hrQ]; exact List.mem_append.mpr (.inr (.tail _ (List.mem_append.mpr (.inr (.tail _ (List.mem_append.mpr (.inr (.tail _ (.head _))))))))))
          have tM2 : (s1.heap.objs.size + 1 + 1, oM2) ∈ rP := inQ _ (by rw [hrQ]; exact List.mem_append.mpr (.inr (.tail _ (List.mem_append.mpr (.inr (.tail _ (List.mem_append.mpr (.inr (.tail _ (.tail _ (.head _)))))))))))
          have tMd : (lMd, listOf us.toArray nu) ∈ rP := by rw [hrP]; exact .head _
          have kR : AllIn (RuleIn rP) us (ds.mapIdx toRule) := hRs.mono fun v d q => q.mono t3
          have kL : AllIn (LRuleIn rP) ys ds := hA9.mono fun v d q => q.mono t2'
          have kC : AllIn (CondIn rP) vs cs := hJ9.mono fun v d q => q.mono fun p hp => (by
            rcases List.mem_append.mp hp with hp | hp
            · exact tTl p hp
            · rw [List.mem_singleton.mp hp]; exact tIn)
          k_steps
          rename News _ _ _ _ => lN
          rename Fr _ _ _ _ => lF
          rename _ ∧ _ ∧ _ ∧ AllLt _ rP => m1
          rename_i a9 d9 _ _ _ _ _ _ _ _ _ _ _ _ lt9 _
          obtain ⟨rV, N6, upV, oneV, fileV⟩ := file_split lN
          clear lN
          have hcsl : vs.length ≤ 100 := by
            rw [hJ9.1, hJl]
            have := hmLim
            unfold Lim at this
            omega
          have hD : FileIn rV (.ref a9) ⟨cs, ds.mapIdx toRule⟩ := fileV _ _ _ _ _ _ tC kC tMd kR hcsl (by rw [hRs.1, List.length_mapIdx]; exact hc100)
          have v4 : ∀ p ∈ rV, p.1 ≠ s1.heap.objs.size + 1 + 1 + 1 + 1 := fun p hp => by
            rcases oneV p hp with hp | e | e
            · exact p4 p hp
            · rw [e]; exact Nat.ne_of_gt (Nat.lt_trans m1.2.1 lt9)
            · rw [e]; exact Nat.ne_of_gt m1.2.1
          have v5 : ∀ p ∈ rV, p.1 ≠ s1.heap.objs.size + 1 + 1 + 1 + 1 + 1 := fun p hp => by
            rcases oneV p hp with hp | e | e
            · exact p5 p hp
            · rw [e]; exact Nat.ne_of_gt (Nat.lt_trans m1.2.2.1 lt9)
            · rw [e]; exact Nat.ne_of_gt m1.2.2.1
          have kLV : AllIn (LRuleIn ((s1.heap.objs.size + 1 + 1 + 1 + 1, oS) :: (s1.heap.objs.size + 1 + 1 + 1 + 1 + 1, oA) :: rV)) ys ds := kL.mono fun v d q => q.mono fun p hp => .tail _ (.tail _ (upV p hp))
          unfold CallA
          refine Spec.use (ways_spec ((s1.heap.objs.size + 1 + 1 + 1 + 1, oS) :: (s1.heap.objs.size + 1 + 1 + 1 + 1 + 1, oA) :: rV) D2 ys ys.length ds many tM (.tail _ (.tail _ (upV _ tD))) kLV (by rw [hA9.1]; exact hc100) (by omega) (by omega) hO2) (by k_asm) (by k_asm) (by k_asm) N6 (by k_asm) (by first | exact rfl | assumption) (by ktr_room) (by ktr_units) ?_
          clear N6
          intro r8 h8 tk8 nw8 F8 N8 ⟨Tt, tl9, rv, nTt, e8, e9, hap9, hTm, hM⟩
          subst e8
          subst e9
          obtain ⟨a0, bs, kb, e0, m0, hRw⟩ := hM.2 0 (by omega)
          obtain ⟨rW, hrW⟩ : ∃ rW : Led, rW = tl9 ++ rV := ⟨_, rfl⟩
          have upW : ∀ p ∈ rV, p ∈ rW := fun p hp => by rw [hrW]; exact List.mem_append.mpr (.inr hp)
          have N7 : News T'.heap s1.heap.objs.size h8 ((s1.heap.objs.size + 1 + 1 + 1 + 1, oS) :: (s1.heap.objs.size + 1 + 1 + 1 + 1 + 1, oA) :: rW) := cb_drop N8 (by
            intro p hp
            rcases List.mem_cons.mp hp with rfl | hp
            · exact List.mem_append.mpr (.inr (.head _))
            · rcases List.mem_cons.mp hp with rfl | hp
              · exact List.mem_append.mpr (.inr (.tail _ (.head _)))
              · rw [hrW] at hp
                rcases List.mem_append.mp hp with hp | hp
                · exact List.mem_append.mpr (.inl hp)
                · exact List.mem_append.mpr (.inr (.tail _ (.tail _ hp))))
          have w4 : ∀ p ∈ rW, p.1 ≠ s1.heap.objs.size + 1 + 1 + 1 + 1 := fun p hp => by
            rw [hrW] at hp
            rcases List.mem_append.mp hp with hp | hp
            · exact (hap9 p hp _ (.head _)).symm
            · exact v4 p hp
          have w5 : ∀ p ∈ rW, p.1 ≠ s1.heap.objs.size + 1 + 1 + 1 + 1 + 1 := fun p hp => by
            rw [hrW] at hp
            rcases List.mem_append.mp hp with hp | hp
            · exact (hap9 p hp _ (.tail _ (.head _))).symm
            · exact v5 p hp
          have inW : ∀ (p : Addr × Obj) (vs : List Value) (n : Nat), p.2 = listOf vs.toArray n → p ∈ tl9 ++ ((s1.heap.objs.size + 1 + 1 + 1 + 1, oS) :: (s1.heap.objs.size + 1 + 1 + 1 + 1 + 1, oA) :: rV) → p ∈ rW := fun p vs n e hp => by
            rw [hrW]
            rcases List.mem_append.mp hp with hp | hp
            · exact List.mem_append.mpr (.inl hp)
            · rcases List.mem_cons.mp hp with rfl | hp
              · exact cell_list dS e
              · rcases List.mem_cons.mp hp with rfl | hp
                · exact cell_list dA e
                · exact List.mem_append.mpr (.inr hp)
          have hTm' := inW _ rv nTt rfl hTm
          have m0' := inW _ (bs.map Value.bool) kb rfl m0
          have hD' : FileIn rW (.ref a9) ⟨cs, ds.mapIdx toRule⟩ := hD.mono upW
          have g3 := upW _ (upV _ tC3)
          have g2 := upW _ (upV _ tM2)
          have gC := upW _ (upV _ tC)
          have gD := upW _ (upV _ tD)
          clear N8
          k_steps
          rename_i oS2 _ _ dS2 _ _ tb1 tb2 tb3 rgX lF2 lN2 keep
          clear keep
          unfold CompTA
          obtain ⟨rX, hrX⟩ : ∃ rX : Led, rX = (s1.heap.objs.size + 1 + 1 + 1 + 1, oS2) :: rW := ⟨_, rfl⟩
          have lN3 : News T'.heap s1.heap.objs.size _ ((s1.heap.objs.size + 1 + 1 + 1 + 1 + 1, oA) :: rX) := cb_drop lN2 (by
            intro p hp
            rw [hrX] at hp
            rcases List.mem_cons.mp hp with rfl | hp
            · exact .tail _ (.head _)
            · rcases List.mem_cons.mp hp with rfl | hp
              · exact .head _
              · exact .tail _ (.tail _ hp))
          clear lN2
          have xS : (s1.heap.objs.size + 1 + 1 + 1 + 1, oS2) ∈ rX := by rw [hrX]; exact .head _
          have upX : ∀ p ∈ rW, p ∈ rX := fun p hp => by rw [hrX]; exact .tail _ hp
          have x5 : ∀ p ∈ rX, p.1 ≠ s1.heap.objs.size + 1 + 1 + 1 + 1 + 1 := by
            intro p hp
            rw [hrX] at hp
            rcases List.mem_cons.mp hp with rfl | hp
            · exact Nat.ne_of_lt (Nat.lt_succ_self _)
            · exact w5 p hp
          have hDX : FileIn rX (.ref a9) ⟨cs, ds.mapIdx toRule⟩ := hD'.mono upX
          have x3 := upX _ g3
          have x2 := upX _ g2
          have xC := upX _ gC
          have xD := upX _ gD
          have xB := upX _ m0'
          have kCX : AllIn (CondIn rX) vs cs := kC.mono fun v d q => q.mono fun p hp => upX p (upW p (upV p hp))
          have kLX : AllIn (LRuleIn rX) ys ds := kL.mono fun v d q => q.mono fun p hp => upX p (upW p (upV p hp))
          obtain ⟨DD, hDD⟩ : ∃ DD : FileD, DD = ⟨cs, ds.mapIdx toRule⟩ := ⟨_, rfl⟩
          rw [← hDD] at hDX
          clear hTm' hTm hM hap9 m0 hD' hD fileV kLV kC kL kR
          refine LCt.CompSrcT.range rfl (by k_asm) lN3 rgX (small_one (by omega) (by omega) (by omega) (by omega)) (by simpa using rangeSize_nat 0 many) (by rw [sizeLine_eq]; omega) (fun gh => ?_)
          refine restT_of (n := many) (fun i ys nw => ∃ tl, nw = tl ++ ((s1.heap.objs.size + 1 + 1 + 1 + 1 + 1, oA) :: rX) ∧ AllIn (WarnIn tl) ys (neverIn DD bs i) ∧ ∀ q ∈ tl, ∀ p ∈ (s1.heap.objs.size + 1 + 1 + 1 + 1 + 1, oA) :: rX, p.1 ≠ q.1) ?stepW ?finW _ 0 [] _ (by omega) ⟨[], rfl, ⟨rfl, fun i v d h => by simp at h⟩, fun _ h => nomatch h⟩
          case stepW =>
            --[stepW
            rintro i ys8 nw8 hi9 ⟨tlW, hnw8, hWs, hapW⟩ v I2 oI C2 oC9 D8 m₂ h9 tk9 E9 ⟨t8, rfl⟩ hC9 hx F9 N9 o1 o2
            refine hideQ ?_; intro Pc hPc
            rw [Int.zero_add] at hx
            obtain ⟨bb, hbb, _⟩ := hRw.get hi9
            have inX : ∀ p ∈ rX, p ∈ nw8 := fun p hp => by rw [hnw8]; exact List.mem_append.mpr (.inr (.tail _ hp))
            have z1 := inX _ xS
            have z2 := inX _ xB
            have z3 := inX _ x3
            have z4 := inX _ xC
            have hvb : (bs.map Value.bool)[i]? = some (.bool bb) := by rw [List.getElem?_map, hbb]; rfl
            cases bb with
            | true =>
              k_steps
              refine hPc _ _ ?_
              k_steps
              exact LCg.CompEnd.intro (by k_asm) (by k_asm) _ (fun p hp => hp) o1 trivial ⟨tlW, hnw8, by rw [never_succ hbb, if_pos rfl, List.append_nil]; exact hWs, hapW⟩
            | false =>
              have hvl : i < vs.length := by rw [hJ9.1, hJl]; omega
              obtain ⟨cd, hcd, hC4⟩ := kCX.get (List.getElem?_eq_getElem hvl)
              have hvz := List.getElem?_eq_getElem hvl
              generalize vs[i] = vz at hvz hC4
              replace hC4 := hC4.mono inX
              cases hC4 with
              | @mk ct cx ctt cb cn4 c4m =>
              have fr9 : ∀ p ∈ (I2, oI) :: (C2, oC9) :: (D8, LCg.lst ys8) :: nw8, @LT.lt Nat _ p.1 h9.objs.size := fun p hp => Heap.lt_size (N9 p hp).1
              have en : nameOf DD i = cx := by
                rw [hDD]
                show (((cs[i]?).map (·.1)).getD (Str.ofString "")) = cx
                rw [hcd]; rfl
              k_steps
              refine hPc _ _ ?_
              k_steps
              rename News _ _ _ _ => lN
              refine LCg.CompEnd.intro (by k_asm) lN ((h9.objs.size, tupOf #[.int 0 _, .str (Str.ofString "never entered") _, .str cx ctt] 0) :: nw8) swapP ?_ trivial ⟨(h9.objs.size, tupOf #[.int 0 _, .str (Str.ofString "never entered") _, .str cx ctt] 0) :: tlW, by rw [hnw8]; rfl, ?_, ?_⟩
              · refine LCg.Off3.of (List.forall_mem_cons.mpr ⟨⟨Nat.ne_of_gt (fr9 _ (.head _)), Nat.ne_of_gt (fr9 _ (.tail _ (.head _))), Nat.ne_of_gt (fr9 _ (.tail _ (.tail _ (.head _))))⟩, LCg.Off3.mem o1⟩)
              · rw [never_succ hbb, if_neg Bool.false_ne_true, en]
                exact (hWs.mono fun v d q => q.mono fun p hp => .tail _ hp).snoc (.mk (.head _))
              · intro q hq p hp
                rcases List.mem_cons.mp hq with rfl | hq
                · exact Nat.ne_of_lt (fr9 p (.tail _ (.tail _ (.tail _ (by rw [hnw8]; exact List.mem_append.mpr (.inr hp))))))
                · exact hapW q hq p hp
            --]stepW
          case finW =>
            rintro ys8 nw8 ⟨tlW, hnw8, hWs, hapW⟩ D8 h9 tk9 F9 N9 o9
            have oD := off1_mem o9
            obtain ⟨rY, hrY⟩ : ∃ rY : Led, rY = tlW ++ rX := ⟨_, rfl⟩
            have upY : ∀ p ∈ rX, p ∈ rY := fun p hp => by rw [hrY]; exact List.mem_append.mpr (.inr hp)
            have mA9 : (s1.heap.objs.size + 1 + 1 + 1 + 1 + 1, oA) ∈ nw8 := by rw [hnw8]; exact List.mem_append.mpr (.inr (.head _))
            have y5 : ∀ p ∈ rY, p.1 ≠ s1.heap.objs.size + 1 + 1 + 1 + 1 + 1 := by
              intro p hp
              rw [hrY] at hp
              rcases List.mem_append.mp hp with hp | hp
              · exact (hapW p hp _ (.head _)).symm
              · exact x5 p hp
            have y8 : ∀ p ∈ rY, p.1 ≠ D8 := by
              intro p hp
              rw [hrY] at hp
              refine oD p ?_
              rw [hnw8]
              rcases List.mem_append.mp hp with hp | hp
              · exact List.mem_append.mpr (.inl hp)
              · exact List.mem_append.mpr (.inr (.tail _ hp))
            have ne58 : @Ne Nat (s1.heap.objs.size + 1 + 1 + 1 + 1 + 1) D8 := oD _ mA9
            have hWs2 : AllIn (WarnIn rY) ys8 (neverIn DD bs many) := hWs.mono fun v d q => q.mono fun p hp => by rw [hrY]; exact List.mem_append.mpr (.inl hp)
            have hyl : ys8.length ≤ 2000 := by
              rw [hWs.1]
              unfold neverIn
              rw [List.length_map]
              have := List.length_filter_le (fun (k : Nat) => !(bs.getD k false)) (List.range many)
              rw [List.length_range] at this
              omega
            have yS := upY _ xS
            have y3 := upY _ x3
            have yC := upY _ xC
            have yD := upY _ xD
            have yB := upY _ xB
            have kCY : AllIn (CondIn rY) vs cs := kCX.mono fun v d q => q.mono upY
            have kLY : AllIn (LRuleIn rY) ys ds := kLX.mono fun v d q => q.mono upY
            have hDY : FileIn rY (.ref a9) DD := hDX.mono upY
            k_steps
            rename News _ _ _ _ => lN
            rename Fr _ _ _ _ => lF
            have lN4 : News T'.heap s1.heap.objs.size _ ([(s1.heap.objs.size + 1 + 1 + 1 + 1 + 1, oA), (D8, listOf ys8.toArray ys8.length)] ++ rY) := cb_drop lN (by
              intro p hp
              rw [hnw8]
              rcases List.mem_cons.mp hp with rfl | hp
              · exact .tail _ (List.mem_append.mpr (.inr (.head _)))
              · rcases List.mem_cons.mp hp with rfl | hp
                · exact .head _
                · replace hp : p ∈ rY := hp
                  rw [hrY] at hp
                  rcases List.mem_append.mp hp with hp | hp
                  · exact .tail _ (List.mem_append.mpr (.inl hp))
                  · exact .tail _ (List.mem_append.mpr (.inr (.tail _ hp))))
            clear lN hDX kCX kLX
            have offY : ∀ p ∈ rY, p.1 ∉ [s1.heap.objs.size + 1 + 1 + 1 + 1 + 1, D8] := fun p hp => nin2 (y5 p hp) (y8 p hp)
            refine over_enum (σ := Obj × List Value × Nat) (adr := [s1.heap.objs.size + 1 + 1 + 1 + 1 + 1, D8]) (r₀ := rY) (fun c => [(s1.heap.objs.size + 1 + 1 + 1 + 1 + 1, c.1), (D8, listOf c.2.1.toArray c.2.2)]) [Str.ofString "number", Str.ofString "row", Str.ofString "line"]
              (fun i c tl _ => ((∃ vo, c.1.data = .cell vo) ∧ c.2.1.length ≤ 2000 + 1000 * i ∧ ∀ q ∈ tl, ∀ p ∈ rY, p.1 ≠ q.1) ∧ AllIn (WarnIn (tl ++ rY)) c.2.1 (neverIn DD bs many ++ dueTo ds DD bs i)) (oA, ys8, ys8.length) rfl yD (fun _ => rfl) offY lF lN4
              ⟨⟨⟨_, dA⟩, hyl, fun _ h => nomatch h⟩, by show AllIn _ _ (_ ++ []); rw [List.append_nil]; exact hWs2⟩ ?turnD ?doneD
            case turnD =>
              --[turnD
              clear lF lN4
              rintro i T t v ⟨o5, us8, nu8⟩ tl8 u8 h8' tk8' rest hv hi8 hT hr ht hne ⟨⟨⟨vo, d5⟩, hul8, hap8⟩, hWr⟩ F' N'
              generalize hPl : LPost _ _ _ _ _ _ _ _ _ _ _ = Pl; revert Pl; refine stayP ?_; intro Pl hPl
              dsimp only at d5 hul8 hWr F' N'
              dsimp only [List.cons_append, List.nil_append] at N'
              have z5 : ∀ p ∈ rest, p.1 ≠ s1.heap.objs.size + 1 + 1 + 1 + 1 + 1 := fun p hp e => hne p hp (by rw [e]; exact .head _)
              have z8 : ∀ p ∈ rest, p.1 ≠ D8 := fun p hp e => hne p hp (by rw [e]; exact .tail _ (.head _))
              obtain ⟨dd, hdd, hS⟩ := kLY.get hv
              have hdk := hO2 dd (List.mem_of_getElem? hdd)
              replace hS := hS.mono hr
              have zS := hr _ yS
              have zB := hr _ yB
              have z3 := hr _ y3
              have zC := hr _ yC
              have zD := hr _ yD
              cases hS with
              | @mk pa la sl np nl ns lv sv live steps f1 f2 f3 f4 f5 f6 f7 =>
              k_steps
              rename News _ _ _ _ => kN
              rename Fr _ _ _ _ => kF
              unfold ListA
              refine' LCt.ListComp_T (F₀ := by k_asm) ?b1 ?b2 ?b3 ?b4 ?b5 ?_ ?b7
              case b1 => with_unfolding_all rfl
              case b2 => decide
              case b3 => rfl
              case b4 => decide
              case b5 => rfl
              case b7 => intro _; rfl
              k_steps
              unfold CompTA
              refine LCt.CompSrcT.ledger rfl (by k_asm) (by k_asm) (.tail _ (.tail _ f2)) (by rw [List.size_toArray, sizeLine_eq]; omega) (fun gh => ?_)
              refine restT_of (n := lv.toArray.size) (fun j ys nw => nw = (s1.heap.objs.size + 1 + 1 + 1 + 1 + 1, o5) :: (D8, listOf us8.toArray nu8) :: rest ∧ IntsAre ys ((live.take j).filter fun c => bs.getD c.toNat false)) ?stepA ?finA _ 0 [] _ (by omega) ⟨rfl, .nil⟩
              case stepA =>
                rintro j ys9 nw9 hj ⟨rfl, hI9⟩ v9 I2 oI C2 oC9 D9 m₂ h9 tk9 E9 hP hC9 hx F9 N9 o1 o2
                refine hideQ ?_; intro Pc hPc
                obtain ⟨z, tz, rfl, hz⟩ := f3.at j v9 (by simpa using hP)
                obtain ⟨z0, z1⟩ := hdk.1 z (List.mem_of_getElem? hz)
                obtain ⟨bb, hbb, _⟩ := hRw.get (j := z.toNat) (by omega)
                have hvb : (bs.map Value.bool)[z.toNat]? = some (.bool bb) := by rw [List.getElem?_map, hbb]; rfl
                have hz63 : z < 2 ^ 63 := by omega
                have hgd : bs.getD z.toNat false = bb := by rw [List.getD_eq_getElem?_getD, hbb]; rfl
                have eTz : (live.take (j + 1)).filter (fun c => bs.getD c.toNat false) = (live.take j).filter (fun c => bs.getD c.toNat false) ++ if bb = true then [z] else [] := by
                  rw [take_snoc hz, List.filter_append, List.filter_cons, hgd]
                  cases bb <;> rfl
                cases bb with
                | true =>
                  k_steps
                  refine hPc _ _ ?_
                  k_steps
                  exact LCg.CompEnd.intro (by k_asm) (by k_asm) _ (fun p hp => hp) o1 (.inr ⟨_, .tail _ (.tail _ f2), rfl, _, rfl⟩) ⟨rfl, by rw [eTz, if_pos rfl]; exact hI9.append (.cons z tz .nil)⟩
                | false =>
                  k_steps
                  refine hPc _ _ ?_
                  k_steps
                  exact LCg.CompEnd.intro (by k_asm) (by k_asm) _ (fun p hp => hp) o1 (.inr ⟨_, .tail _ (.tail _ f2), rfl, _, rfl⟩) ⟨rfl, by rw [eTz, if_neg Bool.false_ne_true, List.append_nil]; exact hI9⟩
              case finA =>
                rintro ys9 nw9 ⟨rfl, hI9⟩ D9 h9 tk9 F9 N9 o9
                rw [List.size_toArray, List.take_of_length_le (Nat.le_of_eq f3.length.symm)] at hI9
                have oD9 := off1_mem o9
                have x1 : @Ne Nat (s1.heap.objs.size + 1 + 1 + 1 + 1 + 1) D9 := oD9 _ (.head _)
                have x2 : @Ne Nat D8 D9 := oD9 _ (.tail _ (.head _))
                have x3 : ∀ p ∈ rest, p.1 ≠ D9 := fun p hp => oD9 p (.tail _ (.tail _ hp))
                have hi100 : i < 100 := by
                  have e1 := kLY.1
                  omega
                have hRdA : RdAll rest ys9 ((live.filter fun c => bs.getD c.toNat false).map PyData.int) := RdAll.ints hI9
                have hShA := shaped_ints (live.filter fun c => bs.getD c.toNat false)
                clear o9 oD9 kN kF
                cases hE : ((live.filter fun c => bs.getD c.toNat false).map PyData.int).isEmpty with
                | true =>
                  have hE2 : (live.filter fun c => bs.getD c.toNat false).isEmpty = true := by rw [List.isEmpty_map] at hE; exact hE
                  k_steps
                  rename News _ _ _ _ => lN
                  rename _ ∧ _ ∧ _ ∧ _ ∧ AllLt _ rest => lt9
                  refine LPost.co hPl <| LEnd.intro (o5, us8 ++ [Value.ref _], nu8 + 1) [(_, _)] (by k_asm) lN swapQ ?_ (new2 lt9.2.2.2.2) (by (k_extra "tb_start")) ⟨⟨⟨_, d5⟩, ?_, ?_⟩, ?_⟩
                  · intro q hq
                    rw [List.mem_singleton.mp hq]
                    exact nin2 (Nat.ne_of_gt lt9.2.2.1) (Nat.ne_of_gt lt9.2.2.2.1)
                  · dsimp only; simp only [List.length_append, List.length_singleton]; omega
                  · intro q hq p hp
                    rcases List.mem_cons.mp hq with rfl | hq
                    · exact Nat.ne_of_lt (tb_ltOf lt9.2.2.2.2 p (hr p hp))
                    · exact hap8 q hq p hp
                  · rw [dueTo_succ hdd, lawWarn_nil hE2, ← List.append_assoc]
                    exact (hWr.mono fun v d q => q.mono fun p hp => .tail _ hp).snoc (.mk (.head _))
                | false =>
                  have hE2 : (live.filter fun c => bs.getD c.toNat false).isEmpty = false := by rw [List.isEmpty_map] at hE; exact hE
                  k_steps
                  rename News _ _ _ _ => lN
                  rename Fr _ _ _ _ => lF
                  have lN2 : News T'.heap s1.heap.objs.size _ ([(s1.heap.objs.size + 1 + 1 + 1 + 1 + 1, o5), (D8, listOf us8.toArray nu8)] ++ rest) := cb_drop lN (fun p hp => .tail _ (.tail _ hp))
                  clear lN
                  refine over_list (σ := Obj × List Value × Nat) (adr := [s1.heap.objs.size + 1 + 1 + 1 + 1 + 1, D8]) (r₀ := rest) (fun c => [(s1.heap.objs.size + 1 + 1 + 1 + 1 + 1, c.1), (D8, listOf c.2.1.toArray c.2.2)]) ([] : List Str)
                    (fun j c tl5 _ => ((∃ vo, c.1.data = .cell vo) ∧ c.2.1.length ≤ us8.length + j ∧ ∀ q ∈ tl5, ∀ p ∈ rest, p.1 ≠ q.1) ∧ AllIn (WarnIn (tl5 ++ (tl8 ++ rY))) c.2.1 ((neverIn DD bs many ++ dueTo ds DD bs i) ++ lawSec ds DD i (live.take j)))
                    (o5, us8, nu8) rfl f2 (fun _ => rfl) hne lF lN2 ⟨⟨⟨_, d5⟩, Nat.le_refl _, fun _ h => nomatch h⟩, by rw [List.take_zero]; show AllIn _ _ (_ ++ []); rw [List.append_nil]; exact hWr⟩ ?turn5 ?done5
                  case turn5 =>
                    --[turn5
                    clear lF lN2 hWr d5
                    rintro j v ⟨o6, us9, nu9⟩ tl5 u5 h5 tk5 rest5 hv5 hj5 hr5 ht5 hne5 ⟨⟨⟨vo6, d6⟩, hul9, hap9⟩, hWr9⟩ F' N'
                    generalize hPl : LPost _ _ _ _ _ _ _ _ _ _ _ = Pl; revert Pl; refine stayP ?_; intro Pl hPl
                    dsimp only at d6 hul9 hWr9 F' N'
                    dsimp only [List.cons_append, List.nil_append] at N'
                    have w5 : ∀ p ∈ rest5, p.1 ≠ s1.heap.objs.size + 1 + 1 + 1 + 1 + 1 := fun p hp e => hne5 p hp (by rw [e]; exact .head _)
                    have w8 : ∀ p ∈ rest5, p.1 ≠ D8 := fun p hp e => hne5 p hp (by rw [e]; exact .tail _ (.head _))
                    obtain ⟨z, tz, rfl, hz⟩ := f3.at j v hv5
                    obtain ⟨z0, z1⟩ := hdk.1 z (List.mem_of_getElem? hz)
                    have hz63 : z < 2 ^ 63 := by omega
                    have up5 : ∀ p ∈ rY, p ∈ rest5 := fun p hp => hr5 p (hr p hp)
                    have v3 := up5 _ y3
                    have vC := up5 _ yC
                    have vD := up5 _ yD
                    have kL5 : AllIn (LRuleIn rest5) ys ds := kLY.mono fun v d q => q.mono up5
                    have hzl : z.toNat < vs.length := by rw [hJ9.1, hJl]; omega
                    obtain ⟨cd, hcd, hC4⟩ := kCY.get (List.getElem?_eq_getElem hzl)
                    have hvz := List.getElem?_eq_getElem hzl
                    generalize vs[z.toNat] = vz at hvz hC4
                    replace hC4 := hC4.mono up5
                    cases hC4 with
                    | @mk ct cx ctt cb cn4 c4m =>
                    have en : nameOf DD z.toNat = cx := by
                      rw [hDD]
                      show (((cs[z.toNat]?).map (·.1)).getD (Str.ofString "")) = cx
                      rw [hcd]; rfl
                    have hyl9 : ys.length ≤ 100 := by rw [kLY.1]; exact hc100
                    clear f2 f4 f5 yS y3 yC yD zS zC zD z3 hRdA hShA hE
                    k_steps
                    rename News _ _ _ _ => kN
                    rename Fr _ _ _ _ => kF
                    unfold ListA
                    refine' LCt.ListComp_T (F₀ := by k_asm) ?b1 ?b2 ?b3 ?b4 ?b5 ?_ ?b7
                    case b1 => with_unfolding_all rfl
                    case b2 => decide
                    case b3 => rfl
                    case b4 => decide
                    case b5 => rfl
                    case b7 => intro _; rfl
                    k_steps
                    rename News _ _ _ _ => kN2
                    rename _ ∧ _ ∧ AllLt _ rest5 => ltS
                    rename _ = Data.cell (some (Value.int z tz)) => dA6
                    rename_i oA6 Dsl _ _
                    refine LCt.CompSrcT.ledger rfl (by k_asm) kN2 (.head _) (by rw [List.size_toArray, List.length_take, sizeLine_eq]; omega) (fun gh5 => ?_)
                    refine restT_of (n := (ys.take i).toArray.size) (fun q ys9 nw => nw = (Dsl, listOf (ys.take i).toArray 0) :: (s1.heap.objs.size + 1 + 1 + 1 + 1 + 1, oA6) :: (D8, listOf us9.toArray nu9) :: rest5 ∧ AllIn (LRuleIn rest5) ys9 (((ds.take i).take q).filter fun e => e.live.any (· == z))) ?stepB ?finB _ 0 [] _ (by omega) ⟨rfl, ⟨rfl, fun i v d h => by simp at h⟩⟩
                    case stepB =>
                      rintro q ys9 nw9 hq ⟨rfl, hA9x⟩ v9 I2 oI C2 oC9 D9 m₂ h9 tk9 E9 hP hC9 hx F9 N9 o1 o2
                      refine hideQ ?_; intro Pc hPc
                      have hP2 : (ys.take i)[q]? = some v9 := by simpa using hP
                      have hqi : q < i := by
                        rw [List.getElem?_take] at hP2
                        split at hP2
                        · assumption
                        · cases hP2
                      have hv9 : ys[q]? = some v9 := by rw [List.getElem?_take, if_pos hqi] at hP2; exact hP2
                      obtain ⟨d9, hd9, hS9⟩ := kL5.get hv9
                      have hK9 := hS9
                      have hd9i : (ds.take i)[q]? = some d9 := by rw [List.getElem?_take, if_pos hqi]; exact hd9
                      have eTq := take_snoc hd9i
                      have eF : ((ds.take i).take (q + 1)).filter (fun e => e.live.any (· == z)) = ((ds.take i).take q).filter (fun e => e.live.any (· == z)) ++ if d9.live.any (· == z) = true then [d9] else [] := by
                        rw [eTq, List.filter_append]
                        congr 1
                        rw [List.filter_cons]
                        cases d9.live.any (· == z) <;> rfl
                      cases hS9 with
                      | @mk pa9 la9 sl9 np9 nl9 ns9 lv9 sv9 live9 steps9 g1 g2 g3 g4 g5 g6 g7 =>
                      dsimp only at eF
                      cases hb9 : live9.any (· == z) with
                      | true =>
                        k_steps
                        refine hPc _ _ ?_
                        k_steps
                        exact LCg.CompEnd.intro (by k_asm) (by k_asm) _ (fun p hp => hp) o1 (.inr ⟨_, .head _, rfl, _, rfl⟩) ⟨rfl, by rw [eF, if_pos hb9]; exact hA9x.snoc hK9⟩
                      | false =>
                        k_steps
                        refine hPc _ _ ?_
                        k_steps
                        exact LCg.CompEnd.intro (by k_asm) (by k_asm) _ (fun p hp => hp) o1 (.inr ⟨_, .head _, rfl, _, rfl⟩) ⟨rfl, by rw [eF, if_neg (by rw [hb9]; exact Bool.false_ne_true), List.append_nil]; exact hA9x⟩
                    case finB =>
                      rintro ys9 nw9 ⟨rfl, hA9x⟩ D9 h9 tk9 F9 N9 o9
                      rw [List.size_toArray, List.length_take, Nat.min_eq_left (Nat.le_of_lt hi8), List.take_of_length_le (by rw [List.length_take]; exact Nat.min_le_left _ _)] at hA9x
                      have oD9 := off1_mem o9
                      have x1 : @Ne Nat (s1.heap.objs.size + 1 + 1 + 1 + 1 + 1) D9 := oD9 _ (.tail _ (.head _))
                      have x2 : @Ne Nat D8 D9 := oD9 _ (.tail _ (.tail _ (.head _)))
                      have x3 : ∀ p ∈ rest5, p.1 ≠ D9 := fun p hp => oD9 p (.tail _ (.tail _ (.tail _ hp)))
                      have hRdB : RdAll rest5 ys9 (((ds.take i).filter fun e => e.live.any (· == z)).map LRule.data) := RdAll.of (fun _ _ q => q.rd) hA9x
                      have hShB := shaped_rules (many := many) (ds := (ds.take i).filter fun e => e.live.any (· == z)) (fun d hd => hO2 d (List.mem_of_mem_take ((List.mem_filter.mp hd).1)))
                      have eTz : live.take (j + 1) = live.take j ++ [z] := take_snoc hz
                      clear o9 oD9 kN2
                      cases hE : (((ds.take i).filter fun e => e.live.any (· == z)).map LRule.data).isEmpty with
                      | true =>
                        have hE2 : ((ds.take i).filter fun e => e.live.any (· == z)).isEmpty = true := by rw [List.isEmpty_map] at hE; exact hE
                        k_steps
                        rename News _ _ _ _ => lN
                        refine LPost.nx hPl <| LEnd.intro (oA6, us9, nu9) [] (by k_asm) lN (fun p hp => .tail _ (.tail _ (.tail _ hp))) (fun _ h => nomatch h) (fun _ h => nomatch h) (fun y _ => rfl) ⟨⟨⟨_, dA6⟩, Nat.le_succ_of_le hul9, hap9⟩, ?_⟩
                        rw [eTz, lawSec_snoc, if_pos hE2, List.append_nil]
                        exact hWr9
                      | false =>
                        have hE2 : ((ds.take i).filter fun e => e.live.any (· == z)).isEmpty = false := by rw [List.isEmpty_map] at hE; exact hE
                        k_steps
                        rename News _ _ _ _ => lN
                        rename _ ∧ _ ∧ _ ∧ _ ∧ _ ∧ AllLt _ rest5 => lt9
                        refine LPost.nx hPl <| LEnd.intro (oA6, us9 ++ [Value.ref _], nu9 + 1) [(_, _)] (by k_asm) lN swapR ?_ (new2 lt9.2.2.2.2.2) (fun y _ => rfl) ⟨⟨⟨_, dA6⟩, ?_, ?_⟩, ?_⟩
                        · intro q hq
                          rw [List.mem_singleton.mp hq]
                          exact nin2 (Nat.ne_of_gt lt9.2.2.2.1) (Nat.ne_of_gt lt9.2.2.2.2.1)
                        · dsimp only; simp only [List.length_append, List.length_singleton]; omega
                        · intro q hq p hp
                          rcases List.mem_cons.mp hq with rfl | hq
                          · exact Nat.ne_of_lt (tb_ltOf lt9.2.2.2.2.2 p (hr5 p hp))
                          · exact hap9 q hq p hp
                        · rw [eTz, lawSec_snoc, if_neg (by rw [hE2]; exact Bool.false_ne_true), en]
                          refine Eq.mp (congrArg (AllIn _ _) (List.append_assoc _ _ _)) ?_
                          exact (hWr9.mono fun v d q => q.mono fun p hp => .tail _ hp).snoc (.mk (.head _))
                    --]turn5
                  case done5 =>
                    clear lF lN2 hWr d5
                    rintro ⟨o6, us9, nu9⟩ tl5 u5 h5 tk5 ⟨⟨⟨vo6, d6⟩, hul9, hap9⟩, hWr9⟩ ht5 F' N'
                    dsimp only at d6 hul9 hWr9 F' N'
                    dsimp only [List.cons_append, List.nil_append] at N'
                    k_steps
                    rename News _ _ _ _ => lN
                    rename Fr _ _ _ _ => lF
                    refine LPost.nx hPl <| LEnd.intro (o6, us9, nu9) tl5 lF lN (fun p hp => hp) ht5 hap9 (by (k_extra "tb_start")) ⟨⟨⟨_, d6⟩, ?_, ?_⟩, ?_⟩
                    · dsimp only; omega
                    · intro q hq p hp
                      rcases List.mem_append.mp hq with hq | hq
                      · exact hap9 q hq p (hr p hp)
                      · exact hap8 q hq p hp
                    · rw [List.take_of_length_le (Nat.le_of_eq f3.length.symm)] at hWr9
                      rw [dueTo_succ hdd, lawWarn_cons hE2, ← List.append_assoc]
                      exact hWr9.mono fun v d q => q.mono fun p hp => by rw [List.append_assoc]; exact hp
              --]turnD
            case doneD =>
              clear lF lN4
              rintro ⟨o5, us8, nu8⟩ tl8 u8 h8' tk8' ⟨⟨⟨vo, d5⟩, hul8, hap8⟩, hWr⟩ ht F' N'
              dsimp only at d5 hul8 hWr F' N'
              dsimp only [List.cons_append, List.nil_append] at N'
              k_steps
              rename News _ _ _ _ => kN
              rename Fr _ _ _ _ => kF
              obtain ⟨rU, hrU⟩ : ∃ rU : Led, rU = (s1.heap.objs.size + 1 + 1 + 1 + 1 + 1, o5) :: (D8, listOf us8.toArray nu8) :: (tl8 ++ rY) := ⟨_, rfl⟩
              have kN2 : News T'.heap s1.heap.objs.size h8' rU := by rw [hrU]; exact kN
              have uY : ∀ p ∈ rY, p ∈ rU := fun p hp => by rw [hrU]; exact .tail _ (.tail _ (List.mem_append.mpr (.inr hp)))
              have u8D : (D8, listOf us8.toArray nu8) ∈ rU := by rw [hrU]; exact .tail _ (.head _)
              have hWU : AllIn (WarnIn rU) us8 (neverIn DD bs many ++ dueTo ds DD bs ys.length) := hWr.mono fun v d q => q.mono fun p hp => by rw [hrU]; exact .tail _ (.tail _ hp)
              have uS := uY _ yS
              have uD := uY _ yD
              have uB := uY _ yB
              have kLU : AllIn (LRuleIn rU) ys ds := kLY.mono fun v d q => q.mono uY
              have hDU : FileIn rU (.ref a9) DD := hDY.mono uY
              clear kN hWr ht hap8 d5 hul8 yS y3 yC yD yB kCY kLY hDY offY y5 y8 hWs2 oD o9 hWs hapW
              unfold ListA
              refine' ListComp_two (_F₀ := by k_asm) ?b1 ?b2 ?b3 ?b4 ?b5 ?b6 ?b7 ?b8 ?b9 ?b10 ?_ ?b11 ?b12
              case b1 => with_unfolding_all rfl
              case b2 => decide
              case b3 => rfl
              case b4 => decide
              case b5 => rfl
              case b6 => rfl
              case b7 => rfl
              case b8 => rfl
              case b9 => decide +kernel
              case b10 => decide
              case b11 => intro _; rfl
              case b12 => intro _ _; rfl
              k_steps
              refine ⟨D2, ys, ys.length, rU, fun i j ys9 tl9 => AllIn (RetIn tl9) ys9 (retsTo ds i ++ rets ((stepsAt ds i).take j)) ∧ ys9.length ≤ 4 * i + j ∧ i ≤ 9 ∧ j ≤ 4, rfl, rfl, by k_asm, kN2, uD, ⟨⟨rfl, fun i v d h => by simp at h⟩, Nat.le_refl _, Nat.zero_le _, Nat.zero_le _⟩, ?lenK, ?outerK, ?finK⟩
              case lenK =>
                rintro i j ys9 tl9 ⟨_, x1, x2, x3⟩
                omega
              case outerK =>
                --[outerK
                intro i v hv
                obtain ⟨dd, hdd, hS⟩ := kLU.get hv
                have hdk := hO2 dd (List.mem_of_getElem? hdd)
                have hi9 : i < 9 := by
                  have e1 := (List.getElem?_eq_some_iff.mp hv).1
                  have e2 := hc10
                  unfold Lim at e2
                  omega
                cases hS with
                | @mk pa la sl np nl ns lv sv live steps f1 f2 f3 f4 f5 f6 f7 =>
                refine ⟨pa, np, .ref la, sl, sv, ns, rfl, f1, f4, ?nextK, ?turnK⟩
                case nextK =>
                  rintro ys9 tl9 ⟨x0, x1, x2, x3⟩
                  have e1 : steps.length ≤ 4 := hdk.2.2.2.1
                  refine ⟨?_, by rw [f5.1] at x1; omega, by omega, Nat.zero_le _⟩
                  rw [stepsAt_eq hdd, List.take_of_length_le (Nat.le_of_eq f5.1.symm)] at x0
                  rw [retsTo_succ hdd, List.take_zero]
                  show AllIn _ _ (_ ++ [])
                  rw [List.append_nil]
                  exact x0
                case turnK =>
                  intro g j u hu
                  obtain ⟨sd, hsd, hS4⟩ := f5.get hu
                  have hok4 := hdk.2.1 sd (List.mem_of_getElem? hsd)
                  have hj4 : j < 4 := by
                    have e1 := (List.getElem?_eq_some_iff.mp hsd).1
                    have e2 : steps.length ≤ 4 := hdk.2.2.2.1
                    omega
                  have eS : rets ((stepsAt ds i).take (j + 1)) = rets ((stepsAt ds i).take j) ++ ret1 sd := rets_snoc (by rw [stepsAt_eq hdd]; exact hsd)
                  cases hS4 with
                  | @mk pa2 x tx vw o n2 s1' s2' =>
                  refine ⟨pa2, n2, .str x tx, vw, rfl, s1', ?_⟩
                  rintro ys9 tl9 I0 oI0 I1 oI1 C oC D9 m₂ h9 tk9 E9 ⟨hA9, x1, x2, x3⟩ hC9 hc9 hd9 F9 N9 o4
                  have o4' : Off4 I0 I1 C D9 tl9 := fun p hp => o4 p (List.mem_append.mpr (.inl hp))
                  have fr9 : ∀ p ∈ (I0, oI0) :: (I1, oI1) :: (C, oC) :: (D9, LCg.lst ys9) :: (tl9 ++ rU), @LT.lt Nat _ p.1 h9.objs.size := fun p hp => Heap.lt_size (N9 p hp).1
                  rcases hok4 with ⟨hx, z, hz, z0, z1⟩ | ⟨hx, hz⟩ | ⟨hx, z, hz, _⟩
                  · dsimp only at hx hz
                    subst hz
                    cases s2' with
                    | int z tz =>
                    rcases hx with rfl | rfl
                    all_goals
                      k_steps
                      exact TwoEnd.intro (by k_asm) (by k_asm) tl9 (fun p hp => hp) o4' ⟨by rw [eS]; exact (by rw [List.append_nil]; exact hA9 : AllIn (RetIn tl9) ys9 (retsTo ds i ++ (rets ((stepsAt ds i).take j) ++ []))), by omega, x2, hj4⟩
                  · dsimp only at hx hz
                    subst hz
                    cases s2' with
                    | none =>
                    rcases hx with rfl | rfl
                    all_goals
                      k_steps
                      exact TwoEnd.intro (by k_asm) (by k_asm) tl9 (fun p hp => hp) o4' ⟨by rw [eS]; exact (by rw [List.append_nil]; exact hA9 : AllIn (RetIn tl9) ys9 (retsTo ds i ++ (rets ((stepsAt ds i).take j) ++ []))), by omega, x2, hj4⟩
                  · dsimp only at hx hz
                    subst hz
                    subst hx
                    cases s2' with
                    | str z tz =>
                    k_steps
                    rename News _ _ _ _ => lN
                    refine TwoEnd.intro (by k_asm) lN ((h9.objs.size, tupOf #[.str z tz, .bool true] 0) :: tl9) swapT ?_ ⟨?_, ?_, x2, hj4⟩
                    · exact List.forall_mem_cons.mpr ⟨⟨Nat.ne_of_gt (fr9 _ (.head _)), Nat.ne_of_gt (fr9 _ (.tail _ (.head _))), Nat.ne_of_gt (fr9 _ (.tail _ (.tail _ (.head _)))), Nat.ne_of_gt (fr9 _ (.tail _ (.tail _ (.tail _ (.head _)))))⟩, o4'⟩
                    · rw [eS]
                      show AllIn _ _ (_ ++ (_ ++ [z]))
                      refine Eq.mp (congrArg (AllIn _ _) (List.append_assoc _ _ _)) ?_
                      exact (hA9.mono fun v d q => q.mono fun p hp => .tail _ hp).snoc (.mk (.head _))
                    · rw [List.length_append, List.length_singleton]; omega
                --]outerK
              case finK =>
                rintro ys9 tl9 D9 h9 tk9 ⟨hA9, x1, _, _⟩ F9 N9 o9
                rw [List.take_zero] at hA9
                replace hA9 : AllIn (RetIn tl9) ys9 (retsTo ds ys.length) := by
                  have e : retsTo ds ys.length ++ rets [] = retsTo ds ys.length := List.append_nil _
                  rw [e] at hA9
                  exact hA9
                have hz9 : (kvOf (retsTo ds ys.length)).length ≤ 36 := by
                  rw [kvOf, List.length_map, ← hA9.1]; omega
                have hP9 : PairsAt h9 ys9 (kvOf (retsTo ds ys.length)) := rets_pairs N9 (hA9.mono fun v d q => q.mono fun p hp => .tail _ (List.mem_append.mpr (.inl hp)))
                k_steps
                unfold CallA
                refine dx_call rfl ((N9 _ (.head _)).1) hP9 (by omega) (fun h10 tk10 hd10 hk10 => ?_)
                have F10 := F9.keeps hk10
                have N10 := N9.grown hk10
                have lo10 := F9.notModules (modules_low (Top.nolimit (by k_asm)))
                clear F9 N9
                k_steps
                unfold CallA
                refine dx_sorted rfl F10 N10 lo10 hd10 (by have := merged_length_le ([] : List (Str × Value)) (kvOf (retsTo ds ys.length)); simp only [List.length_nil] at this; omega) (fun K1 h11 tk11 ksv kss ke F11 N11 lt11 hS11 hp11 hs11 => ?_)
                clear F10 N10 hk10 hd10 lo10
                have hNm : NamesAre cs many := ⟨by rw [hJl]; omega, by have := hmLim; unfold Lim at this; omega, fun k hk => hJn k (by omega)⟩
                have hG : GoalsOf DD (goalsD many) := by rw [hDD]; exact goals_of hNm hO2
                have hAp : NamesApart DD := by rw [hDD]; exact hNm.apart
                have hCo : CondsIn DD := by rw [hDD]; exact conds_of hNm hO2
                have hNo := no_costs (cs := cs) hO2
                rw [← hDD] at hNo
                have hcl : DD.conds.length = many := by rw [hDD]; exact hNm.1
                have hrl : DD.rules.length ≤ 40 := by
                  rw [hDD]
                  show (ds.mapIdx toRule).length ≤ 40
                  rw [List.length_mapIdx]
                  have := hc10
                  unfold Lim at this
                  omega
                have hlo : ys.length = ds.length := kLU.1
                rw [hlo] at hp11 hWU
                have hm0 : 0 < many := by omega
                have hm8 : many < 8 := hNm.2.1
                have hRd : ∀ bs1 : List Bool, bs1.length = DD.conds.length → (∀ k : Nat, bs1[k]? = some true ↔ Reach DD.rules (goalsD many) k) → bs1 = bs := fun bs1 h1 h2 =>
                  seen_eq hm0 hm8 hO2 hRw (by rw [h1, hcl]) (by rw [hDD] at h2; exact h2)
                have hWa : neverIn DD bs DD.conds.length ++ DD.rules.flatMap (ruleWarn DD bs) = neverIn DD bs many ++ dueTo ds DD bs ds.length := by
                  rw [hcl]
                  congr 1
                  rw [hDD]
                  exact warn_all
                have hWo : ∀ x ∈ (neverIn DD bs many ++ dueTo ds DD bs ds.length).map WarnD.data, x.canLay0 = true ∧ x.depth ≤ 5 := by
                  intro x hx
                  obtain ⟨wd, hw, rfl⟩ := List.mem_map.mp hx
                  rw [hDD] at hw
                  exact warn_ok hNm hw
                have hKo := kss_ok hO2 hp11
                have hKl : ∀ ss : List Str, ss.Perm (kindsD DD.rules) → sortedS ss = true → ss = kss := fun ss h1 h2 => by
                  rw [hDD] at h1
                  exact kinds_law hO2 h1 h2 hp11 hs11
                clear hJn hJl hJ9 hmLim hO2 hRw hc10 hA9 hz9 hP9 kLU hp11 hs11
                k_steps
                rename News _ _ _ _ => kN3
                obtain ⟨rR, hrR⟩ : ∃ rR : Led, rR = (K1, listOf ksv.toArray ke) :: (D9, LCg.lst ys9) :: (tl9 ++ rU) := ⟨_, rfl⟩
                rw [← hrR] at kN3
                have wK : (K1, listOf ksv.toArray ke) ∈ rR := by rw [hrR]; exact .head _
                have wU : ∀ p ∈ rU, p ∈ rR := fun p hp => by rw [hrR]; exact .tail _ (.tail _ (List.mem_append.mpr (.inr hp)))
                have wS := wU _ uS
                have wB := wU _ uB
                have w8D := wU _ u8D
                have hDR : FileIn rR (.ref a9) DD := hDU.mono wU
                have hWR : AllIn (WarnIn rR) us8 (neverIn DD bs many ++ dueTo ds DD bs ds.length) := hWU.mono fun v d q => q.mono wU
                clear hDU hWU uS uB u8D uD lt11 o9
                unfold CallA
                refine Spec.use (entered_spec rR (.ref a9) DD (goalsD many) hDR (by omega) hG hAp) (by k_asm) (by k_asm) (by k_asm) (by k_asm) (by k_asm) (by first | exact rfl | assumption) (by ktr_room) (by ktr_units) ?_
                intro r8 h8 tk8 nw8 F8 N8 ⟨g1, bs1, nn1, e8, e9, off8, len8, all8⟩
                subst e8; subst e9
                rw [hRd bs1 len8 all8] at N8
                clear len8 all8 off8 bs1
                k_steps
                unfold CmpA
                refine ne_led (by k_asm) (.head _) (.tail _ wB) (RdAll.bools bs) (RdAll.bools bs) (shaped_bools bs) (shaped_bools bs) (by first | (simp only [Ak]; units_room) | units_room | ktr_units) ?_
                rw [PySem.SeqAt.eqvAll_refl _ (bools_lay bs)]
                simp only [Bool.not_true]
                k_steps
                rename News _ _ _ _ => kN4
                unfold CallA
                refine Spec.use (warnings_spec _ (.ref a9) DD (goalsD many) (hDR.mono fun p hp => .tail _ hp) (by omega) hG hAp hCo) (by k_asm) (by k_asm) (by k_asm) kN4 (by k_asm) (by first | exact rfl | assumption) (by ktr_room) (by ktr_units) ?_
                intro r8 h8 tk8 nw8 F8 N8 ⟨g2, vs2, nn2, tl2w, bs2, e8, e9, len8, all8, hA2w⟩
                subst e8; subst e9
                rw [hRd bs2 len8 all8, hWa] at hA2w
                clear len8 all8 bs2
                have N8' : News T'.heap s1.heap.objs.size h8 ((g2, listOf vs2.toArray nn2) :: (tl2w ++ rR)) := cb_drop N8 fun p hp => by
                  rcases List.mem_cons.mp hp with rfl | hp
                  · exact .head _
                  · rcases List.mem_append.mp hp with hp | hp
                    · exact .tail _ (List.mem_append.mpr (.inl hp))
                    · exact .tail _ (List.mem_append.mpr (.inr (.tail _ hp)))
                clear N8
                have wR : ∀ p ∈ rR, p ∈ (g2, listOf vs2.toArray nn2) :: (tl2w ++ rR) := fun p hp => .tail _ (List.mem_append.mpr (.inr hp))
                k_steps
                unfold CmpA
                refine ne_led N8' (.head _) (wR _ w8D) (RdAll.of (fun _ _ q => q.rd) (hA2w.mono fun v d q => q.mono fun p hp => .tail _ (List.mem_append.mpr (.inl hp)))) (RdAll.of (fun _ _ q => q.rd) (hWR.mono fun v d q => q.mono wR)) (shaped_list hWo) (shaped_list hWo) (by first | (simp only [Ak]; units_room) | units_room | ktr_units) ?_
                rw [PySem.SeqAt.eqvAll_refl _ (canLayAll_of hWo)]
                simp only [Bool.not_true]
                k_steps
                unfold CallA
                refine Spec.use (kinds_spec _ (.ref a9) DD (hDR.mono wR) hrl) (by k_asm) (by k_asm) (by k_asm) N8' (by k_asm) (by first | exact rfl | assumption) (by ktr_room) (by ktr_units) ?_
                intro r8 h8 tk8 nw8 F8 N8 ⟨g3, vs3, ss3, nn3, tl3w, e8, e9, hS3, hp3, hs3⟩
                subst e8; subst e9
                rw [hKl ss3 hp3 hs3] at hS3
                clear hp3 hs3 ss3
                have N9' : News T'.heap s1.heap.objs.size h8 ((g3, listOf vs3.toArray nn3) :: rR) := cb_drop N8 fun p hp => by
                  rcases List.mem_cons.mp hp with rfl | hp
                  · exact .head _
                  · exact .tail _ (List.mem_append.mpr (.inr (wR p hp)))
                clear N8 N8' wR
                k_steps
                unfold CmpA
                refine eq_led N9' (.head _) (.tail _ wK) (RdAll.strs hS3) (RdAll.strs hS11) (shaped_list (strs_lay hKo)) (shaped_list (strs_lay hKo)) (by first | (simp only [Ak]; units_room) | units_room | ktr_units) ?_
                rw [PySem.SeqAt.eqvAll_refl _ (canLayAll_of (strs_lay hKo))]
                k_steps
                unfold CallA
                refine Spec.use (costs_spec _ (.ref a9) DD (hDR.mono fun p hp => .tail _ hp) hNo) (by k_asm) (by k_asm) (by k_asm) (by k_asm) (by k_asm) (by first | exact rfl | assumption) (by ktr_room) (by ktr_units) ?_
                intro r8 h8 tk8 nw8 F8 N8 ⟨g4, nn4, tl4w, e8, e9⟩
                subst e8; subst e9
                have N10' : News T'.heap s1.heap.objs.size h8 ((g4, listOf #[] nn4) :: rR) := cb_drop N8 fun p hp => by
                  rcases List.mem_cons.mp hp with rfl | hp
                  · exact .head _
                  · exact .tail _ (List.mem_append.mpr (.inr (.tail _ hp)))
                clear N8
                k_steps
                rename News _ _ _ _ => kN5
                unfold CmpA
                refine eq_led (vs := []) (us := []) kN5 (.tail _ (.head _)) (.head _) .nil .nil shaped_nil shaped_nil (by first | (simp only [Ak]; units_room) | units_room | ktr_units) ?_
                rw [show PyData.eqvAll [] [] = true from rfl]
                k_steps)
end
end Mine
theorem PySem.Challenge.cw_on0169_01_holds : PySem.Challenge.rw_on0169_01.Holds := by
  exact Mine.dev9
