import PyProof.Rows.All
import Wide.All
import OpenK.AllK
import Wide.FinOn
import Lean
import PySem.Challenge.RW_nu0134_01
open PySem PySem.W PyProof.Rows PySem.Calls PySem.Spec PyProof.V
set_option Elab.async false
set_option compiler.extract_closed false
set_option maxRecDepth 100000
set_option maxHeartbeats 4000000
set_option linter.unusedVariables false
namespace Mine
noncomputable abbrev pw : Program := PySem.Challenge.pw_nu0134_01
noncomputable def nthS : List Stmt → Nat → Stmt
  | [], _ => .Pass ⟨0, 0, 0, 0⟩
  | s :: _, 0 => s
  | _ :: r, n + 1 => nthS r n
noncomputable def kidsS : Stmt → List Stmt
  | .ClassDef _ _ _ b .. => b
  | .FunctionDef _ _ b .. => b
  | _ => []
noncomputable def argsS : Stmt → Arguments
  | .FunctionDef _ a .. => a
  | _ => ⟨[], [], none, [], [], none, []⟩
noncomputable def scopeS : Stmt → Scope
  | .FunctionDef _ _ _ _ _ _ s .. => s
  | _ => ⟨.function, [], false, false, []⟩
@[reducible] noncomputable def pick {α : Type} {x : α} (b : α) (_ : x = b) : α := b
@[reducible] noncomputable def a1_0 : Arguments := by refine' pick (x := argsS (nthS (kidsS (nthS pw.main.body 1)) 0)) _ ?h; case h => conv => lhs; whnf
@[reducible] noncomputable def b1_0 : List Stmt := by refine' pick (x := kidsS (nthS (kidsS (nthS pw.main.body 1)) 0)) _ ?h; case h => conv => lhs; whnf
@[reducible] noncomputable def s1_0 : Scope := by refine' pick (x := scopeS (nthS (kidsS (nthS pw.main.body 1)) 0)) _ ?h; case h => conv => lhs; whnf
@[reducible] noncomputable def a8_0 : Arguments := by refine' pick (x := argsS (nthS (kidsS (nthS pw.main.body 8)) 0)) _ ?h; case h => conv => lhs; whnf
@[reducible] noncomputable def b8_0 : List Stmt := by refine' pick (x := kidsS (nthS (kidsS (nthS pw.main.body 8)) 0)) _ ?h; case h => conv => lhs; whnf
@[reducible] noncomputable def s8_0 : Scope := by refine' pick (x := scopeS (nthS (kidsS (nthS pw.main.body 8)) 0)) _ ?h; case h => conv => lhs; whnf
@[reducible] noncomputable def a8_1 : Arguments := by refine' pick (x := argsS (nthS (kidsS (nthS pw.main.body 8)) 1)) _ ?h; case h => conv => lhs; whnf
@[reducible] noncomputable def b8_1 : List Stmt := by refine' pick (x := kidsS (nthS (kidsS (nthS pw.main.body 8)) 1)) _ ?h; case h => conv => lhs; whnf
@[reducible] noncomputable def s8_1 : Scope := by refine' pick (x := scopeS (nthS (kidsS (nthS pw.main.body 8)) 1)) _ ?h; case h => conv => lhs; whnf
@[reducible] noncomputable def a8_2 : Arguments := by refine' pick (x := argsS (nthS (kidsS (nthS pw.main.body 8)) 2)) _ ?h; case h => conv => lhs; whnf
@[reducible] noncomputable def b8_2 : List Stmt := by refine' pick (x := kidsS (nthS (kidsS (nthS pw.main.body 8)) 2)) _ ?h; case h => conv => lhs; whnf
@[reducible] noncomputable def s8_2 : Scope := by refine' pick (x := scopeS (nthS (kidsS (nthS pw.main.body 8)) 2)) _ ?h; case h => conv => lhs; whnf
@[reducible] noncomputable def a8_3 : Arguments := by refine' pick (x := argsS (nthS (kidsS (nthS pw.main.body 8)) 3)) _ ?h; case h => conv => lhs; whnf
@[reducible] noncomputable def b8_3 : List Stmt := by refine' pick (x := kidsS (nthS (kidsS (nthS pw.main.body 8)) 3)) _ ?h; case h => conv => lhs; whnf
@[reducible] noncomputable def s8_3 : Scope := by refine' pick (x := scopeS (nthS (kidsS (nthS pw.main.body 8)) 3)) _ ?h; case h => conv => lhs; whnf
@[reducible] noncomputable def a8_4 : Arguments := by refine' pick (x := argsS (nthS (kidsS (nthS pw.main.body 8)) 4)) _ ?h; case h => conv => lhs; whnf
@[reducible] noncomputable def b8_4 : List Stmt := by refine' pick (x := kidsS (nthS (kidsS (nthS pw.main.body 8)) 4)) _ ?h; case h => conv => lhs; whnf
@[reducible] noncomputable def s8_4 : Scope := by refine' pick (x := scopeS (nthS (kidsS (nthS pw.main.body 8)) 4)) _ ?h; case h => conv => lhs; whnf
@[reducible] noncomputable def a8_5 : Arguments := by refine' pick (x := argsS (nthS (kidsS (nthS pw.main.body 8)) 5)) _ ?h; case h => conv => lhs; whnf
@[reducible] noncomputable def b8_5 : List Stmt := by refine' pick (x := kidsS (nthS (kidsS (nthS pw.main.body 8)) 5)) _ ?h; case h => conv => lhs; whnf
@[reducible] noncomputable def s8_5 : Scope := by refine' pick (x := scopeS (nthS (kidsS (nthS pw.main.body 8)) 5)) _ ?h; case h => conv => lhs; whnf
@[reducible] noncomputable def a10 : Arguments := by refine' pick (x := argsS (nthS pw.main.body 10)) _ ?h; case h => conv => lhs; whnf
@[reducible] noncomputable def b10 : List Stmt := by refine' pick (x := kidsS (nthS pw.main.body 10)) _ ?h; case h => conv => lhs; whnf
@[reducible] noncomputable def s10 : Scope := by refine' pick (x := scopeS (nthS pw.main.body 10)) _ ?h; case h => conv => lhs; whnf
@[reducible] noncomputable def a11 : Arguments := by refine' pick (x := argsS (nthS pw.main.body 11)) _ ?h; case h => conv => lhs; whnf
@[reducible] noncomputable def b11 : List Stmt := by refine' pick (x := kidsS (nthS pw.main.body 11)) _ ?h; case h => conv => lhs; whnf
@[reducible] noncomputable def s11 : Scope := by refine' pick (x := scopeS (nthS pw.main.body 11)) _ ?h; case h => conv => lhs; whnf
@[reducible] noncomputable def a12 : Arguments := by refine' pick (x := argsS (nthS pw.main.body 12)) _ ?h; case h => conv => lhs; whnf
@[reducible] noncomputable def b12 : List Stmt := by refine' pick (x := kidsS (nthS pw.main.body 12)) _ ?h; case h => conv => lhs; whnf
@[reducible] noncomputable def s12 : Scope := by refine' pick (x := scopeS (nthS pw.main.body 12)) _ ?h; case h => conv => lhs; whnf
@[reducible] noncomputable def a15 : Arguments := by refine' pick (x := argsS (nthS pw.main.body 15)) _ ?h; case h => conv => lhs; whnf
@[reducible] noncomputable def b15 : List Stmt := by refine' pick (x := kidsS (nthS pw.main.body 15)) _ ?h; case h => conv => lhs; whnf
@[reducible] noncomputable def s15 : Scope := by refine' pick (x := scopeS (nthS pw.main.body 15)) _ ?h; case h => conv => lhs; whnf
@[reducible] noncomputable def a16 : Arguments := by refine' pick (x := argsS (nthS pw.main.body 16)) _ ?h; case h => conv => lhs; whnf
@[reducible] noncomputable def b16 : List Stmt := by refine' pick (x := kidsS (nthS pw.main.body 16)) _ ?h; case h => conv => lhs; whnf
@[reducible] noncomputable def s16 : Scope := by refine' pick (x := scopeS (nthS pw.main.body 16)) _ ?h; case h => conv => lhs; whnf
@[reducible] noncomputable def a17 : Arguments := by refine' pick (x := argsS (nthS pw.main.body 17)) _ ?h; case h => conv => lhs; whnf
@[reducible] noncomputable def b17 : List Stmt := by refine' pick (x := kidsS (nthS pw.main.body 17)) _ ?h; case h => conv => lhs; whnf
@[reducible] noncomputable def s17 : Scope := by refine' pick (x := scopeS (nthS pw.main.body 17)) _ ?h; case h => conv => lhs; whnf
@[reducible] noncomputable def a18 : Arguments := by refine' pick (x := argsS (nthS pw.main.body 18)) _ ?h; case h => conv => lhs; whnf
@[reducible] noncomputable def b18 : List Stmt := by refine' pick (x := kidsS (nthS pw.main.body 18)) _ ?h; case h => conv => lhs; whnf
@[reducible] noncomputable def s18 : Scope := by refine' pick (x := scopeS (nthS pw.main.body 18)) _ ?h; case h => conv => lhs; whnf
@[reducible] noncomputable def a24_0 : Arguments := by refine' pick (x := argsS (nthS (kidsS (nthS pw.main.body 24)) 0)) _ ?h; case h => conv => lhs; whnf
@[reducible] noncomputable def b24_0 : List Stmt := by refine' pick (x := kidsS (nthS (kidsS (nthS pw.main.body 24)) 0)) _ ?h; case h => conv => lhs; whnf
@[reducible] noncomputable def s24_0 : Scope := by refine' pick (x := scopeS (nthS (kidsS (nthS pw.main.body 24)) 0)) _ ?h; case h => conv => lhs; whnf
@[reducible] noncomputable def a25 : Arguments := by refine' pick (x := argsS (nthS pw.main.body 25)) _ ?h; case h => conv => lhs; whnf
@[reducible] noncomputable def b25 : List Stmt := by refine' pick (x := kidsS (nthS pw.main.body 25)) _ ?h; case h => conv => lhs; whnf
@[reducible] noncomputable def s25 : Scope := by refine' pick (x := scopeS (nthS pw.main.body 25)) _ ?h; case h => conv => lhs; whnf
@[reducible] noncomputable def a26 : Arguments := by refine' pick (x := argsS (nthS pw.main.body 26)) _ ?h; case h => conv => lhs; whnf
@[reducible] noncomputable def b26 : List Stmt := by refine' pick (x := kidsS (nthS pw.main.body 26)) _ ?h; case h => conv => lhs; whnf
@[reducible] noncomputable def s26 : Scope := by refine' pick (x := scopeS (nthS pw.main.body 26)) _ ?h; case h => conv => lhs; whnf
@[reducible] noncomputable def a27 : Arguments := by refine' pick (x := argsS (nthS pw.main.body 27)) _ ?h; case h => conv => lhs; whnf
@[reducible] noncomputable def b27 : List Stmt := by refine' pick (x := kidsS (nthS pw.main.body 27)) _ ?h; case h => conv => lhs; whnf
@[reducible] noncomputable def s27 : Scope := by refine' pick (x := scopeS (nthS pw.main.body 27)) _ ?h; case h => conv => lhs; whnf
@[reducible] noncomputable def a30_0 : Arguments := by refine' pick (x := argsS (nthS (kidsS (nthS pw.main.body 30)) 0)) _ ?h; case h => conv => lhs; whnf
@[reducible] noncomputable def b30_0 : List Stmt := by refine' pick (x := kidsS (nthS (kidsS (nthS pw.main.body 30)) 0)) _ ?h; case h => conv => lhs; whnf
@[reducible] noncomputable def s30_0 : Scope := by refine' pick (x := scopeS (nthS (kidsS (nthS pw.main.body 30)) 0)) _ ?h; case h => conv => lhs; whnf
@[reducible] noncomputable def a30_1 : Arguments := by refine' pick (x := argsS (nthS (kidsS (nthS pw.main.body 30)) 1)) _ ?h; case h => conv => lhs; whnf
@[reducible] noncomputable def b30_1 : List Stmt := by refine' pick (x := kidsS (nthS (kidsS (nthS pw.main.body 30)) 1)) _ ?h; case h => conv => lhs; whnf
@[reducible] noncomputable def s30_1 : Scope := by refine' pick (x := scopeS (nthS (kidsS (nthS pw.main.body 30)) 1)) _ ?h; case h => conv => lhs; whnf
@[reducible] noncomputable def a30_2 : Arguments := by refine' pick (x := argsS (nthS (kidsS (nthS pw.main.body 30)) 2)) _ ?h; case h => conv => lhs; whnf
@[reducible] noncomputable def b30_2 : List Stmt := by refine' pick (x := kidsS (nthS (kidsS (nthS pw.main.body 30)) 2)) _ ?h; case h => conv => lhs; whnf
@[reducible] noncomputable def s30_2 : Scope := by refine' pick (x := scopeS (nthS (kidsS (nthS pw.main.body 30)) 2)) _ ?h; case h => conv => lhs; whnf
@[reducible] noncomputable def a31_0 : Arguments := by refine' pick (x := argsS (nthS (kidsS (nthS pw.main.body 31)) 0)) _ ?h; case h => conv => lhs; whnf
@[reducible] noncomputable def b31_0 : List Stmt := by refine' pick (x := kidsS (nthS (kidsS (nthS pw.main.body 31)) 0)) _ ?h; case h => conv => lhs; whnf
@[reducible] noncomputable def s31_0 : Scope := by refine' pick (x := scopeS (nthS (kidsS (nthS pw.main.body 31)) 0)) _ ?h; case h => conv => lhs; whnf
@[reducible] noncomputable def a31_1 : Arguments := by refine' pick (x := argsS (nthS (kidsS (nthS pw.main.body 31)) 1)) _ ?h; case h => conv => lhs; whnf
@[reducible] noncomputable def b31_1 : List Stmt := by refine' pick (x := kidsS (nthS (kidsS (nthS pw.main.body 31)) 1)) _ ?h; case h => conv => lhs; whnf
@[reducible] noncomputable def s31_1 : Scope := by refine' pick (x := scopeS (nthS (kidsS (nthS pw.main.body 31)) 1)) _ ?h; case h => conv => lhs; whnf
@[reducible] noncomputable def a31_2 : Arguments := by refine' pick (x := argsS (nthS (kidsS (nthS pw.main.body 31)) 2)) _ ?h; case h => conv => lhs; whnf
@[reducible] noncomputable def b31_2 : List Stmt := by refine' pick (x := kidsS (nthS (kidsS (nthS pw.main.body 31)) 2)) _ ?h; case h => conv => lhs; whnf
@[reducible] noncomputable def s31_2 : Scope := by refine' pick (x := scopeS (nthS (kidsS (nthS pw.main.body 31)) 2)) _ ?h; case h => conv => lhs; whnf
@[reducible] noncomputable def a31_3 : Arguments := by refine' pick (x := argsS (nthS (kidsS (nthS pw.main.body 31)) 3)) _ ?h; case h => conv => lhs; whnf
@[reducible] noncomputable def b31_3 : List Stmt := by refine' pick (x := kidsS (nthS (kidsS (nthS pw.main.body 31)) 3)) _ ?h; case h => conv => lhs; whnf
@[reducible] noncomputable def s31_3 : Scope := by refine' pick (x := scopeS (nthS (kidsS (nthS pw.main.body 31)) 3)) _ ?h; case h => conv => lhs; whnf
@[reducible] noncomputable def a31_4 : Arguments := by refine' pick (x := argsS (nthS (kidsS (nthS pw.main.body 31)) 4)) _ ?h; case h => conv => lhs; whnf
@[reducible] noncomputable def b31_4 : List Stmt := by refine' pick (x := kidsS (nthS (kidsS (nthS pw.main.body 31)) 4)) _ ?h; case h => conv => lhs; whnf
@[reducible] noncomputable def s31_4 : Scope := by refine' pick (x := scopeS (nthS (kidsS (nthS pw.main.body 31)) 4)) _ ?h; case h => conv => lhs; whnf
@[reducible] noncomputable def a31_5 : Arguments := by refine' pick (x := argsS (nthS (kidsS (nthS pw.main.body 31)) 5)) _ ?h; case h => conv => lhs; whnf
@[reducible] noncomputable def b31_5 : List Stmt := by refine' pick (x := kidsS (nthS (kidsS (nthS pw.main.body 31)) 5)) _ ?h; case h => conv => lhs; whnf
@[reducible] noncomputable def s31_5 : Scope := by refine' pick (x := scopeS (nthS (kidsS (nthS pw.main.body 31)) 5)) _ ?h; case h => conv => lhs; whnf
@[reducible] noncomputable def a31_6 : Arguments := by refine' pick (x := argsS (nthS (kidsS (nthS pw.main.body 31)) 6)) _ ?h; case h => conv => lhs; whnf
@[reducible] noncomputable def b31_6 : List Stmt := by refine' pick (x := kidsS (nthS (kidsS (nthS pw.main.body 31)) 6)) _ ?h; case h => conv => lhs; whnf
@[reducible] noncomputable def s31_6 : Scope := by refine' pick (x := scopeS (nthS (kidsS (nthS pw.main.body 31)) 6)) _ ?h; case h => conv => lhs; whnf
@[reducible] noncomputable def a34_0 : Arguments := by refine' pick (x := argsS (nthS (kidsS (nthS pw.main.body 34)) 0)) _ ?h; case h => conv => lhs; whnf
@[reducible] noncomputable def b34_0 : List Stmt := by refine' pick (x := kidsS (nthS (kidsS (nthS pw.main.body 34)) 0)) _ ?h; case h => conv => lhs; whnf
@[reducible] noncomputable def s34_0 : Scope := by refine' pick (x := scopeS (nthS (kidsS (nthS pw.main.body 34)) 0)) _ ?h; case h => conv => lhs; whnf
@[reducible] noncomputable def a35_0 : Arguments := by refine' pick (x := argsS (nthS (kidsS (nthS pw.main.body 35)) 0)) _ ?h; case h => conv => lhs; whnf
@[reducible] noncomputable def b35_0 : List Stmt := by refine' pick (x := kidsS (nthS (kidsS (nthS pw.main.body 35)) 0)) _ ?h; case h => conv => lhs; whnf
@[reducible] noncomputable def s35_0 : Scope := by refine' pick (x := scopeS (nthS (kidsS (nthS pw.main.body 35)) 0)) _ ?h; case h => conv => lhs; whnf
@[reducible] noncomputable def a35_1 : Arguments := by refine' pick (x := argsS (nthS (kidsS (nthS pw.main.body 35)) 1)) _ ?h; case h => conv => lhs; whnf
@[reducible] noncomputable def b35_1 : List Stmt := by refine' pick (x := kidsS (nthS (kidsS (nthS pw.main.body 35)) 1)) _ ?h; case h => conv => lhs; whnf
@[reducible] noncomputable def s35_1 : Scope := by refine' pick (x := scopeS (nthS (kidsS (nthS pw.main.body 35)) 1)) _ ?h; case h => conv => lhs; whnf
@[reducible] noncomputable def a35_2 : Arguments := by refine' pick (x := argsS (nthS (kidsS (nthS pw.main.body 35)) 2)) _ ?h; case h => conv => lhs; whnf
@[reducible] noncomputable def b35_2 : List Stmt := by refine' pick (x := kidsS (nthS (kidsS (nthS pw.main.body 35)) 2)) _ ?h; case h => conv => lhs; whnf
@[reducible] noncomputable def s35_2 : Scope := by refine' pick (x := scopeS (nthS (kidsS (nthS pw.main.body 35)) 2)) _ ?h; case h => conv => lhs; whnf
@[reducible] noncomputable def a35_3 : Arguments := by refine' pick (x := argsS (nthS (kidsS (nthS pw.main.body 35)) 3)) _ ?h; case h => conv => lhs; whnf
@[reducible] noncomputable def b35_3 : List Stmt := by refine' pick (x := kidsS (nthS (kidsS (nthS pw.main.body 35)) 3)) _ ?h; case h => conv => lhs; whnf
@[reducible] noncomputable def s35_3 : Scope := by refine' pick (x := scopeS (nthS (kidsS (nthS pw.main.body 35)) 3)) _ ?h; case h => conv => lhs; whnf
@[reducible] noncomputable def a35_4 : Arguments := by refine' pick (x := argsS (nthS (kidsS (nthS pw.main.body 35)) 4)) _ ?h; case h => conv => lhs; whnf
@[reducible] noncomputable def b35_4 : List Stmt := by refine' pick (x := kidsS (nthS (kidsS (nthS pw.main.body 35)) 4)) _ ?h; case h => conv => lhs; whnf
@[reducible] noncomputable def s35_4 : Scope := by refine' pick (x := scopeS (nthS (kidsS (nthS pw.main.body 35)) 4)) _ ?h; case h => conv => lhs; whnf
@[reducible] noncomputable def a35_5 : Arguments := by refine' pick (x := argsS (nthS (kidsS (nthS pw.main.body 35)) 5)) _ ?h; case h => conv => lhs; whnf
@[reducible] noncomputable def b35_5 : List Stmt := by refine' pick (x := kidsS (nthS (kidsS (nthS pw.main.body 35)) 5)) _ ?h; case h => conv => lhs; whnf
@[reducible] noncomputable def s35_5 : Scope := by refine' pick (x := scopeS (nthS (kidsS (nthS pw.main.body 35)) 5)) _ ?h; case h => conv => lhs; whnf
@[reducible] noncomputable def a35_6 : Arguments := by refine' pick (x := argsS (nthS (kidsS (nthS pw.main.body 35)) 6)) _ ?h; case h => conv => lhs; whnf
@[reducible] noncomputable def b35_6 : List Stmt := by refine' pick (x := kidsS (nthS (kidsS (nthS pw.main.body 35)) 6)) _ ?h; case h => conv => lhs; whnf
@[reducible] noncomputable def s35_6 : Scope := by refine' pick (x := scopeS (nthS (kidsS (nthS pw.main.body 35)) 6)) _ ?h; case h => conv => lhs; whnf
@[reducible] noncomputable def a35_7 : Arguments := by refine' pick (x := argsS (nthS (kidsS (nthS pw.main.body 35)) 7)) _ ?h; case h => conv => lhs; whnf
@[reducible] noncomputable def b35_7 : List Stmt := by refine' pick (x := kidsS (nthS (kidsS (nthS pw.main.body 35)) 7)) _ ?h; case h => conv => lhs; whnf
@[reducible] noncomputable def s35_7 : Scope := by refine' pick (x := scopeS (nthS (kidsS (nthS pw.main.body 35)) 7)) _ ?h; case h => conv => lhs; whnf
@[reducible] noncomputable def a35_8 : Arguments := by refine' pick (x := argsS (nthS (kidsS (nthS pw.main.body 35)) 8)) _ ?h; case h => conv => lhs; whnf
@[reducible] noncomputable def b35_8 : List Stmt := by refine' pick (x := kidsS (nthS (kidsS (nthS pw.main.body 35)) 8)) _ ?h; case h => conv => lhs; whnf
@[reducible] noncomputable def s35_8 : Scope := by refine' pick (x := scopeS (nthS (kidsS (nthS pw.main.body 35)) 8)) _ ?h; case h => conv => lhs; whnf
@[reducible] noncomputable def a35_9 : Arguments := by refine' pick (x := argsS (nthS (kidsS (nthS pw.main.body 35)) 9)) _ ?h; case h => conv => lhs; whnf
@[reducible] noncomputable def b35_9 : List Stmt := by refine' pick (x := kidsS (nthS (kidsS (nthS pw.main.body 35)) 9)) _ ?h; case h => conv => lhs; whnf
@[reducible] noncomputable def s35_9 : Scope := by refine' pick (x := scopeS (nthS (kidsS (nthS pw.main.body 35)) 9)) _ ?h; case h => conv => lhs; whnf
@[reducible] noncomputable def a35_10 : Arguments := by refine' pick (x := argsS (nthS (kidsS (nthS pw.main.body 35)) 10)) _ ?h; case h => conv => lhs; whnf
@[reducible] noncomputable def b35_10 : List Stmt := by refine' pick (x := kidsS (nthS (kidsS (nthS pw.main.body 35)) 10)) _ ?h; case h => conv => lhs; whnf
@[reducible] noncomputable def s35_10 : Scope := by refine' pick (x := scopeS (nthS (kidsS (nthS pw.main.body 35)) 10)) _ ?h; case h => conv => lhs; whnf
@[reducible] noncomputable def a35_11 : Arguments := by refine' pick (x := argsS (nthS (kidsS (nthS pw.main.body 35)) 11)) _ ?h; case h => conv => lhs; whnf
@[reducible] noncomputable def b35_11 : List Stmt := by refine' pick (x := kidsS (nthS (kidsS (nthS pw.main.body 35)) 11)) _ ?h; case h => conv => lhs; whnf
@[reducible] noncomputable def s35_11 : Scope := by refine' pick (x := scopeS (nthS (kidsS (nthS pw.main.body 35)) 11)) _ ?h; case h => conv => lhs; whnf
@[reducible] noncomputable def a37 : Arguments := by refine' pick (x := argsS (nthS pw.main.body 37)) _ ?h; case h => conv => lhs; whnf
@[reducible] noncomputable def b37 : List Stmt := by refine' pick (x := kidsS (nthS pw.main.body 37)) _ ?h; case h => conv => lhs; whnf
@[reducible] noncomputable def s37 : Scope := by refine' pick (x := scopeS (nthS pw.main.body 37)) _ ?h; case h => conv => lhs; whnf
@[reducible] noncomputable def a38 : Arguments := by refine' pick (x := argsS (nthS pw.main.body 38)) _ ?h; case h => conv => lhs; whnf
@[reducible] noncomputable def b38 : List Stmt := by refine' pick (x := kidsS (nthS pw.main.body 38)) _ ?h; case h => conv => lhs; whnf
@[reducible] noncomputable def s38 : Scope := by refine' pick (x := scopeS (nthS pw.main.body 38)) _ ?h; case h => conv => lhs; whnf
@[reducible] noncomputable def a39 : Arguments := by refine' pick (x := argsS (nthS pw.main.body 39)) _ ?h; case h => conv => lhs; whnf
@[reducible] noncomputable def b39 : List Stmt := by refine' pick (x := kidsS (nthS pw.main.body 39)) _ ?h; case h => conv => lhs; whnf
@[reducible] noncomputable def s39 : Scope := by refine' pick (x := scopeS (nthS pw.main.body 39)) _ ?h; case h => conv => lhs; whnf
@[reducible] noncomputable def a40 : Arguments := by refine' pick (x := argsS (nthS pw.main.body 40)) _ ?h; case h => conv => lhs; whnf
@[reducible] noncomputable def b40 : List Stmt := by refine' pick (x := kidsS (nthS pw.main.body 40)) _ ?h; case h => conv => lhs; whnf
@[reducible] noncomputable def s40 : Scope := by refine' pick (x := scopeS (nthS pw.main.body 40)) _ ?h; case h => conv => lhs; whnf
@[reducible] noncomputable def a41 : Arguments := by refine' pick (x := argsS (nthS pw.main.body 41)) _ ?h; case h => conv => lhs; whnf
@[reducible] noncomputable def b41 : List Stmt := by refine' pick (x := kidsS (nthS pw.main.body 41)) _ ?h; case h => conv => lhs; whnf
@[reducible] noncomputable def s41 : Scope := by refine' pick (x := scopeS (nthS pw.main.body 41)) _ ?h; case h => conv => lhs; whnf
@[reducible] noncomputable def a42 : Arguments := by refine' pick (x := argsS (nthS pw.main.body 42)) _ ?h; case h => conv => lhs; whnf
@[reducible] noncomputable def b42 : List Stmt := by refine' pick (x := kidsS (nthS pw.main.body 42)) _ ?h; case h => conv => lhs; whnf
@[reducible] noncomputable def s42 : Scope := by refine' pick (x := scopeS (nthS pw.main.body 42)) _ ?h; case h => conv => lhs; whnf
@[reducible] noncomputable def a43 : Arguments := by refine' pick (x := argsS (nthS pw.main.body 43)) _ ?h; case h => conv => lhs; whnf
@[reducible] noncomputable def b43 : List Stmt := by refine' pick (x := kidsS (nthS pw.main.body 43)) _ ?h; case h => conv => lhs; whnf
@[reducible] noncomputable def s43 : Scope := by refine' pick (x := scopeS (nthS pw.main.body 43)) _ ?h; case h => conv => lhs; whnf
@[reducible] noncomputable def a44 : Arguments := by refine' pick (x := argsS (nthS pw.main.body 44)) _ ?h; case h => conv => lhs; whnf
@[reducible] noncomputable def b44 : List Stmt := by refine' pick (x := kidsS (nthS pw.main.body 44)) _ ?h; case h => conv => lhs; whnf
@[reducible] noncomputable def s44 : Scope := by refine' pick (x := scopeS (nthS pw.main.body 44)) _ ?h; case h => conv => lhs; whnf
@[reducible] noncomputable def a45 : Arguments := by refine' pick (x := argsS (nthS pw.main.body 45)) _ ?h; case h => conv => lhs; whnf
@[reducible] noncomputable def b45 : List Stmt := by refine' pick (x := kidsS (nthS pw.main.body 45)) _ ?h; case h => conv => lhs; whnf
@[reducible] noncomputable def s45 : Scope := by refine' pick (x := scopeS (nthS pw.main.body 45)) _ ?h; case h => conv => lhs; whnf
@[reducible] noncomputable def a46 : Arguments := by refine' pick (x := argsS (nthS pw.main.body 46)) _ ?h; case h => conv => lhs; whnf
@[reducible] noncomputable def b46 : List Stmt := by refine' pick (x := kidsS (nthS pw.main.body 46)) _ ?h; case h => conv => lhs; whnf
@[reducible] noncomputable def s46 : Scope := by refine' pick (x := scopeS (nthS pw.main.body 46)) _ ?h; case h => conv => lhs; whnf
@[reducible] noncomputable def a47 : Arguments := by refine' pick (x := argsS (nthS pw.main.body 47)) _ ?h; case h => conv => lhs; whnf
@[reducible] noncomputable def b47 : List Stmt := by refine' pick (x := kidsS (nthS pw.main.body 47)) _ ?h; case h => conv => lhs; whnf
@[reducible] noncomputable def s47 : Scope := by refine' pick (x := scopeS (nthS pw.main.body 47)) _ ?h; case h => conv => lhs; whnf
@[reducible] noncomputable def a48 : Arguments := by refine' pick (x := argsS (nthS pw.main.body 48)) _ ?h; case h => conv => lhs; whnf
@[reducible] noncomputable def b48 : List Stmt := by refine' pick (x := kidsS (nthS pw.main.body 48)) _ ?h; case h => conv => lhs; whnf
@[reducible] noncomputable def s48 : Scope := by refine' pick (x := scopeS (nthS pw.main.body 48)) _ ?h; case h => conv => lhs; whnf
@[reducible] noncomputable def a49 : Arguments := by refine' pick (x := argsS (nthS pw.main.body 49)) _ ?h; case h => conv => lhs; whnf
@[reducible] noncomputable def b49 : List Stmt := by refine' pick (x := kidsS (nthS pw.main.body 49)) _ ?h; case h => conv => lhs; whnf
@[reducible] noncomputable def s49 : Scope := by refine' pick (x := scopeS (nthS pw.main.body 49)) _ ?h; case h => conv => lhs; whnf
noncomputable def hp : Params → Frag := fun P =>
  (((nat_lit 2), ⟨.none, none, (.dict #[⟨(PyData.keyHash P (Str.ofString "type.__subclasses__.Exception.0")), (.str (Str.ofString "type.__subclasses__.Exception.0") 214), (.int 31 0)⟩, ⟨(PyData.keyHash P (Str.ofString "type.__subclasses__.Exception.n")), (.str (Str.ofString "type.__subclasses__.Exception.n") 215), (.int 1 0)⟩] 2), #[]⟩) ::
  ((nat_lit 3), ⟨(.type "dict"), none, (.dict #[⟨(PyData.keyHash P (Str.ofString "__name__")), (.str (Str.ofString "__name__") 165), (.str (Str.ofString "law_nu0134_01") 839)⟩, ⟨(PyData.keyHash P (Str.ofString "__doc__")), (.str (Str.ofString "__doc__") 166), .none⟩, ⟨(PyData.keyHash P (Str.ofString "__package__")), (.str (Str.ofString "__package__") 167), .none⟩, ⟨(PyData.keyHash P (Str.ofString "__loader__")), (.str (Str.ofString "__loader__") 168), (.builtin "__main__.__loader__#opaque")⟩, ⟨(PyData.keyHash P (Str.ofString "__spec__")), (.str (Str.ofString "__spec__") 169), .none⟩, ⟨(PyData.keyHash P (Str.ofString "__annotations__")), (.str (Str.ofString "__annotations__") 170), (.ref 6)⟩, ⟨(PyData.keyHash P (Str.ofString "__builtins__")), (.str (Str.ofString "__builtins__") 171), (.ref 4)⟩, ⟨(PyData.keyHash P (Str.ofString "__file__")), (.str (Str.ofString "__file__") 173), (.str (Str.ofString "/claim/cut.py") 172)⟩, ⟨(PyData.keyHash P (Str.ofString "__cached__")), (.str (Str.ofString "__cached__") 174), .none⟩, ⟨(PyData.keyHash P (Str.ofString "StackError")), (.str (Str.ofString "StackError") 217), (.ref 31)⟩, ⟨(PyData.keyHash P (Str.ofString "FormError")), (.str (Str.ofString "FormError") 233), (.ref 44)⟩, ⟨(PyData.keyHash P (Str.ofString "SizeError")), (.str (Str.ofString "SizeError") 249), (.ref 56)⟩, ⟨(PyData.keyHash P (Str.ofString "PortError")), (.str (Str.ofString "PortError") 265), (.ref 68)⟩, ⟨(PyData.keyHash P (Str.ofString "StateError")), (.str (Str.ofString "StateError") 281), (.ref 80)⟩, ⟨(PyData.keyHash P (Str.ofString "MOST_PORT")), (.str (Str.ofString "MOST_PORT") 285), (.int 65535 284)⟩, ⟨(PyData.keyHash P (Str.ofString "Ports")), (.str (Str.ofString "Ports") 360), (.ref 135)⟩, ⟨(PyData.keyHash P (Str.ofString "put16")), (.str (Str.ofString "put16") 369), (.ref 146)⟩, ⟨(PyData.keyHash P (Str.ofString "need")), (.str (Str.ofString "need") 378), (.ref 153)⟩, ⟨(PyData.keyHash P (Str.ofString "get16")), (.str (Str.ofString "get16") 386), (.ref 160)⟩, ⟨(PyData.keyHash P (Str.ofString "ALL_ONES_sums")), (.str (Str.ofString "ALL_ONES_sums") 390), (.int 65535 389)⟩, ⟨(PyData.keyHash P (Str.ofString "fold")), (.str (Str.ofString "fold") 397), (.ref 167)⟩, ⟨(PyData.keyHash P (Str.ofString "ones_sum")), (.str (Str.ofString "ones_sum") 409), (.ref 175)⟩, ⟨(PyData.keyHash P (Str.ofString "checksum")), (.str (Str.ofString "checksum") 418), (.ref 183)⟩, ⟨(PyData.keyHash P (Str.ofString "pseudo_sum")), (.str (Str.ofString "pseudo_sum") 429), (.ref 190)⟩, ⟨(PyData.keyHash P (Str.ofString "UDP")), (.str (Str.ofString "UDP") 433), (.int 17 432)⟩, ⟨(PyData.keyHash P (Str.ofString "HEAD_SIZE")), (.str (Str.ofString "HEAD_SIZE") 435), (.int 8 434)⟩, ⟨(PyData.keyHash P (Str.ofString "MOST_SIZE")), (.str (Str.ofString "MOST_SIZE") 437), (.int 65535 436)⟩, ⟨(PyData.keyHash P (Str.ofString "ALL_ONES_udp")), (.str (Str.ofString "ALL_ONES_udp") 439), (.int 65535 438)⟩, ⟨(PyData.keyHash P (Str.ofString "UdpHeader")), (.str (Str.ofString "UdpHeader") 470), (.ref 207)⟩, ⟨(PyData.keyHash P (Str.ofString "pack_udp")), (.str (Str.ofString "pack_udp") 485), (.ref 219)⟩, ⟨(PyData.keyHash P (Str.ofString "unpack_udp")), (.str (Str.ofString "unpack_udp") 496), (.ref 226)⟩, ⟨(PyData.keyHash P (Str.ofString "read_header")), (.str (Str.ofString "read_header") 503), (.ref 233)⟩, ⟨(PyData.keyHash P (Str.ofString "ANY")), (.str (Str.ofString "ANY") 507), (.int 0 506)⟩, ⟨(PyData.keyHash P (Str.ofString "UdpRow")), (.str (Str.ofString "UdpRow") 561), (.ref 264)⟩, ⟨(PyData.keyHash P (Str.ofString "UdpTable")), (.str (Str.ofString "UdpTable") 655), (.ref 327)⟩, ⟨(PyData.keyHash P (Str.ofString "MOST_WAITING")), (.str (Str.ofString "MOST_WAITING") 659), (.int 16 658)⟩, ⟨(PyData.keyHash P (Str.ofString "UdpSocket")), (.str (Str.ofString "UdpSocket") 694), (.ref 348)⟩, ⟨(PyData.keyHash P (Str.ofString "UdpSockets")), (.str (Str.ofString "UdpSockets") 838), (.ref 445)⟩, ⟨(PyData.keyHash P (Str.ofString "_law_pool")), (.str (Str.ofString "_law_pool") 851), (.ref 456)⟩, ⟨(PyData.keyHash P (Str.ofString "_law_take")), (.str (Str.ofString "_law_take") 860), (.ref 463)⟩, ⟨(PyData.keyHash P (Str.ofString "_law_one")), (.str (Str.ofString "_law_one") 868), (.ref 470)⟩, ⟨(PyData.keyHash P (Str.ofString "_law_free_port")), (.str (Str.ofString "_law_free_port") 874), (.ref 475)⟩, ⟨(PyData.keyHash P (Str.ofString "_law_opened")), (.str (Str.ofString "_law_opened") 880), (.ref 480)⟩, ⟨(PyData.keyHash P (Str.ofString "_law_target")), (.str (Str.ofString "_law_target") 895), (.ref 487)⟩, ⟨(PyData.keyHash P (Str.ofString "_law_came")), (.str (Str.ofString "_law_came") 908), (.ref 494)⟩, ⟨(PyData.keyHash P (Str.ofString "_law_read")), (.str (Str.ofString "_law_read") 918), (.ref 501)⟩, ⟨(PyData.keyHash P (Str.ofString "_law_sent")), (.str (Str.ofString "_law_sent") 930), (.ref 508)⟩, ⟨(PyData.keyHash P (Str.ofString "_law_erred")), (.str (Str.ofString "_law_erred") 941), (.ref 515)⟩, ⟨(PyData.keyHash P (Str.ofString "_law_is_gone")), (.str (Str.ofString "_law_is_gone") 949), (.ref 522)⟩, ⟨(PyData.keyHash P (Str.ofString "_law_deed_right")), (.str (Str.ofString "_law_deed_right") 955), (.ref 527)⟩, ⟨(PyData.keyHash P (Str.ofString "law")), (.str (Str.ofString "law") 968), (.ref 534)⟩] 51), #[]⟩) ::
  ((nat_lit 15), ⟨(.type "tuple"), none, (.seq #[(.type "Exception")] 0), #[]⟩) ::
  ((nat_lit 22), ⟨(.type "tuple"), none, (.seq #[] 0), #[]⟩) ::
  ((nat_lit 24), ⟨(.type "tuple"), none, (.seq #[(.str (Str.ofString "self") 204), (.str (Str.ofString "message") 205)] 0), #[]⟩) ::
  ((nat_lit 25), ⟨(.type "tuple"), none, (.seq #[] 0), #[]⟩) ::
  ((nat_lit 27), ⟨(.type "code"), none, (.fields #[(.str (Str.ofString "__init__") 201), (.str (Str.ofString "StackError.__init__") 202), (.str (Str.ofString "/claim/cut.py") 203), (.int 4 0), (.int 2 0), (.int 0 0), (.int 0 0), (.int 3 0), (.ref 22), (.bool true), (.int 181 0), (.ref 23), .none, (.ref 24), (.ref 25), (.ref 26), (.int 206 0), (.int 4 0), (.str (Str.ofString "/claim/cut.py") 207)]), #[]⟩) ::
  ((nat_lit 28), ⟨(.type "function"), none, (.func ⟨(Str.ofString "__init__"), (Str.ofString "StackError.__init__"), a1_0, (.stmts b1_0), s1_0, 3, [], .none, .none, .none, (.str (Str.ofString "thinstack.errors") 187), none, (.ref 27), .none, 0⟩), #[]⟩) ::
  ((nat_lit 29), ⟨(.type "tuple"), none, (.seq #[(.str (Str.ofString "message") 209)] 0), #[]⟩) ::
  ((nat_lit 30), ⟨(.type "dict"), none, (.dict #[⟨(PyData.keyHash P (Str.ofString "__module__")), (.str (Str.ofString "__module__") 196), (.str (Str.ofString "thinstack.errors") 187)⟩, ⟨(PyData.keyHash P (Str.ofString "__firstlineno__")), (.str (Str.ofString "__firstlineno__") 200), (.int 2 199)⟩, ⟨(PyData.keyHash P (Str.ofString "__init__")), (.str (Str.ofString "__init__") 208), (.ref 28)⟩, ⟨(PyData.keyHash P (Str.ofString "__static_attributes__")), (.str (Str.ofString "__static_attributes__") 210), (.ref 29)⟩, ⟨(PyData.keyHash P (Str.ofString "__weakref__")), (.str (Str.ofString "__weakref__") 212), (.ref 32)⟩, ⟨(PyData.keyHash P (Str.ofString "__doc__")), (.str (Str.ofString "__doc__") 213), .none⟩] 3), #[]⟩) ::
  ((nat_lit 31), ⟨(.type "type"), none, (.cls ⟨(Str.ofString "StackError"), [(.type "Exception")], [(.ref 31), (.type "Exception"), (.type "BaseException"), (.type "object")], 30, (Str.ofString "StackError"), true, [], [(.ref 44), (.ref 56), (.ref 68), (.ref 80)], false, none, false⟩), #[(some (.ref 15)), none, (some (.str (Str.ofString "StackError") 189)), (some (.str (Str.ofString "StackError") 197)), (some (.builtin "Exception.__new__")), (some (.bool true))]⟩) ::
  ((nat_lit 32), ⟨(.type "getset_descriptor"), none, (.fields #[(.str (Str.ofString "__weakref__") 211), (.ref 31), (.builtin "ExceptionGroup.__weakref__"), .none]), #[]⟩) ::
  ((nat_lit 35), ⟨(.type "tuple"), none, (.seq #[(.ref 31)] 0), #[]⟩) ::
  ((nat_lit 42), ⟨(.type "tuple"), none, (.seq #[] 0), #[]⟩) ::
  ((nat_lit 43), ⟨(.type "dict"), none, (.dict #[⟨(PyData.keyHash P (Str.ofString "__module__")), (.str (Str.ofString "__module__") 225), (.str (Str.ofString "thinstack.errors") 187)⟩, ⟨(PyData.keyHash P (Str.ofString "__firstlineno__")), (.str (Str.ofString "__firstlineno__") 229), (.int 6 228)⟩, ⟨(PyData.keyHash P (Str.ofString "__static_attributes__")), (.str (Str.ofString "__static_attributes__") 230), (.ref 42)⟩, ⟨(PyData.keyHash P (Str.ofString "__doc__")), (.str (Str.ofString "__doc__") 231), .none⟩] 2), #[]⟩) ::
  ((nat_lit 44), ⟨(.type "type"), none, (.cls ⟨(Str.ofString "FormError"), [(.ref 31)], [(.ref 44), (.ref 31), (.type "Exception"), (.type "BaseException"), (.type "object")], 43, (Str.ofString "FormError"), true, [], [], false, none, false⟩), #[(some (.ref 35)), none, (some (.str (Str.ofString "FormError") 218)), (some (.str (Str.ofString "FormError") 226)), (some (.builtin "Exception.__new__")), (some (.bool true))]⟩) ::
  ((nat_lit 47), ⟨(.type "tuple"), none, (.seq #[(.ref 31)] 0), #[]⟩) ::
  ((nat_lit 54), ⟨(.type "tuple"), none, (.seq #[] 0), #[]⟩) ::
  ((nat_lit 55), ⟨(.type "dict"), none, (.dict #[⟨(PyData.keyHash P (Str.ofString "__module__")), (.str (Str.ofString "__module__") 241), (.str (Str.ofString "thinstack.errors") 187)⟩, ⟨(PyData.keyHash P (Str.ofString "__firstlineno__")), (.str (Str.ofString "__firstlineno__") 245), (.int 8 244)⟩, ⟨(PyData.keyHash P (Str.ofString "__static_attributes__")), (.str (Str.ofString "__static_attributes__") 246), (.ref 54)⟩, ⟨(PyData.keyHash P (Str.ofString "__doc__")), (.str (Str.ofString "__doc__") 247), .none⟩] 2), #[]⟩) ::
  ((nat_lit 56), ⟨(.type "type"), none, (.cls ⟨(Str.ofString "SizeError"), [(.ref 31)], [(.ref 56), (.ref 31), (.type "Exception"), (.type "BaseException"), (.type "object")], 55, (Str.ofString "SizeError"), true, [], [], false, none, false⟩), #[(some (.ref 47)), none, (some (.str (Str.ofString "SizeError") 234)), (some (.str (Str.ofString "SizeError") 242)), (some (.builtin "Exception.__new__")), (some (.bool true))]⟩) ::
  ((nat_lit 59), ⟨(.type "tuple"), none, (.seq #[(.ref 31)] 0), #[]⟩) ::
  ((nat_lit 66), ⟨(.type "tuple"), none, (.seq #[] 0), #[]⟩) ::
  ((nat_lit 67), ⟨(.type "dict"), none, (.dict #[⟨(PyData.keyHash P (Str.ofString "__module__")), (.str (Str.ofString "__module__") 257), (.str (Str.ofString "thinstack.errors") 187)⟩, ⟨(PyData.keyHash P (Str.ofString "__firstlineno__")), (.str (Str.ofString "__firstlineno__") 261), (.int 10 260)⟩, ⟨(PyData.keyHash P (Str.ofString "__static_attributes__")), (.str (Str.ofString "__static_attributes__") 262), (.ref 66)⟩, ⟨(PyData.keyHash P (Str.ofString "__doc__")), (.str (Str.ofString "__doc__") 263), .none⟩] 2), #[]⟩) ::
  ((nat_lit 68), ⟨(.type "type"), none, (.cls ⟨(Str.ofString "PortError"), [(.ref 31)], [(.ref 68), (.ref 31), (.type "Exception"), (.type "BaseException"), (.type "object")], 67, (Str.ofString "PortError"), true, [], [], false, none, false⟩), #[(some (.ref 59)), none, (some (.str (Str.ofString "PortError") 250)), (some (.str (Str.ofString "PortError") 258)), (some (.builtin "Exception.__new__")), (some (.bool true))]⟩) ::
  ((nat_lit 71), ⟨(.type "tuple"), none, (.seq #[(.ref 31)] 0), #[]⟩) ::
  ((nat_lit 78), ⟨(.type "tuple"), none, (.seq #[] 0), #[]⟩) ::
  ((nat_lit 79), ⟨(.type "dict"), none, (.dict #[⟨(PyData.keyHash P (Str.ofString "__module__")), (.str (Str.ofString "__module__") 273), (.str (Str.ofString "thinstack.errors") 187)⟩, ⟨(PyData.keyHash P (Str.ofString "__firstlineno__")), (.str (Str.ofString "__firstlineno__") 277), (.int 12 276)⟩, ⟨(PyData.keyHash P (Str.ofString "__static_attributes__")), (.str (Str.ofString "__static_attributes__") 278), (.ref 78)⟩, ⟨(PyData.keyHash P (Str.ofString "__doc__")), (.str (Str.ofString "__doc__") 279), .none⟩] 2), #[]⟩) ::
  ((nat_lit 80), ⟨(.type "type"), none, (.cls ⟨(Str.ofString "StateError"), [(.ref 31)], [(.ref 80), (.ref 31), (.type "Exception"), (.type "BaseException"), (.type "object")], 79, (Str.ofString "StateError"), true, [], [], false, none, false⟩), #[(some (.ref 71)), none, (some (.str (Str.ofString "StateError") 266)), (some (.str (Str.ofString "StateError") 274)), (some (.builtin "Exception.__new__")), (some (.bool true))]⟩) ::
  ((nat_lit 90), ⟨(.type "tuple"), none, (.seq #[] 0), #[]⟩) ::
  ((nat_lit 92), ⟨(.type "tuple"), none, (.seq #[(.str (Str.ofString "self") 301), (.str (Str.ofString "first") 302), (.str (Str.ofString "last") 303)] 0), #[]⟩) ::
  ((nat_lit 93), ⟨(.type "tuple"), none, (.seq #[] 0), #[]⟩) ::
  ((nat_lit 95), ⟨(.type "code"), none, (.fields #[(.str (Str.ofString "__init__") 298), (.str (Str.ofString "Ports.__init__") 299), (.str (Str.ofString "/claim/cut.py") 300), (.int 18 0), (.int 3 0), (.int 0 0), (.int 0 0), (.int 3 0), (.ref 90), (.bool true), (.int 181 0), (.ref 91), .none, (.ref 92), (.ref 93), (.ref 94), (.int 304 0), (.int 18 0), (.str (Str.ofString "/claim/cut.py") 305)]), #[]⟩) ::
  ((nat_lit 96), ⟨(.type "function"), none, (.func ⟨(Str.ofString "__init__"), (Str.ofString "Ports.__init__"), a8_0, (.stmts b8_0), s8_0, 3, [], .none, .none, .none, (.str (Str.ofString "thinstack.ports") 282), none, (.ref 95), .none, 0⟩), #[]⟩) ::
  ((nat_lit 97), ⟨(.type "tuple"), none, (.seq #[] 0), #[]⟩) ::
  ((nat_lit 99), ⟨(.type "tuple"), none, (.seq #[(.str (Str.ofString "self") 310), (.str (Str.ofString "number") 311)] 0), #[]⟩) ::
  ((nat_lit 100), ⟨(.type "tuple"), none, (.seq #[] 0), #[]⟩) ::
  ((nat_lit 102), ⟨(.type "code"), none, (.fields #[(.str (Str.ofString "is_taken") 307), (.str (Str.ofString "Ports.is_taken") 308), (.str (Str.ofString "/claim/cut.py") 309), (.int 26 0), (.int 2 0), (.int 0 0), (.int 0 0), (.int 3 0), (.ref 97), (.bool true), (.int 181 0), (.ref 98), .none, (.ref 99), (.ref 100), (.ref 101), (.int 312 0), (.int 26 0), (.str (Str.ofString "/claim/cut.py") 313)]), #[]⟩) ::
  ((nat_lit 103), ⟨(.type "function"), none, (.func ⟨(Str.ofString "is_taken"), (Str.ofString "Ports.is_taken"), a8_1, (.stmts b8_1), s8_1, 3, [], .none, .none, .none, (.str (Str.ofString "thinstack.ports") 282), none, (.ref 102), .none, 0⟩), #[]⟩) ::
  ((nat_lit 104), ⟨(.type "tuple"), none, (.seq #[(.int 0 315)] 0), #[]⟩) ::
  ((nat_lit 105), ⟨(.type "tuple"), none, (.seq #[] 0), #[]⟩) ::
  ((nat_lit 107), ⟨(.type "tuple"), none, (.seq #[(.str (Str.ofString "self") 319), (.str (Str.ofString "number") 320)] 0), #[]⟩) ::
  ((nat_lit 108), ⟨(.type "tuple"), none, (.seq #[] 0), #[]⟩) ::
  ((nat_lit 110), ⟨(.type "code"), none, (.fields #[(.str (Str.ofString "take") 316), (.str (Str.ofString "Ports.take") 317), (.str (Str.ofString "/claim/cut.py") 318), (.int 29 0), (.int 2 0), (.int 0 0), (.int 0 0), (.int 3 0), (.ref 105), (.bool true), (.int 181 0), (.ref 106), .none, (.ref 107), (.ref 108), (.ref 109), (.int 321 0), (.int 29 0), (.str (Str.ofString "/claim/cut.py") 322)]), #[]⟩) ::
  ((nat_lit 111), ⟨(.type "function"), none, (.func ⟨(Str.ofString "take"), (Str.ofString "Ports.take"), a8_2, (.stmts b8_2), s8_2, 3, [], (.ref 104), .none, .none, (.str (Str.ofString "thinstack.ports") 282), none, (.ref 110), .none, 0⟩), #[]⟩) ::
  ((nat_lit 112), ⟨(.type "tuple"), none, (.seq #[] 0), #[]⟩) ::
  ((nat_lit 114), ⟨(.type "tuple"), none, (.seq #[(.str (Str.ofString "self") 327), (.str (Str.ofString "number") 328), (.str (Str.ofString "turn") 329)] 0), #[]⟩) ::
  ((nat_lit 115), ⟨(.type "tuple"), none, (.seq #[] 0), #[]⟩) ::
  ((nat_lit 117), ⟨(.type "code"), none, (.fields #[(.str (Str.ofString "next_free") 324), (.str (Str.ofString "Ports.next_free") 325), (.str (Str.ofString "/claim/cut.py") 326), (.int 39 0), (.int 1 0), (.int 0 0), (.int 0 0), (.int 3 0), (.ref 112), (.bool true), (.int 181 0), (.ref 113), .none, (.ref 114), (.ref 115), (.ref 116), (.int 330 0), (.int 39 0), (.str (Str.ofString "/claim/cut.py") 331)]), #[]⟩) ::
  ((nat_lit 118), ⟨(.type "function"), none, (.func ⟨(Str.ofString "next_free"), (Str.ofString "Ports.next_free"), a8_3, (.stmts b8_3), s8_3, 3, [], .none, .none, .none, (.str (Str.ofString "thinstack.ports") 282), none, (.ref 117), .none, 0⟩), #[]⟩) ::
  ((nat_lit 119), ⟨(.type "tuple"), none, (.seq #[] 0), #[]⟩) ::
  ((nat_lit 121), ⟨(.type "tuple"), none, (.seq #[(.str (Str.ofString "self") 336), (.str (Str.ofString "number") 337)] 0), #[]⟩) ::
  ((nat_lit 122), ⟨(.type "tuple"), none, (.seq #[] 0), #[]⟩) ::
  ((nat_lit 124), ⟨(.type "code"), none, (.fields #[(.str (Str.ofString "behind") 333), (.str (Str.ofString "Ports.behind") 334), (.str (Str.ofString "/claim/cut.py") 335), (.int 48 0), (.int 2 0), (.int 0 0), (.int 0 0), (.int 3 0), (.ref 119), (.bool true), (.int 181 0), (.ref 120), .none, (.ref 121), (.ref 122), (.ref 123), (.int 338 0), (.int 48 0), (.str (Str.ofString "/claim/cut.py") 339)]), #[]⟩) ::
  ((nat_lit 125), ⟨(.type "function"), none, (.func ⟨(Str.ofString "behind"), (Str.ofString "Ports.behind"), a8_4, (.stmts b8_4), s8_4, 3, [], .none, .none, .none, (.str (Str.ofString "thinstack.ports") 282), none, (.ref 124), .none, 0⟩), #[]⟩) ::
  ((nat_lit 126), ⟨(.type "tuple"), none, (.seq #[] 0), #[]⟩) ::
  ((nat_lit 128), ⟨(.type "tuple"), none, (.seq #[(.str (Str.ofString "self") 344), (.str (Str.ofString "number") 345)] 0), #[]⟩) ::
  ((nat_lit 129), ⟨(.type "tuple"), none, (.seq #[] 0), #[]⟩) ::
  ((nat_lit 131), ⟨(.type "code"), none, (.fields #[(.str (Str.ofString "free") 341), (.str (Str.ofString "Ports.free") 342), (.str (Str.ofString "/claim/cut.py") 343), (.int 51 0), (.int 2 0), (.int 0 0), (.int 0 0), (.int 3 0), (.ref 126), (.bool true), (.int 181 0), (.ref 127), .none, (.ref 128), (.ref 129), (.ref 130), (.int 346 0), (.int 51 0), (.str (Str.ofString "/claim/cut.py") 347)]), #[]⟩) ::
  ((nat_lit 132), ⟨(.type "function"), none, (.func ⟨(Str.ofString "free"), (Str.ofString "Ports.free"), a8_5, (.stmts b8_5), s8_5, 3, [], .none, .none, .none, (.str (Str.ofString "thinstack.ports") 282), none, (.ref 131), .none, 0⟩), #[]⟩) ::
  ((nat_lit 133), ⟨(.type "tuple"), none, (.seq #[(.str (Str.ofString "first") 349), (.str (Str.ofString "following") 350), (.str (Str.ofString "last") 351), (.str (Str.ofString "taken") 352)] 0), #[]⟩) ::
  ((nat_lit 134), ⟨(.type "dict"), none, (.dict #[⟨(PyData.keyHash P (Str.ofString "__module__")), (.str (Str.ofString "__module__") 293), (.str (Str.ofString "thinstack.ports") 282)⟩, ⟨(PyData.keyHash P (Str.ofString "__firstlineno__")), (.str (Str.ofString "__firstlineno__") 297), (.int 16 296)⟩, ⟨(PyData.keyHash P (Str.ofString "__init__")), (.str (Str.ofString "__init__") 306), (.ref 96)⟩, ⟨(PyData.keyHash P (Str.ofString "is_taken")), (.str (Str.ofString "is_taken") 314), (.ref 103)⟩, ⟨(PyData.keyHash P (Str.ofString "take")), (.str (Str.ofString "take") 323), (.ref 111)⟩, ⟨(PyData.keyHash P (Str.ofString "next_free")), (.str (Str.ofString "next_free") 332), (.ref 118)⟩, ⟨(PyData.keyHash P (Str.ofString "behind")), (.str (Str.ofString "behind") 340), (.ref 125)⟩, ⟨(PyData.keyHash P (Str.ofString "free")), (.str (Str.ofString "free") 348), (.ref 132)⟩, ⟨(PyData.keyHash P (Str.ofString "__static_attributes__")), (.str (Str.ofString "__static_attributes__") 353), (.ref 133)⟩, ⟨(PyData.keyHash P (Str.ofString "__dict__")), (.str (Str.ofString "__dict__") 355), (.ref 136)⟩, ⟨(PyData.keyHash P (Str.ofString "__weakref__")), (.str (Str.ofString "__weakref__") 357), (.ref 137)⟩, ⟨(PyData.keyHash P (Str.ofString "__doc__")), (.str (Str.ofString "__doc__") 358), .none⟩] 4), #[]⟩) ::
  ((nat_lit 135), ⟨(.type "type"), none, (.cls ⟨(Str.ofString "Ports"), [(.type "object")], [(.ref 135), (.type "object")], 134, (Str.ofString "Ports"), true, [], [], false, none, false⟩), #[none, none, (some (.str (Str.ofString "Ports") 286)), (some (.str (Str.ofString "Ports") 294)), (some (.builtin "object.__new__")), (some (.bool true))]⟩) ::
  ((nat_lit 136), ⟨(.type "getset_descriptor"), none, (.fields #[(.str (Str.ofString "__dict__") 354), (.ref 135), (.builtin "function.__dict__"), (.builtin "function.__dict__#set")]), #[]⟩) ::
  ((nat_lit 137), ⟨(.type "getset_descriptor"), none, (.fields #[(.str (Str.ofString "__weakref__") 356), (.ref 135), (.builtin "ExceptionGroup.__weakref__"), .none]), #[]⟩) ::
  ((nat_lit 140), ⟨(.type "tuple"), none, (.seq #[] 0), #[]⟩) ::
  ((nat_lit 142), ⟨(.type "tuple"), none, (.seq #[(.str (Str.ofString "n") 366)] 0), #[]⟩) ::
  ((nat_lit 143), ⟨(.type "tuple"), none, (.seq #[] 0), #[]⟩) ::
  ((nat_lit 145), ⟨(.type "code"), none, (.fields #[(.str (Str.ofString "put16") 363), (.str (Str.ofString "put16") 364), (.str (Str.ofString "/claim/cut.py") 365), (.int 56 0), (.int 1 0), (.int 0 0), (.int 0 0), (.int 3 0), (.ref 140), (.bool true), (.int 181 0), (.ref 141), .none, (.ref 142), (.ref 143), (.ref 144), (.int 367 0), (.int 56 0), (.str (Str.ofString "/claim/cut.py") 368)]), #[]⟩) ::
  ((nat_lit 146), ⟨(.type "function"), none, (.func ⟨(Str.ofString "put16"), (Str.ofString "put16"), a10, (.stmts b10), s10, 3, [], .none, .none, .none, (.str (Str.ofString "thinstack.octets") 361), none, (.ref 145), .none, 0⟩), #[]⟩) ::
  ((nat_lit 147), ⟨(.type "tuple"), none, (.seq #[] 0), #[]⟩) ::
  ((nat_lit 149), ⟨(.type "tuple"), none, (.seq #[(.str (Str.ofString "octets") 373), (.str (Str.ofString "at") 374), (.str (Str.ofString "size") 375)] 0), #[]⟩) ::
  ((nat_lit 150), ⟨(.type "tuple"), none, (.seq #[] 0), #[]⟩) ::
  ((nat_lit 152), ⟨(.type "code"), none, (.fields #[(.str (Str.ofString "need") 370), (.str (Str.ofString "need") 371), (.str (Str.ofString "/claim/cut.py") 372), (.int 58 0), (.int 3 0), (.int 0 0), (.int 0 0), (.int 3 0), (.ref 147), (.bool true), (.int 181 0), (.ref 148), .none, (.ref 149), (.ref 150), (.ref 151), (.int 376 0), (.int 58 0), (.str (Str.ofString "/claim/cut.py") 377)]), #[]⟩) ::
  ((nat_lit 153), ⟨(.type "function"), none, (.func ⟨(Str.ofString "need"), (Str.ofString "need"), a11, (.stmts b11), s11, 3, [], .none, .none, .none, (.str (Str.ofString "thinstack.octets") 361), none, (.ref 152), .none, 0⟩), #[]⟩) ::
  ((nat_lit 154), ⟨(.type "tuple"), none, (.seq #[] 0), #[]⟩) ::
  ((nat_lit 156), ⟨(.type "tuple"), none, (.seq #[(.str (Str.ofString "octets") 382), (.str (Str.ofString "at") 383)] 0), #[]⟩) ::
  ((nat_lit 157), ⟨(.type "tuple"), none, (.seq #[] 0), #[]⟩) ::
  ((nat_lit 159), ⟨(.type "code"), none, (.fields #[(.str (Str.ofString "get16") 379), (.str (Str.ofString "get16") 380), (.str (Str.ofString "/claim/cut.py") 381), (.int 61 0), (.int 2 0), (.int 0 0), (.int 0 0), (.int 3 0), (.ref 154), (.bool true), (.int 181 0), (.ref 155), .none, (.ref 156), (.ref 157), (.ref 158), (.int 384 0), (.int 61 0), (.str (Str.ofString "/claim/cut.py") 385)]), #[]⟩) ::
  ((nat_lit 160), ⟨(.type "function"), none, (.func ⟨(Str.ofString "get16"), (Str.ofString "get16"), a12, (.stmts b12), s12, 3, [], .none, .none, .none, (.str (Str.ofString "thinstack.octets") 361), none, (.ref 159), .none, 0⟩), #[]⟩) ::
  ((nat_lit 161), ⟨(.type "tuple"), none, (.seq #[] 0), #[]⟩) ::
  ((nat_lit 163), ⟨(.type "tuple"), none, (.seq #[(.str (Str.ofString "total") 394)] 0), #[]⟩) ::
  ((nat_lit 164), ⟨(.type "tuple"), none, (.seq #[] 0), #[]⟩) ::
  ((nat_lit 166), ⟨(.type "code"), none, (.fields #[(.str (Str.ofString "fold") 391), (.str (Str.ofString "fold") 392), (.str (Str.ofString "/claim/cut.py") 393), (.int 66 0), (.int 1 0), (.int 0 0), (.int 0 0), (.int 3 0), (.ref 161), (.bool true), (.int 181 0), (.ref 162), .none, (.ref 163), (.ref 164), (.ref 165), (.int 395 0), (.int 66 0), (.str (Str.ofString "/claim/cut.py") 396)]), #[]⟩) ::
  ((nat_lit 167), ⟨(.type "function"), none, (.func ⟨(Str.ofString "fold"), (Str.ofString "fold"), a15, (.stmts b15), s15, 3, [], .none, .none, .none, (.str (Str.ofString "thinstack.sums") 387), none, (.ref 166), .none, 0⟩), #[]⟩) ::
  ((nat_lit 168), ⟨(.type "tuple"), none, (.seq #[(.int 0 398)] 0), #[]⟩) ::
  ((nat_lit 169), ⟨(.type "tuple"), none, (.seq #[] 0), #[]⟩) ::
  ((nat_lit 171), ⟨(.type "tuple"), none, (.seq #[(.str (Str.ofString "octets") 402), (.str (Str.ofString "begin") 403), (.str (Str.ofString "total") 404), (.str (Str.ofString "even") 405), (.str (Str.ofString "at") 406)] 0), #[]⟩) ::
  ((nat_lit 172), ⟨(.type "tuple"), none, (.seq #[] 0), #[]⟩) ::
  ((nat_lit 174), ⟨(.type "code"), none, (.fields #[(.str (Str.ofString "ones_sum") 399), (.str (Str.ofString "ones_sum") 400), (.str (Str.ofString "/claim/cut.py") 401), (.int 70 0), (.int 2 0), (.int 0 0), (.int 0 0), (.int 3 0), (.ref 169), (.bool true), (.int 181 0), (.ref 170), .none, (.ref 171), (.ref 172), (.ref 173), (.int 407 0), (.int 70 0), (.str (Str.ofString "/claim/cut.py") 408)]), #[]⟩) ::
  ((nat_lit 175), ⟨(.type "function"), none, (.func ⟨(Str.ofString "ones_sum"), (Str.ofString "ones_sum"), a16, (.stmts b16), s16, 3, [], (.ref 168), .none, .none, (.str (Str.ofString "thinstack.sums") 387), none, (.ref 174), .none, 0⟩), #[]⟩) ::
  ((nat_lit 176), ⟨(.type "tuple"), none, (.seq #[(.int 0 410)] 0), #[]⟩) ::
  ((nat_lit 177), ⟨(.type "tuple"), none, (.seq #[] 0), #[]⟩) ::
  ((nat_lit 179), ⟨(.type "tuple"), none, (.seq #[(.str (Str.ofString "octets") 414), (.str (Str.ofString "begin") 415)] 0), #[]⟩) ::
  ((nat_lit 180), ⟨(.type "tuple"), none, (.seq #[] 0), #[]⟩) ::
  ((nat_lit 182), ⟨(.type "code"), none, (.fields #[(.str (Str.ofString "checksum") 411), (.str (Str.ofString "checksum") 412), (.str (Str.ofString "/claim/cut.py") 413), (.int 78 0), (.int 2 0), (.int 0 0), (.int 0 0), (.int 3 0), (.ref 177), (.bool true), (.int 181 0), (.ref 178), .none, (.ref 179), (.ref 180), (.ref 181), (.int 416 0), (.int 78 0), (.str (Str.ofString "/claim/cut.py") 417)]), #[]⟩) ::
  ((nat_lit 183), ⟨(.type "function"), none, (.func ⟨(Str.ofString "checksum"), (Str.ofString "checksum"), a17, (.stmts b17), s17, 3, [], (.ref 176), .none, .none, (.str (Str.ofString "thinstack.sums") 387), none, (.ref 182), .none, 0⟩), #[]⟩) ::
  ((nat_lit 184), ⟨(.type "tuple"), none, (.seq #[] 0), #[]⟩) ::
  ((nat_lit 186), ⟨(.type "tuple"), none, (.seq #[(.str (Str.ofString "source") 422), (.str (Str.ofString "target") 423), (.str (Str.ofString "protocol") 424), (.str (Str.ofString "size") 425), (.str (Str.ofString "total") 426)] 0), #[]⟩) ::
  ((nat_lit 187), ⟨(.type "tuple"), none, (.seq #[] 0), #[]⟩) ::
  ((nat_lit 189), ⟨(.type "code"), none, (.fields #[(.str (Str.ofString "pseudo_sum") 419), (.str (Str.ofString "pseudo_sum") 420), (.str (Str.ofString "/claim/cut.py") 421), (.int 80 0), (.int 4 0), (.int 0 0), (.int 0 0), (.int 3 0), (.ref 184), (.bool true), (.int 181 0), (.ref 185), .none, (.ref 186), (.ref 187), (.ref 188), (.int 427 0), (.int 80 0), (.str (Str.ofString "/claim/cut.py") 428)]), #[]⟩) ::
  ((nat_lit 190), ⟨(.type "function"), none, (.func ⟨(Str.ofString "pseudo_sum"), (Str.ofString "pseudo_sum"), a18, (.stmts b18), s18, 3, [], .none, .none, .none, (.str (Str.ofString "thinstack.sums") 387), none, (.ref 189), .none, 0⟩), #[]⟩) ::
  ((nat_lit 198), ⟨(.type "tuple"), none, (.seq #[] 0), #[]⟩) ::
  ((nat_lit 200), ⟨(.type "tuple"), none, (.seq #[(.str (Str.ofString "self") 455), (.str (Str.ofString "source_port") 456), (.str (Str.ofString "target_port") 457)] 0), #[]⟩) ::
  ((nat_lit 201), ⟨(.type "tuple"), none, (.seq #[] 0), #[]⟩) ::
  ((nat_lit 203), ⟨(.type "code"), none, (.fields #[(.str (Str.ofString "__init__") 452), (.str (Str.ofString "UdpHeader.__init__") 453), (.str (Str.ofString "/claim/cut.py") 454), (.int 91 0), (.int 3 0), (.int 0 0), (.int 0 0), (.int 3 0), (.ref 198), (.bool true), (.int 181 0), (.ref 199), .none, (.ref 200), (.ref 201), (.ref 202), (.int 458 0), (.int 91 0), (.str (Str.ofString "/claim/cut.py") 459)]), #[]⟩) ::
  ((nat_lit 204), ⟨(.type "function"), none, (.func ⟨(Str.ofString "__init__"), (Str.ofString "UdpHeader.__init__"), a24_0, (.stmts b24_0), s24_0, 3, [], .none, .none, .none, (.str (Str.ofString "thinstack.udp") 430), none, (.ref 203), .none, 0⟩), #[]⟩) ::
  ((nat_lit 205), ⟨(.type "tuple"), none, (.seq #[(.str (Str.ofString "source_port") 461), (.str (Str.ofString "target_port") 462)] 0), #[]⟩) ::
  ((nat_lit 206), ⟨(.type "dict"), none, (.dict #[⟨(PyData.keyHash P (Str.ofString "__module__")), (.str (Str.ofString "__module__") 447), (.str (Str.ofString "thinstack.udp") 430)⟩, ⟨(PyData.keyHash P (Str.ofString "__firstlineno__")), (.str (Str.ofString "__firstlineno__") 451), (.int 89 450)⟩, ⟨(PyData.keyHash P (Str.ofString "__init__")), (.str (Str.ofString "__init__") 460), (.ref 204)⟩, ⟨(PyData.keyHash P (Str.ofString "__static_attributes__")), (.str (Str.ofString "__static_attributes__") 463), (.ref 205)⟩, ⟨(PyData.keyHash P (Str.ofString "__dict__")), (.str (Str.ofString "__dict__") 465), (.ref 208)⟩, ⟨(PyData.keyHash P (Str.ofString "__weakref__")), (.str (Str.ofString "__weakref__") 467), (.ref 209)⟩, ⟨(PyData.keyHash P (Str.ofString "__doc__")), (.str (Str.ofString "__doc__") 468), .none⟩] 4), #[]⟩) ::
  ((nat_lit 207), ⟨(.type "type"), none, (.cls ⟨(Str.ofString "UdpHeader"), [(.type "object")], [(.ref 207), (.type "object")], 206, (Str.ofString "UdpHeader"), true, [], [], false, none, false⟩), #[none, none, (some (.str (Str.ofString "UdpHeader") 440)), (some (.str (Str.ofString "UdpHeader") 448)), (some (.builtin "object.__new__")), (some (.bool true))]⟩) ::
  ((nat_lit 208), ⟨(.type "getset_descriptor"), none, (.fields #[(.str (Str.ofString "__dict__") 464), (.ref 207), (.builtin "function.__dict__"), (.builtin "function.__dict__#set")]), #[]⟩) ::
  ((nat_lit 209), ⟨(.type "getset_descriptor"), none, (.fields #[(.str (Str.ofString "__weakref__") 466), (.ref 207), (.builtin "ExceptionGroup.__weakref__"), .none]), #[]⟩) ::
  ((nat_lit 212), ⟨(.type "tuple"), none, (.seq #[(.bool true)] 0), #[]⟩) ::
  ((nat_lit 213), ⟨(.type "tuple"), none, (.seq #[] 0), #[]⟩) ::
  ((nat_lit 215), ⟨(.type "tuple"), none, (.seq #[(.str (Str.ofString "source") 474), (.str (Str.ofString "target") 475), (.str (Str.ofString "source_port") 476), (.str (Str.ofString "target_port") 477), (.str (Str.ofString "payload") 478), (.str (Str.ofString "with_sum") 479), (.str (Str.ofString "size") 480), (.str (Str.ofString "ahead") 481), (.str (Str.ofString "check") 482)] 0), #[]⟩) ::
  ((nat_lit 216), ⟨(.type "tuple"), none, (.seq #[] 0), #[]⟩) ::
  ((nat_lit 218), ⟨(.type "code"), none, (.fields #[(.str (Str.ofString "pack_udp") 471), (.str (Str.ofString "pack_udp") 472), (.str (Str.ofString "/claim/cut.py") 473), (.int 94 0), (.int 6 0), (.int 0 0), (.int 0 0), (.int 3 0), (.ref 213), (.bool true), (.int 181 0), (.ref 214), .none, (.ref 215), (.ref 216), (.ref 217), (.int 483 0), (.int 94 0), (.str (Str.ofString "/claim/cut.py") 484)]), #[]⟩) ::
  ((nat_lit 219), ⟨(.type "function"), none, (.func ⟨(Str.ofString "pack_udp"), (Str.ofString "pack_udp"), a25, (.stmts b25), s25, 3, [], (.ref 212), .none, .none, (.str (Str.ofString "thinstack.udp") 430), none, (.ref 218), .none, 0⟩), #[]⟩) ::
  ((nat_lit 220), ⟨(.type "tuple"), none, (.seq #[] 0), #[]⟩) ::
  ((nat_lit 222), ⟨(.type "tuple"), none, (.seq #[(.str (Str.ofString "source") 489), (.str (Str.ofString "target") 490), (.str (Str.ofString "octets") 491), (.str (Str.ofString "size") 492), (.str (Str.ofString "whole") 493)] 0), #[]⟩) ::
  ((nat_lit 223), ⟨(.type "tuple"), none, (.seq #[] 0), #[]⟩) ::
  ((nat_lit 225), ⟨(.type "code"), none, (.fields #[(.str (Str.ofString "unpack_udp") 486), (.str (Str.ofString "unpack_udp") 487), (.str (Str.ofString "/claim/cut.py") 488), (.int 105 0), (.int 3 0), (.int 0 0), (.int 0 0), (.int 3 0), (.ref 220), (.bool true), (.int 181 0), (.ref 221), .none, (.ref 222), (.ref 223), (.ref 224), (.int 494 0), (.int 105 0), (.str (Str.ofString "/claim/cut.py") 495)]), #[]⟩) ::
  ((nat_lit 226), ⟨(.type "function"), none, (.func ⟨(Str.ofString "unpack_udp"), (Str.ofString "unpack_udp"), a26, (.stmts b26), s26, 3, [], .none, .none, .none, (.str (Str.ofString "thinstack.udp") 430), none, (.ref 225), .none, 0⟩), #[]⟩) ::
  ((nat_lit 227), ⟨(.type "tuple"), none, (.seq #[] 0), #[]⟩) ::
  ((nat_lit 229), ⟨(.type "tuple"), none, (.seq #[(.str (Str.ofString "octets") 500)] 0), #[]⟩) ::
  ((nat_lit 230), ⟨(.type "tuple"), none, (.seq #[] 0), #[]⟩) ::
  ((nat_lit 232), ⟨(.type "code"), none, (.fields #[(.str (Str.ofString "read_header") 497), (.str (Str.ofString "read_header") 498), (.str (Str.ofString "/claim/cut.py") 499), (.int 115 0), (.int 1 0), (.int 0 0), (.int 0 0), (.int 3 0), (.ref 227), (.bool true), (.int 181 0), (.ref 228), .none, (.ref 229), (.ref 230), (.ref 231), (.int 501 0), (.int 115 0), (.str (Str.ofString "/claim/cut.py") 502)]), #[]⟩) ::
  ((nat_lit 233), ⟨(.type "function"), none, (.func ⟨(Str.ofString "read_header"), (Str.ofString "read_header"), a27, (.stmts b27), s27, 3, [], .none, .none, .none, (.str (Str.ofString "thinstack.udp") 430), none, (.ref 232), .none, 0⟩), #[]⟩) ::
  ((nat_lit 241), ⟨(.type "tuple"), none, (.seq #[] 0), #[]⟩) ::
  ((nat_lit 243), ⟨(.type "tuple"), none, (.seq #[(.str (Str.ofString "self") 523), (.str (Str.ofString "owner") 524), (.str (Str.ofString "address") 525), (.str (Str.ofString "port") 526)] 0), #[]⟩) ::
  ((nat_lit 244), ⟨(.type "tuple"), none, (.seq #[] 0), #[]⟩) ::
  ((nat_lit 246), ⟨(.type "code"), none, (.fields #[(.str (Str.ofString "__init__") 520), (.str (Str.ofString "UdpRow.__init__") 521), (.str (Str.ofString "/claim/cut.py") 522), (.int 123 0), (.int 4 0), (.int 0 0), (.int 0 0), (.int 3 0), (.ref 241), (.bool true), (.int 181 0), (.ref 242), .none, (.ref 243), (.ref 244), (.ref 245), (.int 527 0), (.int 123 0), (.str (Str.ofString "/claim/cut.py") 528)]), #[]⟩) ::
  ((nat_lit 247), ⟨(.type "function"), none, (.func ⟨(Str.ofString "__init__"), (Str.ofString "UdpRow.__init__"), a30_0, (.stmts b30_0), s30_0, 3, [], .none, .none, .none, (.str (Str.ofString "thinstack.udp_table") 504), none, (.ref 246), .none, 0⟩), #[]⟩) ::
  ((nat_lit 248), ⟨(.type "tuple"), none, (.seq #[] 0), #[]⟩) ::
  ((nat_lit 250), ⟨(.type "tuple"), none, (.seq #[(.str (Str.ofString "self") 533), (.str (Str.ofString "address") 534), (.str (Str.ofString "port") 535)] 0), #[]⟩) ::
  ((nat_lit 251), ⟨(.type "tuple"), none, (.seq #[] 0), #[]⟩) ::
  ((nat_lit 253), ⟨(.type "code"), none, (.fields #[(.str (Str.ofString "is_at") 530), (.str (Str.ofString "UdpRow.is_at") 531), (.str (Str.ofString "/claim/cut.py") 532), (.int 129 0), (.int 3 0), (.int 0 0), (.int 0 0), (.int 3 0), (.ref 248), (.bool true), (.int 181 0), (.ref 249), .none, (.ref 250), (.ref 251), (.ref 252), (.int 536 0), (.int 129 0), (.str (Str.ofString "/claim/cut.py") 537)]), #[]⟩) ::
  ((nat_lit 254), ⟨(.type "function"), none, (.func ⟨(Str.ofString "is_at"), (Str.ofString "UdpRow.is_at"), a30_1, (.stmts b30_1), s30_1, 3, [], .none, .none, .none, (.str (Str.ofString "thinstack.udp_table") 504), none, (.ref 253), .none, 0⟩), #[]⟩) ::
  ((nat_lit 255), ⟨(.type "tuple"), none, (.seq #[] 0), #[]⟩) ::
  ((nat_lit 257), ⟨(.type "tuple"), none, (.seq #[(.str (Str.ofString "self") 542), (.str (Str.ofString "target") 543), (.str (Str.ofString "target_port") 544), (.str (Str.ofString "remote") 545), (.str (Str.ofString "exact") 546)] 0), #[]⟩) ::
  ((nat_lit 258), ⟨(.type "tuple"), none, (.seq #[] 0), #[]⟩) ::
  ((nat_lit 260), ⟨(.type "code"), none, (.fields #[(.str (Str.ofString "fits") 539), (.str (Str.ofString "UdpRow.fits") 540), (.str (Str.ofString "/claim/cut.py") 541), (.int 132 0), (.int 4 0), (.int 0 0), (.int 0 0), (.int 3 0), (.ref 255), (.bool true), (.int 181 0), (.ref 256), .none, (.ref 257), (.ref 258), (.ref 259), (.int 547 0), (.int 132 0), (.str (Str.ofString "/claim/cut.py") 548)]), #[]⟩) ::
  ((nat_lit 261), ⟨(.type "function"), none, (.func ⟨(Str.ofString "fits"), (Str.ofString "UdpRow.fits"), a30_2, (.stmts b30_2), s30_2, 3, [], .none, .none, .none, (.str (Str.ofString "thinstack.udp_table") 504), none, (.ref 260), .none, 0⟩), #[]⟩) ::
  ((nat_lit 262), ⟨(.type "tuple"), none, (.seq #[(.str (Str.ofString "address") 550), (.str (Str.ofString "owner") 551), (.str (Str.ofString "port") 552), (.str (Str.ofString "remote") 553)] 0), #[]⟩) ::
  ((nat_lit 263), ⟨(.type "dict"), none, (.dict #[⟨(PyData.keyHash P (Str.ofString "__module__")), (.str (Str.ofString "__module__") 515), (.str (Str.ofString "thinstack.udp_table") 504)⟩, ⟨(PyData.keyHash P (Str.ofString "__firstlineno__")), (.str (Str.ofString "__firstlineno__") 519), (.int 121 518)⟩, ⟨(PyData.keyHash P (Str.ofString "__init__")), (.str (Str.ofString "__init__") 529), (.ref 247)⟩, ⟨(PyData.keyHash P (Str.ofString "is_at")), (.str (Str.ofString "is_at") 538), (.ref 254)⟩, ⟨(PyData.keyHash P (Str.ofString "fits")), (.str (Str.ofString "fits") 549), (.ref 261)⟩, ⟨(PyData.keyHash P (Str.ofString "__static_attributes__")), (.str (Str.ofString "__static_attributes__") 554), (.ref 262)⟩, ⟨(PyData.keyHash P (Str.ofString "__dict__")), (.str (Str.ofString "__dict__") 556), (.ref 265)⟩, ⟨(PyData.keyHash P (Str.ofString "__weakref__")), (.str (Str.ofString "__weakref__") 558), (.ref 266)⟩, ⟨(PyData.keyHash P (Str.ofString "__doc__")), (.str (Str.ofString "__doc__") 559), .none⟩] 4), #[]⟩) ::
  ((nat_lit 264), ⟨(.type "type"), none, (.cls ⟨(Str.ofString "UdpRow"), [(.type "object")], [(.ref 264), (.type "object")], 263, (Str.ofString "UdpRow"), true, [], [], false, none, false⟩), #[none, none, (some (.str (Str.ofString "UdpRow") 508)), (some (.str (Str.ofString "UdpRow") 516)), (some (.builtin "object.__new__")), (some (.bool true))]⟩) ::
  ((nat_lit 265), ⟨(.type "getset_descriptor"), none, (.fields #[(.str (Str.ofString "__dict__") 555), (.ref 264), (.builtin "function.__dict__"), (.builtin "function.__dict__#set")]), #[]⟩) ::
  ((nat_lit 266), ⟨(.type "getset_descriptor"), none, (.fields #[(.str (Str.ofString "__weakref__") 557), (.ref 264), (.builtin "ExceptionGroup.__weakref__"), .none]), #[]⟩) ::
  ((nat_lit 276), ⟨(.type "tuple"), none, (.seq #[] 0), #[]⟩) ::
  ((nat_lit 278), ⟨(.type "tuple"), none, (.seq #[(.str (Str.ofString "self") 577)] 0), #[]⟩) ::
  ((nat_lit 279), ⟨(.type "tuple"), none, (.seq #[] 0), #[]⟩) ::
  ((nat_lit 281), ⟨(.type "code"), none, (.fields #[(.str (Str.ofString "__init__") 574), (.str (Str.ofString "UdpTable.__init__") 575), (.str (Str.ofString "/claim/cut.py") 576), (.int 141 0), (.int 1 0), (.int 0 0), (.int 0 0), (.int 3 0), (.ref 276), (.bool true), (.int 181 0), (.ref 277), .none, (.ref 278), (.ref 279), (.ref 280), (.int 578 0), (.int 141 0), (.str (Str.ofString "/claim/cut.py") 579)]), #[]⟩) ::
  ((nat_lit 282), ⟨(.type "function"), none, (.func ⟨(Str.ofString "__init__"), (Str.ofString "UdpTable.__init__"), a31_0, (.stmts b31_0), s31_0, 3, [], .none, .none, .none, (.str (Str.ofString "thinstack.udp_table") 504), none, (.ref 281), .none, 0⟩), #[]⟩) ::
  ((nat_lit 283), ⟨(.type "tuple"), none, (.seq #[] 0), #[]⟩) ::
  ((nat_lit 285), ⟨(.type "tuple"), none, (.seq #[(.str (Str.ofString "self") 584), (.str (Str.ofString "owner") 585)] 0), #[]⟩) ::
  ((nat_lit 286), ⟨(.type "tuple"), none, (.seq #[] 0), #[]⟩) ::
  ((nat_lit 288), ⟨(.type "code"), none, (.fields #[(.str (Str.ofString "row") 581), (.str (Str.ofString "UdpTable.row") 582), (.str (Str.ofString "/claim/cut.py") 583), (.int 144 0), (.int 2 0), (.int 0 0), (.int 0 0), (.int 3 0), (.ref 283), (.bool true), (.int 181 0), (.ref 284), .none, (.ref 285), (.ref 286), (.ref 287), (.int 586 0), (.int 144 0), (.str (Str.ofString "/claim/cut.py") 587)]), #[]⟩) ::
  ((nat_lit 289), ⟨(.type "function"), none, (.func ⟨(Str.ofString "row"), (Str.ofString "UdpTable.row"), a31_1, (.stmts b31_1), s31_1, 3, [], .none, .none, .none, (.str (Str.ofString "thinstack.udp_table") 504), none, (.ref 288), .none, 0⟩), #[]⟩) ::
  ((nat_lit 290), ⟨(.type "tuple"), none, (.seq #[] 0), #[]⟩) ::
  ((nat_lit 292), ⟨(.type "tuple"), none, (.seq #[(.str (Str.ofString "self") 592), (.str (Str.ofString "address") 593), (.str (Str.ofString "port") 594), (.str (Str.ofString "remote") 595), (.str (Str.ofString "owner") 596), (.str (Str.ofString "other") 597), (.str (Str.ofString "row") 598)] 0), #[]⟩) ::
  ((nat_lit 293), ⟨(.type "tuple"), none, (.seq #[] 0), #[]⟩) ::
  ((nat_lit 295), ⟨(.type "code"), none, (.fields #[(.str (Str.ofString "is_there") 589), (.str (Str.ofString "UdpTable.is_there") 590), (.str (Str.ofString "/claim/cut.py") 591), (.int 149 0), (.int 5 0), (.int 0 0), (.int 0 0), (.int 3 0), (.ref 290), (.bool true), (.int 181 0), (.ref 291), .none, (.ref 292), (.ref 293), (.ref 294), (.int 599 0), (.int 149 0), (.str (Str.ofString "/claim/cut.py") 600)]), #[]⟩) ::
  ((nat_lit 296), ⟨(.type "function"), none, (.func ⟨(Str.ofString "is_there"), (Str.ofString "UdpTable.is_there"), a31_2, (.stmts b31_2), s31_2, 3, [], .none, .none, .none, (.str (Str.ofString "thinstack.udp_table") 504), none, (.ref 295), .none, 0⟩), #[]⟩) ::
  ((nat_lit 297), ⟨(.type "tuple"), none, (.seq #[] 0), #[]⟩) ::
  ((nat_lit 299), ⟨(.type "tuple"), none, (.seq #[(.str (Str.ofString "self") 605), (.str (Str.ofString "owner") 606), (.str (Str.ofString "address") 607), (.str (Str.ofString "port") 608)] 0), #[]⟩) ::
  ((nat_lit 300), ⟨(.type "tuple"), none, (.seq #[] 0), #[]⟩) ::
  ((nat_lit 302), ⟨(.type "code"), none, (.fields #[(.str (Str.ofString "bind") 602), (.str (Str.ofString "UdpTable.bind") 603), (.str (Str.ofString "/claim/cut.py") 604), (.int 156 0), (.int 4 0), (.int 0 0), (.int 0 0), (.int 3 0), (.ref 297), (.bool true), (.int 181 0), (.ref 298), .none, (.ref 299), (.ref 300), (.ref 301), (.int 609 0), (.int 156 0), (.str (Str.ofString "/claim/cut.py") 610)]), #[]⟩) ::
  ((nat_lit 303), ⟨(.type "function"), none, (.func ⟨(Str.ofString "bind"), (Str.ofString "UdpTable.bind"), a31_3, (.stmts b31_3), s31_3, 3, [], .none, .none, .none, (.str (Str.ofString "thinstack.udp_table") 504), none, (.ref 302), .none, 0⟩), #[]⟩) ::
  ((nat_lit 304), ⟨(.type "tuple"), none, (.seq #[] 0), #[]⟩) ::
  ((nat_lit 306), ⟨(.type "tuple"), none, (.seq #[(.str (Str.ofString "self") 615), (.str (Str.ofString "owner") 616), (.str (Str.ofString "address") 617), (.str (Str.ofString "port") 618), (.str (Str.ofString "row") 619), (.str (Str.ofString "remote") 620)] 0), #[]⟩) ::
  ((nat_lit 307), ⟨(.type "tuple"), none, (.seq #[] 0), #[]⟩) ::
  ((nat_lit 309), ⟨(.type "code"), none, (.fields #[(.str (Str.ofString "connect") 612), (.str (Str.ofString "UdpTable.connect") 613), (.str (Str.ofString "/claim/cut.py") 614), (.int 163 0), (.int 4 0), (.int 0 0), (.int 0 0), (.int 3 0), (.ref 304), (.bool true), (.int 181 0), (.ref 305), .none, (.ref 306), (.ref 307), (.ref 308), (.int 621 0), (.int 163 0), (.str (Str.ofString "/claim/cut.py") 622)]), #[]⟩) ::
  ((nat_lit 310), ⟨(.type "function"), none, (.func ⟨(Str.ofString "connect"), (Str.ofString "UdpTable.connect"), a31_4, (.stmts b31_4), s31_4, 3, [], .none, .none, .none, (.str (Str.ofString "thinstack.udp_table") 504), none, (.ref 309), .none, 0⟩), #[]⟩) ::
  ((nat_lit 311), ⟨(.type "tuple"), none, (.seq #[] 0), #[]⟩) ::
  ((nat_lit 313), ⟨(.type "tuple"), none, (.seq #[(.str (Str.ofString "self") 627), (.str (Str.ofString "owner") 628)] 0), #[]⟩) ::
  ((nat_lit 314), ⟨(.type "tuple"), none, (.seq #[] 0), #[]⟩) ::
  ((nat_lit 316), ⟨(.type "code"), none, (.fields #[(.str (Str.ofString "remove") 624), (.str (Str.ofString "UdpTable.remove") 625), (.str (Str.ofString "/claim/cut.py") 626), (.int 170 0), (.int 2 0), (.int 0 0), (.int 0 0), (.int 3 0), (.ref 311), (.bool true), (.int 181 0), (.ref 312), .none, (.ref 313), (.ref 314), (.ref 315), (.int 629 0), (.int 170 0), (.str (Str.ofString "/claim/cut.py") 630)]), #[]⟩) ::
  ((nat_lit 317), ⟨(.type "function"), none, (.func ⟨(Str.ofString "remove"), (Str.ofString "UdpTable.remove"), a31_5, (.stmts b31_5), s31_5, 3, [], .none, .none, .none, (.str (Str.ofString "thinstack.udp_table") 504), none, (.ref 316), .none, 0⟩), #[]⟩) ::
  ((nat_lit 318), ⟨(.type "tuple"), none, (.seq #[] 0), #[]⟩) ::
  ((nat_lit 320), ⟨(.type "tuple"), none, (.seq #[(.str (Str.ofString "self") 635), (.str (Str.ofString "target") 636), (.str (Str.ofString "target_port") 637), (.str (Str.ofString "source") 638), (.str (Str.ofString "source_port") 639), (.str (Str.ofString "found") 640), (.str (Str.ofString "best") 641), (.str (Str.ofString "owner") 642), (.str (Str.ofString "exact") 643)] 0), #[]⟩) ::
  ((nat_lit 321), ⟨(.type "tuple"), none, (.seq #[] 0), #[]⟩) ::
  ((nat_lit 323), ⟨(.type "code"), none, (.fields #[(.str (Str.ofString "find") 632), (.str (Str.ofString "UdpTable.find") 633), (.str (Str.ofString "/claim/cut.py") 634), (.int 174 0), (.int 5 0), (.int 0 0), (.int 0 0), (.int 3 0), (.ref 318), (.bool true), (.int 181 0), (.ref 319), .none, (.ref 320), (.ref 321), (.ref 322), (.int 644 0), (.int 174 0), (.str (Str.ofString "/claim/cut.py") 645)]), #[]⟩) ::
  ((nat_lit 324), ⟨(.type "function"), none, (.func ⟨(Str.ofString "find"), (Str.ofString "UdpTable.find"), a31_6, (.stmts b31_6), s31_6, 3, [], .none, .none, .none, (.str (Str.ofString "thinstack.udp_table") 504), none, (.ref 323), .none, 0⟩), #[]⟩) ::
  ((nat_lit 325), ⟨(.type "tuple"), none, (.seq #[(.str (Str.ofString "rows") 647)] 0), #[]⟩) ::
  ((nat_lit 326), ⟨(.type "dict"), none, (.dict #[⟨(PyData.keyHash P (Str.ofString "__module__")), (.str (Str.ofString "__module__") 569), (.str (Str.ofString "thinstack.udp_table") 504)⟩, ⟨(PyData.keyHash P (Str.ofString "__firstlineno__")), (.str (Str.ofString "__firstlineno__") 573), (.int 139 572)⟩, ⟨(PyData.keyHash P (Str.ofString "__init__")), (.str (Str.ofString "__init__") 580), (.ref 282)⟩, ⟨(PyData.keyHash P (Str.ofString "row")), (.str (Str.ofString "row") 588), (.ref 289)⟩, ⟨(PyData.keyHash P (Str.ofString "is_there")), (.str (Str.ofString "is_there") 601), (.ref 296)⟩, ⟨(PyData.keyHash P (Str.ofString "bind")), (.str (Str.ofString "bind") 611), (.ref 303)⟩, ⟨(PyData.keyHash P (Str.ofString "connect")), (.str (Str.ofString "connect") 623), (.ref 310)⟩, ⟨(PyData.keyHash P (Str.ofString "remove")), (.str (Str.ofString "remove") 631), (.ref 317)⟩, ⟨(PyData.keyHash P (Str.ofString "find")), (.str (Str.ofString "find") 646), (.ref 324)⟩, ⟨(PyData.keyHash P (Str.ofString "__static_attributes__")), (.str (Str.ofString "__static_attributes__") 648), (.ref 325)⟩, ⟨(PyData.keyHash P (Str.ofString "__dict__")), (.str (Str.ofString "__dict__") 650), (.ref 328)⟩, ⟨(PyData.keyHash P (Str.ofString "__weakref__")), (.str (Str.ofString "__weakref__") 652), (.ref 329)⟩, ⟨(PyData.keyHash P (Str.ofString "__doc__")), (.str (Str.ofString "__doc__") 653), .none⟩] 4), #[]⟩) ::
  ((nat_lit 327), ⟨(.type "type"), none, (.cls ⟨(Str.ofString "UdpTable"), [(.type "object")], [(.ref 327), (.type "object")], 326, (Str.ofString "UdpTable"), true, [], [], false, none, false⟩), #[none, none, (some (.str (Str.ofString "UdpTable") 562)), (some (.str (Str.ofString "UdpTable") 570)), (some (.builtin "object.__new__")), (some (.bool true))]⟩) ::
  ((nat_lit 328), ⟨(.type "getset_descriptor"), none, (.fields #[(.str (Str.ofString "__dict__") 649), (.ref 327), (.builtin "function.__dict__"), (.builtin "function.__dict__#set")]), #[]⟩) ::
  ((nat_lit 329), ⟨(.type "getset_descriptor"), none, (.fields #[(.str (Str.ofString "__weakref__") 651), (.ref 327), (.builtin "ExceptionGroup.__weakref__"), .none]), #[]⟩) ::
  ((nat_lit 339), ⟨(.type "tuple"), none, (.seq #[] 0), #[]⟩) ::
  ((nat_lit 341), ⟨(.type "tuple"), none, (.seq #[(.str (Str.ofString "self") 675), (.str (Str.ofString "address") 676), (.str (Str.ofString "port") 677)] 0), #[]⟩) ::
  ((nat_lit 342), ⟨(.type "tuple"), none, (.seq #[] 0), #[]⟩) ::
  ((nat_lit 344), ⟨(.type "code"), none, (.fields #[(.str (Str.ofString "__init__") 672), (.str (Str.ofString "UdpSocket.__init__") 673), (.str (Str.ofString "/claim/cut.py") 674), (.int 187 0), (.int 3 0), (.int 0 0), (.int 0 0), (.int 3 0), (.ref 339), (.bool true), (.int 181 0), (.ref 340), .none, (.ref 341), (.ref 342), (.ref 343), (.int 678 0), (.int 187 0), (.str (Str.ofString "/claim/cut.py") 679)]), #[]⟩) ::
  ((nat_lit 345), ⟨(.type "function"), none, (.func ⟨(Str.ofString "__init__"), (Str.ofString "UdpSocket.__init__"), a34_0, (.stmts b34_0), s34_0, 3, [], .none, .none, .none, (.str (Str.ofString "thinstack.udp_sockets") 656), none, (.ref 344), .none, 0⟩), #[]⟩) ::
  ((nat_lit 346), ⟨(.type "tuple"), none, (.seq #[(.str (Str.ofString "address") 681), (.str (Str.ofString "error") 682), (.str (Str.ofString "lost") 683), (.str (Str.ofString "port") 684), (.str (Str.ofString "queue") 685), (.str (Str.ofString "remote") 686)] 0), #[]⟩) ::
  ((nat_lit 347), ⟨(.type "dict"), none, (.dict #[⟨(PyData.keyHash P (Str.ofString "__module__")), (.str (Str.ofString "__module__") 667), (.str (Str.ofString "thinstack.udp_sockets") 656)⟩, ⟨(PyData.keyHash P (Str.ofString "__firstlineno__")), (.str (Str.ofString "__firstlineno__") 671), (.int 185 670)⟩, ⟨(PyData.keyHash P (Str.ofString "__init__")), (.str (Str.ofString "__init__") 680), (.ref 345)⟩, ⟨(PyData.keyHash P (Str.ofString "__static_attributes__")), (.str (Str.ofString "__static_attributes__") 687), (.ref 346)⟩, ⟨(PyData.keyHash P (Str.ofString "__dict__")), (.str (Str.ofString "__dict__") 689), (.ref 349)⟩, ⟨(PyData.keyHash P (Str.ofString "__weakref__")), (.str (Str.ofString "__weakref__") 691), (.ref 350)⟩, ⟨(PyData.keyHash P (Str.ofString "__doc__")), (.str (Str.ofString "__doc__") 692), .none⟩] 4), #[]⟩) ::
  ((nat_lit 348), ⟨(.type "type"), none, (.cls ⟨(Str.ofString "UdpSocket"), [(.type "object")], [(.ref 348), (.type "object")], 347, (Str.ofString "UdpSocket"), true, [], [], false, none, false⟩), #[none, none, (some (.str (Str.ofString "UdpSocket") 660)), (some (.str (Str.ofString "UdpSocket") 668)), (some (.builtin "object.__new__")), (some (.bool true))]⟩) ::
  ((nat_lit 349), ⟨(.type "getset_descriptor"), none, (.fields #[(.str (Str.ofString "__dict__") 688), (.ref 348), (.builtin "function.__dict__"), (.builtin "function.__dict__#set")]), #[]⟩) ::
  ((nat_lit 350), ⟨(.type "getset_descriptor"), none, (.fields #[(.str (Str.ofString "__weakref__") 690), (.ref 348), (.builtin "ExceptionGroup.__weakref__"), .none]), #[]⟩) ::
  ((nat_lit 360), ⟨(.type "tuple"), none, (.seq #[(.int 16 658)] 0), #[]⟩) ::
  ((nat_lit 361), ⟨(.type "tuple"), none, (.seq #[] 0), #[]⟩) ::
  ((nat_lit 363), ⟨(.type "tuple"), none, (.seq #[(.str (Str.ofString "self") 710), (.str (Str.ofString "first_port") 711), (.str (Str.ofString "last_port") 712), (.str (Str.ofString "most_waiting") 713)] 0), #[]⟩) ::
  ((nat_lit 364), ⟨(.type "tuple"), none, (.seq #[] 0), #[]⟩) ::
  ((nat_lit 366), ⟨(.type "code"), none, (.fields #[(.str (Str.ofString "__init__") 707), (.str (Str.ofString "UdpSockets.__init__") 708), (.str (Str.ofString "/claim/cut.py") 709), (.int 196 0), (.int 4 0), (.int 0 0), (.int 0 0), (.int 3 0), (.ref 361), (.bool true), (.int 181 0), (.ref 362), .none, (.ref 363), (.ref 364), (.ref 365), (.int 714 0), (.int 196 0), (.str (Str.ofString "/claim/cut.py") 715)]), #[]⟩) ::
  ((nat_lit 367), ⟨(.type "function"), none, (.func ⟨(Str.ofString "__init__"), (Str.ofString "UdpSockets.__init__"), a35_0, (.stmts b35_0), s35_0, 3, [], (.ref 360), .none, .none, (.str (Str.ofString "thinstack.udp_sockets") 656), none, (.ref 366), .none, 0⟩), #[]⟩) ::
  ((nat_lit 368), ⟨(.type "tuple"), none, (.seq #[] 0), #[]⟩) ::
  ((nat_lit 370), ⟨(.type "tuple"), none, (.seq #[(.str (Str.ofString "self") 720), (.str (Str.ofString "number") 721)] 0), #[]⟩) ::
  ((nat_lit 371), ⟨(.type "tuple"), none, (.seq #[] 0), #[]⟩) ::
  ((nat_lit 373), ⟨(.type "code"), none, (.fields #[(.str (Str.ofString "socket") 717), (.str (Str.ofString "UdpSockets.socket") 718), (.str (Str.ofString "/claim/cut.py") 719), (.int 203 0), (.int 2 0), (.int 0 0), (.int 0 0), (.int 3 0), (.ref 368), (.bool true), (.int 181 0), (.ref 369), .none, (.ref 370), (.ref 371), (.ref 372), (.int 722 0), (.int 203 0), (.str (Str.ofString "/claim/cut.py") 723)]), #[]⟩) ::
  ((nat_lit 374), ⟨(.type "function"), none, (.func ⟨(Str.ofString "socket"), (Str.ofString "UdpSockets.socket"), a35_1, (.stmts b35_1), s35_1, 3, [], .none, .none, .none, (.str (Str.ofString "thinstack.udp_sockets") 656), none, (.ref 373), .none, 0⟩), #[]⟩) ::
  ((nat_lit 375), ⟨(.type "tuple"), none, (.seq #[] 0), #[]⟩) ::
  ((nat_lit 377), ⟨(.type "tuple"), none, (.seq #[(.str (Str.ofString "self") 728), (.str (Str.ofString "address") 729), (.str (Str.ofString "port") 730), (.str (Str.ofString "taken") 731)] 0), #[]⟩) ::
  ((nat_lit 378), ⟨(.type "tuple"), none, (.seq #[] 0), #[]⟩) ::
  ((nat_lit 380), ⟨(.type "code"), none, (.fields #[(.str (Str.ofString "open") 725), (.str (Str.ofString "UdpSockets.open") 726), (.str (Str.ofString "/claim/cut.py") 727), (.int 208 0), (.int 3 0), (.int 0 0), (.int 0 0), (.int 3 0), (.ref 375), (.bool true), (.int 181 0), (.ref 376), .none, (.ref 377), (.ref 378), (.ref 379), (.int 732 0), (.int 208 0), (.str (Str.ofString "/claim/cut.py") 733)]), #[]⟩) ::
  ((nat_lit 381), ⟨(.type "function"), none, (.func ⟨(Str.ofString "open"), (Str.ofString "UdpSockets.open"), a35_2, (.stmts b35_2), s35_2, 3, [], .none, .none, .none, (.str (Str.ofString "thinstack.udp_sockets") 656), none, (.ref 380), .none, 0⟩), #[]⟩) ::
  ((nat_lit 382), ⟨(.type "tuple"), none, (.seq #[] 0), #[]⟩) ::
  ((nat_lit 385), ⟨(.type "code"), none, (.fields #[(.str (Str.ofString "connect") 735), (.str (Str.ofString "UdpSockets.connect") 736), (.str (Str.ofString "/claim/cut.py") 737), (.int 215 0), (.int 4 0), (.int 0 0), (.int 0 0), (.int 3 0), (.ref 382), (.bool true), (.int 181 0), (.ref 383), .none, .none, .none, (.ref 384), (.int 738 0), (.int 215 0), (.str (Str.ofString "/claim/cut.py") 739)]), #[]⟩) ::
  ((nat_lit 386), ⟨(.type "function"), none, (.func ⟨(Str.ofString "connect"), (Str.ofString "UdpSockets.connect"), a35_3, (.stmts b35_3), s35_3, 3, [], .none, .none, .none, (.str (Str.ofString "thinstack.udp_sockets") 656), none, (.ref 385), .none, 0⟩), #[]⟩) ::
  ((nat_lit 387), ⟨(.type "tuple"), none, (.seq #[] 0), #[]⟩) ::
  ((nat_lit 389), ⟨(.type "tuple"), none, (.seq #[(.str (Str.ofString "self") 744), (.str (Str.ofString "number") 745), (.str (Str.ofString "socket") 746)] 0), #[]⟩) ::
  ((nat_lit 390), ⟨(.type "tuple"), none, (.seq #[] 0), #[]⟩) ::
  ((nat_lit 392), ⟨(.type "code"), none, (.fields #[(.str (Str.ofString "close") 741), (.str (Str.ofString "UdpSockets.close") 742), (.str (Str.ofString "/claim/cut.py") 743), (.int 221 0), (.int 2 0), (.int 0 0), (.int 0 0), (.int 3 0), (.ref 387), (.bool true), (.int 181 0), (.ref 388), .none, (.ref 389), (.ref 390), (.ref 391), (.int 747 0), (.int 221 0), (.str (Str.ofString "/claim/cut.py") 748)]), #[]⟩) ::
  ((nat_lit 393), ⟨(.type "function"), none, (.func ⟨(Str.ofString "close"), (Str.ofString "UdpSockets.close"), a35_4, (.stmts b35_4), s35_4, 3, [], .none, .none, .none, (.str (Str.ofString "thinstack.udp_sockets") 656), none, (.ref 392), .none, 0⟩), #[]⟩) ::
  ((nat_lit 394), ⟨(.type "tuple"), none, (.seq #[] 0), #[]⟩) ::
  ((nat_lit 396), ⟨(.type "tuple"), none, (.seq #[(.str (Str.ofString "self") 753), (.str (Str.ofString "number") 754)] 0), #[]⟩) ::
  ((nat_lit 397), ⟨(.type "tuple"), none, (.seq #[] 0), #[]⟩) ::
  ((nat_lit 399), ⟨(.type "code"), none, (.fields #[(.str (Str.ofString "port_of") 750), (.str (Str.ofString "UdpSockets.port_of") 751), (.str (Str.ofString "/claim/cut.py") 752), (.int 227 0), (.int 2 0), (.int 0 0), (.int 0 0), (.int 3 0), (.ref 394), (.bool true), (.int 181 0), (.ref 395), .none, (.ref 396), (.ref 397), (.ref 398), (.int 755 0), (.int 227 0), (.str (Str.ofString "/claim/cut.py") 756)]), #[]⟩) ::
  ((nat_lit 400), ⟨(.type "function"), none, (.func ⟨(Str.ofString "port_of"), (Str.ofString "UdpSockets.port_of"), a35_5, (.stmts b35_5), s35_5, 3, [], .none, .none, .none, (.str (Str.ofString "thinstack.udp_sockets") 656), none, (.ref 399), .none, 0⟩), #[]⟩) ::
  ((nat_lit 401), ⟨(.type "tuple"), none, (.seq #[] 0), #[]⟩) ::
  ((nat_lit 403), ⟨(.type "tuple"), none, (.seq #[(.str (Str.ofString "self") 761), (.str (Str.ofString "number") 762), (.str (Str.ofString "source") 763), (.str (Str.ofString "address") 764), (.str (Str.ofString "port") 765), (.str (Str.ofString "octets") 766)] 0), #[]⟩) ::
  ((nat_lit 404), ⟨(.type "tuple"), none, (.seq #[] 0), #[]⟩) ::
  ((nat_lit 406), ⟨(.type "code"), none, (.fields #[(.str (Str.ofString "send_to") 758), (.str (Str.ofString "UdpSockets.send_to") 759), (.str (Str.ofString "/claim/cut.py") 760), (.int 230 0), (.int 6 0), (.int 0 0), (.int 0 0), (.int 3 0), (.ref 401), (.bool true), (.int 181 0), (.ref 402), .none, (.ref 403), (.ref 404), (.ref 405), (.int 767 0), (.int 230 0), (.str (Str.ofString "/claim/cut.py") 768)]), #[]⟩) ::
  ((nat_lit 407), ⟨(.type "function"), none, (.func ⟨(Str.ofString "send_to"), (Str.ofString "UdpSockets.send_to"), a35_6, (.stmts b35_6), s35_6, 3, [], .none, .none, .none, (.str (Str.ofString "thinstack.udp_sockets") 656), none, (.ref 406), .none, 0⟩), #[]⟩) ::
  ((nat_lit 408), ⟨(.type "tuple"), none, (.seq #[] 0), #[]⟩) ::
  ((nat_lit 410), ⟨(.type "tuple"), none, (.seq #[(.str (Str.ofString "self") 773), (.str (Str.ofString "source") 774), (.str (Str.ofString "target") 775), (.str (Str.ofString "octets") 776), (.str (Str.ofString "source_port") 777), (.str (Str.ofString "target_port") 778), (.str (Str.ofString "payload") 779), (.str (Str.ofString "number") 780), (.str (Str.ofString "socket") 781)] 0), #[]⟩) ::
  ((nat_lit 411), ⟨(.type "tuple"), none, (.seq #[] 0), #[]⟩) ::
  ((nat_lit 413), ⟨(.type "code"), none, (.fields #[(.str (Str.ofString "input") 770), (.str (Str.ofString "UdpSockets.input") 771), (.str (Str.ofString "/claim/cut.py") 772), (.int 233 0), (.int 4 0), (.int 0 0), (.int 0 0), (.int 3 0), (.ref 408), (.bool true), (.int 181 0), (.ref 409), .none, (.ref 410), (.ref 411), (.ref 412), (.int 782 0), (.int 233 0), (.str (Str.ofString "/claim/cut.py") 783)]), #[]⟩) ::
  ((nat_lit 414), ⟨(.type "function"), none, (.func ⟨(Str.ofString "input"), (Str.ofString "UdpSockets.input"), a35_7, (.stmts b35_7), s35_7, 3, [], .none, .none, .none, (.str (Str.ofString "thinstack.udp_sockets") 656), none, (.ref 413), .none, 0⟩), #[]⟩) ::
  ((nat_lit 415), ⟨(.type "tuple"), none, (.seq #[] 0), #[]⟩) ::
  ((nat_lit 417), ⟨(.type "tuple"), none, (.seq #[(.str (Str.ofString "self") 788), (.str (Str.ofString "number") 789), (.str (Str.ofString "socket") 790)] 0), #[]⟩) ::
  ((nat_lit 418), ⟨(.type "tuple"), none, (.seq #[] 0), #[]⟩) ::
  ((nat_lit 420), ⟨(.type "code"), none, (.fields #[(.str (Str.ofString "receive") 785), (.str (Str.ofString "UdpSockets.receive") 786), (.str (Str.ofString "/claim/cut.py") 787), (.int 244 0), (.int 2 0), (.int 0 0), (.int 0 0), (.int 3 0), (.ref 415), (.bool true), (.int 181 0), (.ref 416), .none, (.ref 417), (.ref 418), (.ref 419), (.int 791 0), (.int 244 0), (.str (Str.ofString "/claim/cut.py") 792)]), #[]⟩) ::
  ((nat_lit 421), ⟨(.type "function"), none, (.func ⟨(Str.ofString "receive"), (Str.ofString "UdpSockets.receive"), a35_8, (.stmts b35_8), s35_8, 3, [], .none, .none, .none, (.str (Str.ofString "thinstack.udp_sockets") 656), none, (.ref 420), .none, 0⟩), #[]⟩) ::
  ((nat_lit 422), ⟨(.type "tuple"), none, (.seq #[] 0), #[]⟩) ::
  ((nat_lit 424), ⟨(.type "tuple"), none, (.seq #[(.str (Str.ofString "self") 797), (.str (Str.ofString "number") 798)] 0), #[]⟩) ::
  ((nat_lit 425), ⟨(.type "tuple"), none, (.seq #[] 0), #[]⟩) ::
  ((nat_lit 427), ⟨(.type "code"), none, (.fields #[(.str (Str.ofString "waiting") 794), (.str (Str.ofString "UdpSockets.waiting") 795), (.str (Str.ofString "/claim/cut.py") 796), (.int 248 0), (.int 2 0), (.int 0 0), (.int 0 0), (.int 3 0), (.ref 422), (.bool true), (.int 181 0), (.ref 423), .none, (.ref 424), (.ref 425), (.ref 426), (.int 799 0), (.int 248 0), (.str (Str.ofString "/claim/cut.py") 800)]), #[]⟩) ::
  ((nat_lit 428), ⟨(.type "function"), none, (.func ⟨(Str.ofString "waiting"), (Str.ofString "UdpSockets.waiting"), a35_9, (.stmts b35_9), s35_9, 3, [], .none, .none, .none, (.str (Str.ofString "thinstack.udp_sockets") 656), none, (.ref 427), .none, 0⟩), #[]⟩) ::
  ((nat_lit 429), ⟨(.type "tuple"), none, (.seq #[] 0), #[]⟩) ::
  ((nat_lit 431), ⟨(.type "tuple"), none, (.seq #[(.str (Str.ofString "self") 805), (.str (Str.ofString "target") 806), (.str (Str.ofString "octets") 807), (.str (Str.ofString "kind") 808), (.str (Str.ofString "code") 809), (.str (Str.ofString "ports") 810), (.str (Str.ofString "number") 811), (.str (Str.ofString "socket") 812)] 0), #[]⟩) ::
  ((nat_lit 432), ⟨(.type "tuple"), none, (.seq #[] 0), #[]⟩) ::
  ((nat_lit 434), ⟨(.type "code"), none, (.fields #[(.str (Str.ofString "tell_error") 802), (.str (Str.ofString "UdpSockets.tell_error") 803), (.str (Str.ofString "/claim/cut.py") 804), (.int 251 0), (.int 5 0), (.int 0 0), (.int 0 0), (.int 3 0), (.ref 429), (.bool true), (.int 181 0), (.ref 430), .none, (.ref 431), (.ref 432), (.ref 433), (.int 813 0), (.int 251 0), (.str (Str.ofString "/claim/cut.py") 814)]), #[]⟩) ::
  ((nat_lit 435), ⟨(.type "function"), none, (.func ⟨(Str.ofString "tell_error"), (Str.ofString "UdpSockets.tell_error"), a35_10, (.stmts b35_10), s35_10, 3, [], .none, .none, .none, (.str (Str.ofString "thinstack.udp_sockets") 656), none, (.ref 434), .none, 0⟩), #[]⟩) ::
  ((nat_lit 436), ⟨(.type "tuple"), none, (.seq #[] 0), #[]⟩) ::
  ((nat_lit 438), ⟨(.type "tuple"), none, (.seq #[(.str (Str.ofString "self") 819), (.str (Str.ofString "number") 820), (.str (Str.ofString "socket") 821), (.str (Str.ofString "found") 822)] 0), #[]⟩) ::
  ((nat_lit 439), ⟨(.type "tuple"), none, (.seq #[] 0), #[]⟩) ::
  ((nat_lit 441), ⟨(.type "code"), none, (.fields #[(.str (Str.ofString "error_of") 816), (.str (Str.ofString "UdpSockets.error_of") 817), (.str (Str.ofString "/claim/cut.py") 818), (.int 261 0), (.int 2 0), (.int 0 0), (.int 0 0), (.int 3 0), (.ref 436), (.bool true), (.int 181 0), (.ref 437), .none, (.ref 438), (.ref 439), (.ref 440), (.int 823 0), (.int 261 0), (.str (Str.ofString "/claim/cut.py") 824)]), #[]⟩) ::
  ((nat_lit 442), ⟨(.type "function"), none, (.func ⟨(Str.ofString "error_of"), (Str.ofString "UdpSockets.error_of"), a35_11, (.stmts b35_11), s35_11, 3, [], .none, .none, .none, (.str (Str.ofString "thinstack.udp_sockets") 656), none, (.ref 441), .none, 0⟩), #[]⟩) ::
  ((nat_lit 443), ⟨(.type "tuple"), none, (.seq #[(.str (Str.ofString "given") 826), (.str (Str.ofString "most_waiting") 827), (.str (Str.ofString "ports") 828), (.str (Str.ofString "sockets") 829), (.str (Str.ofString "table") 830)] 0), #[]⟩) ::
  ((nat_lit 444), ⟨(.type "dict"), none, (.dict #[⟨(PyData.keyHash P (Str.ofString "__module__")), (.str (Str.ofString "__module__") 702), (.str (Str.ofString "thinstack.udp_sockets") 656)⟩, ⟨(PyData.keyHash P (Str.ofString "__firstlineno__")), (.str (Str.ofString "__firstlineno__") 706), (.int 194 705)⟩, ⟨(PyData.keyHash P (Str.ofString "__init__")), (.str (Str.ofString "__init__") 716), (.ref 367)⟩, ⟨(PyData.keyHash P (Str.ofString "socket")), (.str (Str.ofString "socket") 724), (.ref 374)⟩, ⟨(PyData.keyHash P (Str.ofString "open")), (.str (Str.ofString "open") 734), (.ref 381)⟩, ⟨(PyData.keyHash P (Str.ofString "connect")), (.str (Str.ofString "connect") 740), (.ref 386)⟩, ⟨(PyData.keyHash P (Str.ofString "close")), (.str (Str.ofString "close") 749), (.ref 393)⟩, ⟨(PyData.keyHash P (Str.ofString "port_of")), (.str (Str.ofString "port_of") 757), (.ref 400)⟩, ⟨(PyData.keyHash P (Str.ofString "send_to")), (.str (Str.ofString "send_to") 769), (.ref 407)⟩, ⟨(PyData.keyHash P (Str.ofString "input")), (.str (Str.ofString "input") 784), (.ref 414)⟩, ⟨(PyData.keyHash P (Str.ofString "receive")), (.str (Str.ofString "receive") 793), (.ref 421)⟩, ⟨(PyData.keyHash P (Str.ofString "waiting")), (.str (Str.ofString "waiting") 801), (.ref 428)⟩, ⟨(PyData.keyHash P (Str.ofString "tell_error")), (.str (Str.ofString "tell_error") 815), (.ref 435)⟩, ⟨(PyData.keyHash P (Str.ofString "error_of")), (.str (Str.ofString "error_of") 825), (.ref 442)⟩, ⟨(PyData.keyHash P (Str.ofString "__static_attributes__")), (.str (Str.ofString "__static_attributes__") 831), (.ref 443)⟩, ⟨(PyData.keyHash P (Str.ofString "__dict__")), (.str (Str.ofString "__dict__") 833), (.ref 446)⟩, ⟨(PyData.keyHash P (Str.ofString "__weakref__")), (.str (Str.ofString "__weakref__") 835), (.ref 447)⟩, ⟨(PyData.keyHash P (Str.ofString "__doc__")), (.str (Str.ofString "__doc__") 836), .none⟩] 4), #[]⟩) ::
  ((nat_lit 445), ⟨(.type "type"), none, (.cls ⟨(Str.ofString "UdpSockets"), [(.type "object")], [(.ref 445), (.type "object")], 444, (Str.ofString "UdpSockets"), true, [], [], false, none, false⟩), #[none, none, (some (.str (Str.ofString "UdpSockets") 695)), (some (.str (Str.ofString "UdpSockets") 703)), (some (.builtin "object.__new__")), (some (.bool true))]⟩) ::
  ((nat_lit 446), ⟨(.type "getset_descriptor"), none, (.fields #[(.str (Str.ofString "__dict__") 832), (.ref 445), (.builtin "function.__dict__"), (.builtin "function.__dict__#set")]), #[]⟩) ::
  ((nat_lit 447), ⟨(.type "getset_descriptor"), none, (.fields #[(.str (Str.ofString "__weakref__") 834), (.ref 445), (.builtin "ExceptionGroup.__weakref__"), .none]), #[]⟩) ::
  ((nat_lit 450), ⟨(.type "tuple"), none, (.seq #[] 0), #[]⟩) ::
  ((nat_lit 452), ⟨(.type "tuple"), none, (.seq #[(.str (Str.ofString "script") 844), (.str (Str.ofString "k") 845), (.str (Str.ofString "cell") 846), (.str (Str.ofString "big") 847), (.str (Str.ofString "mixed") 848)] 0), #[]⟩) ::
  ((nat_lit 453), ⟨(.type "tuple"), none, (.seq #[] 0), #[]⟩) ::
  ((nat_lit 455), ⟨(.type "code"), none, (.fields #[(.str (Str.ofString "_law_pool") 841), (.str (Str.ofString "_law_pool") 842), (.str (Str.ofString "/claim/cut.py") 843), (.int 267 0), (.int 2 0), (.int 0 0), (.int 0 0), (.int 3 0), (.ref 450), (.bool true), (.int 181 0), (.ref 451), .none, (.ref 452), (.ref 453), (.ref 454), (.int 849 0), (.int 267 0), (.str (Str.ofString "/claim/cut.py") 850)]), #[]⟩) ::
  ((nat_lit 456), ⟨(.type "function"), none, (.func ⟨(Str.ofString "_law_pool"), (Str.ofString "_law_pool"), a37, (.stmts b37), s37, 3, [], .none, .none, .none, (.str (Str.ofString "law_nu0134_01") 839), none, (.ref 455), .none, 0⟩), #[]⟩) ::
  ((nat_lit 457), ⟨(.type "tuple"), none, (.seq #[] 0), #[]⟩) ::
  ((nat_lit 459), ⟨(.type "tuple"), none, (.seq #[(.str (Str.ofString "source") 855), (.str (Str.ofString "top") 856), (.str (Str.ofString "drawn") 857)] 0), #[]⟩) ::
  ((nat_lit 460), ⟨(.type "tuple"), none, (.seq #[] 0), #[]⟩) ::
  ((nat_lit 462), ⟨(.type "code"), none, (.fields #[(.str (Str.ofString "_law_take") 852), (.str (Str.ofString "_law_take") 853), (.str (Str.ofString "/claim/cut.py") 854), (.int 274 0), (.int 2 0), (.int 0 0), (.int 0 0), (.int 3 0), (.ref 457), (.bool true), (.int 181 0), (.ref 458), .none, (.ref 459), (.ref 460), (.ref 461), (.int 858 0), (.int 274 0), (.str (Str.ofString "/claim/cut.py") 859)]), #[]⟩) ::
  ((nat_lit 463), ⟨(.type "function"), none, (.func ⟨(Str.ofString "_law_take"), (Str.ofString "_law_take"), a38, (.stmts b38), s38, 3, [], .none, .none, .none, (.str (Str.ofString "law_nu0134_01") 839), none, (.ref 462), .none, 0⟩), #[]⟩) ::
  ((nat_lit 464), ⟨(.type "tuple"), none, (.seq #[] 0), #[]⟩) ::
  ((nat_lit 466), ⟨(.type "tuple"), none, (.seq #[(.str (Str.ofString "source") 864), (.str (Str.ofString "things") 865)] 0), #[]⟩) ::
  ((nat_lit 467), ⟨(.type "tuple"), none, (.seq #[] 0), #[]⟩) ::
  ((nat_lit 469), ⟨(.type "code"), none, (.fields #[(.str (Str.ofString "_law_one") 861), (.str (Str.ofString "_law_one") 862), (.str (Str.ofString "/claim/cut.py") 863), (.int 281 0), (.int 2 0), (.int 0 0), (.int 0 0), (.int 3 0), (.ref 464), (.bool true), (.int 181 0), (.ref 465), .none, (.ref 466), (.ref 467), (.ref 468), (.int 866 0), (.int 281 0), (.str (Str.ofString "/claim/cut.py") 867)]), #[]⟩) ::
  ((nat_lit 470), ⟨(.type "function"), none, (.func ⟨(Str.ofString "_law_one"), (Str.ofString "_law_one"), a39, (.stmts b39), s39, 3, [], .none, .none, .none, (.str (Str.ofString "law_nu0134_01") 839), none, (.ref 469), .none, 0⟩), #[]⟩) ::
  ((nat_lit 471), ⟨(.type "tuple"), none, (.seq #[] 0), #[]⟩) ::
  ((nat_lit 474), ⟨(.type "code"), none, (.fields #[(.str (Str.ofString "_law_free_port") 869), (.str (Str.ofString "_law_free_port") 870), (.str (Str.ofString "/claim/cut.py") 871), (.int 283 0), (.int 2 0), (.int 0 0), (.int 0 0), (.int 3 0), (.ref 471), (.bool true), (.int 181 0), (.ref 472), .none, .none, .none, (.ref 473), (.int 872 0), (.int 283 0), (.str (Str.ofString "/claim/cut.py") 873)]), #[]⟩) ::
  ((nat_lit 475), ⟨(.type "function"), none, (.func ⟨(Str.ofString "_law_free_port"), (Str.ofString "_law_free_port"), a40, (.stmts b40), s40, 3, [], .none, .none, .none, (.str (Str.ofString "law_nu0134_01") 839), none, (.ref 474), .none, 0⟩), #[]⟩) ::
  ((nat_lit 476), ⟨(.type "tuple"), none, (.seq #[] 0), #[]⟩) ::
  ((nat_lit 479), ⟨(.type "code"), none, (.fields #[(.str (Str.ofString "_law_opened") 875), (.str (Str.ofString "_law_opened") 876), (.str (Str.ofString "/claim/cut.py") 877), (.int 290 0), (.int 5 0), (.int 0 0), (.int 0 0), (.int 3 0), (.ref 476), (.bool true), (.int 181 0), (.ref 477), .none, .none, .none, (.ref 478), (.int 878 0), (.int 290 0), (.str (Str.ofString "/claim/cut.py") 879)]), #[]⟩) ::
  ((nat_lit 480), ⟨(.type "function"), none, (.func ⟨(Str.ofString "_law_opened"), (Str.ofString "_law_opened"), a41, (.stmts b41), s41, 3, [], .none, .none, .none, (.str (Str.ofString "law_nu0134_01") 839), none, (.ref 479), .none, 0⟩), #[]⟩) ::
  ((nat_lit 481), ⟨(.type "tuple"), none, (.seq #[] 0), #[]⟩) ::
  ((nat_lit 483), ⟨(.type "tuple"), none, (.seq #[(.str (Str.ofString "rows") 884), (.str (Str.ofString "address") 885), (.str (Str.ofString "port") 886), (.str (Str.ofString "far") 887), (.str (Str.ofString "best") 888), (.str (Str.ofString "found") 889), (.str (Str.ofString "number") 890), (.str (Str.ofString "row") 891), (.str (Str.ofString "worth") 892)] 0), #[]⟩) ::
  ((nat_lit 484), ⟨(.type "tuple"), none, (.seq #[] 0), #[]⟩) ::
  ((nat_lit 486), ⟨(.type "code"), none, (.fields #[(.str (Str.ofString "_law_target") 881), (.str (Str.ofString "_law_target") 882), (.str (Str.ofString "/claim/cut.py") 883), (.int 304 0), (.int 4 0), (.int 0 0), (.int 0 0), (.int 3 0), (.ref 481), (.bool true), (.int 181 0), (.ref 482), .none, (.ref 483), (.ref 484), (.ref 485), (.int 893 0), (.int 304 0), (.str (Str.ofString "/claim/cut.py") 894)]), #[]⟩) ::
  ((nat_lit 487), ⟨(.type "function"), none, (.func ⟨(Str.ofString "_law_target"), (Str.ofString "_law_target"), a42, (.stmts b42), s42, 3, [], .none, .none, .none, (.str (Str.ofString "law_nu0134_01") 839), none, (.ref 486), .none, 0⟩), #[]⟩) ::
  ((nat_lit 488), ⟨(.type "tuple"), none, (.seq #[] 0), #[]⟩) ::
  ((nat_lit 490), ⟨(.type "tuple"), none, (.seq #[(.str (Str.ofString "sockets") 899), (.str (Str.ofString "rows") 900), (.str (Str.ofString "address") 901), (.str (Str.ofString "port") 902), (.str (Str.ofString "far") 903), (.str (Str.ofString "octets") 904), (.str (Str.ofString "due") 905)] 0), #[]⟩) ::
  ((nat_lit 491), ⟨(.type "tuple"), none, (.seq #[] 0), #[]⟩) ::
  ((nat_lit 493), ⟨(.type "code"), none, (.fields #[(.str (Str.ofString "_law_came") 896), (.str (Str.ofString "_law_came") 897), (.str (Str.ofString "/claim/cut.py") 898), (.int 313 0), (.int 6 0), (.int 0 0), (.int 0 0), (.int 3 0), (.ref 488), (.bool true), (.int 181 0), (.ref 489), .none, (.ref 490), (.ref 491), (.ref 492), (.int 906 0), (.int 313 0), (.str (Str.ofString "/claim/cut.py") 907)]), #[]⟩) ::
  ((nat_lit 494), ⟨(.type "function"), none, (.func ⟨(Str.ofString "_law_came"), (Str.ofString "_law_came"), a43, (.stmts b43), s43, 3, [], .none, .none, .none, (.str (Str.ofString "law_nu0134_01") 839), none, (.ref 493), .none, 0⟩), #[]⟩) ::
  ((nat_lit 495), ⟨(.type "tuple"), none, (.seq #[] 0), #[]⟩) ::
  ((nat_lit 497), ⟨(.type "tuple"), none, (.seq #[(.str (Str.ofString "sockets") 912), (.str (Str.ofString "row") 913), (.str (Str.ofString "number") 914), (.str (Str.ofString "due") 915)] 0), #[]⟩) ::
  ((nat_lit 498), ⟨(.type "tuple"), none, (.seq #[] 0), #[]⟩) ::
  ((nat_lit 500), ⟨(.type "code"), none, (.fields #[(.str (Str.ofString "_law_read") 909), (.str (Str.ofString "_law_read") 910), (.str (Str.ofString "/claim/cut.py") 911), (.int 320 0), (.int 3 0), (.int 0 0), (.int 0 0), (.int 3 0), (.ref 495), (.bool true), (.int 181 0), (.ref 496), .none, (.ref 497), (.ref 498), (.ref 499), (.int 916 0), (.int 320 0), (.str (Str.ofString "/claim/cut.py") 917)]), #[]⟩) ::
  ((nat_lit 501), ⟨(.type "function"), none, (.func ⟨(Str.ofString "_law_read"), (Str.ofString "_law_read"), a44, (.stmts b44), s44, 3, [], .none, .none, .none, (.str (Str.ofString "law_nu0134_01") 839), none, (.ref 500), .none, 0⟩), #[]⟩) ::
  ((nat_lit 502), ⟨(.type "tuple"), none, (.seq #[] 0), #[]⟩) ::
  ((nat_lit 504), ⟨(.type "tuple"), none, (.seq #[(.str (Str.ofString "sockets") 922), (.str (Str.ofString "row") 923), (.str (Str.ofString "number") 924), (.str (Str.ofString "far") 925), (.str (Str.ofString "octets") 926), (.str (Str.ofString "told") 927)] 0), #[]⟩) ::
  ((nat_lit 505), ⟨(.type "tuple"), none, (.seq #[] 0), #[]⟩) ::
  ((nat_lit 507), ⟨(.type "code"), none, (.fields #[(.str (Str.ofString "_law_sent") 919), (.str (Str.ofString "_law_sent") 920), (.str (Str.ofString "/claim/cut.py") 921), (.int 323 0), (.int 5 0), (.int 0 0), (.int 0 0), (.int 3 0), (.ref 502), (.bool true), (.int 181 0), (.ref 503), .none, (.ref 504), (.ref 505), (.ref 506), (.int 928 0), (.int 323 0), (.str (Str.ofString "/claim/cut.py") 929)]), #[]⟩) ::
  ((nat_lit 508), ⟨(.type "function"), none, (.func ⟨(Str.ofString "_law_sent"), (Str.ofString "_law_sent"), a45, (.stmts b45), s45, 3, [], .none, .none, .none, (.str (Str.ofString "law_nu0134_01") 839), none, (.ref 507), .none, 0⟩), #[]⟩) ::
  ((nat_lit 509), ⟨(.type "tuple"), none, (.seq #[] 0), #[]⟩) ::
  ((nat_lit 511), ⟨(.type "tuple"), none, (.seq #[(.str (Str.ofString "sockets") 934), (.str (Str.ofString "rows") 935), (.str (Str.ofString "row") 936), (.str (Str.ofString "far") 937), (.str (Str.ofString "other") 938)] 0), #[]⟩) ::
  ((nat_lit 512), ⟨(.type "tuple"), none, (.seq #[] 0), #[]⟩) ::
  ((nat_lit 514), ⟨(.type "code"), none, (.fields #[(.str (Str.ofString "_law_erred") 931), (.str (Str.ofString "_law_erred") 932), (.str (Str.ofString "/claim/cut.py") 933), (.int 326 0), (.int 4 0), (.int 0 0), (.int 0 0), (.int 3 0), (.ref 509), (.bool true), (.int 181 0), (.ref 510), .none, (.ref 511), (.ref 512), (.ref 513), (.int 939 0), (.int 326 0), (.str (Str.ofString "/claim/cut.py") 940)]), #[]⟩) ::
  ((nat_lit 515), ⟨(.type "function"), none, (.func ⟨(Str.ofString "_law_erred"), (Str.ofString "_law_erred"), a46, (.stmts b46), s46, 3, [], .none, .none, .none, (.str (Str.ofString "law_nu0134_01") 839), none, (.ref 514), .none, 0⟩), #[]⟩) ::
  ((nat_lit 516), ⟨(.type "tuple"), none, (.seq #[] 0), #[]⟩) ::
  ((nat_lit 518), ⟨(.type "tuple"), none, (.seq #[(.str (Str.ofString "sockets") 945), (.str (Str.ofString "number") 946)] 0), #[]⟩) ::
  ((nat_lit 519), ⟨(.type "tuple"), none, (.seq #[] 0), #[]⟩) ::
  ((nat_lit 521), ⟨(.type "code"), none, (.fields #[(.str (Str.ofString "_law_is_gone") 942), (.str (Str.ofString "_law_is_gone") 943), (.str (Str.ofString "/claim/cut.py") 944), (.int 332 0), (.int 2 0), (.int 0 0), (.int 0 0), (.int 3 0), (.ref 516), (.bool true), (.int 181 0), (.ref 517), .none, (.ref 518), (.ref 519), (.ref 520), (.int 947 0), (.int 332 0), (.str (Str.ofString "/claim/cut.py") 948)]), #[]⟩) ::
  ((nat_lit 522), ⟨(.type "function"), none, (.func ⟨(Str.ofString "_law_is_gone"), (Str.ofString "_law_is_gone"), a47, (.stmts b47), s47, 3, [], .none, .none, .none, (.str (Str.ofString "law_nu0134_01") 839), none, (.ref 521), .none, 0⟩), #[]⟩) ::
  ((nat_lit 523), ⟨(.type "tuple"), none, (.seq #[] 0), #[]⟩) ::
  ((nat_lit 526), ⟨(.type "code"), none, (.fields #[(.str (Str.ofString "_law_deed_right") 950), (.str (Str.ofString "_law_deed_right") 951), (.str (Str.ofString "/claim/cut.py") 952), (.int 338 0), (.int 4 0), (.int 0 0), (.int 0 0), (.int 3 0), (.ref 523), (.bool true), (.int 181 0), (.ref 524), .none, .none, .none, (.ref 525), (.int 953 0), (.int 338 0), (.str (Str.ofString "/claim/cut.py") 954)]), #[]⟩) ::
  ((nat_lit 527), ⟨(.type "function"), none, (.func ⟨(Str.ofString "_law_deed_right"), (Str.ofString "_law_deed_right"), a48, (.stmts b48), s48, 3, [], .none, .none, .none, (.str (Str.ofString "law_nu0134_01") 839), none, (.ref 526), .none, 0⟩), #[]⟩) ::
  ((nat_lit 528), ⟨(.type "tuple"), none, (.seq #[] 0), #[]⟩) ::
  ((nat_lit 530), ⟨(.type "tuple"), none, (.seq #[(.str (Str.ofString "script") 959), (.str (Str.ofString "source") 960), (.str (Str.ofString "sockets") 961), (.str (Str.ofString "rows") 962), (.str (Str.ofString "state") 963), (.str (Str.ofString "turn") 964), (.str (Str.ofString "number") 965)] 0), #[]⟩) ::
  ((nat_lit 531), ⟨(.type "tuple"), none, (.seq #[] 0), #[]⟩) ::
  ((nat_lit 533), ⟨(.type "code"), none, (.fields #[(.str (Str.ofString "law") 956), (.str (Str.ofString "law") 957), (.str (Str.ofString "/claim/cut.py") 958), (.int 362 0), (.int 1 0), (.int 0 0), (.int 0 0), (.int 3 0), (.ref 528), (.bool true), (.int 181 0), (.ref 529), .none, (.ref 530), (.ref 531), (.ref 532), (.int 966 0), (.int 362 0), (.str (Str.ofString "/claim/cut.py") 967)]), #[]⟩) ::
  ((nat_lit 534), ⟨(.type "function"), none, (.func ⟨(Str.ofString "law"), (Str.ofString "law"), a49, (.stmts b49), s49, 3, [], .none, .none, .none, (.str (Str.ofString "law_nu0134_01") 839), none, (.ref 533), .none, 0⟩), #[]⟩) :: [] : List (Nat × Obj))
noncomputable def obIn (a : Nat) : Frag → Obj
  | [] => default
  | x :: r => match Nat.beq x.1 a with
    | true => x.2
    | false => obIn a r
noncomputable def ob (a : Nat) (P : Params) : Obj := obIn a (hp P)
noncomputable def heap0 : Params → Heap := fun P => ⟨Array.mk (
  boot_o_0 P ::
  boot_o_1 P ::
  boot_o_2 P ::
  boot_o_3 P ::
  boot_o_4 P ::
  boot_o_5 P ::
  boot_o_6 P ::
  boot_o_7 P ::
  boot_o_8 P ::
  boot_o_9 P ::
  boot_o_10 P ::
  ⟨(.type "tuple"), none, (.seq #[] 0), #[]⟩ ::
  ⟨.none, none, (.fields #[]), #[]⟩ ::
  ⟨(.type "code"), none, (.fields #[(.str (Str.ofString "<module>") 182), (.str (Str.ofString "<module>") 183), (.str (Str.ofString "/claim/cut.py") 184), (.int 1 0), (.int 0 0), (.int 0 0), (.int 0 0), (.int 0 0), (.ref 11), (.bool false), (.int 181 0), (.ref 12), .none, .none, .none, .none, (.int 185 0), (.int 1 0), (.str (Str.ofString "/claim/cut.py") 186)]), #[]⟩ ::
  ⟨(.type "frame"), none, .plain, #[(some (.ref 13)), (some (.ref 3)), (some (.ref 3)), none, (some (.str (Str.ofString "__main__") 164)), none, (some (.ref 0))]⟩ :: []), ⟨[], [], [], 0, [], [], false, #[], [], 0, false, false, false, 0, [2000, 10, 10], false, 0, true, [], [], 0, false⟩⟩
noncomputable def heap17 : Params → Heap := fun P => ⟨Array.mk (
  boot_o_0 P ::
  boot_o_1 P ::
  ob 2 P ::
  ⟨(.type "dict"), none, (.dict #[⟨(PyData.keyHash P (Str.ofString "__name__")), (.str (Str.ofString "__name__") 165), (.str (Str.ofString "thinstack.sums") 387)⟩, ⟨(PyData.keyHash P (Str.ofString "__doc__")), (.str (Str.ofString "__doc__") 166), .none⟩, ⟨(PyData.keyHash P (Str.ofString "__package__")), (.str (Str.ofString "__package__") 167), .none⟩, ⟨(PyData.keyHash P (Str.ofString "__loader__")), (.str (Str.ofString "__loader__") 168), (.builtin "__main__.__loader__#opaque")⟩, ⟨(PyData.keyHash P (Str.ofString "__spec__")), (.str (Str.ofString "__spec__") 169), .none⟩, ⟨(PyData.keyHash P (Str.ofString "__annotations__")), (.str (Str.ofString "__annotations__") 170), (.ref 6)⟩, ⟨(PyData.keyHash P (Str.ofString "__builtins__")), (.str (Str.ofString "__builtins__") 171), (.ref 4)⟩, ⟨(PyData.keyHash P (Str.ofString "__file__")), (.str (Str.ofString "__file__") 173), (.str (Str.ofString "/claim/cut.py") 172)⟩, ⟨(PyData.keyHash P (Str.ofString "__cached__")), (.str (Str.ofString "__cached__") 174), .none⟩, ⟨(PyData.keyHash P (Str.ofString "StackError")), (.str (Str.ofString "StackError") 217), (.ref 31)⟩, ⟨(PyData.keyHash P (Str.ofString "FormError")), (.str (Str.ofString "FormError") 233), (.ref 44)⟩, ⟨(PyData.keyHash P (Str.ofString "SizeError")), (.str (Str.ofString "SizeError") 249), (.ref 56)⟩, ⟨(PyData.keyHash P (Str.ofString "PortError")), (.str (Str.ofString "PortError") 265), (.ref 68)⟩, ⟨(PyData.keyHash P (Str.ofString "StateError")), (.str (Str.ofString "StateError") 281), (.ref 80)⟩, ⟨(PyData.keyHash P (Str.ofString "MOST_PORT")), (.str (Str.ofString "MOST_PORT") 285), (.int 65535 284)⟩, ⟨(PyData.keyHash P (Str.ofString "Ports")), (.str (Str.ofString "Ports") 360), (.ref 135)⟩, ⟨(PyData.keyHash P (Str.ofString "put16")), (.str (Str.ofString "put16") 369), (.ref 146)⟩, ⟨(PyData.keyHash P (Str.ofString "need")), (.str (Str.ofString "need") 378), (.ref 153)⟩, ⟨(PyData.keyHash P (Str.ofString "get16")), (.str (Str.ofString "get16") 386), (.ref 160)⟩, ⟨(PyData.keyHash P (Str.ofString "ALL_ONES_sums")), (.str (Str.ofString "ALL_ONES_sums") 390), (.int 65535 389)⟩, ⟨(PyData.keyHash P (Str.ofString "fold")), (.str (Str.ofString "fold") 397), (.ref 167)⟩, ⟨(PyData.keyHash P (Str.ofString "ones_sum")), (.str (Str.ofString "ones_sum") 409), (.ref 175)⟩] 22), #[]⟩ ::
  boot_o_4 P ::
  boot_o_5 P ::
  boot_o_6 P ::
  boot_o_7 P ::
  boot_o_8 P ::
  boot_o_9 P ::
  boot_o_10 P ::
  ⟨(.type "tuple"), none, (.seq #[] 0), #[]⟩ ::
  ⟨.none, none, (.fields #[(.int 2 0), (.int 0 0), (.ref 20), (.int 6 0), (.int 0 0), (.ref 40), (.int 8 0), (.int 0 0), (.ref 52), (.int 10 0), (.int 0 0), (.ref 64), (.int 12 0), (.int 0 0), (.ref 76), (.int 16 0), (.int 0 0), (.ref 88), (.int 56 0), (.int 0 0), (.ref 145), (.int 58 0), (.int 0 0), (.ref 152), (.int 61 0), (.int 0 0), (.ref 159), (.int 66 0), (.int 0 0), (.ref 166), (.int 70 0), (.int 0 0), (.ref 174)]), #[]⟩ ::
  ⟨(.type "code"), none, (.fields #[(.str (Str.ofString "<module>") 182), (.str (Str.ofString "<module>") 183), (.str (Str.ofString "/claim/cut.py") 184), (.int 1 0), (.int 0 0), (.int 0 0), (.int 0 0), (.int 0 0), (.ref 11), (.bool false), (.int 181 0), (.ref 12), .none, .none, .none, .none, (.int 185 0), (.int 1 0), (.str (Str.ofString "/claim/cut.py") 186)]), #[]⟩ ::
  ⟨(.type "frame"), none, .plain, #[(some (.ref 13)), (some (.ref 3)), (some (.ref 3)), none, (some (.str (Str.ofString "__main__") 164)), none, (some (.ref 0))]⟩ ::
  ob 15 P ::
  ⟨(.type "builtin_function_or_method"), none, (.fields #[(.builtin "type.__prepare__"), (.type "type")]), #[]⟩ ::
  ⟨(.type "dict"), none, (.dict #[⟨(PyData.keyHash P (Str.ofString "__module__")), (.str (Str.ofString "__module__") 196), (.str (Str.ofString "thinstack.errors") 187)⟩, ⟨(PyData.keyHash P (Str.ofString "__qualname__")), (.str (Str.ofString "__qualname__") 198), (.str (Str.ofString "StackError") 197)⟩, ⟨(PyData.keyHash P (Str.ofString "__firstlineno__")), (.str (Str.ofString "__firstlineno__") 200), (.int 2 199)⟩, ⟨(PyData.keyHash P (Str.ofString "__init__")), (.str (Str.ofString "__init__") 208), (.ref 28)⟩, ⟨(PyData.keyHash P (Str.ofString "__static_attributes__")), (.str (Str.ofString "__static_attributes__") 210), (.ref 29)⟩] 5), #[]⟩ ::
  ⟨(.type "tuple"), none, (.seq #[] 0), #[]⟩ ::
  ⟨.none, none, (.fields #[(.int 4 0), (.int 4 0), (.ref 27)]), #[]⟩ ::
  ⟨(.type "code"), none, (.fields #[(.str (Str.ofString "StackError") 191), (.str (Str.ofString "StackError") 192), (.str (Str.ofString "/claim/cut.py") 193), (.int 2 0), (.int 0 0), (.int 0 0), (.int 0 0), (.int 0 0), (.ref 18), (.bool false), (.int 181 0), (.ref 19), .none, .none, .none, .none, (.int 194 0), (.int 2 0), (.str (Str.ofString "/claim/cut.py") 195)]), #[]⟩ ::
  ⟨(.type "frame"), none, .plain, #[(some (.ref 20)), (some (.ref 3)), (some (.ref 17)), none, (some (.str (Str.ofString "thinstack.errors") 187)), none, (some (.ref 0))]⟩ ::
  ob 22 P ::
  ⟨.none, none, (.fields #[]), #[]⟩ ::
  ob 24 P ::
  ob 25 P ::
  ⟨.none, none, (.func ⟨(Str.ofString "__init__"), (Str.ofString "StackError.__init__"), a1_0, (.stmts b1_0), s1_0, 0, [], .none, .none, .none, .none, none, .none, .none, 0⟩), #[]⟩ ::
  ob 27 P ::
  ob 28 P ::
  ob 29 P ::
  ob 30 P ::
  ob 31 P ::
  ob 32 P ::
  ⟨(.type "super"), none, (.fields #[(.ref 31), (.ref 31), (.ref 31)]), #[]⟩ ::
  ⟨(.type "builtin_function_or_method"), none, (.fields #[(.builtin "object.__init_subclass__"), (.ref 31)]), #[]⟩ ::
  ob 35 P ::
  ⟨(.type "builtin_function_or_method"), none, (.fields #[(.builtin "type.__prepare__"), (.type "type")]), #[]⟩ ::
  ⟨(.type "dict"), none, (.dict #[⟨(PyData.keyHash P (Str.ofString "__module__")), (.str (Str.ofString "__module__") 225), (.str (Str.ofString "thinstack.errors") 187)⟩, ⟨(PyData.keyHash P (Str.ofString "__qualname__")), (.str (Str.ofString "__qualname__") 227), (.str (Str.ofString "FormError") 226)⟩, ⟨(PyData.keyHash P (Str.ofString "__firstlineno__")), (.str (Str.ofString "__firstlineno__") 229), (.int 6 228)⟩, ⟨(PyData.keyHash P (Str.ofString "__static_attributes__")), (.str (Str.ofString "__static_attributes__") 230), (.ref 42)⟩] 4), #[]⟩ ::
  ⟨(.type "tuple"), none, (.seq #[] 0), #[]⟩ ::
  ⟨.none, none, (.fields #[]), #[]⟩ ::
  ⟨(.type "code"), none, (.fields #[(.str (Str.ofString "FormError") 220), (.str (Str.ofString "FormError") 221), (.str (Str.ofString "/claim/cut.py") 222), (.int 6 0), (.int 0 0), (.int 0 0), (.int 0 0), (.int 0 0), (.ref 38), (.bool false), (.int 181 0), (.ref 39), .none, .none, .none, .none, (.int 223 0), (.int 6 0), (.str (Str.ofString "/claim/cut.py") 224)]), #[]⟩ ::
  ⟨(.type "frame"), none, .plain, #[(some (.ref 40)), (some (.ref 3)), (some (.ref 37)), none, (some (.str (Str.ofString "thinstack.errors") 187)), none, (some (.ref 0))]⟩ ::
  ob 42 P ::
  ob 43 P ::
  ob 44 P ::
  ⟨(.type "super"), none, (.fields #[(.ref 44), (.ref 44), (.ref 44)]), #[]⟩ ::
  ⟨(.type "builtin_function_or_method"), none, (.fields #[(.builtin "object.__init_subclass__"), (.ref 44)]), #[]⟩ ::
  ob 47 P ::
  ⟨(.type "builtin_function_or_method"), none, (.fields #[(.builtin "type.__prepare__"), (.type "type")]), #[]⟩ ::
  ⟨(.type "dict"), none, (.dict #[⟨(PyData.keyHash P (Str.ofString "__module__")), (.str (Str.ofString "__module__") 241), (.str (Str.ofString "thinstack.errors") 187)⟩, ⟨(PyData.keyHash P (Str.ofString "__qualname__")), (.str (Str.ofString "__qualname__") 243), (.str (Str.ofString "SizeError") 242)⟩, ⟨(PyData.keyHash P (Str.ofString "__firstlineno__")), (.str (Str.ofString "__firstlineno__") 245), (.int 8 244)⟩, ⟨(PyData.keyHash P (Str.ofString "__static_attributes__")), (.str (Str.ofString "__static_attributes__") 246), (.ref 54)⟩] 4), #[]⟩ ::
  ⟨(.type "tuple"), none, (.seq #[] 0), #[]⟩ ::
  ⟨.none, none, (.fields #[]), #[]⟩ ::
  ⟨(.type "code"), none, (.fields #[(.str (Str.ofString "SizeError") 236), (.str (Str.ofString "SizeError") 237), (.str (Str.ofString "/claim/cut.py") 238), (.int 8 0), (.int 0 0), (.int 0 0), (.int 0 0), (.int 0 0), (.ref 50), (.bool false), (.int 181 0), (.ref 51), .none, .none, .none, .none, (.int 239 0), (.int 8 0), (.str (Str.ofString "/claim/cut.py") 240)]), #[]⟩ ::
  ⟨(.type "frame"), none, .plain, #[(some (.ref 52)), (some (.ref 3)), (some (.ref 49)), none, (some (.str (Str.ofString "thinstack.errors") 187)), none, (some (.ref 0))]⟩ ::
  ob 54 P ::
  ob 55 P ::
  ob 56 P ::
  ⟨(.type "super"), none, (.fields #[(.ref 56), (.ref 56), (.ref 56)]), #[]⟩ ::
  ⟨(.type "builtin_function_or_method"), none, (.fields #[(.builtin "object.__init_subclass__"), (.ref 56)]), #[]⟩ ::
  ob 59 P ::
  ⟨(.type "builtin_function_or_method"), none, (.fields #[(.builtin "type.__prepare__"), (.type "type")]), #[]⟩ ::
  ⟨(.type "dict"), none, (.dict #[⟨(PyData.keyHash P (Str.ofString "__module__")), (.str (Str.ofString "__module__") 257), (.str (Str.ofString "thinstack.errors") 187)⟩, ⟨(PyData.keyHash P (Str.ofString "__qualname__")), (.str (Str.ofString "__qualname__") 259), (.str (Str.ofString "PortError") 258)⟩, ⟨(PyData.keyHash P (Str.ofString "__firstlineno__")), (.str (Str.ofString "__firstlineno__") 261), (.int 10 260)⟩, ⟨(PyData.keyHash P (Str.ofString "__static_attributes__")), (.str (Str.ofString "__static_attributes__") 262), (.ref 66)⟩] 4), #[]⟩ ::
  ⟨(.type "tuple"), none, (.seq #[] 0), #[]⟩ ::
  ⟨.none, none, (.fields #[]), #[]⟩ ::
  ⟨(.type "code"), none, (.fields #[(.str (Str.ofString "PortError") 252), (.str (Str.ofString "PortError") 253), (.str (Str.ofString "/claim/cut.py") 254), (.int 10 0), (.int 0 0), (.int 0 0), (.int 0 0), (.int 0 0), (.ref 62), (.bool false), (.int 181 0), (.ref 63), .none, .none, .none, .none, (.int 255 0), (.int 10 0), (.str (Str.ofString "/claim/cut.py") 256)]), #[]⟩ ::
  ⟨(.type "frame"), none, .plain, #[(some (.ref 64)), (some (.ref 3)), (some (.ref 61)), none, (some (.str (Str.ofString "thinstack.errors") 187)), none, (some (.ref 0))]⟩ ::
  ob 66 P ::
  ob 67 P ::
  ob 68 P ::
  ⟨(.type "super"), none, (.fields #[(.ref 68), (.ref 68), (.ref 68)]), #[]⟩ ::
  ⟨(.type "builtin_function_or_method"), none, (.fields #[(.builtin "object.__init_subclass__"), (.ref 68)]), #[]⟩ ::
  ob 71 P ::
  ⟨(.type "builtin_function_or_method"), none, (.fields #[(.builtin "type.__prepare__"), (.type "type")]), #[]⟩ ::
  ⟨(.type "dict"), none, (.dict #[⟨(PyData.keyHash P (Str.ofString "__module__")), (.str (Str.ofString "__module__") 273), (.str (Str.ofString "thinstack.errors") 187)⟩, ⟨(PyData.keyHash P (Str.ofString "__qualname__")), (.str (Str.ofString "__qualname__") 275), (.str (Str.ofString "StateError") 274)⟩, ⟨(PyData.keyHash P (Str.ofString "__firstlineno__")), (.str (Str.ofString "__firstlineno__") 277), (.int 12 276)⟩, ⟨(PyData.keyHash P (Str.ofString "__static_attributes__")), (.str (Str.ofString "__static_attributes__") 278), (.ref 78)⟩] 4), #[]⟩ ::
  ⟨(.type "tuple"), none, (.seq #[] 0), #[]⟩ ::
  ⟨.none, none, (.fields #[]), #[]⟩ ::
  ⟨(.type "code"), none, (.fields #[(.str (Str.ofString "StateError") 268), (.str (Str.ofString "StateError") 269), (.str (Str.ofString "/claim/cut.py") 270), (.int 12 0), (.int 0 0), (.int 0 0), (.int 0 0), (.int 0 0), (.ref 74), (.bool false), (.int 181 0), (.ref 75), .none, .none, .none, .none, (.int 271 0), (.int 12 0), (.str (Str.ofString "/claim/cut.py") 272)]), #[]⟩ ::
  ⟨(.type "frame"), none, .plain, #[(some (.ref 76)), (some (.ref 3)), (some (.ref 73)), none, (some (.str (Str.ofString "thinstack.errors") 187)), none, (some (.ref 0))]⟩ ::
  ob 78 P ::
  ob 79 P ::
  ob 80 P ::
  ⟨(.type "super"), none, (.fields #[(.ref 80), (.ref 80), (.ref 80)]), #[]⟩ ::
  ⟨(.type "builtin_function_or_method"), none, (.fields #[(.builtin "object.__init_subclass__"), (.ref 80)]), #[]⟩ ::
  ⟨(.type "tuple"), none, (.seq #[] 0), #[]⟩ ::
  ⟨(.type "builtin_function_or_method"), none, (.fields #[(.builtin "type.__prepare__"), (.type "type")]), #[]⟩ ::
  ⟨(.type "dict"), none, (.dict #[⟨(PyData.keyHash P (Str.ofString "__module__")), (.str (Str.ofString "__module__") 293), (.str (Str.ofString "thinstack.ports") 282)⟩, ⟨(PyData.keyHash P (Str.ofString "__qualname__")), (.str (Str.ofString "__qualname__") 295), (.str (Str.ofString "Ports") 294)⟩, ⟨(PyData.keyHash P (Str.ofString "__firstlineno__")), (.str (Str.ofString "__firstlineno__") 297), (.int 16 296)⟩, ⟨(PyData.keyHash P (Str.ofString "__init__")), (.str (Str.ofString "__init__") 306), (.ref 96)⟩, ⟨(PyData.keyHash P (Str.ofString "is_taken")), (.str (Str.ofString "is_taken") 314), (.ref 103)⟩, ⟨(PyData.keyHash P (Str.ofString "take")), (.str (Str.ofString "take") 323), (.ref 111)⟩, ⟨(PyData.keyHash P (Str.ofString "next_free")), (.str (Str.ofString "next_free") 332), (.ref 118)⟩, ⟨(PyData.keyHash P (Str.ofString "behind")), (.str (Str.ofString "behind") 340), (.ref 125)⟩, ⟨(PyData.keyHash P (Str.ofString "free")), (.str (Str.ofString "free") 348), (.ref 132)⟩, ⟨(PyData.keyHash P (Str.ofString "__static_attributes__")), (.str (Str.ofString "__static_attributes__") 353), (.ref 133)⟩] 10), #[]⟩ ::
  ⟨(.type "tuple"), none, (.seq #[] 0), #[]⟩ ::
  ⟨.none, none, (.fields #[(.int 18 0), (.int 4 0), (.ref 95), (.int 26 0), (.int 4 0), (.ref 102), (.int 29 0), (.int 4 0), (.ref 110), (.int 39 0), (.int 4 0), (.ref 117), (.int 48 0), (.int 4 0), (.ref 124), (.int 51 0), (.int 4 0), (.ref 131)]), #[]⟩ ::
  ⟨(.type "code"), none, (.fields #[(.str (Str.ofString "Ports") 288), (.str (Str.ofString "Ports") 289), (.str (Str.ofString "/claim/cut.py") 290), (.int 16 0), (.int 0 0), (.int 0 0), (.int 0 0), (.int 0 0), (.ref 86), (.bool false), (.int 181 0), (.ref 87), .none, .none, .none, .none, (.int 291 0), (.int 16 0), (.str (Str.ofString "/claim/cut.py") 292)]), #[]⟩ ::
  ⟨(.type "frame"), none, .plain, #[(some (.ref 88)), (some (.ref 3)), (some (.ref 85)), none, (some (.str (Str.ofString "thinstack.ports") 282)), none, (some (.ref 0))]⟩ ::
  ob 90 P ::
  ⟨.none, none, (.fields #[]), #[]⟩ ::
  ob 92 P ::
  ob 93 P ::
  ⟨.none, none, (.func ⟨(Str.ofString "__init__"), (Str.ofString "Ports.__init__"), a8_0, (.stmts b8_0), s8_0, 0, [], .none, .none, .none, .none, none, .none, .none, 0⟩), #[]⟩ ::
  ob 95 P ::
  ob 96 P ::
  ob 97 P ::
  ⟨.none, none, (.fields #[]), #[]⟩ ::
  ob 99 P ::
  ob 100 P ::
  ⟨.none, none, (.func ⟨(Str.ofString "is_taken"), (Str.ofString "Ports.is_taken"), a8_1, (.stmts b8_1), s8_1, 0, [], .none, .none, .none, .none, none, .none, .none, 0⟩), #[]⟩ ::
  ob 102 P ::
  ob 103 P ::
  ob 104 P ::
  ob 105 P ::
  ⟨.none, none, (.fields #[]), #[]⟩ ::
  ob 107 P ::
  ob 108 P ::
  ⟨.none, none, (.func ⟨(Str.ofString "take"), (Str.ofString "Ports.take"), a8_2, (.stmts b8_2), s8_2, 0, [], .none, .none, .none, .none, none, .none, .none, 0⟩), #[]⟩ ::
  ob 110 P ::
  ob 111 P ::
  ob 112 P ::
  ⟨.none, none, (.fields #[]), #[]⟩ ::
  ob 114 P ::
  ob 115 P ::
  ⟨.none, none, (.func ⟨(Str.ofString "next_free"), (Str.ofString "Ports.next_free"), a8_3, (.stmts b8_3), s8_3, 0, [], .none, .none, .none, .none, none, .none, .none, 0⟩), #[]⟩ ::
  ob 117 P ::
  ob 118 P ::
  ob 119 P ::
  ⟨.none, none, (.fields #[]), #[]⟩ ::
  ob 121 P ::
  ob 122 P ::
  ⟨.none, none, (.func ⟨(Str.ofString "behind"), (Str.ofString "Ports.behind"), a8_4, (.stmts b8_4), s8_4, 0, [], .none, .none, .none, .none, none, .none, .none, 0⟩), #[]⟩ ::
  ob 124 P ::
  ob 125 P ::
  ob 126 P ::
  ⟨.none, none, (.fields #[]), #[]⟩ ::
  ob 128 P ::
  ob 129 P ::
  ⟨.none, none, (.func ⟨(Str.ofString "free"), (Str.ofString "Ports.free"), a8_5, (.stmts b8_5), s8_5, 0, [], .none, .none, .none, .none, none, .none, .none, 0⟩), #[]⟩ ::
  ob 131 P ::
  ob 132 P ::
  ob 133 P ::
  ob 134 P ::
  ob 135 P ::
  ob 136 P ::
  ob 137 P ::
  ⟨(.type "super"), none, (.fields #[(.ref 135), (.ref 135), (.ref 135)]), #[]⟩ ::
  ⟨(.type "builtin_function_or_method"), none, (.fields #[(.builtin "object.__init_subclass__"), (.ref 135)]), #[]⟩ ::
  ob 140 P ::
  ⟨.none, none, (.fields #[]), #[]⟩ ::
  ob 142 P ::
  ob 143 P ::
  ⟨.none, none, (.func ⟨(Str.ofString "put16"), (Str.ofString "put16"), a10, (.stmts b10), s10, 0, [], .none, .none, .none, .none, none, .none, .none, 0⟩), #[]⟩ ::
  ob 145 P ::
  ob 146 P ::
  ob 147 P ::
  ⟨.none, none, (.fields #[]), #[]⟩ ::
  ob 149 P ::
  ob 150 P ::
  ⟨.none, none, (.func ⟨(Str.ofString "need"), (Str.ofString "need"), a11, (.stmts b11), s11, 0, [], .none, .none, .none, .none, none, .none, .none, 0⟩), #[]⟩ ::
  ob 152 P ::
  ob 153 P ::
  ob 154 P ::
  ⟨.none, none, (.fields #[]), #[]⟩ ::
  ob 156 P ::
  ob 157 P ::
  ⟨.none, none, (.func ⟨(Str.ofString "get16"), (Str.ofString "get16"), a12, (.stmts b12), s12, 0, [], .none, .none, .none, .none, none, .none, .none, 0⟩), #[]⟩ ::
  ob 159 P ::
  ob 160 P ::
  ob 161 P ::
  ⟨.none, none, (.fields #[]), #[]⟩ ::
  ob 163 P ::
  ob 164 P ::
  ⟨.none, none, (.func ⟨(Str.ofString "fold"), (Str.ofString "fold"), a15, (.stmts b15), s15, 0, [], .none, .none, .none, .none, none, .none, .none, 0⟩), #[]⟩ ::
  ob 166 P ::
  ob 167 P ::
  ob 168 P ::
  ob 169 P ::
  ⟨.none, none, (.fields #[]), #[]⟩ ::
  ob 171 P ::
  ob 172 P ::
  ⟨.none, none, (.func ⟨(Str.ofString "ones_sum"), (Str.ofString "ones_sum"), a16, (.stmts b16), s16, 0, [], .none, .none, .none, .none, none, .none, .none, 0⟩), #[]⟩ ::
  ob 174 P ::
  ob 175 P :: []), ⟨[], [], [], 0, [], [], false, #[], [], 0, false, false, false, 0, [2000, 10, 10], false, 0, true, [], [], 0, false⟩⟩
noncomputable def heap34 : Params → Heap := fun P => ⟨Array.mk (
  boot_o_0 P ::
  boot_o_1 P ::
  ob 2 P ::
  ⟨(.type "dict"), none, (.dict #[⟨(PyData.keyHash P (Str.ofString "__name__")), (.str (Str.ofString "__name__") 165), (.str (Str.ofString "thinstack.udp_sockets") 656)⟩, ⟨(PyData.keyHash P (Str.ofString "__doc__")), (.str (Str.ofString "__doc__") 166), .none⟩, ⟨(PyData.keyHash P (Str.ofString "__package__")), (.str (Str.ofString "__package__") 167), .none⟩, ⟨(PyData.keyHash P (Str.ofString "__loader__")), (.str (Str.ofString "__loader__") 168), (.builtin "__main__.__loader__#opaque")⟩, ⟨(PyData.keyHash P (Str.ofString "__spec__")), (.str (Str.ofString "__spec__") 169), .none⟩, ⟨(PyData.keyHash P (Str.ofString "__annotations__")), (.str (Str.ofString "__annotations__") 170), (.ref 6)⟩, ⟨(PyData.keyHash P (Str.ofString "__builtins__")), (.str (Str.ofString "__builtins__") 171), (.ref 4)⟩, ⟨(PyData.keyHash P (Str.ofString "__file__")), (.str (Str.ofString "__file__") 173), (.str (Str.ofString "/claim/cut.py") 172)⟩, ⟨(PyData.keyHash P (Str.ofString "__cached__")), (.str (Str.ofString "__cached__") 174), .none⟩, ⟨(PyData.keyHash P (Str.ofString "StackError")), (.str (Str.ofString "StackError") 217), (.ref 31)⟩, ⟨(PyData.keyHash P (Str.ofString "FormError")), (.str (Str.ofString "FormError") 233), (.ref 44)⟩, ⟨(PyData.keyHash P (Str.ofString "SizeError")), (.str (Str.ofString "SizeError") 249), (.ref 56)⟩, ⟨(PyData.keyHash P (Str.ofString "PortError")), (.str (Str.ofString "PortError") 265), (.ref 68)⟩, ⟨(PyData.keyHash P (Str.ofString "StateError")), (.str (Str.ofString "StateError") 281), (.ref 80)⟩, ⟨(PyData.keyHash P (Str.ofString "MOST_PORT")), (.str (Str.ofString "MOST_PORT") 285), (.int 65535 284)⟩, ⟨(PyData.keyHash P (Str.ofString "Ports")), (.str (Str.ofString "Ports") 360), (.ref 135)⟩, ⟨(PyData.keyHash P (Str.ofString "put16")), (.str (Str.ofString "put16") 369), (.ref 146)⟩, ⟨(PyData.keyHash P (Str.ofString "need")), (.str (Str.ofString "need") 378), (.ref 153)⟩, ⟨(PyData.keyHash P (Str.ofString "get16")), (.str (Str.ofString "get16") 386), (.ref 160)⟩, ⟨(PyData.keyHash P (Str.ofString "ALL_ONES_sums")), (.str (Str.ofString "ALL_ONES_sums") 390), (.int 65535 389)⟩, ⟨(PyData.keyHash P (Str.ofString "fold")), (.str (Str.ofString "fold") 397), (.ref 167)⟩, ⟨(PyData.keyHash P (Str.ofString "ones_sum")), (.str (Str.ofString "ones_sum") 409), (.ref 175)⟩, ⟨(PyData.keyHash P (Str.ofString "checksum")), (.str (Str.ofString "checksum") 418), (.ref 183)⟩, ⟨(PyData.keyHash P (Str.ofString "pseudo_sum")), (.str (Str.ofString "pseudo_sum") 429), (.ref 190)⟩, ⟨(PyData.keyHash P (Str.ofString "UDP")), (.str (Str.ofString "UDP") 433), (.int 17 432)⟩, ⟨(PyData.keyHash P (Str.ofString "HEAD_SIZE")), (.str (Str.ofString "HEAD_SIZE") 435), (.int 8 434)⟩, ⟨(PyData.keyHash P (Str.ofString "MOST_SIZE")), (.str (Str.ofString "MOST_SIZE") 437), (.int 65535 436)⟩, ⟨(PyData.keyHash P (Str.ofString "ALL_ONES_udp")), (.str (Str.ofString "ALL_ONES_udp") 439), (.int 65535 438)⟩, ⟨(PyData.keyHash P (Str.ofString "UdpHeader")), (.str (Str.ofString "UdpHeader") 470), (.ref 207)⟩, ⟨(PyData.keyHash P (Str.ofString "pack_udp")), (.str (Str.ofString "pack_udp") 485), (.ref 219)⟩, ⟨(PyData.keyHash P (Str.ofString "unpack_udp")), (.str (Str.ofString "unpack_udp") 496), (.ref 226)⟩, ⟨(PyData.keyHash P (Str.ofString "read_header")), (.str (Str.ofString "read_header") 503), (.ref 233)⟩, ⟨(PyData.keyHash P (Str.ofString "ANY")), (.str (Str.ofString "ANY") 507), (.int 0 506)⟩, ⟨(PyData.keyHash P (Str.ofString "UdpRow")), (.str (Str.ofString "UdpRow") 561), (.ref 264)⟩, ⟨(PyData.keyHash P (Str.ofString "UdpTable")), (.str (Str.ofString "UdpTable") 655), (.ref 327)⟩, ⟨(PyData.keyHash P (Str.ofString "MOST_WAITING")), (.str (Str.ofString "MOST_WAITING") 659), (.int 16 658)⟩] 36), #[]⟩ ::
  boot_o_4 P ::
  boot_o_5 P ::
  boot_o_6 P ::
  boot_o_7 P ::
  boot_o_8 P ::
  boot_o_9 P ::
  boot_o_10 P ::
  ⟨(.type "tuple"), none, (.seq #[] 0), #[]⟩ ::
  ⟨.none, none, (.fields #[(.int 2 0), (.int 0 0), (.ref 20), (.int 6 0), (.int 0 0), (.ref 40), (.int 8 0), (.int 0 0), (.ref 52), (.int 10 0), (.int 0 0), (.ref 64), (.int 12 0), (.int 0 0), (.ref 76), (.int 16 0), (.int 0 0), (.ref 88), (.int 56 0), (.int 0 0), (.ref 145), (.int 58 0), (.int 0 0), (.ref 152), (.int 61 0), (.int 0 0), (.ref 159), (.int 66 0), (.int 0 0), (.ref 166), (.int 70 0), (.int 0 0), (.ref 174), (.int 78 0), (.int 0 0), (.ref 182), (.int 80 0), (.int 0 0), (.ref 189), (.int 89 0), (.int 0 0), (.ref 196), (.int 94 0), (.int 0 0), (.ref 218), (.int 105 0), (.int 0 0), (.ref 225), (.int 115 0), (.int 0 0), (.ref 232), (.int 121 0), (.int 0 0), (.ref 239), (.int 139 0), (.int 0 0), (.ref 274)]), #[]⟩ ::
  ⟨(.type "code"), none, (.fields #[(.str (Str.ofString "<module>") 182), (.str (Str.ofString "<module>") 183), (.str (Str.ofString "/claim/cut.py") 184), (.int 1 0), (.int 0 0), (.int 0 0), (.int 0 0), (.int 0 0), (.ref 11), (.bool false), (.int 181 0), (.ref 12), .none, .none, .none, .none, (.int 185 0), (.int 1 0), (.str (Str.ofString "/claim/cut.py") 186)]), #[]⟩ ::
  ⟨(.type "frame"), none, .plain, #[(some (.ref 13)), (some (.ref 3)), (some (.ref 3)), none, (some (.str (Str.ofString "__main__") 164)), none, (some (.ref 0))]⟩ ::
  ob 15 P ::
  ⟨(.type "builtin_function_or_method"), none, (.fields #[(.builtin "type.__prepare__"), (.type "type")]), #[]⟩ ::
  ⟨(.type "dict"), none, (.dict #[⟨(PyData.keyHash P (Str.ofString "__module__")), (.str (Str.ofString "__module__") 196), (.str (Str.ofString "thinstack.errors") 187)⟩, ⟨(PyData.keyHash P (Str.ofString "__qualname__")), (.str (Str.ofString "__qualname__") 198), (.str (Str.ofString "StackError") 197)⟩, ⟨(PyData.keyHash P (Str.ofString "__firstlineno__")), (.str (Str.ofString "__firstlineno__") 200), (.int 2 199)⟩, ⟨(PyData.keyHash P (Str.ofString "__init__")), (.str (Str.ofString "__init__") 208), (.ref 28)⟩, ⟨(PyData.keyHash P (Str.ofString "__static_attributes__")), (.str (Str.ofString "__static_attributes__") 210), (.ref 29)⟩] 5), #[]⟩ ::
  ⟨(.type "tuple"), none, (.seq #[] 0), #[]⟩ ::
  ⟨.none, none, (.fields #[(.int 4 0), (.int 4 0), (.ref 27)]), #[]⟩ ::
  ⟨(.type "code"), none, (.fields #[(.str (Str.ofString "StackError") 191), (.str (Str.ofString "StackError") 192), (.str (Str.ofString "/claim/cut.py") 193), (.int 2 0), (.int 0 0), (.int 0 0), (.int 0 0), (.int 0 0), (.ref 18), (.bool false), (.int 181 0), (.ref 19), .none, .none, .none, .none, (.int 194 0), (.int 2 0), (.str (Str.ofString "/claim/cut.py") 195)]), #[]⟩ ::
  ⟨(.type "frame"), none, .plain, #[(some (.ref 20)), (some (.ref 3)), (some (.ref 17)), none, (some (.str (Str.ofString "thinstack.errors") 187)), none, (some (.ref 0))]⟩ ::
  ob 22 P ::
  ⟨.none, none, (.fields #[]), #[]⟩ ::
  ob 24 P ::
  ob 25 P ::
  ⟨.none, none, (.func ⟨(Str.ofString "__init__"), (Str.ofString "StackError.__init__"), a1_0, (.stmts b1_0), s1_0, 0, [], .none, .none, .none, .none, none, .none, .none, 0⟩), #[]⟩ ::
  ob 27 P ::
  ob 28 P ::
  ob 29 P ::
  ob 30 P ::
  ob 31 P ::
  ob 32 P ::
  ⟨(.type "super"), none, (.fields #[(.ref 31), (.ref 31), (.ref 31)]), #[]⟩ ::
  ⟨(.type "builtin_function_or_method"), none, (.fields #[(.builtin "object.__init_subclass__"), (.ref 31)]), #[]⟩ ::
  ob 35 P ::
  ⟨(.type "builtin_function_or_method"), none, (.fields #[(.builtin "type.__prepare__"), (.type "type")]), #[]⟩ ::
  ⟨(.type "dict"), none, (.dict #[⟨(PyData.keyHash P (Str.ofString "__module__")), (.str (Str.ofString "__module__") 225), (.str (Str.ofString "thinstack.errors") 187)⟩, ⟨(PyData.keyHash P (Str.ofString "__qualname__")), (.str (Str.ofString "__qualname__") 227), (.str (Str.ofString "FormError") 226)⟩, ⟨(PyData.keyHash P (Str.ofString "__firstlineno__")), (.str (Str.ofString "__firstlineno__") 229), (.int 6 228)⟩, ⟨(PyData.keyHash P (Str.ofString "__static_attributes__")), (.str (Str.ofString "__static_attributes__") 230), (.ref 42)⟩] 4), #[]⟩ ::
  ⟨(.type "tuple"), none, (.seq #[] 0), #[]⟩ ::
  ⟨.none, none, (.fields #[]), #[]⟩ ::
  ⟨(.type "code"), none, (.fields #[(.str (Str.ofString "FormError") 220), (.str (Str.ofString "FormError") 221), (.str (Str.ofString "/claim/cut.py") 222), (.int 6 0), (.int 0 0), (.int 0 0), (.int 0 0), (.int 0 0), (.ref 38), (.bool false), (.int 181 0), (.ref 39), .none, .none, .none, .none, (.int 223 0), (.int 6 0), (.str (Str.ofString "/claim/cut.py") 224)]), #[]⟩ ::
  ⟨(.type "frame"), none, .plain, #[(some (.ref 40)), (some (.ref 3)), (some (.ref 37)), none, (some (.str (Str.ofString "thinstack.errors") 187)), none, (some (.ref 0))]⟩ ::
  ob 42 P ::
  ob 43 P ::
  ob 44 P ::
  ⟨(.type "super"), none, (.fields #[(.ref 44), (.ref 44), (.ref 44)]), #[]⟩ ::
  ⟨(.type "builtin_function_or_method"), none, (.fields #[(.builtin "object.__init_subclass__"), (.ref 44)]), #[]⟩ ::
  ob 47 P ::
  ⟨(.type "builtin_function_or_method"), none, (.fields #[(.builtin "type.__prepare__"), (.type "type")]), #[]⟩ ::
  ⟨(.type "dict"), none, (.dict #[⟨(PyData.keyHash P (Str.ofString "__module__")), (.str (Str.ofString "__module__") 241), (.str (Str.ofString "thinstack.errors") 187)⟩, ⟨(PyData.keyHash P (Str.ofString "__qualname__")), (.str (Str.ofString "__qualname__") 243), (.str (Str.ofString "SizeError") 242)⟩, ⟨(PyData.keyHash P (Str.ofString "__firstlineno__")), (.str (Str.ofString "__firstlineno__") 245), (.int 8 244)⟩, ⟨(PyData.keyHash P (Str.ofString "__static_attributes__")), (.str (Str.ofString "__static_attributes__") 246), (.ref 54)⟩] 4), #[]⟩ ::
  ⟨(.type "tuple"), none, (.seq #[] 0), #[]⟩ ::
  ⟨.none, none, (.fields #[]), #[]⟩ ::
  ⟨(.type "code"), none, (.fields #[(.str (Str.ofString "SizeError") 236), (.str (Str.ofString "SizeError") 237), (.str (Str.ofString "/claim/cut.py") 238), (.int 8 0), (.int 0 0), (.int 0 0), (.int 0 0), (.int 0 0), (.ref 50), (.bool false), (.int 181 0), (.ref 51), .none, .none, .none, .none, (.int 239 0), (.int 8 0), (.str (Str.ofString "/claim/cut.py") 240)]), #[]⟩ ::
  ⟨(.type "frame"), none, .plain, #[(some (.ref 52)), (some (.ref 3)), (some (.ref 49)), none, (some (.str (Str.ofString "thinstack.errors") 187)), none, (some (.ref 0))]⟩ ::
  ob 54 P ::
  ob 55 P ::
  ob 56 P ::
  ⟨(.type "super"), none, (.fields #[(.ref 56), (.ref 56), (.ref 56)]), #[]⟩ ::
  ⟨(.type "builtin_function_or_method"), none, (.fields #[(.builtin "object.__init_subclass__"), (.ref 56)]), #[]⟩ ::
  ob 59 P ::
  ⟨(.type "builtin_function_or_method"), none, (.fields #[(.builtin "type.__prepare__"), (.type "type")]), #[]⟩ ::
  ⟨(.type "dict"), none, (.dict #[⟨(PyData.keyHash P (Str.ofString "__module__")), (.str (Str.ofString "__module__") 257), (.str (Str.ofString "thinstack.errors") 187)⟩, ⟨(PyData.keyHash P (Str.ofString "__qualname__")), (.str (Str.ofString "__qualname__") 259), (.str (Str.ofString "PortError") 258)⟩, ⟨(PyData.keyHash P (Str.ofString "__firstlineno__")), (.str (Str.ofString "__firstlineno__") 261), (.int 10 260)⟩, ⟨(PyData.keyHash P (Str.ofString "__static_attributes__")), (.str (Str.ofString "__static_attributes__") 262), (.ref 66)⟩] 4), #[]⟩ ::
  ⟨(.type "tuple"), none, (.seq #[] 0), #[]⟩ ::
  ⟨.none, none, (.fields #[]), #[]⟩ ::
  ⟨(.type "code"), none, (.fields #[(.str (Str.ofString "PortError") 252), (.str (Str.ofString "PortError") 253), (.str (Str.ofString "/claim/cut.py") 254), (.int 10 0), (.int 0 0), (.int 0 0), (.int 0 0), (.int 0 0), (.ref 62), (.bool false), (.int 181 0), (.ref 63), .none, .none, .none, .none, (.int 255 0), (.int 10 0), (.str (Str.ofString "/claim/cut.py") 256)]), #[]⟩ ::
  ⟨(.type "frame"), none, .plain, #[(some (.ref 64)), (some (.ref 3)), (some (.ref 61)), none, (some (.str (Str.ofString "thinstack.errors") 187)), none, (some (.ref 0))]⟩ ::
  ob 66 P ::
  ob 67 P ::
  ob 68 P ::
  ⟨(.type "super"), none, (.fields #[(.ref 68), (.ref 68), (.ref 68)]), #[]⟩ ::
  ⟨(.type "builtin_function_or_method"), none, (.fields #[(.builtin "object.__init_subclass__"), (.ref 68)]), #[]⟩ ::
  ob 71 P ::
  ⟨(.type "builtin_function_or_method"), none, (.fields #[(.builtin "type.__prepare__"), (.type "type")]), #[]⟩ ::
  ⟨(.type "dict"), none, (.dict #[⟨(PyData.keyHash P (Str.ofString "__module__")), (.str (Str.ofString "__module__") 273), (.str (Str.ofString "thinstack.errors") 187)⟩, ⟨(PyData.keyHash P (Str.ofString "__qualname__")), (.str (Str.ofString "__qualname__") 275), (.str (Str.ofString "StateError") 274)⟩, ⟨(PyData.keyHash P (Str.ofString "__firstlineno__")), (.str (Str.ofString "__firstlineno__") 277), (.int 12 276)⟩, ⟨(PyData.keyHash P (Str.ofString "__static_attributes__")), (.str (Str.ofString "__static_attributes__") 278), (.ref 78)⟩] 4), #[]⟩ ::
  ⟨(.type "tuple"), none, (.seq #[] 0), #[]⟩ ::
  ⟨.none, none, (.fields #[]), #[]⟩ ::
  ⟨(.type "code"), none, (.fields #[(.str (Str.ofString "StateError") 268), (.str (Str.ofString "StateError") 269), (.str (Str.ofString "/claim/cut.py") 270), (.int 12 0), (.int 0 0), (.int 0 0), (.int 0 0), (.int 0 0), (.ref 74), (.bool false), (.int 181 0), (.ref 75), .none, .none, .none, .none, (.int 271 0), (.int 12 0), (.str (Str.ofString "/claim/cut.py") 272)]), #[]⟩ ::
  ⟨(.type "frame"), none, .plain, #[(some (.ref 76)), (some (.ref 3)), (some (.ref 73)), none, (some (.str (Str.ofString "thinstack.errors") 187)), none, (some (.ref 0))]⟩ ::
  ob 78 P ::
  ob 79 P ::
  ob 80 P ::
  ⟨(.type "super"), none, (.fields #[(.ref 80), (.ref 80), (.ref 80)]), #[]⟩ ::
  ⟨(.type "builtin_function_or_method"), none, (.fields #[(.builtin "object.__init_subclass__"), (.ref 80)]), #[]⟩ ::
  ⟨(.type "tuple"), none, (.seq #[] 0), #[]⟩ ::
  ⟨(.type "builtin_function_or_method"), none, (.fields #[(.builtin "type.__prepare__"), (.type "type")]), #[]⟩ ::
  ⟨(.type "dict"), none, (.dict #[⟨(PyData.keyHash P (Str.ofString "__module__")), (.str (Str.ofString "__module__") 293), (.str (Str.ofString "thinstack.ports") 282)⟩, ⟨(PyData.keyHash P (Str.ofString "__qualname__")), (.str (Str.ofString "__qualname__") 295), (.str (Str.ofString "Ports") 294)⟩, ⟨(PyData.keyHash P (Str.ofString "__firstlineno__")), (.str (Str.ofString "__firstlineno__") 297), (.int 16 296)⟩, ⟨(PyData.keyHash P (Str.ofString "__init__")), (.str (Str.ofString "__init__") 306), (.ref 96)⟩, ⟨(PyData.keyHash P (Str.ofString "is_taken")), (.str (Str.ofString "is_taken") 314), (.ref 103)⟩, ⟨(PyData.keyHash P (Str.ofString "take")), (.str (Str.ofString "take") 323), (.ref 111)⟩, ⟨(PyData.keyHash P (Str.ofString "next_free")), (.str (Str.ofString "next_free") 332), (.ref 118)⟩, ⟨(PyData.keyHash P (Str.ofString "behind")), (.str (Str.ofString "behind") 340), (.ref 125)⟩, ⟨(PyData.keyHash P (Str.ofString "free")), (.str (Str.ofString "free") 348), (.ref 132)⟩, ⟨(PyData.keyHash P (Str.ofString "__static_attributes__")), (.str (Str.ofString "__static_attributes__") 353), (.ref 133)⟩] 10), #[]⟩ ::
  ⟨(.type "tuple"), none, (.seq #[] 0), #[]⟩ ::
  ⟨.none, none, (.fields #[(.int 18 0), (.int 4 0), (.ref 95), (.int 26 0), (.int 4 0), (.ref 102), (.int 29 0), (.int 4 0), (.ref 110), (.int 39 0), (.int 4 0), (.ref 117), (.int 48 0), (.int 4 0), (.ref 124), (.int 51 0), (.int 4 0), (.ref 131)]), #[]⟩ ::
  ⟨(.type "code"), none, (.fields #[(.str (Str.ofString "Ports") 288), (.str (Str.ofString "Ports") 289), (.str (Str.ofString "/claim/cut.py") 290), (.int 16 0), (.int 0 0), (.int 0 0), (.int 0 0), (.int 0 0), (.ref 86), (.bool false), (.int 181 0), (.ref 87), .none, .none, .none, .none, (.int 291 0), (.int 16 0), (.str (Str.ofString "/claim/cut.py") 292)]), #[]⟩ ::
  ⟨(.type "frame"), none, .plain, #[(some (.ref 88)), (some (.ref 3)), (some (.ref 85)), none, (some (.str (Str.ofString "thinstack.ports") 282)), none, (some (.ref 0))]⟩ ::
  ob 90 P ::
  ⟨.none, none, (.fields #[]), #[]⟩ ::
  ob 92 P ::
  ob 93 P ::
  ⟨.none, none, (.func ⟨(Str.ofString "__init__"), (Str.ofString "Ports.__init__"), a8_0, (.stmts b8_0), s8_0, 0, [], .none, .none, .none, .none, none, .none, .none, 0⟩), #[]⟩ ::
  ob 95 P ::
  ob 96 P ::
  ob 97 P ::
  ⟨.none, none, (.fields #[]), #[]⟩ ::
  ob 99 P ::
  ob 100 P ::
  ⟨.none, none, (.func ⟨(Str.ofString "is_taken"), (Str.ofString "Ports.is_taken"), a8_1, (.stmts b8_1), s8_1, 0, [], .none, .none, .none, .none, none, .none, .none, 0⟩), #[]⟩ ::
  ob 102 P ::
  ob 103 P ::
  ob 104 P ::
  ob 105 P ::
  ⟨.none, none, (.fields #[]), #[]⟩ ::
  ob 107 P ::
  ob 108 P ::
  ⟨.none, none, (.func ⟨(Str.ofString "take"), (Str.ofString "Ports.take"), a8_2, (.stmts b8_2), s8_2, 0, [], .none, .none, .none, .none, none, .none, .none, 0⟩), #[]⟩ ::
  ob 110 P ::
  ob 111 P ::
  ob 112 P ::
  ⟨.none, none, (.fields #[]), #[]⟩ ::
  ob 114 P ::
  ob 115 P ::
  ⟨.none, none, (.func ⟨(Str.ofString "next_free"), (Str.ofString "Ports.next_free"), a8_3, (.stmts b8_3), s8_3, 0, [], .none, .none, .none, .none, none, .none, .none, 0⟩), #[]⟩ ::
  ob 117 P ::
  ob 118 P ::
  ob 119 P ::
  ⟨.none, none, (.fields #[]), #[]⟩ ::
  ob 121 P ::
  ob 122 P ::
  ⟨.none, none, (.func ⟨(Str.ofString "behind"), (Str.ofString "Ports.behind"), a8_4, (.stmts b8_4), s8_4, 0, [], .none, .none, .none, .none, none, .none, .none, 0⟩), #[]⟩ ::
  ob 124 P ::
  ob 125 P ::
  ob 126 P ::
  ⟨.none, none, (.fields #[]), #[]⟩ ::
  ob 128 P ::
  ob 129 P ::
  ⟨.none, none, (.func ⟨(Str.ofString "free"), (Str.ofString "Ports.free"), a8_5, (.stmts b8_5), s8_5, 0, [], .none, .none, .none, .none, none, .none, .none, 0⟩), #[]⟩ ::
  ob 131 P ::
  ob 132 P ::
  ob 133 P ::
  ob 134 P ::
  ob 135 P ::
  ob 136 P ::
  ob 137 P ::
  ⟨(.type "super"), none, (.fields #[(.ref 135), (.ref 135), (.ref 135)]), #[]⟩ ::
  ⟨(.type "builtin_function_or_method"), none, (.fields #[(.builtin "object.__init_subclass__"), (.ref 135)]), #[]⟩ ::
  ob 140 P ::
  ⟨.none, none, (.fields #[]), #[]⟩ ::
  ob 142 P ::
  ob 143 P ::
  ⟨.none, none, (.func ⟨(Str.ofString "put16"), (Str.ofString "put16"), a10, (.stmts b10), s10, 0, [], .none, .none, .none, .none, none, .none, .none, 0⟩), #[]⟩ ::
  ob 145 P ::
  ob 146 P ::
  ob 147 P ::
  ⟨.none, none, (.fields #[]), #[]⟩ ::
  ob 149 P ::
  ob 150 P ::
  ⟨.none, none, (.func ⟨(Str.ofString "need"), (Str.ofString "need"), a11, (.stmts b11), s11, 0, [], .none, .none, .none, .none, none, .none, .none, 0⟩), #[]⟩ ::
  ob 152 P ::
  ob 153 P ::
  ob 154 P ::
  ⟨.none, none, (.fields #[]), #[]⟩ ::
  ob 156 P ::
  ob 157 P ::
  ⟨.none, none, (.func ⟨(Str.ofString "get16"), (Str.ofString "get16"), a12, (.stmts b12), s12, 0, [], .none, .none, .none, .none, none, .none, .none, 0⟩), #[]⟩ ::
  ob 159 P ::
  ob 160 P ::
  ob 161 P ::
  ⟨.none, none, (.fields #[]), #[]⟩ ::
  ob 163 P ::
  ob 164 P ::
  ⟨.none, none, (.func ⟨(Str.ofString "fold"), (Str.ofString "fold"), a15, (.stmts b15), s15, 0, [], .none, .none, .none, .none, none, .none, .none, 0⟩), #[]⟩ ::
  ob 166 P ::
  ob 167 P ::
  ob 168 P ::
  ob 169 P ::
  ⟨.none, none, (.fields #[]), #[]⟩ ::
  ob 171 P ::
  ob 172 P ::
  ⟨.none, none, (.func ⟨(Str.ofString "ones_sum"), (Str.ofString "ones_sum"), a16, (.stmts b16), s16, 0, [], .none, .none, .none, .none, none, .none, .none, 0⟩), #[]⟩ ::
  ob 174 P ::
  ob 175 P ::
  ob 176 P ::
  ob 177 P ::
  ⟨.none, none, (.fields #[]), #[]⟩ ::
  ob 179 P ::
  ob 180 P ::
  ⟨.none, none, (.func ⟨(Str.ofString "checksum"), (Str.ofString "checksum"), a17, (.stmts b17), s17, 0, [], .none, .none, .none, .none, none, .none, .none, 0⟩), #[]⟩ ::
  ob 182 P ::
  ob 183 P ::
  ob 184 P ::
  ⟨.none, none, (.fields #[]), #[]⟩ ::
  ob 186 P ::
  ob 187 P ::
  ⟨.none, none, (.func ⟨(Str.ofString "pseudo_sum"), (Str.ofString "pseudo_sum"), a18, (.stmts b18), s18, 0, [], .none, .none, .none, .none, none, .none, .none, 0⟩), #[]⟩ ::
  ob 189 P ::
  ob 190 P ::
  ⟨(.type "tuple"), none, (.seq #[] 0), #[]⟩ ::
  ⟨(.type "builtin_function_or_method"), none, (.fields #[(.builtin "type.__prepare__"), (.type "type")]), #[]⟩ ::
  ⟨(.type "dict"), none, (.dict #[⟨(PyData.keyHash P (Str.ofString "__module__")), (.str (Str.ofString "__module__") 447), (.str (Str.ofString "thinstack.udp") 430)⟩, ⟨(PyData.keyHash P (Str.ofString "__qualname__")), (.str (Str.ofString "__qualname__") 449), (.str (Str.ofString "UdpHeader") 448)⟩, ⟨(PyData.keyHash P (Str.ofString "__firstlineno__")), (.str (Str.ofString "__firstlineno__") 451), (.int 89 450)⟩, ⟨(PyData.keyHash P (Str.ofString "__init__")), (.str (Str.ofString "__init__") 460), (.ref 204)⟩, ⟨(PyData.keyHash P (Str.ofString "__static_attributes__")), (.str (Str.ofString "__static_attributes__") 463), (.ref 205)⟩] 5), #[]⟩ ::
  ⟨(.type "tuple"), none, (.seq #[] 0), #[]⟩ ::
  ⟨.none, none, (.fields #[(.int 91 0), (.int 4 0), (.ref 203)]), #[]⟩ ::
  ⟨(.type "code"), none, (.fields #[(.str (Str.ofString "UdpHeader") 442), (.str (Str.ofString "UdpHeader") 443), (.str (Str.ofString "/claim/cut.py") 444), (.int 89 0), (.int 0 0), (.int 0 0), (.int 0 0), (.int 0 0), (.ref 194), (.bool false), (.int 181 0), (.ref 195), .none, .none, .none, .none, (.int 445 0), (.int 89 0), (.str (Str.ofString "/claim/cut.py") 446)]), #[]⟩ ::
  ⟨(.type "frame"), none, .plain, #[(some (.ref 196)), (some (.ref 3)), (some (.ref 193)), none, (some (.str (Str.ofString "thinstack.udp") 430)), none, (some (.ref 0))]⟩ ::
  ob 198 P ::
  ⟨.none, none, (.fields #[]), #[]⟩ ::
  ob 200 P ::
  ob 201 P ::
  ⟨.none, none, (.func ⟨(Str.ofString "__init__"), (Str.ofString "UdpHeader.__init__"), a24_0, (.stmts b24_0), s24_0, 0, [], .none, .none, .none, .none, none, .none, .none, 0⟩), #[]⟩ ::
  ob 203 P ::
  ob 204 P ::
  ob 205 P ::
  ob 206 P ::
  ob 207 P ::
  ob 208 P ::
  ob 209 P ::
  ⟨(.type "super"), none, (.fields #[(.ref 207), (.ref 207), (.ref 207)]), #[]⟩ ::
  ⟨(.type "builtin_function_or_method"), none, (.fields #[(.builtin "object.__init_subclass__"), (.ref 207)]), #[]⟩ ::
  ob 212 P ::
  ob 213 P ::
  ⟨.none, none, (.fields #[]), #[]⟩ ::
  ob 215 P ::
  ob 216 P ::
  ⟨.none, none, (.func ⟨(Str.ofString "pack_udp"), (Str.ofString "pack_udp"), a25, (.stmts b25), s25, 0, [], .none, .none, .none, .none, none, .none, .none, 0⟩), #[]⟩ ::
  ob 218 P ::
  ob 219 P ::
  ob 220 P ::
  ⟨.none, none, (.fields #[]), #[]⟩ ::
  ob 222 P ::
  ob 223 P ::
  ⟨.none, none, (.func ⟨(Str.ofString "unpack_udp"), (Str.ofString "unpack_udp"), a26, (.stmts b26), s26, 0, [], .none, .none, .none, .none, none, .none, .none, 0⟩), #[]⟩ ::
  ob 225 P ::
  ob 226 P ::
  ob 227 P ::
  ⟨.none, none, (.fields #[]), #[]⟩ ::
  ob 229 P ::
  ob 230 P ::
  ⟨.none, none, (.func ⟨(Str.ofString "read_header"), (Str.ofString "read_header"), a27, (.stmts b27), s27, 0, [], .none, .none, .none, .none, none, .none, .none, 0⟩), #[]⟩ ::
  ob 232 P ::
  ob 233 P ::
  ⟨(.type "tuple"), none, (.seq #[] 0), #[]⟩ ::
  ⟨(.type "builtin_function_or_method"), none, (.fields #[(.builtin "type.__prepare__"), (.type "type")]), #[]⟩ ::
  ⟨(.type "dict"), none, (.dict #[⟨(PyData.keyHash P (Str.ofString "__module__")), (.str (Str.ofString "__module__") 515), (.str (Str.ofString "thinstack.udp_table") 504)⟩, ⟨(PyData.keyHash P (Str.ofString "__qualname__")), (.str (Str.ofString "__qualname__") 517), (.str (Str.ofString "UdpRow") 516)⟩, ⟨(PyData.keyHash P (Str.ofString "__firstlineno__")), (.str (Str.ofString "__firstlineno__") 519), (.int 121 518)⟩, ⟨(PyData.keyHash P (Str.ofString "__init__")), (.str (Str.ofString "__init__") 529), (.ref 247)⟩, ⟨(PyData.keyHash P (Str.ofString "is_at")), (.str (Str.ofString "is_at") 538), (.ref 254)⟩, ⟨(PyData.keyHash P (Str.ofString "fits")), (.str (Str.ofString "fits") 549), (.ref 261)⟩, ⟨(PyData.keyHash P (Str.ofString "__static_attributes__")), (.str (Str.ofString "__static_attributes__") 554), (.ref 262)⟩] 7), #[]⟩ ::
  ⟨(.type "tuple"), none, (.seq #[] 0), #[]⟩ ::
  ⟨.none, none, (.fields #[(.int 123 0), (.int 4 0), (.ref 246), (.int 129 0), (.int 4 0), (.ref 253), (.int 132 0), (.int 4 0), (.ref 260)]), #[]⟩ ::
  ⟨(.type "code"), none, (.fields #[(.str (Str.ofString "UdpRow") 510), (.str (Str.ofString "UdpRow") 511), (.str (Str.ofString "/claim/cut.py") 512), (.int 121 0), (.int 0 0), (.int 0 0), (.int 0 0), (.int 0 0), (.ref 237), (.bool false), (.int 181 0), (.ref 238), .none, .none, .none, .none, (.int 513 0), (.int 121 0), (.str (Str.ofString "/claim/cut.py") 514)]), #[]⟩ ::
  ⟨(.type "frame"), none, .plain, #[(some (.ref 239)), (some (.ref 3)), (some (.ref 236)), none, (some (.str (Str.ofString "thinstack.udp_table") 504)), none, (some (.ref 0))]⟩ ::
  ob 241 P ::
  ⟨.none, none, (.fields #[]), #[]⟩ ::
  ob 243 P ::
  ob 244 P ::
  ⟨.none, none, (.func ⟨(Str.ofString "__init__"), (Str.ofString "UdpRow.__init__"), a30_0, (.stmts b30_0), s30_0, 0, [], .none, .none, .none, .none, none, .none, .none, 0⟩), #[]⟩ ::
  ob 246 P ::
  ob 247 P ::
  ob 248 P ::
  ⟨.none, none, (.fields #[]), #[]⟩ ::
  ob 250 P ::
  ob 251 P ::
  ⟨.none, none, (.func ⟨(Str.ofString "is_at"), (Str.ofString "UdpRow.is_at"), a30_1, (.stmts b30_1), s30_1, 0, [], .none, .none, .none, .none, none, .none, .none, 0⟩), #[]⟩ ::
  ob 253 P ::
  ob 254 P ::
  ob 255 P ::
  ⟨.none, none, (.fields #[]), #[]⟩ ::
  ob 257 P ::
  ob 258 P ::
  ⟨.none, none, (.func ⟨(Str.ofString "fits"), (Str.ofString "UdpRow.fits"), a30_2, (.stmts b30_2), s30_2, 0, [], .none, .none, .none, .none, none, .none, .none, 0⟩), #[]⟩ ::
  ob 260 P ::
  ob 261 P ::
  ob 262 P ::
  ob 263 P ::
  ob 264 P ::
  ob 265 P ::
  ob 266 P ::
  ⟨(.type "super"), none, (.fields #[(.ref 264), (.ref 264), (.ref 264)]), #[]⟩ ::
  ⟨(.type "builtin_function_or_method"), none, (.fields #[(.builtin "object.__init_subclass__"), (.ref 264)]), #[]⟩ ::
  ⟨(.type "tuple"), none, (.seq #[] 0), #[]⟩ ::
  ⟨(.type "builtin_function_or_method"), none, (.fields #[(.builtin "type.__prepare__"), (.type "type")]), #[]⟩ ::
  ⟨(.type "dict"), none, (.dict #[⟨(PyData.keyHash P (Str.ofString "__module__")), (.str (Str.ofString "__module__") 569), (.str (Str.ofString "thinstack.udp_table") 504)⟩, ⟨(PyData.keyHash P (Str.ofString "__qualname__")), (.str (Str.ofString "__qualname__") 571), (.str (Str.ofString "UdpTable") 570)⟩, ⟨(PyData.keyHash P (Str.ofString "__firstlineno__")), (.str (Str.ofString "__firstlineno__") 573), (.int 139 572)⟩, ⟨(PyData.keyHash P (Str.ofString "__init__")), (.str (Str.ofString "__init__") 580), (.ref 282)⟩, ⟨(PyData.keyHash P (Str.ofString "row")), (.str (Str.ofString "row") 588), (.ref 289)⟩, ⟨(PyData.keyHash P (Str.ofString "is_there")), (.str (Str.ofString "is_there") 601), (.ref 296)⟩, ⟨(PyData.keyHash P (Str.ofString "bind")), (.str (Str.ofString "bind") 611), (.ref 303)⟩, ⟨(PyData.keyHash P (Str.ofString "connect")), (.str (Str.ofString "connect") 623), (.ref 310)⟩, ⟨(PyData.keyHash P (Str.ofString "remove")), (.str (Str.ofString "remove") 631), (.ref 317)⟩, ⟨(PyData.keyHash P (Str.ofString "find")), (.str (Str.ofString "find") 646), (.ref 324)⟩, ⟨(PyData.keyHash P (Str.ofString "__static_attributes__")), (.str (Str.ofString "__static_attributes__") 648), (.ref 325)⟩] 11), #[]⟩ ::
  ⟨(.type "tuple"), none, (.seq #[] 0), #[]⟩ ::
  ⟨.none, none, (.fields #[(.int 141 0), (.int 4 0), (.ref 281), (.int 144 0), (.int 4 0), (.ref 288), (.int 149 0), (.int 4 0), (.ref 295), (.int 156 0), (.int 4 0), (.ref 302), (.int 163 0), (.int 4 0), (.ref 309), (.int 170 0), (.int 4 0), (.ref 316), (.int 174 0), (.int 4 0), (.ref 323)]), #[]⟩ ::
  ⟨(.type "code"), none, (.fields #[(.str (Str.ofString "UdpTable") 564), (.str (Str.ofString "UdpTable") 565), (.str (Str.ofString "/claim/cut.py") 566), (.int 139 0), (.int 0 0), (.int 0 0), (.int 0 0), (.int 0 0), (.ref 272), (.bool false), (.int 181 0), (.ref 273), .none, .none, .none, .none, (.int 567 0), (.int 139 0), (.str (Str.ofString "/claim/cut.py") 568)]), #[]⟩ ::
  ⟨(.type "frame"), none, .plain, #[(some (.ref 274)), (some (.ref 3)), (some (.ref 271)), none, (some (.str (Str.ofString "thinstack.udp_table") 504)), none, (some (.ref 0))]⟩ ::
  ob 276 P ::
  ⟨.none, none, (.fields #[]), #[]⟩ ::
  ob 278 P ::
  ob 279 P ::
  ⟨.none, none, (.func ⟨(Str.ofString "__init__"), (Str.ofString "UdpTable.__init__"), a31_0, (.stmts b31_0), s31_0, 0, [], .none, .none, .none, .none, none, .none, .none, 0⟩), #[]⟩ ::
  ob 281 P ::
  ob 282 P ::
  ob 283 P ::
  ⟨.none, none, (.fields #[]), #[]⟩ ::
  ob 285 P ::
  ob 286 P ::
  ⟨.none, none, (.func ⟨(Str.ofString "row"), (Str.ofString "UdpTable.row"), a31_1, (.stmts b31_1), s31_1, 0, [], .none, .none, .none, .none, none, .none, .none, 0⟩), #[]⟩ ::
  ob 288 P ::
  ob 289 P ::
  ob 290 P ::
  ⟨.none, none, (.fields #[]), #[]⟩ ::
  ob 292 P ::
  ob 293 P ::
  ⟨.none, none, (.func ⟨(Str.ofString "is_there"), (Str.ofString "UdpTable.is_there"), a31_2, (.stmts b31_2), s31_2, 0, [], .none, .none, .none, .none, none, .none, .none, 0⟩), #[]⟩ ::
  ob 295 P ::
  ob 296 P ::
  ob 297 P ::
  ⟨.none, none, (.fields #[]), #[]⟩ ::
  ob 299 P ::
  ob 300 P ::
  ⟨.none, none, (.func ⟨(Str.ofString "bind"), (Str.ofString "UdpTable.bind"), a31_3, (.stmts b31_3), s31_3, 0, [], .none, .none, .none, .none, none, .none, .none, 0⟩), #[]⟩ ::
  ob 302 P ::
  ob 303 P ::
  ob 304 P ::
  ⟨.none, none, (.fields #[]), #[]⟩ ::
  ob 306 P ::
  ob 307 P ::
  ⟨.none, none, (.func ⟨(Str.ofString "connect"), (Str.ofString "UdpTable.connect"), a31_4, (.stmts b31_4), s31_4, 0, [], .none, .none, .none, .none, none, .none, .none, 0⟩), #[]⟩ ::
  ob 309 P ::
  ob 310 P ::
  ob 311 P ::
  ⟨.none, none, (.fields #[]), #[]⟩ ::
  ob 313 P ::
  ob 314 P ::
  ⟨.none, none, (.func ⟨(Str.ofString "remove"), (Str.ofString "UdpTable.remove"), a31_5, (.stmts b31_5), s31_5, 0, [], .none, .none, .none, .none, none, .none, .none, 0⟩), #[]⟩ ::
  ob 316 P ::
  ob 317 P ::
  ob 318 P ::
  ⟨.none, none, (.fields #[]), #[]⟩ ::
  ob 320 P ::
  ob 321 P ::
  ⟨.none, none, (.func ⟨(Str.ofString "find"), (Str.ofString "UdpTable.find"), a31_6, (.stmts b31_6), s31_6, 0, [], .none, .none, .none, .none, none, .none, .none, 0⟩), #[]⟩ ::
  ob 323 P ::
  ob 324 P ::
  ob 325 P ::
  ob 326 P ::
  ob 327 P ::
  ob 328 P ::
  ob 329 P ::
  ⟨(.type "super"), none, (.fields #[(.ref 327), (.ref 327), (.ref 327)]), #[]⟩ ::
  ⟨(.type "builtin_function_or_method"), none, (.fields #[(.builtin "object.__init_subclass__"), (.ref 327)]), #[]⟩ :: []), ⟨[], [], [], 0, [], [], false, #[], [], 0, false, false, false, 0, [2000, 10, 10], false, 0, true, [], [], 0, false⟩⟩
noncomputable def heap42 : Params → Heap := fun P => ⟨Array.mk (
  boot_o_0 P ::
  boot_o_1 P ::
  ob 2 P ::
  ⟨(.type "dict"), none, (.dict #[⟨(PyData.keyHash P (Str.ofString "__name__")), (.str (Str.ofString "__name__") 165), (.str (Str.ofString "law_nu0134_01") 839)⟩, ⟨(PyData.keyHash P (Str.ofString "__doc__")), (.str (Str.ofString "__doc__") 166), .none⟩, ⟨(PyData.keyHash P (Str.ofString "__package__")), (.str (Str.ofString "__package__") 167), .none⟩, ⟨(PyData.keyHash P (Str.ofString "__loader__")), (.str (Str.ofString "__loader__") 168), (.builtin "__main__.__loader__#opaque")⟩, ⟨(PyData.keyHash P (Str.ofString "__spec__")), (.str (Str.ofString "__spec__") 169), .none⟩, ⟨(PyData.keyHash P (Str.ofString "__annotations__")), (.str (Str.ofString "__annotations__") 170), (.ref 6)⟩, ⟨(PyData.keyHash P (Str.ofString "__builtins__")), (.str (Str.ofString "__builtins__") 171), (.ref 4)⟩, ⟨(PyData.keyHash P (Str.ofString "__file__")), (.str (Str.ofString "__file__") 173), (.str (Str.ofString "/claim/cut.py") 172)⟩, ⟨(PyData.keyHash P (Str.ofString "__cached__")), (.str (Str.ofString "__cached__") 174), .none⟩, ⟨(PyData.keyHash P (Str.ofString "StackError")), (.str (Str.ofString "StackError") 217), (.ref 31)⟩, ⟨(PyData.keyHash P (Str.ofString "FormError")), (.str (Str.ofString "FormError") 233), (.ref 44)⟩, ⟨(PyData.keyHash P (Str.ofString "SizeError")), (.str (Str.ofString "SizeError") 249), (.ref 56)⟩, ⟨(PyData.keyHash P (Str.ofString "PortError")), (.str (Str.ofString "PortError") 265), (.ref 68)⟩, ⟨(PyData.keyHash P (Str.ofString "StateError")), (.str (Str.ofString "StateError") 281), (.ref 80)⟩, ⟨(PyData.keyHash P (Str.ofString "MOST_PORT")), (.str (Str.ofString "MOST_PORT") 285), (.int 65535 284)⟩, ⟨(PyData.keyHash P (Str.ofString "Ports")), (.str (Str.ofString "Ports") 360), (.ref 135)⟩, ⟨(PyData.keyHash P (Str.ofString "put16")), (.str (Str.ofString "put16") 369), (.ref 146)⟩, ⟨(PyData.keyHash P (Str.ofString "need")), (.str (Str.ofString "need") 378), (.ref 153)⟩, ⟨(PyData.keyHash P (Str.ofString "get16")), (.str (Str.ofString "get16") 386), (.ref 160)⟩, ⟨(PyData.keyHash P (Str.ofString "ALL_ONES_sums")), (.str (Str.ofString "ALL_ONES_sums") 390), (.int 65535 389)⟩, ⟨(PyData.keyHash P (Str.ofString "fold")), (.str (Str.ofString "fold") 397), (.ref 167)⟩, ⟨(PyData.keyHash P (Str.ofString "ones_sum")), (.str (Str.ofString "ones_sum") 409), (.ref 175)⟩, ⟨(PyData.keyHash P (Str.ofString "checksum")), (.str (Str.ofString "checksum") 418), (.ref 183)⟩, ⟨(PyData.keyHash P (Str.ofString "pseudo_sum")), (.str (Str.ofString "pseudo_sum") 429), (.ref 190)⟩, ⟨(PyData.keyHash P (Str.ofString "UDP")), (.str (Str.ofString "UDP") 433), (.int 17 432)⟩, ⟨(PyData.keyHash P (Str.ofString "HEAD_SIZE")), (.str (Str.ofString "HEAD_SIZE") 435), (.int 8 434)⟩, ⟨(PyData.keyHash P (Str.ofString "MOST_SIZE")), (.str (Str.ofString "MOST_SIZE") 437), (.int 65535 436)⟩, ⟨(PyData.keyHash P (Str.ofString "ALL_ONES_udp")), (.str (Str.ofString "ALL_ONES_udp") 439), (.int 65535 438)⟩, ⟨(PyData.keyHash P (Str.ofString "UdpHeader")), (.str (Str.ofString "UdpHeader") 470), (.ref 207)⟩, ⟨(PyData.keyHash P (Str.ofString "pack_udp")), (.str (Str.ofString "pack_udp") 485), (.ref 219)⟩, ⟨(PyData.keyHash P (Str.ofString "unpack_udp")), (.str (Str.ofString "unpack_udp") 496), (.ref 226)⟩, ⟨(PyData.keyHash P (Str.ofString "read_header")), (.str (Str.ofString "read_header") 503), (.ref 233)⟩, ⟨(PyData.keyHash P (Str.ofString "ANY")), (.str (Str.ofString "ANY") 507), (.int 0 506)⟩, ⟨(PyData.keyHash P (Str.ofString "UdpRow")), (.str (Str.ofString "UdpRow") 561), (.ref 264)⟩, ⟨(PyData.keyHash P (Str.ofString "UdpTable")), (.str (Str.ofString "UdpTable") 655), (.ref 327)⟩, ⟨(PyData.keyHash P (Str.ofString "MOST_WAITING")), (.str (Str.ofString "MOST_WAITING") 659), (.int 16 658)⟩, ⟨(PyData.keyHash P (Str.ofString "UdpSocket")), (.str (Str.ofString "UdpSocket") 694), (.ref 348)⟩, ⟨(PyData.keyHash P (Str.ofString "UdpSockets")), (.str (Str.ofString "UdpSockets") 838), (.ref 445)⟩, ⟨(PyData.keyHash P (Str.ofString "_law_pool")), (.str (Str.ofString "_law_pool") 851), (.ref 456)⟩, ⟨(PyData.keyHash P (Str.ofString "_law_take")), (.str (Str.ofString "_law_take") 860), (.ref 463)⟩, ⟨(PyData.keyHash P (Str.ofString "_law_one")), (.str (Str.ofString "_law_one") 868), (.ref 470)⟩, ⟨(PyData.keyHash P (Str.ofString "_law_free_port")), (.str (Str.ofString "_law_free_port") 874), (.ref 475)⟩, ⟨(PyData.keyHash P (Str.ofString "_law_opened")), (.str (Str.ofString "_law_opened") 880), (.ref 480)⟩] 43), #[]⟩ ::
  boot_o_4 P ::
  boot_o_5 P ::
  boot_o_6 P ::
  boot_o_7 P ::
  boot_o_8 P ::
  boot_o_9 P ::
  boot_o_10 P ::
  ⟨(.type "tuple"), none, (.seq #[] 0), #[]⟩ ::
  ⟨.none, none, (.fields #[(.int 2 0), (.int 0 0), (.ref 20), (.int 6 0), (.int 0 0), (.ref 40), (.int 8 0), (.int 0 0), (.ref 52), (.int 10 0), (.int 0 0), (.ref 64), (.int 12 0), (.int 0 0), (.ref 76), (.int 16 0), (.int 0 0), (.ref 88), (.int 56 0), (.int 0 0), (.ref 145), (.int 58 0), (.int 0 0), (.ref 152), (.int 61 0), (.int 0 0), (.ref 159), (.int 66 0), (.int 0 0), (.ref 166), (.int 70 0), (.int 0 0), (.ref 174), (.int 78 0), (.int 0 0), (.ref 182), (.int 80 0), (.int 0 0), (.ref 189), (.int 89 0), (.int 0 0), (.ref 196), (.int 94 0), (.int 0 0), (.ref 218), (.int 105 0), (.int 0 0), (.ref 225), (.int 115 0), (.int 0 0), (.ref 232), (.int 121 0), (.int 0 0), (.ref 239), (.int 139 0), (.int 0 0), (.ref 274), (.int 185 0), (.int 0 0), (.ref 337), (.int 194 0), (.int 0 0), (.ref 358), (.int 267 0), (.int 0 0), (.ref 455), (.int 274 0), (.int 0 0), (.ref 462), (.int 281 0), (.int 0 0), (.ref 469), (.int 283 0), (.int 0 0), (.ref 474), (.int 290 0), (.int 0 0), (.ref 479)]), #[]⟩ ::
  ⟨(.type "code"), none, (.fields #[(.str (Str.ofString "<module>") 182), (.str (Str.ofString "<module>") 183), (.str (Str.ofString "/claim/cut.py") 184), (.int 1 0), (.int 0 0), (.int 0 0), (.int 0 0), (.int 0 0), (.ref 11), (.bool false), (.int 181 0), (.ref 12), .none, .none, .none, .none, (.int 185 0), (.int 1 0), (.str (Str.ofString "/claim/cut.py") 186)]), #[]⟩ ::
  ⟨(.type "frame"), none, .plain, #[(some (.ref 13)), (some (.ref 3)), (some (.ref 3)), none, (some (.str (Str.ofString "__main__") 164)), none, (some (.ref 0))]⟩ ::
  ob 15 P ::
  ⟨(.type "builtin_function_or_method"), none, (.fields #[(.builtin "type.__prepare__"), (.type "type")]), #[]⟩ ::
  ⟨(.type "dict"), none, (.dict #[⟨(PyData.keyHash P (Str.ofString "__module__")), (.str (Str.ofString "__module__") 196), (.str (Str.ofString "thinstack.errors") 187)⟩, ⟨(PyData.keyHash P (Str.ofString "__qualname__")), (.str (Str.ofString "__qualname__") 198), (.str (Str.ofString "StackError") 197)⟩, ⟨(PyData.keyHash P (Str.ofString "__firstlineno__")), (.str (Str.ofString "__firstlineno__") 200), (.int 2 199)⟩, ⟨(PyData.keyHash P (Str.ofString "__init__")), (.str (Str.ofString "__init__") 208), (.ref 28)⟩, ⟨(PyData.keyHash P (Str.ofString "__static_attributes__")), (.str (Str.ofString "__static_attributes__") 210), (.ref 29)⟩] 5), #[]⟩ ::
  ⟨(.type "tuple"), none, (.seq #[] 0), #[]⟩ ::
  ⟨.none, none, (.fields #[(.int 4 0), (.int 4 0), (.ref 27)]), #[]⟩ ::
  ⟨(.type "code"), none, (.fields #[(.str (Str.ofString "StackError") 191), (.str (Str.ofString "StackError") 192), (.str (Str.ofString "/claim/cut.py") 193), (.int 2 0), (.int 0 0), (.int 0 0), (.int 0 0), (.int 0 0), (.ref 18), (.bool false), (.int 181 0), (.ref 19), .none, .none, .none, .none, (.int 194 0), (.int 2 0), (.str (Str.ofString "/claim/cut.py") 195)]), #[]⟩ ::
  ⟨(.type "frame"), none, .plain, #[(some (.ref 20)), (some (.ref 3)), (some (.ref 17)), none, (some (.str (Str.ofString "thinstack.errors") 187)), none, (some (.ref 0))]⟩ ::
  ob 22 P ::
  ⟨.none, none, (.fields #[]), #[]⟩ ::
  ob 24 P ::
  ob 25 P ::
  ⟨.none, none, (.func ⟨(Str.ofString "__init__"), (Str.ofString "StackError.__init__"), a1_0, (.stmts b1_0), s1_0, 0, [], .none, .none, .none, .none, none, .none, .none, 0⟩), #[]⟩ ::
  ob 27 P ::
  ob 28 P ::
  ob 29 P ::
  ob 30 P ::
  ob 31 P ::
  ob 32 P ::
  ⟨(.type "super"), none, (.fields #[(.ref 31), (.ref 31), (.ref 31)]), #[]⟩ ::
  ⟨(.type "builtin_function_or_method"), none, (.fields #[(.builtin "object.__init_subclass__"), (.ref 31)]), #[]⟩ ::
  ob 35 P ::
  ⟨(.type "builtin_function_or_method"), none, (.fields #[(.builtin "type.__prepare__"), (.type "type")]), #[]⟩ ::
  ⟨(.type "dict"), none, (.dict #[⟨(PyData.keyHash P (Str.ofString "__module__")), (.str (Str.ofString "__module__") 225), (.str (Str.ofString "thinstack.errors") 187)⟩, ⟨(PyData.keyHash P (Str.ofString "__qualname__")), (.str (Str.ofString "__qualname__") 227), (.str (Str.ofString "FormError") 226)⟩, ⟨(PyData.keyHash P (Str.ofString "__firstlineno__")), (.str (Str.ofString "__firstlineno__") 229), (.int 6 228)⟩, ⟨(PyData.keyHash P (Str.ofString "__static_attributes__")), (.str (Str.ofString "__static_attributes__") 230), (.ref 42)⟩] 4), #[]⟩ ::
  ⟨(.type "tuple"), none, (.seq #[] 0), #[]⟩ ::
  ⟨.none, none, (.fields #[]), #[]⟩ ::
  ⟨(.type "code"), none, (.fields #[(.str (Str.ofString "FormError") 220), (.str (Str.ofString "FormError") 221), (.str (Str.ofString "/claim/cut.py") 222), (.int 6 0), (.int 0 0), (.int 0 0), (.int 0 0), (.int 0 0), (.ref 38), (.bool false), (.int 181 0), (.ref 39), .none, .none, .none, .none, (.int 223 0), (.int 6 0), (.str (Str.ofString "/claim/cut.py") 224)]), #[]⟩ ::
  ⟨(.type "frame"), none, .plain, #[(some (.ref 40)), (some (.ref 3)), (some (.ref 37)), none, (some (.str (Str.ofString "thinstack.errors") 187)), none, (some (.ref 0))]⟩ ::
  ob 42 P ::
  ob 43 P ::
  ob 44 P ::
  ⟨(.type "super"), none, (.fields #[(.ref 44), (.ref 44), (.ref 44)]), #[]⟩ ::
  ⟨(.type "builtin_function_or_method"), none, (.fields #[(.builtin "object.__init_subclass__"), (.ref 44)]), #[]⟩ ::
  ob 47 P ::
  ⟨(.type "builtin_function_or_method"), none, (.fields #[(.builtin "type.__prepare__"), (.type "type")]), #[]⟩ ::
  ⟨(.type "dict"), none, (.dict #[⟨(PyData.keyHash P (Str.ofString "__module__")), (.str (Str.ofString "__module__") 241), (.str (Str.ofString "thinstack.errors") 187)⟩, ⟨(PyData.keyHash P (Str.ofString "__qualname__")), (.str (Str.ofString "__qualname__") 243), (.str (Str.ofString "SizeError") 242)⟩, ⟨(PyData.keyHash P (Str.ofString "__firstlineno__")), (.str (Str.ofString "__firstlineno__") 245), (.int 8 244)⟩, ⟨(PyData.keyHash P (Str.ofString "__static_attributes__")), (.str (Str.ofString "__static_attributes__") 246), (.ref 54)⟩] 4), #[]⟩ ::
  ⟨(.type "tuple"), none, (.seq #[] 0), #[]⟩ ::
  ⟨.none, none, (.fields #[]), #[]⟩ ::
  ⟨(.type "code"), none, (.fields #[(.str (Str.ofString "SizeError") 236), (.str (Str.ofString "SizeError") 237), (.str (Str.ofString "/claim/cut.py") 238), (.int 8 0), (.int 0 0), (.int 0 0), (.int 0 0), (.int 0 0), (.ref 50), (.bool false), (.int 181 0), (.ref 51), .none, .none, .none, .none, (.int 239 0), (.int 8 0), (.str (Str.ofString "/claim/cut.py") 240)]), #[]⟩ ::
  ⟨(.type "frame"), none, .plain, #[(some (.ref 52)), (some (.ref 3)), (some (.ref 49)), none, (some (.str (Str.ofString "thinstack.errors") 187)), none, (some (.ref 0))]⟩ ::
  ob 54 P ::
  ob 55 P ::
  ob 56 P ::
  ⟨(.type "super"), none, (.fields #[(.ref 56), (.ref 56), (.ref 56)]), #[]⟩ ::
  ⟨(.type "builtin_function_or_method"), none, (.fields #[(.builtin "object.__init_subclass__"), (.ref 56)]), #[]⟩ ::
  ob 59 P ::
  ⟨(.type "builtin_function_or_method"), none, (.fields #[(.builtin "type.__prepare__"), (.type "type")]), #[]⟩ ::
  ⟨(.type "dict"), none, (.dict #[⟨(PyData.keyHash P (Str.ofString "__module__")), (.str (Str.ofString "__module__") 257), (.str (Str.ofString "thinstack.errors") 187)⟩, ⟨(PyData.keyHash P (Str.ofString "__qualname__")), (.str (Str.ofString "__qualname__") 259), (.str (Str.ofString "PortError") 258)⟩, ⟨(PyData.keyHash P (Str.ofString "__firstlineno__")), (.str (Str.ofString "__firstlineno__") 261), (.int 10 260)⟩, ⟨(PyData.keyHash P (Str.ofString "__static_attributes__")), (.str (Str.ofString "__static_attributes__") 262), (.ref 66)⟩] 4), #[]⟩ ::
  ⟨(.type "tuple"), none, (.seq #[] 0), #[]⟩ ::
  ⟨.none, none, (.fields #[]), #[]⟩ ::
  ⟨(.type "code"), none, (.fields #[(.str (Str.ofString "PortError") 252), (.str (Str.ofString "PortError") 253), (.str (Str.ofString "/claim/cut.py") 254), (.int 10 0), (.int 0 0), (.int 0 0), (.int 0 0), (.int 0 0), (.ref 62), (.bool false), (.int 181 0), (.ref 63), .none, .none, .none, .none, (.int 255 0), (.int 10 0), (.str (Str.ofString "/claim/cut.py") 256)]), #[]⟩ ::
  ⟨(.type "frame"), none, .plain, #[(some (.ref 64)), (some (.ref 3)), (some (.ref 61)), none, (some (.str (Str.ofString "thinstack.errors") 187)), none, (some (.ref 0))]⟩ ::
  ob 66 P ::
  ob 67 P ::
  ob 68 P ::
  ⟨(.type "super"), none, (.fields #[(.ref 68), (.ref 68), (.ref 68)]), #[]⟩ ::
  ⟨(.type "builtin_function_or_method"), none, (.fields #[(.builtin "object.__init_subclass__"), (.ref 68)]), #[]⟩ ::
  ob 71 P ::
  ⟨(.type "builtin_function_or_method"), none, (.fields #[(.builtin "type.__prepare__"), (.type "type")]), #[]⟩ ::
  ⟨(.type "dict"), none, (.dict #[⟨(PyData.keyHash P (Str.ofString "__module__")), (.str (Str.ofString "__module__") 273), (.str (Str.ofString "thinstack.errors") 187)⟩, ⟨(PyData.keyHash P (Str.ofString "__qualname__")), (.str (Str.ofString "__qualname__") 275), (.str (Str.ofString "StateError") 274)⟩, ⟨(PyData.keyHash P (Str.ofString "__firstlineno__")), (.str (Str.ofString "__firstlineno__") 277), (.int 12 276)⟩, ⟨(PyData.keyHash P (Str.ofString "__static_attributes__")), (.str (Str.ofString "__static_attributes__") 278), (.ref 78)⟩] 4), #[]⟩ ::
  ⟨(.type "tuple"), none, (.seq #[] 0), #[]⟩ ::
  ⟨.none, none, (.fields #[]), #[]⟩ ::
  ⟨(.type "code"), none, (.fields #[(.str (Str.ofString "StateError") 268), (.str (Str.ofString "StateError") 269), (.str (Str.ofString "/claim/cut.py") 270), (.int 12 0), (.int 0 0), (.int 0 0), (.int 0 0), (.int 0 0), (.ref 74), (.bool false), (.int 181 0), (.ref 75), .none, .none, .none, .none, (.int 271 0), (.int 12 0), (.str (Str.ofString "/claim/cut.py") 272)]), #[]⟩ ::
  ⟨(.type "frame"), none, .plain, #[(some (.ref 76)), (some (.ref 3)), (some (.ref 73)), none, (some (.str (Str.ofString "thinstack.errors") 187)), none, (some (.ref 0))]⟩ ::
  ob 78 P ::
  ob 79 P ::
  ob 80 P ::
  ⟨(.type "super"), none, (.fields #[(.ref 80), (.ref 80), (.ref 80)]), #[]⟩ ::
  ⟨(.type "builtin_function_or_method"), none, (.fields #[(.builtin "object.__init_subclass__"), (.ref 80)]), #[]⟩ ::
  ⟨(.type "tuple"), none, (.seq #[] 0), #[]⟩ ::
  ⟨(.type "builtin_function_or_method"), none, (.fields #[(.builtin "type.__prepare__"), (.type "type")]), #[]⟩ ::
  ⟨(.type "dict"), none, (.dict #[⟨(PyData.keyHash P (Str.ofString "__module__")), (.str (Str.ofString "__module__") 293), (.str (Str.ofString "thinstack.ports") 282)⟩, ⟨(PyData.keyHash P (Str.ofString "__qualname__")), (.str (Str.ofString "__qualname__") 295), (.str (Str.ofString "Ports") 294)⟩, ⟨(PyData.keyHash P (Str.ofString "__firstlineno__")), (.str (Str.ofString "__firstlineno__") 297), (.int 16 296)⟩, ⟨(PyData.keyHash P (Str.ofString "__init__")), (.str (Str.ofString "__init__") 306), (.ref 96)⟩, ⟨(PyData.keyHash P (Str.ofString "is_taken")), (.str (Str.ofString "is_taken") 314), (.ref 103)⟩, ⟨(PyData.keyHash P (Str.ofString "take")), (.str (Str.ofString "take") 323), (.ref 111)⟩, ⟨(PyData.keyHash P (Str.ofString "next_free")), (.str (Str.ofString "next_free") 332), (.ref 118)⟩, ⟨(PyData.keyHash P (Str.ofString "behind")), (.str (Str.ofString "behind") 340), (.ref 125)⟩, ⟨(PyData.keyHash P (Str.ofString "free")), (.str (Str.ofString "free") 348), (.ref 132)⟩, ⟨(PyData.keyHash P (Str.ofString "__static_attributes__")), (.str (Str.ofString "__static_attributes__") 353), (.ref 133)⟩] 10), #[]⟩ ::
  ⟨(.type "tuple"), none, (.seq #[] 0), #[]⟩ ::
  ⟨.none, none, (.fields #[(.int 18 0), (.int 4 0), (.ref 95), (.int 26 0), (.int 4 0), (.ref 102), (.int 29 0), (.int 4 0), (.ref 110), (.int 39 0), (.int 4 0), (.ref 117), (.int 48 0), (.int 4 0), (.ref 124), (.int 51 0), (.int 4 0), (.ref 131)]), #[]⟩ ::
  ⟨(.type "code"), none, (.fields #[(.str (Str.ofString "Ports") 288), (.str (Str.ofString "Ports") 289), (.str (Str.ofString "/claim/cut.py") 290), (.int 16 0), (.int 0 0), (.int 0 0), (.int 0 0), (.int 0 0), (.ref 86), (.bool false), (.int 181 0), (.ref 87), .none, .none, .none, .none, (.int 291 0), (.int 16 0), (.str (Str.ofString "/claim/cut.py") 292)]), #[]⟩ ::
  ⟨(.type "frame"), none, .plain, #[(some (.ref 88)), (some (.ref 3)), (some (.ref 85)), none, (some (.str (Str.ofString "thinstack.ports") 282)), none, (some (.ref 0))]⟩ ::
  ob 90 P ::
  ⟨.none, none, (.fields #[]), #[]⟩ ::
  ob 92 P ::
  ob 93 P ::
  ⟨.none, none, (.func ⟨(Str.ofString "__init__"), (Str.ofString "Ports.__init__"), a8_0, (.stmts b8_0), s8_0, 0, [], .none, .none, .none, .none, none, .none, .none, 0⟩), #[]⟩ ::
  ob 95 P ::
  ob 96 P ::
  ob 97 P ::
  ⟨.none, none, (.fields #[]), #[]⟩ ::
  ob 99 P ::
  ob 100 P ::
  ⟨.none, none, (.func ⟨(Str.ofString "is_taken"), (Str.ofString "Ports.is_taken"), a8_1, (.stmts b8_1), s8_1, 0, [], .none, .none, .none, .none, none, .none, .none, 0⟩), #[]⟩ ::
  ob 102 P ::
  ob 103 P ::
  ob 104 P ::
  ob 105 P ::
  ⟨.none, none, (.fields #[]), #[]⟩ ::
  ob 107 P ::
  ob 108 P ::
  ⟨.none, none, (.func ⟨(Str.ofString "take"), (Str.ofString "Ports.take"), a8_2, (.stmts b8_2), s8_2, 0, [], .none, .none, .none, .none, none, .none, .none, 0⟩), #[]⟩ ::
  ob 110 P ::
  ob 111 P ::
  ob 112 P ::
  ⟨.none, none, (.fields #[]), #[]⟩ ::
  ob 114 P ::
  ob 115 P ::
  ⟨.none, none, (.func ⟨(Str.ofString "next_free"), (Str.ofString "Ports.next_free"), a8_3, (.stmts b8_3), s8_3, 0, [], .none, .none, .none, .none, none, .none, .none, 0⟩), #[]⟩ ::
  ob 117 P ::
  ob 118 P ::
  ob 119 P ::
  ⟨.none, none, (.fields #[]), #[]⟩ ::
  ob 121 P ::
  ob 122 P ::
  ⟨.none, none, (.func ⟨(Str.ofString "behind"), (Str.ofString "Ports.behind"), a8_4, (.stmts b8_4), s8_4, 0, [], .none, .none, .none, .none, none, .none, .none, 0⟩), #[]⟩ ::
  ob 124 P ::
  ob 125 P ::
  ob 126 P ::
  ⟨.none, none, (.fields #[]), #[]⟩ ::
  ob 128 P ::
  ob 129 P ::
  ⟨.none, none, (.func ⟨(Str.ofString "free"), (Str.ofString "Ports.free"), a8_5, (.stmts b8_5), s8_5, 0, [], .none, .none, .none, .none, none, .none, .none, 0⟩), #[]⟩ ::
  ob 131 P ::
  ob 132 P ::
  ob 133 P ::
  ob 134 P ::
  ob 135 P ::
  ob 136 P ::
  ob 137 P ::
  ⟨(.type "super"), none, (.fields #[(.ref 135), (.ref 135), (.ref 135)]), #[]⟩ ::
  ⟨(.type "builtin_function_or_method"), none, (.fields #[(.builtin "object.__init_subclass__"), (.ref 135)]), #[]⟩ ::
  ob 140 P ::
  ⟨.none, none, (.fields #[]), #[]⟩ ::
  ob 142 P ::
  ob 143 P ::
  ⟨.none, none, (.func ⟨(Str.ofString "put16"), (Str.ofString "put16"), a10, (.stmts b10), s10, 0, [], .none, .none, .none, .none, none, .none, .none, 0⟩), #[]⟩ ::
  ob 145 P ::
  ob 146 P ::
  ob 147 P ::
  ⟨.none, none, (.fields #[]), #[]⟩ ::
  ob 149 P ::
  ob 150 P ::
  ⟨.none, none, (.func ⟨(Str.ofString "need"), (Str.ofString "need"), a11, (.stmts b11), s11, 0, [], .none, .none, .none, .none, none, .none, .none, 0⟩), #[]⟩ ::
  ob 152 P ::
  ob 153 P ::
  ob 154 P ::
  ⟨.none, none, (.fields #[]), #[]⟩ ::
  ob 156 P ::
  ob 157 P ::
  ⟨.none, none, (.func ⟨(Str.ofString "get16"), (Str.ofString "get16"), a12, (.stmts b12), s12, 0, [], .none, .none, .none, .none, none, .none, .none, 0⟩), #[]⟩ ::
  ob 159 P ::
  ob 160 P ::
  ob 161 P ::
  ⟨.none, none, (.fields #[]), #[]⟩ ::
  ob 163 P ::
  ob 164 P ::
  ⟨.none, none, (.func ⟨(Str.ofString "fold"), (Str.ofString "fold"), a15, (.stmts b15), s15, 0, [], .none, .none, .none, .none, none, .none, .none, 0⟩), #[]⟩ ::
  ob 166 P ::
  ob 167 P ::
  ob 168 P ::
  ob 169 P ::
  ⟨.none, none, (.fields #[]), #[]⟩ ::
  ob 171 P ::
  ob 172 P ::
  ⟨.none, none, (.func ⟨(Str.ofString "ones_sum"), (Str.ofString "ones_sum"), a16, (.stmts b16), s16, 0, [], .none, .none, .none, .none, none, .none, .none, 0⟩), #[]⟩ ::
  ob 174 P ::
  ob 175 P ::
  ob 176 P ::
  ob 177 P ::
  ⟨.none, none, (.fields #[]), #[]⟩ ::
  ob 179 P ::
  ob 180 P ::
  ⟨.none, none, (.func ⟨(Str.ofString "checksum"), (Str.ofString "checksum"), a17, (.stmts b17), s17, 0, [], .none, .none, .none, .none, none, .none, .none, 0⟩), #[]⟩ ::
  ob 182 P ::
  ob 183 P ::
  ob 184 P ::
  ⟨.none, none, (.fields #[]), #[]⟩ ::
  ob 186 P ::
  ob 187 P ::
  ⟨.none, none, (.func ⟨(Str.ofString "pseudo_sum"), (Str.ofString "pseudo_sum"), a18, (.stmts b18), s18, 0, [], .none, .none, .none, .none, none, .none, .none, 0⟩), #[]⟩ ::
  ob 189 P ::
  ob 190 P ::
  ⟨(.type "tuple"), none, (.seq #[] 0), #[]⟩ ::
  ⟨(.type "builtin_function_or_method"), none, (.fields #[(.builtin "type.__prepare__"), (.type "type")]), #[]⟩ ::
  ⟨(.type "dict"), none, (.dict #[⟨(PyData.keyHash P (Str.ofString "__module__")), (.str (Str.ofString "__module__") 447), (.str (Str.ofString "thinstack.udp") 430)⟩, ⟨(PyData.keyHash P (Str.ofString "__qualname__")), (.str (Str.ofString "__qualname__") 449), (.str (Str.ofString "UdpHeader") 448)⟩, ⟨(PyData.keyHash P (Str.ofString "__firstlineno__")), (.str (Str.ofString "__firstlineno__") 451), (.int 89 450)⟩, ⟨(PyData.keyHash P (Str.ofString "__init__")), (.str (Str.ofString "__init__") 460), (.ref 204)⟩, ⟨(PyData.keyHash P (Str.ofString "__static_attributes__")), (.str (Str.ofString "__static_attributes__") 463), (.ref 205)⟩] 5), #[]⟩ ::
  ⟨(.type "tuple"), none, (.seq #[] 0), #[]⟩ ::
  ⟨.none, none, (.fields #[(.int 91 0), (.int 4 0), (.ref 203)]), #[]⟩ ::
  ⟨(.type "code"), none, (.fields #[(.str (Str.ofString "UdpHeader") 442), (.str (Str.ofString "UdpHeader") 443), (.str (Str.ofString "/claim/cut.py") 444), (.int 89 0), (.int 0 0), (.int 0 0), (.int 0 0), (.int 0 0), (.ref 194), (.bool false), (.int 181 0), (.ref 195), .none, .none, .none, .none, (.int 445 0), (.int 89 0), (.str (Str.ofString "/claim/cut.py") 446)]), #[]⟩ ::
  ⟨(.type "frame"), none, .plain, #[(some (.ref 196)), (some (.ref 3)), (some (.ref 193)), none, (some (.str (Str.ofString "thinstack.udp") 430)), none, (some (.ref 0))]⟩ ::
  ob 198 P ::
  ⟨.none, none, (.fields #[]), #[]⟩ ::
  ob 200 P ::
  ob 201 P ::
  ⟨.none, none, (.func ⟨(Str.ofString "__init__"), (Str.ofString "UdpHeader.__init__"), a24_0, (.stmts b24_0), s24_0, 0, [], .none, .none, .none, .none, none, .none, .none, 0⟩), #[]⟩ ::
  ob 203 P ::
  ob 204 P ::
  ob 205 P ::
  ob 206 P ::
  ob 207 P ::
  ob 208 P ::
  ob 209 P ::
  ⟨(.type "super"), none, (.fields #[(.ref 207), (.ref 207), (.ref 207)]), #[]⟩ ::
  ⟨(.type "builtin_function_or_method"), none, (.fields #[(.builtin "object.__init_subclass__"), (.ref 207)]), #[]⟩ ::
  ob 212 P ::
  ob 213 P ::
  ⟨.none, none, (.fields #[]), #[]⟩ ::
  ob 215 P ::
  ob 216 P ::
  ⟨.none, none, (.func ⟨(Str.ofString "pack_udp"), (Str.ofString "pack_udp"), a25, (.stmts b25), s25, 0, [], .none, .none, .none, .none, none, .none, .none, 0⟩), #[]⟩ ::
  ob 218 P ::
  ob 219 P ::
  ob 220 P ::
  ⟨.none, none, (.fields #[]), #[]⟩ ::
  ob 222 P ::
  ob 223 P ::
  ⟨.none, none, (.func ⟨(Str.ofString "unpack_udp"), (Str.ofString "unpack_udp"), a26, (.stmts b26), s26, 0, [], .none, .none, .none, .none, none, .none, .none, 0⟩), #[]⟩ ::
  ob 225 P ::
  ob 226 P ::
  ob 227 P ::
  ⟨.none, none, (.fields #[]), #[]⟩ ::
  ob 229 P ::
  ob 230 P ::
  ⟨.none, none, (.func ⟨(Str.ofString "read_header"), (Str.ofString "read_header"), a27, (.stmts b27), s27, 0, [], .none, .none, .none, .none, none, .none, .none, 0⟩), #[]⟩ ::
  ob 232 P ::
  ob 233 P ::
  ⟨(.type "tuple"), none, (.seq #[] 0), #[]⟩ ::
  ⟨(.type "builtin_function_or_method"), none, (.fields #[(.builtin "type.__prepare__"), (.type "type")]), #[]⟩ ::
  ⟨(.type "dict"), none, (.dict #[⟨(PyData.keyHash P (Str.ofString "__module__")), (.str (Str.ofString "__module__") 515), (.str (Str.ofString "thinstack.udp_table") 504)⟩, ⟨(PyData.keyHash P (Str.ofString "__qualname__")), (.str (Str.ofString "__qualname__") 517), (.str (Str.ofString "UdpRow") 516)⟩, ⟨(PyData.keyHash P (Str.ofString "__firstlineno__")), (.str (Str.ofString "__firstlineno__") 519), (.int 121 518)⟩, ⟨(PyData.keyHash P (Str.ofString "__init__")), (.str (Str.ofString "__init__") 529), (.ref 247)⟩, ⟨(PyData.keyHash P (Str.ofString "is_at")), (.str (Str.ofString "is_at") 538), (.ref 254)⟩, ⟨(PyData.keyHash P (Str.ofString "fits")), (.str (Str.ofString "fits") 549), (.ref 261)⟩, ⟨(PyData.keyHash P (Str.ofString "__static_attributes__")), (.str (Str.ofString "__static_attributes__") 554), (.ref 262)⟩] 7), #[]⟩ ::
  ⟨(.type "tuple"), none, (.seq #[] 0), #[]⟩ ::
  ⟨.none, none, (.fields #[(.int 123 0), (.int 4 0), (.ref 246), (.int 129 0), (.int 4 0), (.ref 253), (.int 132 0), (.int 4 0), (.ref 260)]), #[]⟩ ::
  ⟨(.type "code"), none, (.fields #[(.str (Str.ofString "UdpRow") 510), (.str (Str.ofString "UdpRow") 511), (.str (Str.ofString "/claim/cut.py") 512), (.int 121 0), (.int 0 0), (.int 0 0), (.int 0 0), (.int 0 0), (.ref 237), (.bool false), (.int 181 0), (.ref 238), .none, .none, .none, .none, (.int 513 0), (.int 121 0), (.str (Str.ofString "/claim/cut.py") 514)]), #[]⟩ ::
  ⟨(.type "frame"), none, .plain, #[(some (.ref 239)), (some (.ref 3)), (some (.ref 236)), none, (some (.str (Str.ofString "thinstack.udp_table") 504)), none, (some (.ref 0))]⟩ ::
  ob 241 P ::
  ⟨.none, none, (.fields #[]), #[]⟩ ::
  ob 243 P ::
  ob 244 P ::
  ⟨.none, none, (.func ⟨(Str.ofString "__init__"), (Str.ofString "UdpRow.__init__"), a30_0, (.stmts b30_0), s30_0, 0, [], .none, .none, .none, .none, none, .none, .none, 0⟩), #[]⟩ ::
  ob 246 P ::
  ob 247 P ::
  ob 248 P ::
  ⟨.none, none, (.fields #[]), #[]⟩ ::
  ob 250 P ::
  ob 251 P ::
  ⟨.none, none, (.func ⟨(Str.ofString "is_at"), (Str.ofString "UdpRow.is_at"), a30_1, (.stmts b30_1), s30_1, 0, [], .none, .none, .none, .none, none, .none, .none, 0⟩), #[]⟩ ::
  ob 253 P ::
  ob 254 P ::
  ob 255 P ::
  ⟨.none, none, (.fields #[]), #[]⟩ ::
  ob 257 P ::
  ob 258 P ::
  ⟨.none, none, (.func ⟨(Str.ofString "fits"), (Str.ofString "UdpRow.fits"), a30_2, (.stmts b30_2), s30_2, 0, [], .none, .none, .none, .none, none, .none, .none, 0⟩), #[]⟩ ::
  ob 260 P ::
  ob 261 P ::
  ob 262 P ::
  ob 263 P ::
  ob 264 P ::
  ob 265 P ::
  ob 266 P ::
  ⟨(.type "super"), none, (.fields #[(.ref 264), (.ref 264), (.ref 264)]), #[]⟩ ::
  ⟨(.type "builtin_function_or_method"), none, (.fields #[(.builtin "object.__init_subclass__"), (.ref 264)]), #[]⟩ ::
  ⟨(.type "tuple"), none, (.seq #[] 0), #[]⟩ ::
  ⟨(.type "builtin_function_or_method"), none, (.fields #[(.builtin "type.__prepare__"), (.type "type")]), #[]⟩ ::
  ⟨(.type "dict"), none, (.dict #[⟨(PyData.keyHash P (Str.ofString "__module__")), (.str (Str.ofString "__module__") 569), (.str (Str.ofString "thinstack.udp_table") 504)⟩, ⟨(PyData.keyHash P (Str.ofString "__qualname__")), (.str (Str.ofString "__qualname__") 571), (.str (Str.ofString "UdpTable") 570)⟩, ⟨(PyData.keyHash P (Str.ofString "__firstlineno__")), (.str (Str.ofString "__firstlineno__") 573), (.int 139 572)⟩, ⟨(PyData.keyHash P (Str.ofString "__init__")), (.str (Str.ofString "__init__") 580), (.ref 282)⟩, ⟨(PyData.keyHash P (Str.ofString "row")), (.str (Str.ofString "row") 588), (.ref 289)⟩, ⟨(PyData.keyHash P (Str.ofString "is_there")), (.str (Str.ofString "is_there") 601), (.ref 296)⟩, ⟨(PyData.keyHash P (Str.ofString "bind")), (.str (Str.ofString "bind") 611), (.ref 303)⟩, ⟨(PyData.keyHash P (Str.ofString "connect")), (.str (Str.ofString "connect") 623), (.ref 310)⟩, ⟨(PyData.keyHash P (Str.ofString "remove")), (.str (Str.ofString "remove") 631), (.ref 317)⟩, ⟨(PyData.keyHash P (Str.ofString "find")), (.str (Str.ofString "find") 646), (.ref 324)⟩, ⟨(PyData.keyHash P (Str.ofString "__static_attributes__")), (.str (Str.ofString "__static_attributes__") 648), (.ref 325)⟩] 11), #[]⟩ ::
  ⟨(.type "tuple"), none, (.seq #[] 0), #[]⟩ ::
  ⟨.none, none, (.fields #[(.int 141 0), (.int 4 0), (.ref 281), (.int 144 0), (.int 4 0), (.ref 288), (.int 149 0), (.int 4 0), (.ref 295), (.int 156 0), (.int 4 0), (.ref 302), (.int 163 0), (.int 4 0), (.ref 309), (.int 170 0), (.int 4 0), (.ref 316), (.int 174 0), (.int 4 0), (.ref 323)]), #[]⟩ ::
  ⟨(.type "code"), none, (.fields #[(.str (Str.ofString "UdpTable") 564), (.str (Str.ofString "UdpTable") 565), (.str (Str.ofString "/claim/cut.py") 566), (.int 139 0), (.int 0 0), (.int 0 0), (.int 0 0), (.int 0 0), (.ref 272), (.bool false), (.int 181 0), (.ref 273), .none, .none, .none, .none, (.int 567 0), (.int 139 0), (.str (Str.ofString "/claim/cut.py") 568)]), #[]⟩ ::
  ⟨(.type "frame"), none, .plain, #[(some (.ref 274)), (some (.ref 3)), (some (.ref 271)), none, (some (.str (Str.ofString "thinstack.udp_table") 504)), none, (some (.ref 0))]⟩ ::
  ob 276 P ::
  ⟨.none, none, (.fields #[]), #[]⟩ ::
  ob 278 P ::
  ob 279 P ::
  ⟨.none, none, (.func ⟨(Str.ofString "__init__"), (Str.ofString "UdpTable.__init__"), a31_0, (.stmts b31_0), s31_0, 0, [], .none, .none, .none, .none, none, .none, .none, 0⟩), #[]⟩ ::
  ob 281 P ::
  ob 282 P ::
  ob 283 P ::
  ⟨.none, none, (.fields #[]), #[]⟩ ::
  ob 285 P ::
  ob 286 P ::
  ⟨.none, none, (.func ⟨(Str.ofString "row"), (Str.ofString "UdpTable.row"), a31_1, (.stmts b31_1), s31_1, 0, [], .none, .none, .none, .none, none, .none, .none, 0⟩), #[]⟩ ::
  ob 288 P ::
  ob 289 P ::
  ob 290 P ::
  ⟨.none, none, (.fields #[]), #[]⟩ ::
  ob 292 P ::
  ob 293 P ::
  ⟨.none, none, (.func ⟨(Str.ofString "is_there"), (Str.ofString "UdpTable.is_there"), a31_2, (.stmts b31_2), s31_2, 0, [], .none, .none, .none, .none, none, .none, .none, 0⟩), #[]⟩ ::
  ob 295 P ::
  ob 296 P ::
  ob 297 P ::
  ⟨.none, none, (.fields #[]), #[]⟩ ::
  ob 299 P ::
  ob 300 P ::
  ⟨.none, none, (.func ⟨(Str.ofString "bind"), (Str.ofString "UdpTable.bind"), a31_3, (.stmts b31_3), s31_3, 0, [], .none, .none, .none, .none, none, .none, .none, 0⟩), #[]⟩ ::
  ob 302 P ::
  ob 303 P ::
  ob 304 P ::
  ⟨.none, none, (.fields #[]), #[]⟩ ::
  ob 306 P ::
  ob 307 P ::
  ⟨.none, none, (.func ⟨(Str.ofString "connect"), (Str.ofString "UdpTable.connect"), a31_4, (.stmts b31_4), s31_4, 0, [], .none, .none, .none, .none, none, .none, .none, 0⟩), #[]⟩ ::
  ob 309 P ::
  ob 310 P ::
  ob 311 P ::
  ⟨.none, none, (.fields #[]), #[]⟩ ::
  ob 313 P ::
  ob 314 P ::
  ⟨.none, none, (.func ⟨(Str.ofString "remove"), (Str.ofString "UdpTable.remove"), a31_5, (.stmts b31_5), s31_5, 0, [], .none, .none, .none, .none, none, .none, .none, 0⟩), #[]⟩ ::
  ob 316 P ::
  ob 317 P ::
  ob 318 P ::
  ⟨.none, none, (.fields #[]), #[]⟩ ::
  ob 320 P ::
  ob 321 P ::
  ⟨.none, none, (.func ⟨(Str.ofString "find"), (Str.ofString "UdpTable.find"), a31_6, (.stmts b31_6), s31_6, 0, [], .none, .none, .none, .none, none, .none, .none, 0⟩), #[]⟩ ::
  ob 323 P ::
  ob 324 P ::
  ob 325 P ::
  ob 326 P ::
  ob 327 P ::
  ob 328 P ::
  ob 329 P ::
  ⟨(.type "super"), none, (.fields #[(.ref 327), (.ref 327), (.ref 327)]), #[]⟩ ::
  ⟨(.type "builtin_function_or_method"), none, (.fields #[(.builtin "object.__init_subclass__"), (.ref 327)]), #[]⟩ ::
  ⟨(.type "tuple"), none, (.seq #[] 0), #[]⟩ ::
  ⟨(.type "builtin_function_or_method"), none, (.fields #[(.builtin "type.__prepare__"), (.type "type")]), #[]⟩ ::
  ⟨(.type "dict"), none, (.dict #[⟨(PyData.keyHash P (Str.ofString "__module__")), (.str (Str.ofString "__module__") 667), (.str (Str.ofString "thinstack.udp_sockets") 656)⟩, ⟨(PyData.keyHash P (Str.ofString "__qualname__")), (.str (Str.ofString "__qualname__") 669), (.str (Str.ofString "UdpSocket") 668)⟩, ⟨(PyData.keyHash P (Str.ofString "__firstlineno__")), (.str (Str.ofString "__firstlineno__") 671), (.int 185 670)⟩, ⟨(PyData.keyHash P (Str.ofString "__init__")), (.str (Str.ofString "__init__") 680), (.ref 345)⟩, ⟨(PyData.keyHash P (Str.ofString "__static_attributes__")), (.str (Str.ofString "__static_attributes__") 687), (.ref 346)⟩] 5), #[]⟩ ::
  ⟨(.type "tuple"), none, (.seq #[] 0), #[]⟩ ::
  ⟨.none, none, (.fields #[(.int 187 0), (.int 4 0), (.ref 344)]), #[]⟩ ::
  ⟨(.type "code"), none, (.fields #[(.str (Str.ofString "UdpSocket") 662), (.str (Str.ofString "UdpSocket") 663), (.str (Str.ofString "/claim/cut.py") 664), (.int 185 0), (.int 0 0), (.int 0 0), (.int 0 0), (.int 0 0), (.ref 335), (.bool false), (.int 181 0), (.ref 336), .none, .none, .none, .none, (.int 665 0), (.int 185 0), (.str (Str.ofString "/claim/cut.py") 666)]), #[]⟩ ::
  ⟨(.type "frame"), none, .plain, #[(some (.ref 337)), (some (.ref 3)), (some (.ref 334)), none, (some (.str (Str.ofString "thinstack.udp_sockets") 656)), none, (some (.ref 0))]⟩ ::
  ob 339 P ::
  ⟨.none, none, (.fields #[]), #[]⟩ ::
  ob 341 P ::
  ob 342 P ::
  ⟨.none, none, (.func ⟨(Str.ofString "__init__"), (Str.ofString "UdpSocket.__init__"), a34_0, (.stmts b34_0), s34_0, 0, [], .none, .none, .none, .none, none, .none, .none, 0⟩), #[]⟩ ::
  ob 344 P ::
  ob 345 P ::
  ob 346 P ::
  ob 347 P ::
  ob 348 P ::
  ob 349 P ::
  ob 350 P ::
  ⟨(.type "super"), none, (.fields #[(.ref 348), (.ref 348), (.ref 348)]), #[]⟩ ::
  ⟨(.type "builtin_function_or_method"), none, (.fields #[(.builtin "object.__init_subclass__"), (.ref 348)]), #[]⟩ ::
  ⟨(.type "tuple"), none, (.seq #[] 0), #[]⟩ ::
  ⟨(.type "builtin_function_or_method"), none, (.fields #[(.builtin "type.__prepare__"), (.type "type")]), #[]⟩ ::
  ⟨(.type "dict"), none, (.dict #[⟨(PyData.keyHash P (Str.ofString "__module__")), (.str (Str.ofString "__module__") 702), (.str (Str.ofString "thinstack.udp_sockets") 656)⟩, ⟨(PyData.keyHash P (Str.ofString "__qualname__")), (.str (Str.ofString "__qualname__") 704), (.str (Str.ofString "UdpSockets") 703)⟩, ⟨(PyData.keyHash P (Str.ofString "__firstlineno__")), (.str (Str.ofString "__firstlineno__") 706), (.int 194 705)⟩, ⟨(PyData.keyHash P (Str.ofString "__init__")), (.str (Str.ofString "__init__") 716), (.ref 367)⟩, ⟨(PyData.keyHash P (Str.ofString "socket")), (.str (Str.ofString "socket") 724), (.ref 374)⟩, ⟨(PyData.keyHash P (Str.ofString "open")), (.str (Str.ofString "open") 734), (.ref 381)⟩, ⟨(PyData.keyHash P (Str.ofString "connect")), (.str (Str.ofString "connect") 740), (.ref 386)⟩, ⟨(PyData.keyHash P (Str.ofString "close")), (.str (Str.ofString "close") 749), (.ref 393)⟩, ⟨(PyData.keyHash P (Str.ofString "port_of")), (.str (Str.ofString "port_of") 757), (.ref 400)⟩, ⟨(PyData.keyHash P (Str.ofString "send_to")), (.str (Str.ofString "send_to") 769), (.ref 407)⟩, ⟨(PyData.keyHash P (Str.ofString "input")), (.str (Str.ofString "input") 784), (.ref 414)⟩, ⟨(PyData.keyHash P (Str.ofString "receive")), (.str (Str.ofString "receive") 793), (.ref 421)⟩, ⟨(PyData.keyHash P (Str.ofString "waiting")), (.str (Str.ofString "waiting") 801), (.ref 428)⟩, ⟨(PyData.keyHash P (Str.ofString "tell_error")), (.str (Str.ofString "tell_error") 815), (.ref 435)⟩, ⟨(PyData.keyHash P (Str.ofString "error_of")), (.str (Str.ofString "error_of") 825), (.ref 442)⟩, ⟨(PyData.keyHash P (Str.ofString "__static_attributes__")), (.str (Str.ofString "__static_attributes__") 831), (.ref 443)⟩] 16), #[]⟩ ::
  ⟨(.type "tuple"), none, (.seq #[] 0), #[]⟩ ::
  ⟨.none, none, (.fields #[(.int 196 0), (.int 4 0), (.ref 366), (.int 203 0), (.int 4 0), (.ref 373), (.int 208 0), (.int 4 0), (.ref 380), (.int 215 0), (.int 4 0), (.ref 385), (.int 221 0), (.int 4 0), (.ref 392), (.int 227 0), (.int 4 0), (.ref 399), (.int 230 0), (.int 4 0), (.ref 406), (.int 233 0), (.int 4 0), (.ref 413), (.int 244 0), (.int 4 0), (.ref 420), (.int 248 0), (.int 4 0), (.ref 427), (.int 251 0), (.int 4 0), (.ref 434), (.int 261 0), (.int 4 0), (.ref 441)]), #[]⟩ ::
  ⟨(.type "code"), none, (.fields #[(.str (Str.ofString "UdpSockets") 697), (.str (Str.ofString "UdpSockets") 698), (.str (Str.ofString "/claim/cut.py") 699), (.int 194 0), (.int 0 0), (.int 0 0), (.int 0 0), (.int 0 0), (.ref 356), (.bool false), (.int 181 0), (.ref 357), .none, .none, .none, .none, (.int 700 0), (.int 194 0), (.str (Str.ofString "/claim/cut.py") 701)]), #[]⟩ ::
  ⟨(.type "frame"), none, .plain, #[(some (.ref 358)), (some (.ref 3)), (some (.ref 355)), none, (some (.str (Str.ofString "thinstack.udp_sockets") 656)), none, (some (.ref 0))]⟩ ::
  ob 360 P ::
  ob 361 P ::
  ⟨.none, none, (.fields #[]), #[]⟩ ::
  ob 363 P ::
  ob 364 P ::
  ⟨.none, none, (.func ⟨(Str.ofString "__init__"), (Str.ofString "UdpSockets.__init__"), a35_0, (.stmts b35_0), s35_0, 0, [], .none, .none, .none, .none, none, .none, .none, 0⟩), #[]⟩ ::
  ob 366 P ::
  ob 367 P ::
  ob 368 P ::
  ⟨.none, none, (.fields #[]), #[]⟩ ::
  ob 370 P ::
  ob 371 P ::
  ⟨.none, none, (.func ⟨(Str.ofString "socket"), (Str.ofString "UdpSockets.socket"), a35_1, (.stmts b35_1), s35_1, 0, [], .none, .none, .none, .none, none, .none, .none, 0⟩), #[]⟩ ::
  ob 373 P ::
  ob 374 P ::
  ob 375 P ::
  ⟨.none, none, (.fields #[]), #[]⟩ ::
  ob 377 P ::
  ob 378 P ::
  ⟨.none, none, (.func ⟨(Str.ofString "open"), (Str.ofString "UdpSockets.open"), a35_2, (.stmts b35_2), s35_2, 0, [], .none, .none, .none, .none, none, .none, .none, 0⟩), #[]⟩ ::
  ob 380 P ::
  ob 381 P ::
  ob 382 P ::
  ⟨.none, none, (.fields #[]), #[]⟩ ::
  ⟨.none, none, (.func ⟨(Str.ofString "connect"), (Str.ofString "UdpSockets.connect"), a35_3, (.stmts b35_3), s35_3, 0, [], .none, .none, .none, .none, none, .none, .none, 0⟩), #[]⟩ ::
  ob 385 P ::
  ob 386 P ::
  ob 387 P ::
  ⟨.none, none, (.fields #[]), #[]⟩ ::
  ob 389 P ::
  ob 390 P ::
  ⟨.none, none, (.func ⟨(Str.ofString "close"), (Str.ofString "UdpSockets.close"), a35_4, (.stmts b35_4), s35_4, 0, [], .none, .none, .none, .none, none, .none, .none, 0⟩), #[]⟩ ::
  ob 392 P ::
  ob 393 P ::
  ob 394 P ::
  ⟨.none, none, (.fields #[]), #[]⟩ ::
  ob 396 P ::
  ob 397 P ::
  ⟨.none, none, (.func ⟨(Str.ofString "port_of"), (Str.ofString "UdpSockets.port_of"), a35_5, (.stmts b35_5), s35_5, 0, [], .none, .none, .none, .none, none, .none, .none, 0⟩), #[]⟩ ::
  ob 399 P ::
  ob 400 P ::
  ob 401 P ::
  ⟨.none, none, (.fields #[]), #[]⟩ ::
  ob 403 P ::
  ob 404 P ::
  ⟨.none, none, (.func ⟨(Str.ofString "send_to"), (Str.ofString "UdpSockets.send_to"), a35_6, (.stmts b35_6), s35_6, 0, [], .none, .none, .none, .none, none, .none, .none, 0⟩), #[]⟩ ::
  ob 406 P ::
  ob 407 P ::
  ob 408 P ::
  ⟨.none, none, (.fields #[]), #[]⟩ ::
  ob 410 P ::
  ob 411 P ::
  ⟨.none, none, (.func ⟨(Str.ofString "input"), (Str.ofString "UdpSockets.input"), a35_7, (.stmts b35_7), s35_7, 0, [], .none, .none, .none, .none, none, .none, .none, 0⟩), #[]⟩ ::
  ob 413 P ::
  ob 414 P ::
  ob 415 P ::
  ⟨.none, none, (.fields #[]), #[]⟩ ::
  ob 417 P ::
  ob 418 P ::
  ⟨.none, none, (.func ⟨(Str.ofString "receive"), (Str.ofString "UdpSockets.receive"), a35_8, (.stmts b35_8), s35_8, 0, [], .none, .none, .none, .none, none, .none, .none, 0⟩), #[]⟩ ::
  ob 420 P ::
  ob 421 P ::
  ob 422 P ::
  ⟨.none, none, (.fields #[]), #[]⟩ ::
  ob 424 P ::
  ob 425 P ::
  ⟨.none, none, (.func ⟨(Str.ofString "waiting"), (Str.ofString "UdpSockets.waiting"), a35_9, (.stmts b35_9), s35_9, 0, [], .none, .none, .none, .none, none, .none, .none, 0⟩), #[]⟩ ::
  ob 427 P ::
  ob 428 P ::
  ob 429 P ::
  ⟨.none, none, (.fields #[]), #[]⟩ ::
  ob 431 P ::
  ob 432 P ::
  ⟨.none, none, (.func ⟨(Str.ofString "tell_error"), (Str.ofString "UdpSockets.tell_error"), a35_10, (.stmts b35_10), s35_10, 0, [], .none, .none, .none, .none, none, .none, .none, 0⟩), #[]⟩ ::
  ob 434 P ::
  ob 435 P ::
  ob 436 P ::
  ⟨.none, none, (.fields #[]), #[]⟩ ::
  ob 438 P ::
  ob 439 P ::
  ⟨.none, none, (.func ⟨(Str.ofString "error_of"), (Str.ofString "UdpSockets.error_of"), a35_11, (.stmts b35_11), s35_11, 0, [], .none, .none, .none, .none, none, .none, .none, 0⟩), #[]⟩ ::
  ob 441 P ::
  ob 442 P ::
  ob 443 P ::
  ob 444 P ::
  ob 445 P ::
  ob 446 P ::
  ob 447 P ::
  ⟨(.type "super"), none, (.fields #[(.ref 445), (.ref 445), (.ref 445)]), #[]⟩ ::
  ⟨(.type "builtin_function_or_method"), none, (.fields #[(.builtin "object.__init_subclass__"), (.ref 445)]), #[]⟩ ::
  ob 450 P ::
  ⟨.none, none, (.fields #[]), #[]⟩ ::
  ob 452 P ::
  ob 453 P ::
  ⟨.none, none, (.func ⟨(Str.ofString "_law_pool"), (Str.ofString "_law_pool"), a37, (.stmts b37), s37, 0, [], .none, .none, .none, .none, none, .none, .none, 0⟩), #[]⟩ ::
  ob 455 P ::
  ob 456 P ::
  ob 457 P ::
  ⟨.none, none, (.fields #[]), #[]⟩ ::
  ob 459 P ::
  ob 460 P ::
  ⟨.none, none, (.func ⟨(Str.ofString "_law_take"), (Str.ofString "_law_take"), a38, (.stmts b38), s38, 0, [], .none, .none, .none, .none, none, .none, .none, 0⟩), #[]⟩ ::
  ob 462 P ::
  ob 463 P ::
  ob 464 P ::
  ⟨.none, none, (.fields #[]), #[]⟩ ::
  ob 466 P ::
  ob 467 P ::
  ⟨.none, none, (.func ⟨(Str.ofString "_law_one"), (Str.ofString "_law_one"), a39, (.stmts b39), s39, 0, [], .none, .none, .none, .none, none, .none, .none, 0⟩), #[]⟩ ::
  ob 469 P ::
  ob 470 P ::
  ob 471 P ::
  ⟨.none, none, (.fields #[]), #[]⟩ ::
  ⟨.none, none, (.func ⟨(Str.ofString "_law_free_port"), (Str.ofString "_law_free_port"), a40, (.stmts b40), s40, 0, [], .none, .none, .none, .none, none, .none, .none, 0⟩), #[]⟩ ::
  ob 474 P ::
  ob 475 P ::
  ob 476 P ::
  ⟨.none, none, (.fields #[]), #[]⟩ ::
  ⟨.none, none, (.func ⟨(Str.ofString "_law_opened"), (Str.ofString "_law_opened"), a41, (.stmts b41), s41, 0, [], .none, .none, .none, .none, none, .none, .none, 0⟩), #[]⟩ ::
  ob 479 P ::
  ob 480 P :: []), ⟨[], [], [], 0, [], [], false, #[], [], 0, false, false, false, 0, [2000, 10, 10], false, 0, true, [], [], 0, false⟩⟩
noncomputable def vw : Program := view pw [1, 2, 3, 4, 5, 7, 8, 10, 11, 12, 14, 15, 18, 20, 21, 22, 23, 24, 26, 27, 29, 30, 31, 33, 34, 35, 37, 38, 39, 40, 41, 42, 43, 44, 45, 46, 47, 48, 49]
noncomputable def envT : Env := { scope := pw.main.scope, locals := mainNs, globals := mainNs, cells := [], code := .ref 13, frame := some 14 }
noncomputable def bodyT : List Stmt := behindTheImports pw
noncomputable def codeT : Code := .body bodyT envT
noncomputable def posT : Pos := ⟨0, 0, 0, 0⟩
noncomputable def sh0 (w : World) (os : OsState) : Shared := ⟨boot_heap w.params, Array.mk [], boot_drawn, boot_toks, os⟩
noncomputable def sh1 (w : World) (os : OsState) : Shared := ⟨heap0 w.params, Array.mk [], ⟨0, 0, 0, 0⟩, 187, os⟩
noncomputable def sh2 (w : World) (os : OsState) : Shared := ⟨heap17 w.params, Array.mk [], ⟨0, 0, 0, 0⟩, 410, os⟩
noncomputable def sh3 (w : World) (os : OsState) : Shared := ⟨heap34 w.params, Array.mk [], ⟨0, 0, 0, 0⟩, 660, os⟩
noncomputable def sh4 (w : World) (os : OsState) : Shared := ⟨heap42 w.params, Array.mk [], ⟨0, 0, 0, 0⟩, 881, os⟩
theorem headPre : ∀ (w : World) (os : OsState), topGo treeTable pw w 11 (some (.ref 6)) 12 (sh0 w os) (topStub pw) = some (sh1 w os, ⟨denote treeTable codeT, codeT, posT, [topFrame posT]⟩) := fun w os => by kernel_rfl
theorem headBlock : ∀ (w : World) (os : OsState), segRun treeTable pw w 11 (some (.ref 6)) 1 1 (sh1 w os) (blockOf bodyT envT codeT posT [topFrame posT]) = some (.next, sh1 w os, codeT, posT) := fun w os => by kernel_rfl
theorem head17 : ∀ (w : World) (os : OsState), segRun treeTable pw w 11 (some (.ref 6)) 1 1678 (sh1 w os) (piecesOf (bodyT.take 17) envT codeT posT [topFrame posT]) = some (.next, sh2 w os, codeT, ⟨70, 0, 77, 22⟩) := fun w os => by kernel_rfl
theorem head34 : ∀ (w : World) (os : OsState), segRun treeTable pw w 11 (some (.ref 6)) 1 1197 (sh2 w os) (piecesOf ((bodyT.drop 17).take 17) envT codeT ⟨70, 0, 77, 22⟩ [topFrame posT]) = some (.next, sh3 w os, codeT, ⟨184, 0, 184, 12⟩) := fun w os => by kernel_rfl
theorem head42 : ∀ (w : World) (os : OsState), segRun treeTable pw w 11 (some (.ref 6)) 1 988 (sh3 w os) (piecesOf (((bodyT.drop 17).drop 17).take 8) envT codeT ⟨184, 0, 184, 12⟩ [topFrame posT]) = some (.next, sh4 w os, codeT, ⟨290, 0, 303, 15⟩) := fun w os => by kernel_rfl
theorem leftCut {p q : Program} {loose : List Str} {Xt : Shared → Bool} {α : Type} {Yf : Shared → α} {Ya : World → α} {N : Nat} {g0 : Bool} {H₀ : Params → Heap} {gs₀ : Array GenState} {d₀ : Drawn} {k₀ : Nat} {m₀ : Nat} {ann : Option Value} {M : Nat}
    (open_ : ∀ w : World, (fencedOpening treeTable p w N).map (fun s => (s.heap, s.gens, s.drawn, s.toks)) = some (H₀ w.params, gs₀, d₀, k₀))
    (size : ∀ w : World, ((H₀ w.params).isNs mainGlobals && gs₀.size == 0, (H₀ w.params).objs.size, (H₀ w.params).nsMap mainGlobals "__annotations__") = (true, m₀, ann))
    (run : ∀ (w : World) (os : OsState), ∃ s₁, topRun treeTable p w m₀ ann M ⟨H₀ w.params, gs₀, d₀, k₀, os⟩ (topStub p) = some s₁ ∧ ((staticsOk (importedModules p.main.body) (H₀ w.params) s₁.heap && namesBound p s₁.heap && gensDone s₁ && laidKept (H₀ w.params) s₁.heap), openSeen q loose (importedModules p.main.body) Xt g0 s₁, Yf s₁) = (true, openGood q loose, Ya w))
    (le : Nat.ble M N = true) : LeftO p q loose Xt Yf Ya N g0 := fun w => by
  obtain ⟨⟨h, gs, d, k, os⟩, e, e'⟩ := Option.map_eq_some_iff.mp (open_ w)
  obtain ⟨rfl, rfl, rfl, rfl⟩ : h = H₀ w.params ∧ gs = gs₀ ∧ d = d₀ ∧ k = k₀ := by simpa using e'
  obtain ⟨z1, z2, z3⟩ : _ ∧ _ ∧ _ := by simpa only [Prod.mk.injEq] using size w
  obtain ⟨s₁, r0, l0⟩ := run w os
  obtain ⟨l1, l2, l3⟩ : _ ∧ _ ∧ _ := by simpa only [Prod.mk.injEq] using l0
  have r := topRun_mono (N - M) _ _ _ _ r0
  rw [show M + (N - M) = N by have := Nat.le_of_ble_eq_true le; omega] at r
  have t : topFrom treeTable p w N ⟨H₀ w.params, gs, d, k, os⟩ = some s₁ := by
    unfold topFrom
    dsimp only
    rw [z1, z2, z3, r]
    show (match staticsOk (importedModules p.main.body) (H₀ w.params) s₁.heap && namesBound p s₁.heap && gensDone s₁ && laidKept (H₀ w.params) s₁.heap with | true => _ | false => _) = _
    rw [l1]
  unfold openEnds
  rw [e]
  show (topFrom treeTable p w N _).map _ = _
  rw [t]
  exact congrArg some (Prod.ext l2 l3)
noncomputable def looseT : List Str := [Str.ofString "ones_sum", Str.ofString "checksum", Str.ofString "pack_udp", Str.ofString "UdpSockets"]
noncomputable def adrT : List Addr := 2 :: 3 :: 15 :: 22 :: 24 :: 25 :: 27 :: 28 :: 29 :: 30 :: 31 :: 32 :: 35 :: 42 :: 43 :: 44 :: 47 :: 54 :: 55 :: 56 :: 59 :: 66 :: 67 :: 68 :: 71 :: 78 :: 79 :: 80 :: 90 :: 92 :: 93 :: 95 :: 96 :: 97 :: 99 :: 100 :: 102 :: 103 :: 104 :: 105 :: 107 :: 108 :: 110 :: 111 :: 112 :: 114 :: 115 :: 117 :: 118 :: 119 :: 121 :: 122 :: 124 :: 125 :: 126 :: 128 :: 129 :: 131 :: 132 :: 133 :: 134 :: 135 :: 136 :: 137 :: 140 :: 142 :: 143 :: 145 :: 146 :: 147 :: 149 :: 150 :: 152 :: 153 :: 154 :: 156 :: 157 :: 159 :: 160 :: 161 :: 163 :: 164 :: 166 :: 167 :: 168 :: 169 :: 171 :: 172 :: 174 :: 175 :: 176 :: 177 :: 179 :: 180 :: 182 :: 183 :: 184 :: 186 :: 187 :: 189 :: 190 :: 198 :: 200 :: 201 :: 203 :: 204 :: 205 :: 206 :: 207 :: 208 :: 209 :: 212 :: 213 :: 215 :: 216 :: 218 :: 219 :: 220 :: 222 :: 223 :: 225 :: 226 :: 227 :: 229 :: 230 :: 232 :: 233 :: 241 :: 243 :: 244 :: 246 :: 247 :: 248 :: 250 :: 251 :: 253 :: 254 :: 255 :: 257 :: 258 :: 260 :: 261 :: 262 :: 263 :: 264 :: 265 :: 266 :: 276 :: 278 :: 279 :: 281 :: 282 :: 283 :: 285 :: 286 :: 288 :: 289 :: 290 :: 292 :: 293 :: 295 :: 296 :: 297 :: 299 :: 300 :: 302 :: 303 :: 304 :: 306 :: 307 :: 309 :: 310 :: 311 :: 313 :: 314 :: 316 :: 317 :: 318 :: 320 :: 321 :: 323 :: 324 :: 325 :: 326 :: 327 :: 328 :: 329 :: 339 :: 341 :: 342 :: 344 :: 345 :: 346 :: 347 :: 348 :: 349 :: 350 :: 360 :: 361 :: 363 :: 364 :: 366 :: 367 :: 368 :: 370 :: 371 :: 373 :: 374 :: 375 :: 377 :: 378 :: 380 :: 381 :: 382 :: 385 :: 386 :: 387 :: 389 :: 390 :: 392 :: 393 :: 394 :: 396 :: 397 :: 399 :: 400 :: 401 :: 403 :: 404 :: 406 :: 407 :: 408 :: 410 :: 411 :: 413 :: 414 :: 415 :: 417 :: 418 :: 420 :: 421 :: 422 :: 424 :: 425 :: 427 :: 428 :: 429 :: 431 :: 432 :: 434 :: 435 :: 436 :: 438 :: 439 :: 441 :: 442 :: 443 :: 444 :: 445 :: 446 :: 447 :: 450 :: 452 :: 453 :: 455 :: 456 :: 457 :: 459 :: 460 :: 462 :: 463 :: 464 :: 466 :: 467 :: 469 :: 470 :: 471 :: 474 :: 475 :: 476 :: 479 :: 480 :: 481 :: 483 :: 484 :: 486 :: 487 :: 488 :: 490 :: 491 :: 493 :: 494 :: 495 :: 497 :: 498 :: 500 :: 501 :: 502 :: 504 :: 505 :: 507 :: 508 :: 509 :: 511 :: 512 :: 514 :: 515 :: 516 :: 518 :: 519 :: 521 :: 522 :: 523 :: 526 :: 527 :: 528 :: 530 :: 531 :: 533 :: 534 :: []
theorem adrT_is : ∀ P, adrT = (hp P).map (·.1) := fun P => by kernel_rfl
noncomputable def hookT : Hook := kHook hp adrT adrT_is
noncomputable def seesT (s : Shared) : Bool := xlAt vw [] s && recOk (RowW.records PySem.Challenge.rw_nu0134_01.row.toRowW) s
theorem headLast : ∀ (w : World) (os : OsState), (topRun treeTable pw w 11 (some (.ref 6)) 400 (sh4 w os) (restOf (((bodyT.drop 17).drop 17).drop 8) envT codeT ⟨290, 0, 303, 15⟩ [topFrame posT])).map (fun s₁ => ((staticsOk (importedModules pw.main.body) (boot_heap w.params) s₁.heap && namesBound pw s₁.heap && gensDone s₁ && laidKept (boot_heap w.params) s₁.heap), openSeen vw looseT (importedModules pw.main.body) seesT true s₁, hookT.obs s₁)) = some (true, openGood vw looseT, hookT.val w) := fun w os => by kernel_rfl
theorem headRun (w : World) (os : OsState) : ∃ s₁, topRun treeTable pw w 11 (some (.ref 6)) (12 + (1 + (1678 + (1197 + (988 + 400))))) (sh0 w os) (topStub pw) = some s₁ ∧ ((staticsOk (importedModules pw.main.body) (boot_heap w.params) s₁.heap && namesBound pw s₁.heap && gensDone s₁ && laidKept (boot_heap w.params) s₁.heap), openSeen vw looseT (importedModules pw.main.body) seesT true s₁, hookT.obs s₁) = (true, openGood vw looseT, hookT.val w) := by
  obtain ⟨s₁, k, e⟩ := Option.map_eq_some_iff.mp (headLast w os)
  refine ⟨s₁, ?_, e⟩
  have k3 := piece_app (head42 w os) k
  rw [List.take_append_drop] at k3
  have k2 := piece_app (head34 w os) k3
  rw [List.take_append_drop] at k2
  have k1 := piece_app (head17 w os) k2
  rw [List.take_append_drop] at k1
  have k0 := piece_block (headBlock w os) k1
  exact go_top (headPre w os) k0
theorem headLeft : LeftO pw vw looseT seesT hookT.obs hookT.val 8370 := leftCut (M := (12 + (1 + (1678 + (1197 + (988 + 400))))))
  (boot_open (p := pw) (by kernel_rfl) (by decide) (fun s => by kernel_rfl)) (fun w => by kernel_rfl) headRun (by decide)
theorem headSaid : PySem.Challenge.rw_nu0134_01.wellSaid = true := by decide +kernel
theorem headOk : (chainsOk vw && opensWell PySem.Challenge.rw_nu0134_01.row.prog && (frees PySem.Challenge.rw_nu0134_01.row.toRowW && PySem.Challenge.rw_nu0134_01.row.within.isEmpty)) = true := by decide +kernel

end Mine
theorem Mine.fillInall : PySem.Challenge.rw_nu0134_01 = PySem.Challenge.rw_nu0134_01 ∧ Mine.hp = Mine.hp := by
  k_fill
  exact ⟨rfl, rfl⟩
namespace Mine
local macro_rules | `(tactic| walk_at $s:str) => `(tactic| k_extra $s)
local macro_rules | `(tactic| k_mem) => `(tactic| k_extra "k_mem")
local macro_rules | `(tactic| k_all) => `(tactic| k_extra "k_all")
local macro_rules | `(tactic| k_steps) => `(tactic| k_extra "k_steps")
local macro_rules | `(tactic| k_dec) => `(tactic| k_extra "k_dec")
local macro_rules | `(tactic| k_put) => `(tactic| k_extra "k_put")
local macro_rules | `(tactic| k_room) => `(tactic| k_extra "k_room")
local macro_rules | `(tactic| k_units) => `(tactic| k_extra "k_units")
local macro_rules | `(tactic| units_room) => `(tactic| k_extra "units_room")
local macro_rules | `(tactic| kba_in) => `(tactic| k_extra "kba_in")
local macro_rules | `(tactic| ktr_enter) => `(tactic| k_extra "ktr_enter")
local macro_rules | `(tactic| k_qdec) => `(tactic| k_extra "k_qdec")
inductive An3 (a b c : Prop) : Prop
  | mk (h1 : a) (h2 : b) (h3 : c)
inductive An4 (a b c d : Prop) : Prop
  | mk (h1 : a) (h2 : b) (h3 : c) (h4 : d)
inductive An7 (a b c d e f g : Prop) : Prop
  | mk (h1 : a) (h2 : b) (h3 : c) (h4 : d) (h5 : e) (h6 : f) (h7 : g)
inductive An8 (a b c d e f g h : Prop) : Prop
  | mk (h1 : a) (h2 : b) (h3 : c) (h4 : d) (h5 : e) (h6 : f) (h7 : g) (h8 : h)
inductive An9 (a b c d e f g h i : Prop) : Prop
  | mk (h1 : a) (h2 : b) (h3 : c) (h4 : d) (h5 : e) (h6 : f) (h7 : g) (h8 : h) (h9 : i)
inductive An6 (a0 a1 a2 a3 a4 a5 : Prop) : Prop
  | mk (h0 : a0) (h1 : a1) (h2 : a2) (h3 : a3) (h4 : a4) (h5 : a5)
inductive An10 (a0 a1 a2 a3 a4 a5 a6 a7 a8 a9 : Prop) : Prop
  | mk (h0 : a0) (h1 : a1) (h2 : a2) (h3 : a3) (h4 : a4) (h5 : a5) (h6 : a6) (h7 : a7) (h8 : a8) (h9 : a9)
inductive An15 (a0 a1 a2 a3 a4 a5 a6 a7 a8 a9 a10 a11 a12 a13 a14 : Prop) : Prop
  | mk (h0 : a0) (h1 : a1) (h2 : a2) (h3 : a3) (h4 : a4) (h5 : a5) (h6 : a6) (h7 : a7) (h8 : a8) (h9 : a9) (h10 : a10) (h11 : a11) (h12 : a12) (h13 : a13) (h14 : a14)
abbrev Led := List (Addr × Obj)
theorem Call.at {M : Model} {A : Around} {a : Addr} {vs : List Value} {kw : List (Str × Value)} {Q E : Value → Shared → Prop} {s : Shared} (h : wpAny M A (call (.ref a) vs kw) Q E s) : wpAny M A (call (.ref a) vs kw) Q E s := h
theorem Pop.at {M : Model} {A : Around} {d : Addr} {pl : Sem Bool} {Q : Value × List Value → Shared → Prop} {E : Value → Shared → Prop} {s : Shared} (h : wpAny M A (getMethod (.ref d) (Str.ofString "pop") pl) Q E s) : wpAny M A (getMethod (.ref d) (Str.ofString "pop") pl) Q E s := h
theorem Vals.at {M : Model} {A : Around} {d : Addr} {pl : Sem Bool} {Q : Value × List Value → Shared → Prop} {E : Value → Shared → Prop} {s : Shared} (h : wpAny M A (getMethod (.ref d) (Str.ofString "values") pl) Q E s) : wpAny M A (getMethod (.ref d) (Str.ofString "values") pl) Q E s := h
theorem SubI.at {M : Model} {A : Around} {d : Addr} {k : Int} {t : Tok} {v sl : PySem.Expr} {Q E : Value → Shared → Prop} {s : Shared} (h : wpAny M A (subscriptTail v sl (.ref d) (.int k t)) Q E s) : wpAny M A (subscriptTail v sl (.ref d) (.int k t)) Q E s := h
theorem SubS.at {M : Model} {A : Around} {d : Addr} {k : Str} {t : Tok} {v sl : PySem.Expr} {Q E : Value → Shared → Prop} {s : Shared} (h : wpAny M A (subscriptTail v sl (.ref d) (.str k t)) Q E s) : wpAny M A (subscriptTail v sl (.ref d) (.str k t)) Q E s := h

theorem fold {α : Type} {M : Model} {A : Around} {t : Sem α} {E : Value → Shared → Prop} {s : Shared} (Q : α → Shared → Prop) (h : let q := Q; wpAny M A t q E s) : wpAny M A t Q E s := h
theorem nmAt {M : Model} {A : Around} {x : Str} {p : Pos} {env : Env} {Q E : Value → Shared → Prop} {s : Shared} (h : wpAny M A (eval (.Name x p) env) Q E s) : wpAny M A (eval (.Name x p) env) Q E s := h
theorem ctAt {M : Model} {A : Around} {x : Const} {k : Nat} {p : Pos} {env : Env} {Q E : Value → Shared → Prop} {s : Shared} (h : wpAny M A (eval (.Constant x k p) env) Q E s) : wpAny M A (eval (.Constant x k p) env) Q E s := h
theorem evAt {M : Model} {A : Around} {e : PySem.Expr} {env : Env} {Q E : Value → Shared → Prop} {s : Shared} (h : wpAny M A (eval e env) Q E s) : wpAny M A (eval e env) Q E s := h
theorem trAt {M : Model} {A : Around} {e : PySem.Expr} {env : Env} {Q : Bool → Shared → Prop} {E : Value → Shared → Prop} {s : Shared} (h : wpAny M A (PySem.isTrue e env (eval e env)) Q E s) : wpAny M A (PySem.isTrue e env (eval e env)) Q E s := h
theorem exAt {M : Model} {A : Around} {e : PySem.Stmt} {env : Env} {Q : Flow → Shared → Prop} {E : Value → Shared → Prop} {s : Shared} (h : wpAny M A (exec e env) Q E s) : wpAny M A (exec e env) Q E s := h
theorem spAt {M : Model} {A : Around} {b : List (Bool × Sem Value)} {Q : List Value → Shared → Prop} {E : Value → Shared → Prop} {s : Shared} (h : wpAny M A (spliced b) Q E s) : wpAny M A (spliced b) Q E s := h
theorem rnAt {M : Model} {A : Around} {x : Str} {p q : Pos} {env : Env} {Q : Flow → Shared → Prop} {E : Value → Shared → Prop} {s : Shared} (h : wpAny M A (exec (.Return (some (.Name x p)) q) env) Q E s) : wpAny M A (exec (.Return (some (.Name x p)) q) env) Q E s := h
theorem rcAt {M : Model} {A : Around} {x : Const} {k : Nat} {p q : Pos} {env : Env} {Q : Flow → Shared → Prop} {E : Value → Shared → Prop} {s : Shared} (h : wpAny M A (exec (.Return (some (.Constant x k p)) q) env) Q E s) : wpAny M A (exec (.Return (some (.Constant x k p)) q) env) Q E s := h
theorem reg1 : True := by
  (k_with "k_steps" => repeat' (first | (k_unfold; (try dsimp only)) | (k_end; wrow_close) | ((fail_if_success with_reducible (fail_if_success (first | (refine exAt ?_; fail_if_success refine rnAt ?_; fail_if_success refine rcAt ?_) | refine trAt ?_ | (refine evAt ?_; fail_if_success refine nmAt ?_; fail_if_success refine ctAt ?_)))); (fail_if_success (fail_if_success k_fold)); with_reducible refine fold _ ?_; intro qkw) | walk1 | (dsimp only; walk1) | (leave1; walk_say "STEP leave1"; try dsimp only) | fail "no step"))
  trivial
def Spec (prog : Program) (w : World) (f : Addr) (lvl : Nat) (vs : List Value) (news : Led) (Post : Value → Led → Prop) : Prop :=
  ∀ (p : Program) (loose : List Str) (mean : ExcName → Option Value) (mg mb : Str → Option Value) (dp un : Nat) (gd : Option (List Code)) (cn : Str) (cs : Scope) (a : Addr) (ccd : Value) (cl : List (Str × Addr)) (outer : List Env) (A₀ : Around) (base h₀ : Heap) (L : Addr) (m : Str → Option Value) (hh : Heap) (gs : Array GenState) (dr : Drawn) (tk : Nat) (oz : OsState) (Q E : Value → Shared → Prop),
    Below A₀ base outer h₀ → Fr h₀ L hh m → (hp w.params).In h₀ → News h₀ L hh news → Top p loose mean mg mb h₀ → cs.kind = .function → dp + lvl < 500 → un + 100 * lvl < 9000 →
    (∀ r news' h' tk', Post r news' → Fr h₀ L h' m → News h₀ L h' news' → Q r ⟨h', gs, dr, tk', oz⟩) →
    wpAny (model prog w) (ktrTop dp un gd cn cs L a ccd cl outer) (call (.ref f) vs) Q E ⟨hh, gs, dr, tk, oz⟩

theorem Spec.use {prog : Program} {w : World} {f : Addr} {lvl : Nat} {vs : List Value} {news : Led} {Post : Value → Led → Prop} (C : Spec prog w f lvl vs news Post)
    {p : Program} {loose : List Str} {mean : ExcName → Option Value} {mg mb : Str → Option Value} {dp un : Nat} {gd : Option (List Code)} {cn : Str} {cs : Scope} {a : Addr} {ccd : Value} {cl : List (Str × Addr)} {outer : List Env} {A₀ : Around} {base h₀ : Heap} {L : Addr} {m : Str → Option Value} {hh : Heap} {gs : Array GenState} {dr : Drawn} {tk : Nat} {oz : OsState} {Q E : Value → Shared → Prop} {news₀ : Led}
    (B : Below A₀ base outer h₀) (F : Fr h₀ L hh m) (X : (hp w.params).In h₀) (N : News h₀ L hh news₀) (hs : ∀ q ∈ news, q ∈ news₀) (T : Top p loose mean mg mb h₀) (hk : cs.kind = .function) (hd : dp + lvl < 500) (hu : un + 100 * lvl < 9000)
    (ret : ∀ r news' h' tk', Post r news' → Fr h₀ L h' m → News h₀ L h' news' → Q r ⟨h', gs, dr, tk', oz⟩) :
    wpAny (model prog w) (ktrTop dp un gd cn cs L a ccd cl outer) (call (.ref f) vs) Q E ⟨hh, gs, dr, tk, oz⟩ := C _ _ _ _ _ _ _ _ _ _ _ _ _ _ _ _ _ _ _ _ _ _ _ _ _ _ B F X (fun q hq => N q (hs q hq)) T hk hd hu ret

theorem Spec.mono {prog : Program} {w : World} {f : Addr} {lvl : Nat} {vs : List Value} {news news₀ : Led} {Post Post' : Value → Led → Prop} (C : Spec prog w f lvl vs news Post) (hs : ∀ q ∈ news, q ∈ news₀) (hp : ∀ r l, Post r l → Post' r l) :
    Spec prog w f lvl vs news₀ Post' := by
  intro p loose mean mg mb dp un gd cn cs a ccd cl outer A₀ base h₀ L m hh gs dr tk oz Q E B F X N T hk hd hu ret
  exact C.use B F X N hs T hk hd hu fun r l h' tk' hP => ret r l h' tk' (hp r l hP)

@[reducible] def ent (P : Params) (x : Str) (t : Tok) (v : Value) : DictEntry := ⟨PyData.keyHash P x, .str x t, v⟩

inductive Pick (x : Addr × Obj) : Led → Led → Prop
  | head {r} : Pick x (x :: r) r
  | tail {y r r'} : Pick x r r' → Pick x (y :: r) (y :: r')
theorem Pick.sub {x : Addr × Obj} {l r : Led} (h : Pick x l r) : ∀ p ∈ x :: r, p ∈ l := by
  induction h with
  | head => exact fun _ h => h
  | tail _ ih =>
    intro p hp
    rcases List.mem_cons.mp hp with rfl | hp
    · exact .tail _ (ih _ (.head _))
    · rcases List.mem_cons.mp hp with rfl | hp
      · exact .head _
      · exact .tail _ (ih _ (.tail _ hp))
theorem Pick.nodup {x : Addr × Obj} {l r : Led} (h : Pick x l r) (D : (l.map (·.1)).Nodup) : ((x :: r).map (·.1)).Nodup := by
  induction h with
  | head => exact D
  | @tail y r r' h ih =>
    rw [List.map_cons, List.nodup_cons] at D
    have := ih D.2
    rw [List.map_cons, List.nodup_cons] at this
    have sub := h.sub
    simp only [List.map_cons, List.nodup_cons, List.mem_cons, not_or]
    refine ⟨⟨fun e => D.1 ?_, this.1⟩, fun hm => D.1 ?_, this.2⟩
    · rw [← e]; exact List.mem_map_of_mem (sub x (.head _))
    · obtain ⟨p, hp, e⟩ := List.mem_map.mp hm
      rw [← e]; exact List.mem_map_of_mem (sub p (.tail _ hp))

theorem ne_of_nodup {x : Addr × Obj} {r : Led} (D : ((x :: r).map (·.1)).Nodup) : ∀ p ∈ r, p.1 ≠ x.1 := by
  rw [List.map_cons, List.nodup_cons] at D
  intro p hp e
  exact D.1 (e ▸ List.mem_map_of_mem hp)

theorem UpdF.upd {d : Addr} {o : Obj} {l : Led} {g : Obj → Led} (U : UpdF d o l g) (o' : Obj) : Upd d o o' l (g o') := by
  induction U with
  | head h => exact .head h
  | tail h _ ih => exact .tail h ih

theorem reg2 : True := by
  (k_with "k_all" => assumption)
  (k_with "k_mem" => first | assumption | exact List.mem_append_right _ (by assumption))
  trivial
theorem bd0 {a c d e : Nat} (h : a + c < d := by assumption) (g : Nat.ble d e = true := by rfl) : a < e := Nat.lt_of_lt_of_le (Nat.lt_of_le_of_lt (Nat.le_add_right a c) h) (Nat.le_of_ble_eq_true g)
theorem bd1 {a i c d e : Nat} (h : a + c < d := by assumption) (g : (Nat.ble i c && Nat.ble d e) = true := by rfl) : a + i < e := by
  rw [Bool.and_eq_true] at g
  have := Nat.le_of_ble_eq_true g.1
  have := Nat.le_of_ble_eq_true g.2
  omega
theorem bd2 {a i j c d e : Nat} (h : a + c < d := by assumption) (g : (Nat.ble (i + j) c && Nat.ble d e) = true := by rfl) : a + i + j < e := Nat.add_assoc a i j ▸ bd1 h g
theorem bd3 {a i j k c d e : Nat} (h : a + c < d := by assumption) (g : (Nat.ble (i + (j + k)) c && Nat.ble d e) = true := by rfl) : a + i + j + k < e := Nat.add_assoc (a + i) j k ▸ bd2 h g
theorem bd4 {a i j k l c d e : Nat} (h : a + c < d := by assumption) (g : (Nat.ble (i + (j + (k + l))) c && Nat.ble d e) = true := by rfl) : a + i + j + k + l < e := Nat.add_assoc (a + i + j) k l ▸ bd3 h g
theorem reg3 : True := by
  (k_with "bud" => ((try dsimp only); first | exact bd1 | exact bd2 | exact bd0 | exact bd3 | exact bd4 | omega))
  (k_with "ar" => first | with_reducible assumption | decide | omega)
  trivial
theorem room_of {n : Nat} (h : n < 600) : n < recursionLimit := Nat.lt_of_lt_of_le h (by decide)
theorem line_of {n : Nat} (h : n < 9500) : n < cLine := Nat.lt_of_lt_of_le h (by decide)
theorem reg4 : True := by
  (k_with "k_room" => (refine room_of ?_; (try simp only [depth_under_make, depth_under_kw, depth_in1, depth_deeper]); k_extra "bud"))
  (k_with "k_units" => (refine line_of ?_; (try simp only [units_in1, units_deeper, Around.mark_units]); k_extra "bud"))
  (k_with "units_room" => k_units)
  trivial
theorem ro_sub {l : Led} : ∀ q ∈ l, q ∈ l := fun _ h => h
theorem int_eq {a b : Int} {t : Tok} (h : a = b) : Value.int a t = Value.int b t := by rw [h]
theorem bool_eq {a b : Bool} (h : a = b) : Value.bool a = Value.bool b := by rw [h]
theorem lt_ne {d : Addr} {l : Led} (h : ∀ p ∈ l, p.1 < d) {p : Addr × Obj} (hp : p ∈ l) : p.1 ≠ d := Nat.ne_of_lt (h p hp)
local macro_rules | `(tactic| k_lt $h:ident) => `(tactic| (have hRaw := $h; replace $h := allLt_of $h; (try dsimp only [AllLt] at $h:ident)))
theorem reg5 : True := by
  (k_with "k_all" => (intro pw hpw; refine lt_ne (by assumption) ?_; k_mem))
  (k_with "k_mem" => first | exact Pick.head | (apply Pick.tail; k_mem))
  (k_with "UnrEnd" => (k_here; refine UnrEnd.intro (by k_asm) (by k_asm) _ (Pick.sub (by k_mem)) (by k_all) ?_))
  trivial
section
variable {P : Params} {x y : Str} {t : Tok} {u v key : Value} {hsh : Int} {es es' : List DictEntry} {n : Nat}
theorem put_pair (h : putL x hsh key v es = es') : (putL x hsh key v es, putN x es n) = (es', putN x es n) := by rw [h]
theorem isStr_self {x : Str} {t : Tok} : (Value.str x t).isStr x = true := by simp [Value.isStr]
theorem isStr_ne {x y : Str} {t : Tok} (h : (x == y) = false) : (Value.str x t).isStr y = false := h
theorem putL_hit : putL x hsh key v (ent P x t u :: es) = ent P x t v :: es := by
  show (if (Value.str x t).isStr x = true then _ else _) = _
  rw [if_pos isStr_self]
theorem putL_miss (hne : (x == y) = false) (h : putL y hsh key v es = es') : putL y hsh key v (ent P x t u :: es) = ent P x t u :: es' := by
  show (if (Value.str x t).isStr y = true then _ else _) = _
  rw [if_neg (by rw [isStr_ne hne]; exact Bool.false_ne_true), h]
theorem putL_new : putL y (PyData.keyHash P y) (.str y t) v [] = [ent P y t v] := rfl
end
theorem reg6 : True := by
  (k_with "k_put" => first | (apply put_pair; k_put) | exact putL_hit | exact putL_new | (apply putL_miss; (focus decide); k_put))
  trivial
section
variable {a b c d e : Addr} {oa ob oc od oe : Obj} {rest : Led}
theorem nd1 (D : (((a, oa) :: rest).map (·.1)).Nodup) : ∀ p ∈ rest, p.1 ≠ a := ne_of_nodup D
theorem nd2 (D : (((a, oa) :: (b, ob) :: rest).map (·.1)).Nodup) : An3 (@Ne Nat a b) ((∀ p ∈ rest, p.1 ≠ a)) (∀ p ∈ rest, p.1 ≠ b) := by
  have h := ne_of_nodup D
  rw [List.map_cons, List.nodup_cons] at D
  exact ⟨fun q => h _ (.head _) q.symm, fun p hp => h p (.tail _ hp), nd1 D.2⟩
theorem nd3 (D : (((a, oa) :: (b, ob) :: (c, oc) :: rest).map (·.1)).Nodup) : An6 (@Ne Nat a b) (@Ne Nat a c) (@Ne Nat b c) ((∀ p ∈ rest, p.1 ≠ a)) ((∀ p ∈ rest, p.1 ≠ b)) (∀ p ∈ rest, p.1 ≠ c) := by
  have h := ne_of_nodup D
  rw [List.map_cons, List.nodup_cons] at D
  obtain ⟨h1, h2, h3⟩ := nd2 D.2
  exact ⟨fun q => h _ (.head _) q.symm, fun q => h _ (.tail _ (.head _)) q.symm, h1, fun p hp => h p (.tail _ (.tail _ hp)), h2, h3⟩
theorem nd4 (D : (((a, oa) :: (b, ob) :: (c, oc) :: (d, od) :: rest).map (·.1)).Nodup) : An10 (@Ne Nat a b) (@Ne Nat a c) (@Ne Nat a d) (@Ne Nat b c) (@Ne Nat b d) (@Ne Nat c d) ((∀ p ∈ rest, p.1 ≠ a)) ((∀ p ∈ rest, p.1 ≠ b)) ((∀ p ∈ rest, p.1 ≠ c)) (∀ p ∈ rest, p.1 ≠ d) := by
  have h := ne_of_nodup D
  rw [List.map_cons, List.nodup_cons] at D
  obtain ⟨h1, h2, h3, h4, h5, h6⟩ := nd3 D.2
  exact ⟨fun q => h _ (.head _) q.symm, fun q => h _ (.tail _ (.head _)) q.symm, fun q => h _ (.tail _ (.tail _ (.head _))) q.symm, h1, h2, h3, fun p hp => h p (.tail _ (.tail _ (.tail _ hp))), h4, h5, h6⟩
end
section
variable {prog : Program} {w : World} {A : Around} {E : Value → Shared → Prop} {s : Shared} {h₀ : Heap} {L d : Addr} {news : Led} {o : Obj} {kvs : List (Int × Value)} {k : Int} {key : Value}
variable {ks : List (Str × Value)} {x : Str} {t : Tok} {v : Value} {value slice : PySem.Expr} {g : Obj → Led} {m : Str → Option Value} {hh : Heap} {gs : Array GenState} {dr : Drawn} {tk : Nat} {oz : OsState}
theorem in_I {Q : Value → Shared → Prop} (N : News h₀ L hh news := by k_asm) (hp : (d, o) ∈ news := by k_mem) (hd : o.IsDictOf (intKind prog w) kvs := by k_asm) (lo : (d == sysModules) = false := by k_asm) (h : Q (.bool (valueAt kvs k).isSome) ⟨hh, gs, dr, tk + 1, oz⟩) :
    wpAny (model prog w) A (compareOp .In (.int k t) (.ref d)) Q E ⟨hh, gs, dr, tk, oz⟩ := kda_in (s := ⟨hh, gs, dr, tk, oz⟩) N hp hd lo (intKind_is prog w k t) _ rfl h
theorem notin_I {Q : Value → Shared → Prop} (N : News h₀ L hh news := by k_asm) (hp : (d, o) ∈ news := by k_mem) (hd : o.IsDictOf (intKind prog w) kvs := by k_asm) (lo : (d == sysModules) = false := by k_asm) (h : Q (.bool (!(valueAt kvs k).isSome)) ⟨hh, gs, dr, tk + 1, oz⟩) :
    wpAny (model prog w) A (compareOp .NotIn (.int k t) (.ref d)) Q E ⟨hh, gs, dr, tk, oz⟩ := wpAny_notIn_of (s := ⟨hh, gs, dr, tk, oz⟩) (intKind_is prog w k t) lo (kda_dict (s := ⟨hh, gs, dr, tk, oz⟩) N hp hd).mapOf h
theorem item_I {Q : Value → Shared → Prop} (N : News h₀ L hh news := by k_asm) (hp : (d, o) ∈ news := by k_mem) (hd : o.IsDictOf (intKind prog w) kvs := by k_asm) (hv : valueAt kvs k = some v := by assumption) (h : Q v ⟨hh, gs, dr, tk + 1, oz⟩) (hs : subscripted slice false (.ref d) (.int k t) = operate [.ref d, .int k t] (getItem (.ref d) (.int k t)) := by with_unfolding_all rfl) :
    wpAny (model prog w) A (subscriptTail value slice (.ref d) (.int k t)) Q E ⟨hh, gs, dr, tk, oz⟩ := kba_turn (value' := PySem.Expr.Name (PySem.Str.ofString "_") ⟨0, 0, 0, 0⟩) (fun _ => rfl) (kda_item (s := ⟨hh, gs, dr, tk, oz⟩) N hp hd (intKind_is prog w k t) hv h hs (fun _ => rfl))
theorem item_S {Q : Value → Shared → Prop} (N : News h₀ L hh news := by k_asm) (hp : (d, o) ∈ news := by k_mem) (hd : o.IsDictOf (strKind prog w) ks := by k_asm) (hv : valueAt ks x = some v := by rfl) (h : Q v ⟨hh, gs, dr, tk + 1, oz⟩) (hs : subscripted slice false (.ref d) (.str x t) = operate [.ref d, .str x t] (getItem (.ref d) (.str x t)) := by with_unfolding_all rfl) :
    wpAny (model prog w) A (subscriptTail value slice (.ref d) (.str x t)) Q E ⟨hh, gs, dr, tk, oz⟩ := kba_turn (value' := PySem.Expr.Name (PySem.Str.ofString "_") ⟨0, 0, 0, 0⟩) (fun _ => rfl) (kda_item (s := ⟨hh, gs, dr, tk, oz⟩) N hp hd (strKind_is _ _ _ _) hv h hs (fun _ => rfl))
theorem set_I {Q : Unit → Shared → Prop} (F : Fr h₀ L hh m := by k_asm) (N : News h₀ L hh news := by k_asm) (U : UpdF d o news g := by k_updF) (hd : o.IsDictOf (intKind prog w) kvs := by k_asm) (hsz : kvs.length ≤ sizeLine := by (rw [sizeLine_eq]; omega))
    (h : ∀ h' o', Fr h₀ L h' m → News h₀ L h' (g o') → o'.IsDictOf (intKind prog w) (stored kvs k v) → Q () ⟨h', gs, dr, tk + 1, oz⟩) : wpAny (model prog w) A (setItem (.ref d) (.int k t) v) Q E ⟨hh, gs, dr, tk, oz⟩ := kda_set (s := ⟨hh, gs, dr, tk, oz⟩) F N U hd (intKind_is prog w k t) hsz h
theorem pop_I {Q : Value → Shared → Prop} (F : Fr h₀ L hh m := by k_asm) (N : News h₀ L hh news := by k_asm) (U : UpdF d o news g := by k_updF) (hd : o.IsDictOf (intKind prog w) kvs := by k_asm) (hv : valueAt kvs k = some v := by assumption) (hsz : kvs.length ≤ sizeLine := by (rw [sizeLine_eq]; omega))
    (h : ∀ h' o', Fr h₀ L h' m → News h₀ L h' (g o') → o'.IsDictOf (intKind prog w) (without kvs k) → Q v ⟨h', gs, dr, tk + 1, oz⟩) : wpAny (model prog w) A (call (.builtin "dict.pop") [.ref d, .int k t]) Q E ⟨hh, gs, dr, tk, oz⟩ := kob_pop (s := ⟨hh, gs, dr, tk, oz⟩) (more := []) F N U hd (intKind_is prog w k t) (.inl rfl) rfl (PySem.F.args_dict_pop_2 _ _) hv hsz h
theorem meth_pop {pl : Sem Bool} {Q : Value × List Value → Shared → Prop} (N : News h₀ L s.heap news := by k_asm) (hp : (d, o) ∈ news := by k_mem) (hd : o.IsDictOf (intKind prog w) kvs := by k_asm) (h : Q (.builtin "dict.pop", [.ref d]) s) :
    wpAny (model prog w) A (getMethod (.ref d) (Str.ofString "pop") pl) Q E s := kob_method (knd := intKind prog w) PySem.F.slot_dict_pop PySem.F.type_dict_pop N hp hd h
theorem meth_values {pl : Sem Bool} {Q : Value × List Value → Shared → Prop} (N : News h₀ L s.heap news := by k_asm) (hp : (d, o) ∈ news := by k_mem) (hd : o.IsDictOf (intKind prog w) kvs := by k_asm) (h : Q (.builtin "dict.values", [.ref d]) s) :
    wpAny (model prog w) A (getMethod (.ref d) (Str.ofString "values") pl) Q E s := kdl_method (knd := intKind prog w) PySem.F.slot_dict_values PySem.F.type_dict_values N hp hd h
theorem values_I {Q : Value → Shared → Prop} (F : Fr h₀ L hh m := by k_asm) (N : News h₀ L hh news := by k_asm) (hp : (d, o) ∈ news := by k_mem) (hd : o.IsDictOf (intKind prog w) kvs := by k_asm) (lo : (d == sysModules) = false := by k_asm)
    (h : ∀ (D : Addr) h', Fr h₀ L h' m → News h₀ L h' ((D, { cls := .type "dict_values", data := .fields #[.ref d] }) :: news) → (∀ q ∈ news, q.1 < D) → Q (.ref D) ⟨h', gs, dr, tk, oz⟩) :
    wpAny (model prog w) A (call (.builtin "dict.values") [.ref d]) Q E ⟨hh, gs, dr, tk, oz⟩ := kdl_view_values (s := ⟨hh, gs, dr, tk, oz⟩) (knd := intKind prog w) F N hp hd lo h
end
def zipB (params : Arguments) (vs : List Value) : List (Str × Value) := List.zip (params.args.map (·.arg)) vs
section
variable {prog : Program} {w : World} {A A₀ : Around} {K : Frag} {L : Addr} {h₀ base : Heap} {m mg mb : Str → Option Value} {news : List (Addr × Obj)} {p : Program} {loose : List Str} {mean : ExcName → Option Value}
  {env : Env} {outer : List Env} {R : Result → Shared → Prop} {name qual : Str} {params : Arguments} {body : List Stmt} {scope : Scope} {dV kV doc pm cdv ct oc : Value} {an od : Option Addr} {osl : Array (Option Value)} {f : Addr} {vs : List Value} {binds : List (Str × Value)} {args : Args}
  {hh : Heap} {gs : Array GenState} {dr : Drawn} {tk : Nat} {oz : OsState}
theorem binds_zip {s : Shared} {fd : FuncData} (h : bindArgs fd ⟨vs, []⟩ = pure (zipB fd.params vs)) : BindsTo s fd ⟨vs, []⟩ (zipB fd.params vs) := .of_eq h
theorem cls_call {C fI : Addr} {pos : List Value} {kw : List (Str × Value)} {Q E : Value → Shared → Prop} (F : Fr h₀ L hh m := by k_asm) (X₀ : K.In h₀ := by k_asm) (N : News h₀ L hh news := by k_asm) (hm : makesIn K C = true := by k_is) (hi : findIn K (.ref C) "__init__" = some (some (.ref fI)) := by k_is) (hf : isFn K (.ref fI) = true := by k_is)
    (h : ∀ x dx h', Fr h₀ L h' m → News h₀ L h' ((x, instObj C dx) :: (dx, dictOf [] 0) :: news) → (∀ p ∈ news, p.1 < dx) → dx < x →
      codeAny (model prog w) (A.under (.builtin "type.__call__" ⟨.ref C :: pos, kw⟩)) (.call (.ref fI) ⟨.ref x :: pos, kw⟩) (InitBack x fun r s' => match r with | .ok (.ret v) => Q v s' | .ok _ => False | .error e => E e s') ⟨h', gs, dr, tk, oz⟩) :
    wpAny (model prog w) A (call (.ref C) pos kw) Q E ⟨hh, gs, dr, tk, oz⟩ := call_cls (s := ⟨hh, gs, dr, tk, oz⟩) F X₀ N hm hi hf h
theorem code_let (B : Below A₀ base outer h₀ := by k_asm) (F : Fr h₀ L hh m := by k_asm) (X₀ : K.In h₀ := by k_asm) (N : News h₀ L hh news := by k_asm) (T : Top p loose mean mg mb h₀ := by k_asm) (hA : A.frames = some (env :: outer) := by rfl) (hf : env.frame = some L := by rfl) (hke : env.scope.kind = .function := by first | exact rfl | assumption)
    (ho : K.lookup f = some ⟨oc, od, .func (fnOf name qual params body scope dV kV doc pm an cdv ct), osl⟩ := by k_is) (hcd : codeIn K cdv qual = true := by k_is) (hroom : A.depth < recursionLimit := by k_room)
    (hbind : BindsTo ⟨hh, gs, dr, tk, oz⟩ (fnOf name qual params body scope dV kV doc pm an cdv ct) args binds := by first | exact binds_zip rfl | exact BindsTo.of_eq rfl | exact binds_K (by k_in) rfl (by k_is) rfl rfl rfl) (hloc : ∀ y ∈ binds, scope.names.lookup y.1 = some .local := by exact locs rfl)
    (h : ∀ g L' h₁ tk', Fr h₀ L g m → Fr g L' h₁ (fun y => binds.reverse.lookup y) → News g L' h₁ news → Below A base (env :: outer) g → K.In g → Top p loose mean mg mb g →
      let ak := A.deeper (envOf qual scope L' f cdv)
      let qk : Flow → Shared → Prop := fun fl s' => LeaveK h₀ L m g R (match fl with | .ret v => v | _ => .none) s'
      let ek : Value → Shared → Prop := fun e s' => wpAny (model prog w) ak (leaving (envOf qual scope L' f cdv) e) (fun _ s'' => R (.error e) s'') (fun e' s'' => R (.error e') s'') s'
      wpAny (model prog w) ak (execs body (envOf qual scope L' f cdv)) qk ek ⟨h₁, gs, dr, tk', oz⟩)
    (hco : scope.isCoroutine = false := by rfl) (hgen : scope.isGenerator = false := by rfl) (hk : scope.kind = .function := by rfl)
    (hcell : ∀ x ∈ scope.names, x.2 ≠ .cell := by decide) : codeAny (model prog w) A (.call (.ref f) args) R ⟨hh, gs, dr, tk, oz⟩ :=
  code_def (s := ⟨hh, gs, dr, tk, oz⟩) B F X₀ N T hA hf hke ho hcd hroom hbind hloc (fun g L' h₁ FG F' N' B' X' T' => h g L' h₁ _ FG F' N' B' X' T') hco hgen hk hcell
end
theorem reg7 : True := by
  (k_with "ktr_enter" => (refine code_let (h := ?_); k_whole; intro g'w L'w h'w tk'w FG'w F'w N'w B'w X'w T'w akw qkw ekw))
  (k_with "call ref" => (k_dflt (refine cls_call (h := ?_); intro x'w d'w h'w F'w N'w l1w l2w; (try k_lt l1w); (try k_lt2 l2w); (try k_sweep); ktr_enter)))
  (k_with "setItem ref int" => (k_dflt (refine set_I (h := ?_)); intro h'w o'w F'w N'w hd'w; (try dsimp only at N'w); (try k_sweep)))
  (k_with "k_dec" => (law_purse 200000 => (law_clear; (try simp only [beq_iff_eq, beq_eq_false_iff_ne, bne_iff_ne, ne_eq, decide_eq_true_eq, decide_eq_false_iff_not, Bool.and_eq_true, Bool.not_eq_true', Bool.not_eq_false', Bool.not_eq_true]); omega)))
  (k_with "compareOp In int ref" => k_dflt (refine in_I (h := ?_)))
  (k_with "compareOp NotIn int ref" => k_dflt (refine notin_I (h := ?_)))
  (k_with "subscriptTail" => first | (with_reducible refine SubI.at ?_; k_dflt (refine item_I (h := ?_))) | (with_reducible refine SubS.at ?_; k_dflt (refine item_S (h := ?_))))
  (k_with "getMethod ref" => first | (with_reducible refine Pop.at ?_; k_dflt (refine meth_pop (h := ?_))) | (with_reducible refine Vals.at ?_; k_dflt (refine meth_values (h := ?_))))
  (k_with "call builtin:dict.pop" => (k_dflt (refine pop_I (h := ?_)); intro h'w o'w F'w N'w hd'w; (try dsimp only at N'w); (try k_sweep)))
  (k_with "subscriptTail Name Name ref int" => k_dflt (refine item_I (h := ?_)))
  (k_with "subscriptTail Name Constant ref str" => k_dflt (refine item_S (h := ?_)))
  (k_with "subscriptTail Attribute" => first | (with_reducible refine SubI.at ?_; k_dflt (refine item_I (h := ?_))) | (with_reducible refine SubS.at ?_; k_dflt (refine item_S (h := ?_))))
  (k_with "subscriptTail Subscript" => (with_reducible refine SubS.at ?_; k_dflt (refine item_S (h := ?_))))
  trivial
section
variable {prog : Program} {w : World} {fn : Addr} {lvl : Nat} {vs : List Value} {news : Led} {p : Program} {loose : List Str} {mean : ExcName → Option Value} {mg mb : Str → Option Value} {dp un : Nat} {gd : Option (List Code)} {cn : Str} {cs : Scope} {ca : Addr} {ccd : Value} {cl : List (Str × Addr)} {outer : List Env} {A₀ : Around} {base h₀ : Heap} {L : Addr} {m : Str → Option Value} {hh : Heap} {gs : Array GenState} {dr : Drawn} {tk : Nat} {os : OsState} {Q E : Value → Shared → Prop} {news₀ : Led}
inductive Q1 {A0 : Type} (f : A0 → Value) (g : A0 → Led) (P : A0 → Prop) : Value → Led → Prop
  | mk (a : A0) (h : P a) : Q1 f g P (f a) (g a)
theorem Spec.uq1 {A0 : Type} {f : A0 → Value} {g : A0 → Led} {P : A0 → Prop} (C : Spec prog w fn lvl vs news (Q1 f g P)) (B : Below A₀ base outer h₀ := by k_asm) (F : Fr h₀ L hh m := by k_asm) (X : (hp w.params).In h₀ := by k_asm) (N : News h₀ L hh news₀ := by k_asm) (hs : ∀ q ∈ news, q ∈ news₀ := by exact ro_sub) (T : Top p loose mean mg mb h₀ := by k_asm) (hk : cs.kind = .function := by first | exact rfl | assumption) (hd : dp + lvl < 500 := by k_extra "bud") (hu : un + 100 * lvl < 9000 := by k_extra "bud") (ret : ∀ a h' tk', P a → Fr h₀ L h' m → News h₀ L h' (g a) → Q (f a) ⟨h', gs, dr, tk', os⟩) :
    wpAny (model prog w) (ktrTop dp un gd cn cs L ca ccd cl outer) (call (.ref fn) vs) Q E ⟨hh, gs, dr, tk, os⟩ := C.use B F X N hs T hk hd hu (by rintro r n h' tk' ⟨a, h⟩ F N; exact ret a h' tk' h F N)
theorem Spec.gq1 {A0 : Type} {f : A0 → Value} {g : A0 → Led} {P : A0 → Prop} (B : Below A₀ base outer h₀ := by k_asm) (F : Fr h₀ L hh m := by k_asm) (X : (hp w.params).In h₀ := by k_asm) (N : News h₀ L hh news₀ := by k_asm) (hs : ∀ q ∈ news, q ∈ news₀ := by exact ro_sub) (C : Spec prog w fn lvl vs news (Q1 f g P)) (T : Top p loose mean mg mb h₀ := by k_asm) (hk : cs.kind = .function := by first | exact rfl | assumption) (hd : dp + lvl < 500 := by k_extra "bud") (hu : un + 100 * lvl < 9000 := by k_extra "bud") (ret : ∀ a h' tk', P a → Fr h₀ L h' m → News h₀ L h' (g a) → Q (f a) ⟨h', gs, dr, tk', os⟩) :
    wpAny (model prog w) (ktrTop dp un gd cn cs L ca ccd cl outer) (call (.ref fn) vs) Q E ⟨hh, gs, dr, tk, os⟩ := C.uq1 B F X N hs T hk hd hu ret
inductive Q2 {A0 A1 : Type} (f : A0 → A1 → Value) (g : A0 → A1 → Led) (P : A0 → A1 → Prop) : Value → Led → Prop
  | mk (a : A0) (b : A1) (h : P a b) : Q2 f g P (f a b) (g a b)
theorem Spec.uq2 {A0 A1 : Type} {f : A0 → A1 → Value} {g : A0 → A1 → Led} {P : A0 → A1 → Prop} (C : Spec prog w fn lvl vs news (Q2 f g P)) (B : Below A₀ base outer h₀ := by k_asm) (F : Fr h₀ L hh m := by k_asm) (X : (hp w.params).In h₀ := by k_asm) (N : News h₀ L hh news₀ := by k_asm) (hs : ∀ q ∈ news, q ∈ news₀ := by exact ro_sub) (T : Top p loose mean mg mb h₀ := by k_asm) (hk : cs.kind = .function := by first | exact rfl | assumption) (hd : dp + lvl < 500 := by k_extra "bud") (hu : un + 100 * lvl < 9000 := by k_extra "bud") (ret : ∀ a b h' tk', P a b → Fr h₀ L h' m → News h₀ L h' (g a b) → Q (f a b) ⟨h', gs, dr, tk', os⟩) :
    wpAny (model prog w) (ktrTop dp un gd cn cs L ca ccd cl outer) (call (.ref fn) vs) Q E ⟨hh, gs, dr, tk, os⟩ := C.use B F X N hs T hk hd hu (by rintro r n h' tk' ⟨a, b, h⟩ F N; exact ret a b h' tk' h F N)
theorem Spec.gq2 {A0 A1 : Type} {f : A0 → A1 → Value} {g : A0 → A1 → Led} {P : A0 → A1 → Prop} (B : Below A₀ base outer h₀ := by k_asm) (F : Fr h₀ L hh m := by k_asm) (X : (hp w.params).In h₀ := by k_asm) (N : News h₀ L hh news₀ := by k_asm) (hs : ∀ q ∈ news, q ∈ news₀ := by exact ro_sub) (C : Spec prog w fn lvl vs news (Q2 f g P)) (T : Top p loose mean mg mb h₀ := by k_asm) (hk : cs.kind = .function := by first | exact rfl | assumption) (hd : dp + lvl < 500 := by k_extra "bud") (hu : un + 100 * lvl < 9000 := by k_extra "bud") (ret : ∀ a b h' tk', P a b → Fr h₀ L h' m → News h₀ L h' (g a b) → Q (f a b) ⟨h', gs, dr, tk', os⟩) :
    wpAny (model prog w) (ktrTop dp un gd cn cs L ca ccd cl outer) (call (.ref fn) vs) Q E ⟨hh, gs, dr, tk, os⟩ := C.uq2 B F X N hs T hk hd hu ret
inductive Q3 {A0 A1 A2 : Type} (f : A0 → A1 → A2 → Value) (g : A0 → A1 → A2 → Led) (P : A0 → A1 → A2 → Prop) : Value → Led → Prop
  | mk (a : A0) (b : A1) (c : A2) (h : P a b c) : Q3 f g P (f a b c) (g a b c)
theorem Spec.uq3 {A0 A1 A2 : Type} {f : A0 → A1 → A2 → Value} {g : A0 → A1 → A2 → Led} {P : A0 → A1 → A2 → Prop} (C : Spec prog w fn lvl vs news (Q3 f g P)) (B : Below A₀ base outer h₀ := by k_asm) (F : Fr h₀ L hh m := by k_asm) (X : (hp w.params).In h₀ := by k_asm) (N : News h₀ L hh news₀ := by k_asm) (hs : ∀ q ∈ news, q ∈ news₀ := by exact ro_sub) (T : Top p loose mean mg mb h₀ := by k_asm) (hk : cs.kind = .function := by first | exact rfl | assumption) (hd : dp + lvl < 500 := by k_extra "bud") (hu : un + 100 * lvl < 9000 := by k_extra "bud") (ret : ∀ a b c h' tk', P a b c → Fr h₀ L h' m → News h₀ L h' (g a b c) → Q (f a b c) ⟨h', gs, dr, tk', os⟩) :
    wpAny (model prog w) (ktrTop dp un gd cn cs L ca ccd cl outer) (call (.ref fn) vs) Q E ⟨hh, gs, dr, tk, os⟩ := C.use B F X N hs T hk hd hu (by rintro r n h' tk' ⟨a, b, c, h⟩ F N; exact ret a b c h' tk' h F N)
theorem Spec.gq3 {A0 A1 A2 : Type} {f : A0 → A1 → A2 → Value} {g : A0 → A1 → A2 → Led} {P : A0 → A1 → A2 → Prop} (B : Below A₀ base outer h₀ := by k_asm) (F : Fr h₀ L hh m := by k_asm) (X : (hp w.params).In h₀ := by k_asm) (N : News h₀ L hh news₀ := by k_asm) (hs : ∀ q ∈ news, q ∈ news₀ := by exact ro_sub) (C : Spec prog w fn lvl vs news (Q3 f g P)) (T : Top p loose mean mg mb h₀ := by k_asm) (hk : cs.kind = .function := by first | exact rfl | assumption) (hd : dp + lvl < 500 := by k_extra "bud") (hu : un + 100 * lvl < 9000 := by k_extra "bud") (ret : ∀ a b c h' tk', P a b c → Fr h₀ L h' m → News h₀ L h' (g a b c) → Q (f a b c) ⟨h', gs, dr, tk', os⟩) :
    wpAny (model prog w) (ktrTop dp un gd cn cs L ca ccd cl outer) (call (.ref fn) vs) Q E ⟨hh, gs, dr, tk, os⟩ := C.uq3 B F X N hs T hk hd hu ret
inductive Q4 {A0 A1 A2 A3 : Type} (f : A0 → A1 → A2 → A3 → Value) (g : A0 → A1 → A2 → A3 → Led) (P : A0 → A1 → A2 → A3 → Prop) : Value → Led → Prop
  | mk (a : A0) (b : A1) (c : A2) (d : A3) (h : P a b c d) : Q4 f g P (f a b c d) (g a b c d)
theorem Spec.uq4 {A0 A1 A2 A3 : Type} {f : A0 → A1 → A2 → A3 → Value} {g : A0 → A1 → A2 → A3 → Led} {P : A0 → A1 → A2 → A3 → Prop} (C : Spec prog w fn lvl vs news (Q4 f g P)) (B : Below A₀ base outer h₀ := by k_asm) (F : Fr h₀ L hh m := by k_asm) (X : (hp w.params).In h₀ := by k_asm) (N : News h₀ L hh news₀ := by k_asm) (hs : ∀ q ∈ news, q ∈ news₀ := by exact ro_sub) (T : Top p loose mean mg mb h₀ := by k_asm) (hk : cs.kind = .function := by first | exact rfl | assumption) (hd : dp + lvl < 500 := by k_extra "bud") (hu : un + 100 * lvl < 9000 := by k_extra "bud") (ret : ∀ a b c d h' tk', P a b c d → Fr h₀ L h' m → News h₀ L h' (g a b c d) → Q (f a b c d) ⟨h', gs, dr, tk', os⟩) :
    wpAny (model prog w) (ktrTop dp un gd cn cs L ca ccd cl outer) (call (.ref fn) vs) Q E ⟨hh, gs, dr, tk, os⟩ := C.use B F X N hs T hk hd hu (by rintro r n h' tk' ⟨a, b, c, d, h⟩ F N; exact ret a b c d h' tk' h F N)
theorem Spec.gq4 {A0 A1 A2 A3 : Type} {f : A0 → A1 → A2 → A3 → Value} {g : A0 → A1 → A2 → A3 → Led} {P : A0 → A1 → A2 → A3 → Prop} (B : Below A₀ base outer h₀ := by k_asm) (F : Fr h₀ L hh m := by k_asm) (X : (hp w.params).In h₀ := by k_asm) (N : News h₀ L hh news₀ := by k_asm) (hs : ∀ q ∈ news, q ∈ news₀ := by exact ro_sub) (C : Spec prog w fn lvl vs news (Q4 f g P)) (T : Top p loose mean mg mb h₀ := by k_asm) (hk : cs.kind = .function := by first | exact rfl | assumption) (hd : dp + lvl < 500 := by k_extra "bud") (hu : un + 100 * lvl < 9000 := by k_extra "bud") (ret : ∀ a b c d h' tk', P a b c d → Fr h₀ L h' m → News h₀ L h' (g a b c d) → Q (f a b c d) ⟨h', gs, dr, tk', os⟩) :
    wpAny (model prog w) (ktrTop dp un gd cn cs L ca ccd cl outer) (call (.ref fn) vs) Q E ⟨hh, gs, dr, tk, os⟩ := C.uq4 B F X N hs T hk hd hu ret
inductive Q5 {A0 A1 A2 A3 A4 : Type} (f : A0 → A1 → A2 → A3 → A4 → Value) (g : A0 → A1 → A2 → A3 → A4 → Led) (P : A0 → A1 → A2 → A3 → A4 → Prop) : Value → Led → Prop
  | mk (a : A0) (b : A1) (c : A2) (d : A3) (e : A4) (h : P a b c d e) : Q5 f g P (f a b c d e) (g a b c d e)
theorem Spec.uq5 {A0 A1 A2 A3 A4 : Type} {f : A0 → A1 → A2 → A3 → A4 → Value} {g : A0 → A1 → A2 → A3 → A4 → Led} {P : A0 → A1 → A2 → A3 → A4 → Prop} (C : Spec prog w fn lvl vs news (Q5 f g P)) (B : Below A₀ base outer h₀ := by k_asm) (F : Fr h₀ L hh m := by k_asm) (X : (hp w.params).In h₀ := by k_asm) (N : News h₀ L hh news₀ := by k_asm) (hs : ∀ q ∈ news, q ∈ news₀ := by exact ro_sub) (T : Top p loose mean mg mb h₀ := by k_asm) (hk : cs.kind = .function := by first | exact rfl | assumption) (hd : dp + lvl < 500 := by k_extra "bud") (hu : un + 100 * lvl < 9000 := by k_extra "bud") (ret : ∀ a b c d e h' tk', P a b c d e → Fr h₀ L h' m → News h₀ L h' (g a b c d e) → Q (f a b c d e) ⟨h', gs, dr, tk', os⟩) :
    wpAny (model prog w) (ktrTop dp un gd cn cs L ca ccd cl outer) (call (.ref fn) vs) Q E ⟨hh, gs, dr, tk, os⟩ := C.use B F X N hs T hk hd hu (by rintro r n h' tk' ⟨a, b, c, d, e, h⟩ F N; exact ret a b c d e h' tk' h F N)
theorem Spec.gq5 {A0 A1 A2 A3 A4 : Type} {f : A0 → A1 → A2 → A3 → A4 → Value} {g : A0 → A1 → A2 → A3 → A4 → Led} {P : A0 → A1 → A2 → A3 → A4 → Prop} (B : Below A₀ base outer h₀ := by k_asm) (F : Fr h₀ L hh m := by k_asm) (X : (hp w.params).In h₀ := by k_asm) (N : News h₀ L hh news₀ := by k_asm) (hs : ∀ q ∈ news, q ∈ news₀ := by exact ro_sub) (C : Spec prog w fn lvl vs news (Q5 f g P)) (T : Top p loose mean mg mb h₀ := by k_asm) (hk : cs.kind = .function := by first | exact rfl | assumption) (hd : dp + lvl < 500 := by k_extra "bud") (hu : un + 100 * lvl < 9000 := by k_extra "bud") (ret : ∀ a b c d e h' tk', P a b c d e → Fr h₀ L h' m → News h₀ L h' (g a b c d e) → Q (f a b c d e) ⟨h', gs, dr, tk', os⟩) :
    wpAny (model prog w) (ktrTop dp un gd cn cs L ca ccd cl outer) (call (.ref fn) vs) Q E ⟨hh, gs, dr, tk, os⟩ := C.uq5 B F X N hs T hk hd hu ret
inductive Q7 {A0 A1 A2 A3 A4 A5 A6 : Type} (f : A0 → A1 → A2 → A3 → A4 → A5 → A6 → Value) (g : A0 → A1 → A2 → A3 → A4 → A5 → A6 → Led) (P : A0 → A1 → A2 → A3 → A4 → A5 → A6 → Prop) : Value → Led → Prop
  | mk (a : A0) (b : A1) (c : A2) (d : A3) (e : A4) (x : A5) (y : A6) (h : P a b c d e x y) : Q7 f g P (f a b c d e x y) (g a b c d e x y)
theorem Spec.uq7 {A0 A1 A2 A3 A4 A5 A6 : Type} {f : A0 → A1 → A2 → A3 → A4 → A5 → A6 → Value} {g : A0 → A1 → A2 → A3 → A4 → A5 → A6 → Led} {P : A0 → A1 → A2 → A3 → A4 → A5 → A6 → Prop} (C : Spec prog w fn lvl vs news (Q7 f g P)) (B : Below A₀ base outer h₀ := by k_asm) (F : Fr h₀ L hh m := by k_asm) (X : (hp w.params).In h₀ := by k_asm) (N : News h₀ L hh news₀ := by k_asm) (hs : ∀ q ∈ news, q ∈ news₀ := by exact ro_sub) (T : Top p loose mean mg mb h₀ := by k_asm) (hk : cs.kind = .function := by first | exact rfl | assumption) (hd : dp + lvl < 500 := by k_extra "bud") (hu : un + 100 * lvl < 9000 := by k_extra "bud") (ret : ∀ a b c d e x y h' tk', P a b c d e x y → Fr h₀ L h' m → News h₀ L h' (g a b c d e x y) → Q (f a b c d e x y) ⟨h', gs, dr, tk', os⟩) :
    wpAny (model prog w) (ktrTop dp un gd cn cs L ca ccd cl outer) (call (.ref fn) vs) Q E ⟨hh, gs, dr, tk, os⟩ := C.use B F X N hs T hk hd hu (by rintro r n h' tk' ⟨a, b, c, d, e, x, y, h⟩ F N; exact ret a b c d e x y h' tk' h F N)
theorem Spec.gq7 {A0 A1 A2 A3 A4 A5 A6 : Type} {f : A0 → A1 → A2 → A3 → A4 → A5 → A6 → Value} {g : A0 → A1 → A2 → A3 → A4 → A5 → A6 → Led} {P : A0 → A1 → A2 → A3 → A4 → A5 → A6 → Prop} (B : Below A₀ base outer h₀ := by k_asm) (F : Fr h₀ L hh m := by k_asm) (X : (hp w.params).In h₀ := by k_asm) (N : News h₀ L hh news₀ := by k_asm) (hs : ∀ q ∈ news, q ∈ news₀ := by exact ro_sub) (C : Spec prog w fn lvl vs news (Q7 f g P)) (T : Top p loose mean mg mb h₀ := by k_asm) (hk : cs.kind = .function := by first | exact rfl | assumption) (hd : dp + lvl < 500 := by k_extra "bud") (hu : un + 100 * lvl < 9000 := by k_extra "bud") (ret : ∀ a b c d e x y h' tk', P a b c d e x y → Fr h₀ L h' m → News h₀ L h' (g a b c d e x y) → Q (f a b c d e x y) ⟨h', gs, dr, tk', os⟩) :
    wpAny (model prog w) (ktrTop dp un gd cn cs L ca ccd cl outer) (call (.ref fn) vs) Q E ⟨hh, gs, dr, tk, os⟩ := C.uq7 B F X N hs T hk hd hu ret
inductive Q11 {A0 A1 A2 A3 A4 A5 A6 A7 A8 A9 A10 : Type} (f : A0 → A1 → A2 → A3 → A4 → A5 → A6 → A7 → A8 → A9 → A10 → Value) (g : A0 → A1 → A2 → A3 → A4 → A5 → A6 → A7 → A8 → A9 → A10 → Led) (P : A0 → A1 → A2 → A3 → A4 → A5 → A6 → A7 → A8 → A9 → A10 → Prop) : Value → Led → Prop
  | mk (a : A0) (b : A1) (c : A2) (d : A3) (e : A4) (x : A5) (y : A6) (z0 : A7) (z1 : A8) (z2 : A9) (z3 : A10) (h : P a b c d e x y z0 z1 z2 z3) : Q11 f g P (f a b c d e x y z0 z1 z2 z3) (g a b c d e x y z0 z1 z2 z3)
theorem Spec.uq11 {A0 A1 A2 A3 A4 A5 A6 A7 A8 A9 A10 : Type} {f : A0 → A1 → A2 → A3 → A4 → A5 → A6 → A7 → A8 → A9 → A10 → Value} {g : A0 → A1 → A2 → A3 → A4 → A5 → A6 → A7 → A8 → A9 → A10 → Led} {P : A0 → A1 → A2 → A3 → A4 → A5 → A6 → A7 → A8 → A9 → A10 → Prop} (C : Spec prog w fn lvl vs news (Q11 f g P)) (B : Below A₀ base outer h₀ := by k_asm) (F : Fr h₀ L hh m := by k_asm) (X : (hp w.params).In h₀ := by k_asm) (N : News h₀ L hh news₀ := by k_asm) (hs : ∀ q ∈ news, q ∈ news₀ := by exact ro_sub) (T : Top p loose mean mg mb h₀ := by k_asm) (hk : cs.kind = .function := by first | exact rfl | assumption) (hd : dp + lvl < 500 := by k_extra "bud") (hu : un + 100 * lvl < 9000 := by k_extra "bud") (ret : ∀ a b c d e x y z0 z1 z2 z3 h' tk', P a b c d e x y z0 z1 z2 z3 → Fr h₀ L h' m → News h₀ L h' (g a b c d e x y z0 z1 z2 z3) → Q (f a b c d e x y z0 z1 z2 z3) ⟨h', gs, dr, tk', os⟩) :
    wpAny (model prog w) (ktrTop dp un gd cn cs L ca ccd cl outer) (call (.ref fn) vs) Q E ⟨hh, gs, dr, tk, os⟩ := C.use B F X N hs T hk hd hu (by rintro r n h' tk' ⟨a, b, c, d, e, x, y, z0, z1, z2, z3, h⟩ F N; exact ret a b c d e x y z0 z1 z2 z3 h' tk' h F N)
inductive Q16 {A0 A1 A2 A3 A4 A5 A6 A7 A8 A9 A10 A11 A12 A13 A14 A15 : Type} (f : A0 → A1 → A2 → A3 → A4 → A5 → A6 → A7 → A8 → A9 → A10 → A11 → A12 → A13 → A14 → A15 → Value) (g : A0 → A1 → A2 → A3 → A4 → A5 → A6 → A7 → A8 → A9 → A10 → A11 → A12 → A13 → A14 → A15 → Led) (P : A0 → A1 → A2 → A3 → A4 → A5 → A6 → A7 → A8 → A9 → A10 → A11 → A12 → A13 → A14 → A15 → Prop) : Value → Led → Prop
  | mk (a : A0) (b : A1) (c : A2) (d : A3) (e : A4) (x : A5) (y : A6) (z0 : A7) (z1 : A8) (z2 : A9) (z3 : A10) (z4 : A11) (z5 : A12) (z6 : A13) (z7 : A14) (z8 : A15) (h : P a b c d e x y z0 z1 z2 z3 z4 z5 z6 z7 z8) : Q16 f g P (f a b c d e x y z0 z1 z2 z3 z4 z5 z6 z7 z8) (g a b c d e x y z0 z1 z2 z3 z4 z5 z6 z7 z8)
theorem Spec.uq16 {A0 A1 A2 A3 A4 A5 A6 A7 A8 A9 A10 A11 A12 A13 A14 A15 : Type} {f : A0 → A1 → A2 → A3 → A4 → A5 → A6 → A7 → A8 → A9 → A10 → A11 → A12 → A13 → A14 → A15 → Value} {g : A0 → A1 → A2 → A3 → A4 → A5 → A6 → A7 → A8 → A9 → A10 → A11 → A12 → A13 → A14 → A15 → Led} {P : A0 → A1 → A2 → A3 → A4 → A5 → A6 → A7 → A8 → A9 → A10 → A11 → A12 → A13 → A14 → A15 → Prop} (C : Spec prog w fn lvl vs news (Q16 f g P)) (B : Below A₀ base outer h₀ := by k_asm) (F : Fr h₀ L hh m := by k_asm) (X : (hp w.params).In h₀ := by k_asm) (N : News h₀ L hh news₀ := by k_asm) (hs : ∀ q ∈ news, q ∈ news₀ := by exact ro_sub) (T : Top p loose mean mg mb h₀ := by k_asm) (hk : cs.kind = .function := by first | exact rfl | assumption) (hd : dp + lvl < 500 := by k_extra "bud") (hu : un + 100 * lvl < 9000 := by k_extra "bud") (ret : ∀ a b c d e x y z0 z1 z2 z3 z4 z5 z6 z7 z8 h' tk', P a b c d e x y z0 z1 z2 z3 z4 z5 z6 z7 z8 → Fr h₀ L h' m → News h₀ L h' (g a b c d e x y z0 z1 z2 z3 z4 z5 z6 z7 z8) → Q (f a b c d e x y z0 z1 z2 z3 z4 z5 z6 z7 z8) ⟨h', gs, dr, tk', os⟩) :
    wpAny (model prog w) (ktrTop dp un gd cn cs L ca ccd cl outer) (call (.ref fn) vs) Q E ⟨hh, gs, dr, tk, os⟩ := C.use B F X N hs T hk hd hu (by rintro r n h' tk' ⟨a, b, c, d, e, x, y, z0, z1, z2, z3, z4, z5, z6, z7, z8, h⟩ F N; exact ret a b c d e x y z0 z1 z2 z3 z4 z5 z6 z7 z8 h' tk' h F N)
inductive Q23 {A0 A1 A2 A3 A4 A5 A6 A7 A8 A9 A10 A11 A12 A13 A14 A15 A16 A17 A18 A19 A20 A21 A22 : Type} (f : A0 → A1 → A2 → A3 → A4 → A5 → A6 → A7 → A8 → A9 → A10 → A11 → A12 → A13 → A14 → A15 → A16 → A17 → A18 → A19 → A20 → A21 → A22 → Value) (g : A0 → A1 → A2 → A3 → A4 → A5 → A6 → A7 → A8 → A9 → A10 → A11 → A12 → A13 → A14 → A15 → A16 → A17 → A18 → A19 → A20 → A21 → A22 → Led) (P : A0 → A1 → A2 → A3 → A4 → A5 → A6 → A7 → A8 → A9 → A10 → A11 → A12 → A13 → A14 → A15 → A16 → A17 → A18 → A19 → A20 → A21 → A22 → Prop) : Value → Led → Prop
  | mk (a : A0) (b : A1) (c : A2) (d : A3) (e : A4) (x : A5) (y : A6) (z0 : A7) (z1 : A8) (z2 : A9) (z3 : A10) (z4 : A11) (z5 : A12) (z6 : A13) (z7 : A14) (z8 : A15) (z9 : A16) (z10 : A17) (z11 : A18) (z12 : A19) (z13 : A20) (z14 : A21) (z15 : A22) (h : P a b c d e x y z0 z1 z2 z3 z4 z5 z6 z7 z8 z9 z10 z11 z12 z13 z14 z15) : Q23 f g P (f a b c d e x y z0 z1 z2 z3 z4 z5 z6 z7 z8 z9 z10 z11 z12 z13 z14 z15) (g a b c d e x y z0 z1 z2 z3 z4 z5 z6 z7 z8 z9 z10 z11 z12 z13 z14 z15)
theorem Spec.uq23 {A0 A1 A2 A3 A4 A5 A6 A7 A8 A9 A10 A11 A12 A13 A14 A15 A16 A17 A18 A19 A20 A21 A22 : Type} {f : A0 → A1 → A2 → A3 → A4 → A5 → A6 → A7 → A8 → A9 → A10 → A11 → A12 → A13 → A14 → A15 → A16 → A17 → A18 → A19 → A20 → A21 → A22 → Value} {g : A0 → A1 → A2 → A3 → A4 → A5 → A6 → A7 → A8 → A9 → A10 → A11 → A12 → A13 → A14 → A15 → A16 → A17 → A18 → A19 → A20 → A21 → A22 → Led} {P : A0 → A1 → A2 → A3 → A4 → A5 → A6 → A7 → A8 → A9 → A10 → A11 → A12 → A13 → A14 → A15 → A16 → A17 → A18 → A19 → A20 → A21 → A22 → Prop} (C : Spec prog w fn lvl vs news (Q23 f g P)) (B : Below A₀ base outer h₀ := by k_asm) (F : Fr h₀ L hh m := by k_asm) (X : (hp w.params).In h₀ := by k_asm) (N : News h₀ L hh news₀ := by k_asm) (hs : ∀ q ∈ news, q ∈ news₀ := by exact ro_sub) (T : Top p loose mean mg mb h₀ := by k_asm) (hk : cs.kind = .function := by first | exact rfl | assumption) (hd : dp + lvl < 500 := by k_extra "bud") (hu : un + 100 * lvl < 9000 := by k_extra "bud") (ret : ∀ a b c d e x y z0 z1 z2 z3 z4 z5 z6 z7 z8 z9 z10 z11 z12 z13 z14 z15 h' tk', P a b c d e x y z0 z1 z2 z3 z4 z5 z6 z7 z8 z9 z10 z11 z12 z13 z14 z15 → Fr h₀ L h' m → News h₀ L h' (g a b c d e x y z0 z1 z2 z3 z4 z5 z6 z7 z8 z9 z10 z11 z12 z13 z14 z15) → Q (f a b c d e x y z0 z1 z2 z3 z4 z5 z6 z7 z8 z9 z10 z11 z12 z13 z14 z15) ⟨h', gs, dr, tk', os⟩) :
    wpAny (model prog w) (ktrTop dp un gd cn cs L ca ccd cl outer) (call (.ref fn) vs) Q E ⟨hh, gs, dr, tk, os⟩ := C.use B F X N hs T hk hd hu (by rintro r n h' tk' ⟨a, b, c, d, e, x, y, z0, z1, z2, z3, z4, z5, z6, z7, z8, z9, z10, z11, z12, z13, z14, z15, h⟩ F N; exact ret a b c d e x y z0 z1 z2 z3 z4 z5 z6 z7 z8 z9 z10 z11 z12 z13 z14 z15 h' tk' h F N)
inductive R0 (f : Value) (g : Led) : Value → Led → Prop
  | mk  : R0 f g f g
theorem Spec.ur0 {f : Value} {g : Led} (C : Spec prog w fn lvl vs news (R0 f g)) (B : Below A₀ base outer h₀ := by k_asm) (F : Fr h₀ L hh m := by k_asm) (X : (hp w.params).In h₀ := by k_asm) (N : News h₀ L hh news₀ := by k_asm) (hs : ∀ q ∈ news, q ∈ news₀ := by exact ro_sub) (T : Top p loose mean mg mb h₀ := by k_asm) (hk : cs.kind = .function := by first | exact rfl | assumption) (hd : dp + lvl < 500 := by k_extra "bud") (hu : un + 100 * lvl < 9000 := by k_extra "bud") (ret : ∀ h' tk', Fr h₀ L h' m → News h₀ L h' g → Q f ⟨h', gs, dr, tk', os⟩) :
    wpAny (model prog w) (ktrTop dp un gd cn cs L ca ccd cl outer) (call (.ref fn) vs) Q E ⟨hh, gs, dr, tk, os⟩ := C.use B F X N hs T hk hd hu (by rintro r n h' tk' ⟨⟩ F N; exact ret h' tk' F N)
theorem Spec.gr0 {f : Value} {g : Led} (B : Below A₀ base outer h₀ := by k_asm) (F : Fr h₀ L hh m := by k_asm) (X : (hp w.params).In h₀ := by k_asm) (N : News h₀ L hh news₀ := by k_asm) (hs : ∀ q ∈ news, q ∈ news₀ := by exact ro_sub) (C : Spec prog w fn lvl vs news (R0 f g)) (T : Top p loose mean mg mb h₀ := by k_asm) (hk : cs.kind = .function := by first | exact rfl | assumption) (hd : dp + lvl < 500 := by k_extra "bud") (hu : un + 100 * lvl < 9000 := by k_extra "bud") (ret : ∀ h' tk', Fr h₀ L h' m → News h₀ L h' g → Q f ⟨h', gs, dr, tk', os⟩) :
    wpAny (model prog w) (ktrTop dp un gd cn cs L ca ccd cl outer) (call (.ref fn) vs) Q E ⟨hh, gs, dr, tk, os⟩ := C.ur0 B F X N hs T hk hd hu ret
inductive R1 {A0 : Type} (f : A0 → Value) (g : A0 → Led) : Value → Led → Prop
  | mk (a : A0) : R1 f g (f a) (g a)
theorem Spec.ur1 {A0 : Type} {f : A0 → Value} {g : A0 → Led} (C : Spec prog w fn lvl vs news (R1 f g)) (B : Below A₀ base outer h₀ := by k_asm) (F : Fr h₀ L hh m := by k_asm) (X : (hp w.params).In h₀ := by k_asm) (N : News h₀ L hh news₀ := by k_asm) (hs : ∀ q ∈ news, q ∈ news₀ := by exact ro_sub) (T : Top p loose mean mg mb h₀ := by k_asm) (hk : cs.kind = .function := by first | exact rfl | assumption) (hd : dp + lvl < 500 := by k_extra "bud") (hu : un + 100 * lvl < 9000 := by k_extra "bud") (ret : ∀ a h' tk', Fr h₀ L h' m → News h₀ L h' (g a) → Q (f a) ⟨h', gs, dr, tk', os⟩) :
    wpAny (model prog w) (ktrTop dp un gd cn cs L ca ccd cl outer) (call (.ref fn) vs) Q E ⟨hh, gs, dr, tk, os⟩ := C.use B F X N hs T hk hd hu (by rintro r n h' tk' ⟨a⟩ F N; exact ret a h' tk' F N)
theorem Spec.gr1 {A0 : Type} {f : A0 → Value} {g : A0 → Led} (B : Below A₀ base outer h₀ := by k_asm) (F : Fr h₀ L hh m := by k_asm) (X : (hp w.params).In h₀ := by k_asm) (N : News h₀ L hh news₀ := by k_asm) (hs : ∀ q ∈ news, q ∈ news₀ := by exact ro_sub) (C : Spec prog w fn lvl vs news (R1 f g)) (T : Top p loose mean mg mb h₀ := by k_asm) (hk : cs.kind = .function := by first | exact rfl | assumption) (hd : dp + lvl < 500 := by k_extra "bud") (hu : un + 100 * lvl < 9000 := by k_extra "bud") (ret : ∀ a h' tk', Fr h₀ L h' m → News h₀ L h' (g a) → Q (f a) ⟨h', gs, dr, tk', os⟩) :
    wpAny (model prog w) (ktrTop dp un gd cn cs L ca ccd cl outer) (call (.ref fn) vs) Q E ⟨hh, gs, dr, tk, os⟩ := C.ur1 B F X N hs T hk hd hu ret
inductive R3 {A0 A1 A2 : Type} (f : A0 → A1 → A2 → Value) (g : A0 → A1 → A2 → Led) : Value → Led → Prop
  | mk (a : A0) (b : A1) (c : A2) : R3 f g (f a b c) (g a b c)
theorem Spec.ur3 {A0 A1 A2 : Type} {f : A0 → A1 → A2 → Value} {g : A0 → A1 → A2 → Led} (C : Spec prog w fn lvl vs news (R3 f g)) (B : Below A₀ base outer h₀ := by k_asm) (F : Fr h₀ L hh m := by k_asm) (X : (hp w.params).In h₀ := by k_asm) (N : News h₀ L hh news₀ := by k_asm) (hs : ∀ q ∈ news, q ∈ news₀ := by exact ro_sub) (T : Top p loose mean mg mb h₀ := by k_asm) (hk : cs.kind = .function := by first | exact rfl | assumption) (hd : dp + lvl < 500 := by k_extra "bud") (hu : un + 100 * lvl < 9000 := by k_extra "bud") (ret : ∀ a b c h' tk', Fr h₀ L h' m → News h₀ L h' (g a b c) → Q (f a b c) ⟨h', gs, dr, tk', os⟩) :
    wpAny (model prog w) (ktrTop dp un gd cn cs L ca ccd cl outer) (call (.ref fn) vs) Q E ⟨hh, gs, dr, tk, os⟩ := C.use B F X N hs T hk hd hu (by rintro r n h' tk' ⟨a, b, c⟩ F N; exact ret a b c h' tk' F N)
theorem Spec.gr3 {A0 A1 A2 : Type} {f : A0 → A1 → A2 → Value} {g : A0 → A1 → A2 → Led} (B : Below A₀ base outer h₀ := by k_asm) (F : Fr h₀ L hh m := by k_asm) (X : (hp w.params).In h₀ := by k_asm) (N : News h₀ L hh news₀ := by k_asm) (hs : ∀ q ∈ news, q ∈ news₀ := by exact ro_sub) (C : Spec prog w fn lvl vs news (R3 f g)) (T : Top p loose mean mg mb h₀ := by k_asm) (hk : cs.kind = .function := by first | exact rfl | assumption) (hd : dp + lvl < 500 := by k_extra "bud") (hu : un + 100 * lvl < 9000 := by k_extra "bud") (ret : ∀ a b c h' tk', Fr h₀ L h' m → News h₀ L h' (g a b c) → Q (f a b c) ⟨h', gs, dr, tk', os⟩) :
    wpAny (model prog w) (ktrTop dp un gd cn cs L ca ccd cl outer) (call (.ref fn) vs) Q E ⟨hh, gs, dr, tk, os⟩ := C.ur3 B F X N hs T hk hd hu ret
end
theorem R0.of {f r : Value} {g : Led} (h : r = f) : R0 f g r g := h ▸ .mk
theorem R1.of {A0 : Type} {f : A0 → Value} {g : A0 → Led} {a : A0} {r : Value} (h : r = f a) : R1 f g r (g a) := h ▸ .mk a
inductive Tr
  | n
  | c (i j : Nat) (t : Tr)
  | s (i : Nat)
  | a (t u : Tr)
def nth {α : Type} (d : α) : List α → Nat → α
  | [], _ => d
  | x :: _, 0 => x
  | _ :: l, k + 1 => nth d l k
def Tr.den (as : List Addr) (os : List Obj) (ls : List Led) : Tr → Led
  | .n => []
  | .c i j t => (nth 0 as i, nth default os j) :: t.den as os ls
  | .s i => nth [] ls i
  | .a t u => t.den as os ls ++ u.den as os ls
def Tr.keys : Tr → List Nat
  | .n => []
  | .c i _ t => (2 * i) :: t.keys
  | .s i => [2 * i + 1]
  | .a t u => t.keys ++ u.keys
def Tr.keys2 : Tr → List (Nat × Nat)
  | .n => []
  | .c i j t => (i, j + 1) :: t.keys2
  | .s i => [(i, 0)]
  | .a t u => t.keys2 ++ u.keys2
def subm : List Nat → List Nat → Bool
  | [], _ => true
  | k :: ks, l => l.contains k && subm ks (l.erase k)
def kval (as : List Addr) (ls : List Led) (k : Nat) : List Addr := if k % 2 = 0 then [nth 0 as (k / 2)] else (nth [] ls (k / 2)).map (·.1)
theorem Tr.den_keys (as : List Addr) (os : List Obj) (ls : List Led) : ∀ t : Tr, (t.den as os ls).map (·.1) = t.keys.flatMap (kval as ls)
  | .n => rfl
  | .c i j t => by
    show nth 0 as i :: (t.den as os ls).map (·.1) = kval as ls (2 * i) ++ t.keys.flatMap (kval as ls)
    rw [Tr.den_keys as os ls t, kval, if_pos (by omega), show 2 * i / 2 = i by omega]; rfl
  | .s i => by
    show (nth [] ls i).map (·.1) = [2 * i + 1].flatMap (kval as ls)
    rw [List.flatMap_cons, List.flatMap_nil, List.append_nil, kval, if_neg (by omega), show (2 * i + 1) / 2 = i by omega]
  | .a t u => by
    show (t.den as os ls ++ u.den as os ls).map (·.1) = (t.keys ++ u.keys).flatMap (kval as ls)
    rw [List.map_append, List.flatMap_append, Tr.den_keys as os ls t, Tr.den_keys as os ls u]
theorem count_erase {f : Nat → List Addr} {k : Nat} {l : List Nat} (h : k ∈ l) (a : Addr) : (l.flatMap f).count a = (f k).count a + ((l.erase k).flatMap f).count a := by
  induction l with
  | nil => exact absurd h List.not_mem_nil
  | cons x l ih =>
    by_cases e : x = k
    · subst e; simp [List.flatMap_cons, List.count_append]
    · have hm : k ∈ l := by
        rcases List.mem_cons.mp h with h | h
        · exact absurd h.symm e
        · exact h
      rw [List.erase_cons_tail (by simpa using e), List.flatMap_cons, List.flatMap_cons, List.count_append, List.count_append, ih hm]
      omega
theorem subm_count {f : Nat → List Addr} : ∀ {ks l : List Nat}, subm ks l = true → ∀ a, (ks.flatMap f).count a ≤ (l.flatMap f).count a
  | [], _,_,_ => Nat.zero_le _
  | k :: ks, l, h, a => by
    rw [subm, Bool.and_eq_true] at h
    have hk : k ∈ l := by simpa using h.1
    have := subm_count (f := f) h.2 a
    rw [count_erase hk, List.flatMap_cons, List.count_append]
    omega
theorem Tr.nd (as : List Addr) (os : List Obj) (ls : List Led) (A B : Tr) (h : subm B.keys A.keys = true) (D : ((A.den as os ls).map (·.1)).Nodup) : ((B.den as os ls).map (·.1)).Nodup := by
  rw [Tr.den_keys] at D ⊢
  exact List.nodup_iff_count.mpr fun a => Nat.le_trans (subm_count h a) (List.nodup_iff_count.mp D a)
def kval2 (as : List Addr) (os : List Obj) (ls : List Led) : Nat × Nat → Led
  | (i, 0) => nth [] ls i
  | (i, j + 1) => [(nth 0 as i, nth default os j)]
theorem Tr.den_keys2 (as : List Addr) (os : List Obj) (ls : List Led) : ∀ t : Tr, t.den as os ls = t.keys2.flatMap (kval2 as os ls)
  | .n => rfl
  | .c i j t => by
    show (nth 0 as i, nth default os j) :: t.den as os ls = kval2 as os ls (i, j + 1) ++ t.keys2.flatMap (kval2 as os ls)
    rw [Tr.den_keys2 as os ls t]; rfl
  | .s i => by
    show nth [] ls i = [(i, 0)].flatMap (kval2 as os ls)
    rw [List.flatMap_cons, List.flatMap_nil, List.append_nil]; rfl
  | .a t u => by
    show t.den as os ls ++ u.den as os ls = (t.keys2 ++ u.keys2).flatMap (kval2 as os ls)
    rw [List.flatMap_append, Tr.den_keys2 as os ls t, Tr.den_keys2 as os ls u]
theorem Tr.sb (as : List Addr) (os : List Obj) (ls : List Led) (A B : Tr) (h : (B.keys2.all fun k => A.keys2.contains k) = true) : ∀ q ∈ B.den as os ls, q ∈ A.den as os ls := by
  intro q hq
  rw [Tr.den_keys2] at hq ⊢
  obtain ⟨k, hk, hq⟩ := List.mem_flatMap.mp hq
  exact List.mem_flatMap.mpr ⟨k, by simpa using List.all_eq_true.mp h k hk, hq⟩

def TurnEnd (h₀ : Heap) (L : Addr) (I : Addr) (own : Led) (J : (Str → Option Value) → Led → Prop) (s₁ : Shared) (Q : Flow → Shared → Prop) (f : Flow) (s₂ : Shared) : Prop := match f with
  | .ret v => Q (.ret v) s₂
  | .brk => Q .next s₂
  | _ => ∃ h' tk m' nx, s₂ = { s₁ with heap := h', toks := tk } ∧ Fr h₀ L h' m' ∧ News h₀ L h' (own ++ nx) ∧ (∀ p ∈ nx, p.1 ≠ I) ∧ J m' nx

theorem TurnEnd.intro {h₀ h' : Heap} {L I : Addr} {own nx news : Led} {J : (Str → Option Value) → Led → Prop} {s₁ : Shared} {Q : Flow → Shared → Prop} {tk : Nat} {m' : Str → Option Value} (F : Fr h₀ L h' m') (N : News h₀ L h' news) (hs : ∀ p ∈ own ++ nx, p ∈ news) (hI : ∀ p ∈ nx, p.1 ≠ I) (hJ : J m' nx) :
    TurnEnd h₀ L I own J s₁ Q .next { s₁ with heap := h', toks := tk } := ⟨h', tk, m', nx, rfl, F, fun p hp => N p (hs p hp), hI, hJ⟩

section
variable {prog : Program} {w : World} {A : Around} {E : Value → Shared → Prop} {s : Shared} {env : Env} {h₀ : Heap} {x : Str} {body : List Stmt} {Q : Flow → Shared → Prop}

theorem intKind_val {k : Int} {v : Value} (h : (intKind prog w).is k v = true) : ∃ t, v = .int k t := by
  cases v <;> simp_all [intKind, Value.isInt]

theorem turn_to_V {L I : Addr} {own news₁ : Led} {J : (Str → Option Value) → Led → Prop} {s₁ : Shared} {f : Flow} {s₂ : Shared} (h : TurnEnd h₀ L I own J s₁ Q f s₂) :
    LoopStepV h₀ L [I] own J s₁ (fun v s' => Q (.ret v) s') (fun s' => Q .next s') f s₂ := by
  cases f with
  | ret v => exact .ret h
  | brk => exact .brk h
  | next =>
    obtain ⟨h', tk, m', nx, e, F, N, hI, hJ⟩ := h
    exact .next ⟨rfl, h', tk, m', nx, e, F, N, fun p hp hm => hI p hp (List.mem_singleton.mp hm), hJ⟩
  | cont =>
    obtain ⟨h', tk, m', nx, e, F, N, hI, hJ⟩ := h
    exact .cont ⟨rfl, h', tk, m', nx, e, F, N, fun p hp hm => hI p hp (List.mem_singleton.mp hm), hJ⟩

theorem loop_keys {d : Addr} {o : Obj} {kvs : List (Int × Value)} {m₀ : Str → Option Value} {news : Led} (J : Nat → (Str → Option Value) → Led → Prop)
    (hh : A.handled = none) (F : Fr h₀ env.locals s.heap m₀) (N : News h₀ env.locals s.heap news) (hm : (d, o) ∈ news) (hd : o.IsDictOf (intKind prog w) kvs) (lo : (d == sysModules) = false) (h0 : J 0 m₀ news)
    (turn : ∀ I i k v t m₁ news₁ h tk own, (∀ p ∈ news, p.1 < I) → kvs[i]? = some (k, v) → J i m₁ news₁ → ((∀ p ∈ own, p.1 = I ∨ p.1 = d) ∧ ∃ oI, (I, oI) ∈ own) → (∀ p ∈ news₁, p.1 ≠ I) →
      Fr h₀ env.locals h (fun y => if y = x then some (.int k t) else m₁ y) → News h₀ env.locals h (own ++ news₁) →
      wpAny (model prog w) A (execs body env) (TurnEnd h₀ env.locals I own (J (i + 1)) { s with heap := h, toks := tk } Q) E { s with heap := h, toks := tk })
    (done : ∀ m₁ news₁ h tk, J kvs.length m₁ news₁ → Fr h₀ env.locals h m₁ → News h₀ env.locals h news₁ → Q .next { s with heap := h, toks := tk }) :
    wpAny (model prog w) A (pyIter (.ref d)) (fun it s₂ => LoopAtV prog w A h₀ env x body Q E it s₂) E s := by
  have hd' := kda_dict N hm hd
  obtain ⟨ep, hat⟩ := hd'.dictAt
  have hne : d ≠ s.heap.objs.size := Nat.ne_of_lt hat.lt_size
  refine wpAny_pyIter_dict lo hat ?_
  refine ⟨s.heap.objs.size, [s.heap.objs.size, d], [s.heap.objs.size], kvs.length, _,_, m₀, news, J, rfl, Walks.dictKeys (knd := intKind prog w) hh _ d hne kvs ep, ?_, ?_, ?_, ⟨⟨_, Heap.get?_push_size _ rfl, rfl, rfl⟩, hat.push _⟩, F.push _, (fun p hp => ⟨Heap.get?_push_of_some _ (N p hp).1, (N p hp).2⟩), h0, ?_, ?_⟩
  · intro hI
    rcases List.mem_cons.mp hI with e | hI
    · exact absurd F.ns.lt (e ▸ Nat.lt_irrefl _)
    · exact (N _ hm).2.1 (List.mem_singleton.mp hI).symm
  · intro b hb
    rw [List.mem_singleton.mp hb]
    exact next_is_new F
  · intro p hp hI
    exact absurd (Heap.lt_size (N p hp).1) ((List.mem_singleton.mp hI) ▸ Nat.lt_irrefl _)
  · rintro i v m₁ news₁ s₁ own ⟨hh', tk', rfl⟩ hin ⟨k, x', hx, hk⟩ hJ hoff hown _ hfull st F₁ N₁
    obtain ⟨t, rfl⟩ := intKind_val hk
    obtain ⟨⟨oI, heI, _⟩, _⟩ := st
    have hmI := hfull _ (List.mem_cons_self) (next_is_new F) oI heI
    refine wpAny_mono (turn s.heap.objs.size i k x' t m₁ news₁ hh' tk' own (fun p hp => Heap.lt_size (N p hp).1) hx hJ ⟨fun p hp => ?_, oI, hmI⟩ (fun p hp e => hoff p hp (by rw [e]; exact List.mem_singleton_self _)) F₁ N₁) (fun f s₂ z => turn_to_V (news₁ := news₁) z) fun _ _ e => e
    rcases List.mem_cons.mp (hown p hp) with e | e
    · exact .inl e
    · exact .inr (List.mem_singleton.mp e)
  · rintro h' tk m' news' F' N' _ hJ
    exact done m' news' h' tk hJ F' N'

theorem loop_vals {d vw : Addr} {o : Obj} {kvs : List (Int × Value)} {m₀ : Str → Option Value} {news : Led} (J : Nat → (Str → Option Value) → Led → Prop)
    (hh : A.handled = none) (F : Fr h₀ env.locals s.heap m₀) (N : News h₀ env.locals s.heap news) (hv : s.heap.IsValuesView vw d) (hm : (d, o) ∈ news) (hd : o.IsDictOf (intKind prog w) kvs) (h0 : J 0 m₀ news)
    (turn : ∀ I i k v m₁ news₁ h tk own, (∀ p ∈ news, p.1 < I) → kvs[i]? = some (k, v) → J i m₁ news₁ → ((∀ p ∈ own, p.1 = I ∨ p.1 = d) ∧ ∃ oI, (I, oI) ∈ own) → (∀ p ∈ news₁, p.1 ≠ I) →
      Fr h₀ env.locals h (fun y => if y = x then some v else m₁ y) → News h₀ env.locals h (own ++ news₁) →
      wpAny (model prog w) A (execs body env) (TurnEnd h₀ env.locals I own (J (i + 1)) { s with heap := h, toks := tk } Q) E { s with heap := h, toks := tk })
    (done : ∀ m₁ news₁ h tk, J kvs.length m₁ news₁ → Fr h₀ env.locals h m₁ → News h₀ env.locals h news₁ → Q .next { s with heap := h, toks := tk }) :
    wpAny (model prog w) A (pyIter (.ref vw)) (fun it s₂ => LoopAtV prog w A h₀ env x body Q E it s₂) E s := by
  have hd' := kda_dict N hm hd
  obtain ⟨ep, hat⟩ := hd'.dictAt
  have hne : d ≠ s.heap.objs.size := Nat.ne_of_lt hat.lt_size
  refine wpAny_pyIter_values hv hat ?_
  refine ⟨s.heap.objs.size, [s.heap.objs.size, d], [s.heap.objs.size], kvs.length, _,_, m₀, news, J, rfl, Walks.dictValues (knd := intKind prog w) hh _ d hne kvs ep, ?_, ?_, ?_, ⟨⟨_, Heap.get?_push_size _ rfl, rfl, rfl⟩, hat.push _⟩, F.push _, (fun p hp => ⟨Heap.get?_push_of_some _ (N p hp).1, (N p hp).2⟩), h0, ?_, ?_⟩
  · intro hI
    rcases List.mem_cons.mp hI with e | hI
    · exact absurd F.ns.lt (e ▸ Nat.lt_irrefl _)
    · exact (N _ hm).2.1 (List.mem_singleton.mp hI).symm
  · intro b hb
    rw [List.mem_singleton.mp hb]
    exact next_is_new F
  · intro p hp hI
    exact absurd (Heap.lt_size (N p hp).1) ((List.mem_singleton.mp hI) ▸ Nat.lt_irrefl _)
  · rintro i v m₁ news₁ s₁ own ⟨hh', tk', rfl⟩ hin ⟨k, hx⟩ hJ hoff hown _ hfull st F₁ N₁
    obtain ⟨⟨oI, heI, _⟩, _⟩ := st
    have hmI := hfull _ (List.mem_cons_self) (next_is_new F) oI heI
    refine wpAny_mono (turn s.heap.objs.size i k v m₁ news₁ hh' tk' own (fun p hp => Heap.lt_size (N p hp).1) hx hJ ⟨fun p hp => ?_, oI, hmI⟩ (fun p hp e => hoff p hp (by rw [e]; exact List.mem_singleton_self _)) F₁ N₁) (fun f s₂ z => turn_to_V (news₁ := news₁) z) fun _ _ e => e
    rcases List.mem_cons.mp (hown p hp) with e | e
    · exact .inl e
    · exact .inr (List.mem_singleton.mp e)
  · rintro h' tk m' news' F' N' _ hJ
    exact done m' news' h' tk hJ F' N'

theorem loop_range {r : Addr} {a b c : Int} {t₀ u₀ v₀ : Tok} {n : Nat} {m₀ : Str → Option Value} {news : Led} (J : Nat → (Str → Option Value) → Led → Prop)
    (hh : A.handled = none) (hr : IsRange s.heap r a b c t₀ u₀ v₀) (hsmall : Builtin.Range.small a b c = true) (hn : Builtin.Range.rangeSize a b c = (n : Int)) (F : Fr h₀ env.locals s.heap m₀) (N : News h₀ env.locals s.heap news) (h0 : J 0 m₀ news)
    (turn : ∀ I i t m₁ news₁ h tk own, (∀ p ∈ news, p.1 < I) → i < n → J i m₁ news₁ → ((∀ p ∈ own, p.1 = I) ∧ ∃ oI, (I, oI) ∈ own) → (∀ p ∈ news₁, p.1 ≠ I) →
      Fr h₀ env.locals h (fun y => if y = x then some (.int (a + (i : Int) * c) t) else m₁ y) → News h₀ env.locals h (own ++ news₁) →
      wpAny (model prog w) A (execs body env) (TurnEnd h₀ env.locals I own (J (i + 1)) { s with heap := h, toks := tk } Q) E { s with heap := h, toks := tk })
    (done : ∀ m₁ news₁ h tk, J n m₁ news₁ → Fr h₀ env.locals h m₁ → News h₀ env.locals h news₁ → Q .next { s with heap := h, toks := tk }) :
    wpAny (model prog w) A (pyIter (.ref r)) (fun it s₂ => LoopAtV prog w A h₀ env x body Q E it s₂) E s := by
  refine wpAny_pyIter_range hr hsmall ?_
  refine ⟨s.heap.objs.size, [s.heap.objs.size], [s.heap.objs.size], n, _,_, m₀, news, J, rfl, (Walks.range hh s.heap.objs.size a c n).bound, ?_, ?_, ?_, (by show IsRangeIter _ _ _ _ _; rw [hn]; simpa using Heap.get?_push_size _ rfl), F.push _, (fun p hp => ⟨Heap.get?_push_of_some _ (N p hp).1, (N p hp).2⟩), h0, ?_, ?_⟩
  · intro hI
    exact absurd F.ns.lt ((List.mem_singleton.mp hI) ▸ Nat.lt_irrefl _)
  · intro b hb
    rw [List.mem_singleton.mp hb]
    exact next_is_new F
  · intro p hp hI
    exact absurd (Heap.lt_size (N p hp).1) ((List.mem_singleton.mp hI) ▸ Nat.lt_irrefl _)
  · rintro i v m₁ news₁ s₁ own ⟨hh', tk', rfl⟩ hin ⟨_, t, rfl⟩ hJ hoff hown _ hfull st F₁ N₁
    have hmI := hfull _ (List.mem_cons_self) (next_is_new F) _ st
    exact wpAny_mono (turn s.heap.objs.size i t m₁ news₁ hh' tk' own (fun p hp => Heap.lt_size (N p hp).1) hin hJ ⟨fun p hp => List.mem_singleton.mp (hown p hp), _, hmI⟩ (fun p hp e => hoff p hp (by rw [e]; exact List.mem_singleton_self _)) F₁ N₁) (fun f s₂ z => turn_to_V (news₁ := news₁) z) fun _ _ e => e
  · rintro h' tk m' news' F' N' _ hJ
    exact done m' news' h' tk hJ F' N'
end
theorem TurnEnd.ret {h₀ : Heap} {L I : Addr} {own : Led} {J : (Str → Option Value) → Led → Prop} {s₁ s₂ : Shared} {Q : Flow → Shared → Prop} {v : Value} (h : Q (.ret v) s₂) : TurnEnd h₀ L I own J s₁ Q (.ret v) s₂ := h
def Halt (P : Prop) : Prop := P
theorem Halt.at {P : Prop} (h : Halt P) : P := h
theorem Halt.go {P : Prop} (h : P) : Halt P := h
theorem Halt.call {M : Model} {A : Around} {a : Addr} {vs : List Value} {kw : List (Str × Value)} {Q E : Value → Shared → Prop} {s : Shared} (h : Halt (wpAny M A (call (.ref a) vs kw) Q E s)) : wpAny M A (call (.ref a) vs kw) Q E s := h
def NoHalt : Prop := True
local macro_rules | `(tactic| walk_at "pyIter ref") => `(tactic| ((fail_if_success (with_reducible rename NoHalt => hNH)); with_reducible refine Halt.at ?_))

def IntJ (x xv : Str) (P : Nat → Int → Prop) (m₀ : Str → Option Value) (l₀ : Led) (i : Nat) (m : Str → Option Value) (l : Led) : Prop :=
  l = l₀ ∧ (∃ U tok, m x = some (.int U tok) ∧ P i U) ∧ ∀ y, y ≠ xv → y ≠ x → m y = m₀ y
theorem IntJ.map {x xv : Str} {m₀ m : Str → Option Value} {U : Int} {tok : Tok} (h1 : m x = some (.int U tok)) (h2 : ∀ y, y ≠ xv → y ≠ x → m y = m₀ y) : m = fun y => if y = xv then m xv else if y = x then some (.int U tok) else m₀ y := by
  funext y
  by_cases a : y = xv
  · subst a; simp
  · by_cases b : y = x
    · subst b; simp [a, h1]
    · simp [a, b, h2 y a b]

def nxt (p : Int) : Int := if p = 9 then 7 else p + 1

section
variable {prog : Program} {w : World} {pi pd pt : Addr} {k1 k2 k3 k4 v1 v2 v3 : Tok} {n : Nat} {o : Obj} {kvs : List (Int × Value)} {f : Int}

@[reducible] def portsEs (P : Params) (k1 k2 k3 k4 v1 v2 v3 : Tok) (f : Int) (pt : Addr) : List DictEntry := [ent P "first" k1 (.int 7 v1), ent P "last" k2 (.int 9 v2), ent P "following" k3 (.int f v3), ent P "taken" k4 (.ref pt)]

abbrev portsLed (P : Params) (pi pd pt : Addr) (k1 k2 k3 k4 v1 v2 v3 : Tok) (f : Int) (n : Nat) (o : Obj) (rest : Led) : Led := (pi, instObj 135 pd) :: (pd, dictOf (portsEs P k1 k2 k3 k4 v1 v2 v3 f pt) n) :: (pt, o) :: rest

def NextFree (kvs : List (Int × Value)) (f p : Int) : Prop := ((valueAt kvs f).isSome = false ∧ p = f) ∨ ((valueAt kvs f).isSome = true ∧ (valueAt kvs (nxt f)).isSome = false ∧ p = nxt f) ∨ ((valueAt kvs f).isSome = true ∧ (valueAt kvs (nxt f)).isSome = true ∧ (valueAt kvs (nxt (nxt f))).isSome = false ∧ p = nxt (nxt f))

theorem is_taken_spec {news : Led} {k : Int} {t : Tok} (m1 : (pi, instObj 135 pd) ∈ news := by k_mem) (m2 : (pd, dictOf (portsEs w.params k1 k2 k3 k4 v1 v2 v3 f pt) n) ∈ news := by k_mem) (m3 : (pt, o) ∈ news := by k_mem) (hd : o.IsDictOf (intKind prog w) kvs := by k_asm) (lo : (pt == sysModules) = false := by k_asm) :
    Spec prog w 103 2 [.ref pi, .int k t] news (R0 (.bool ((valueAt kvs k).isSome)) (news)) := by
  intro p loose mean mg mb dp un gd cn cs a' ccd cl outer A₀ base h₀ L m hh gs dr tk oz Q E B F X N T hk hdp hu hret
  refine wpAny_call ?_
  k_dflt ktr_enter
  k_steps
  exact hret _ _ _ _ .mk (by k_asm) (by k_asm)

theorem reg8 : True := by
  (k_with "call ref" => (with_reducible refine Call.at (a := 103) ?_; k_dflt (refine Spec.gr0 (C := is_taken_spec) (ret := ?_); intros)))
  trivial
theorem behind_spec {news : Led} {k : Int} {t : Tok} (m1 : (pi, instObj 135 pd) ∈ news := by k_mem) (m2 : (pd, dictOf (portsEs w.params k1 k2 k3 k4 v1 v2 v3 f pt) n) ∈ news := by k_mem) :
    Spec prog w 125 2 [.ref pi, .int k t] news (R1 (fun t' => .int (nxt k) t') (fun t' => news)) := by
  intro p loose mean mg mb dp un gd cn cs a' ccd cl outer A₀ base h₀ L m hh gs dr tk oz Q E B F X N T hk hdp hu hret
  refine wpAny_call ?_
  k_dflt ktr_enter
  k_steps
  all_goals exact hret _ _ _ _ (.of (int_eq (by unfold nxt; split <;> omega))) (by k_asm) (by k_asm)

theorem reg9 : True := by
  (k_with "call ref" => (with_reducible refine Call.at (a := 125) ?_; k_dflt (refine Spec.gr1 (C := behind_spec) (ret := ?_); intros)))
  trivial
theorem drop_own {a b c : Addr × Obj} {rest own : Led} : ∀ q ∈ a :: b :: c :: rest, q ∈ a :: b :: c :: (rest ++ own) := Tr.sb [_,_,_] [_,_,_] [_,_] (.c 0 0 (.c 1 1 (.c 2 2 (.a (.s 0) (.s 1))))) (.c 0 0 (.c 1 1 (.c 2 2 (.s 0)))) rfl
def nxtN : Nat → Int → Int
  | 0, f => f
  | n + 1, f => nxt (nxtN n f)
theorem first_free {p : Int} {i : Nat} (hp : NextFree kvs f p) (hi : i < 3) (h1 : ∀ j, j < i → (valueAt kvs (nxtN j f)).isSome = true) (h2 : (valueAt kvs (nxtN i f)).isSome = false) : nxtN i f = p := by
  have no : ∀ {k : Int}, (valueAt kvs k).isSome = true → (valueAt kvs k).isSome = false → False := fun a b => by rw [a] at b; cases b
  match i, hi, h1, h2 with
  | 0, _, h1, h2 => rcases hp with ⟨_, e⟩ | ⟨a, _,_⟩ | ⟨a, _,_,_⟩; exact e.symm; exact (no a h2).elim; exact (no a h2).elim
  | 1, _, h1, h2 => rcases hp with ⟨a, _⟩ | ⟨_,_, e⟩ | ⟨_, a, _,_⟩; exact (no (h1 0 (by decide)) a).elim; exact e.symm; exact (no a h2).elim
  | 2, _, h1, h2 => rcases hp with ⟨a, _⟩ | ⟨_, a, _⟩ | ⟨_,_,_, e⟩; exact (no (h1 0 (by decide)) a).elim; exact (no (h1 1 (by decide)) a).elim; exact e.symm
theorem some_free {p : Int} (hp : NextFree kvs f p) (h1 : ∀ j, j < 3 → (valueAt kvs (nxtN j f)).isSome = true) : False := by
  have no : ∀ {k : Int}, (valueAt kvs k).isSome = true → (valueAt kvs k).isSome = false → False := fun a b => by rw [a] at b; cases b
  rcases hp with ⟨a, _⟩ | ⟨_, a, _⟩ | ⟨_,_, a, _⟩
  · exact no (h1 0 (by decide)) a
  · exact no (h1 1 (by decide)) a
  · exact no (h1 2 (by decide)) a
theorem next_free_spec {rest : Led} {p : Int} (D : ((portsLed w.params pi pd pt k1 k2 k3 k4 v1 v2 v3 f n o rest).map (·.1)).Nodup := by assumption) (hd : o.IsDictOf (intKind prog w) kvs := by k_asm) (lo : (pt == sysModules) = false := by k_asm) (hp : NextFree kvs f p := by assumption) :
    Spec prog w 118 5 [.ref pi] (portsLed w.params pi pd pt k1 k2 k3 k4 v1 v2 v3 f n o rest)
      (R3 (fun t v3' n' => .int p t) (fun t v3' n' => portsLed w.params pi pd pt k1 k2 k3 k4 v1 v2 v3' (nxt p) n' o rest)) := by
  intro pp loose mean mg mb dp un gd cn cs a' ccd cl outer A₀ base h₀ L m hh gs dr tk oz Q E B F X N T hk hdp hu hret
  obtain ⟨d1, d2, d3, r1, r2, r3⟩ := nd3 D
  refine wpAny_call ?_
  k_dflt ktr_enter
  k_steps
  refine Halt.go ?_
  have m1 : (pi, instObj 135 pd) ∈ portsLed w.params pi pd pt k1 k2 k3 k4 v1 v2 v3 f n o rest := .head _
  have m2 : (pd, dictOf (portsEs w.params k1 k2 k3 k4 v1 v2 v3 f pt) n) ∈ portsLed w.params pi pd pt k1 k2 k3 k4 v1 v2 v3 f n o rest := .tail _ (.head _)
  have m3 : (pt, o) ∈ portsLed w.params pi pd pt k1 k2 k3 k4 v1 v2 v3 f n o rest := .tail _ (.tail _ (.head _))
  refine loop_range (n := 3) (IntJ (Str.ofString "number") (Str.ofString "turn") (fun i U => U = nxtN i f ∧ ∀ j, j < i → (valueAt kvs (nxtN j f)).isSome = true) _ _) rfl (by assumption) (by decide) (by decide) (by k_asm) (by k_asm) ⟨rfl, ⟨_,_, rfl, rfl, fun j h => absurd h (Nat.not_lt_zero j)⟩, fun _ _ _ => rfl⟩ ?_ ?_
  · rintro I i t' m₁ news₁ h tk own hI hi ⟨rfl, ⟨U, tok, q1, rfl, qh⟩, q3⟩ ⟨ho, oI, hoI⟩ hn F₁ N₁
    rw [IntJ.map q1 q3] at F₁
    cases hv : (valueAt kvs (nxtN i f)).isSome with
    | false =>
      obtain rfl := first_free hp hi qh hv
      have N2 : News _ _ _ ((pi, instObj 135 pd) :: (pd, dictOf (portsEs w.params k1 k2 k3 k4 v1 v2 v3 f pt) n) :: (pt, o) :: (rest ++ own)) := cb_drop N₁ (by exact Tr.sb [_,_,_] [_,_,_] [_,_] (.a (.s 0) (.c 0 0 (.c 1 1 (.c 2 2 (.s 1))))) (.c 0 0 (.c 1 1 (.c 2 2 (.a (.s 1) (.s 0))))) rfl)
      have e1 : ∀ q ∈ rest ++ own, q.1 ≠ pd := fun q hq => (List.mem_append.mp hq).elim (r2 q) fun hq => by rw [ho q hq]; exact fun e => hn _ (.tail _ (.head _)) e.symm
      clear N₁ m1 m2 m3
      k_steps
      refine TurnEnd.ret ?_
      k_steps
      exact hret _ _ _ _ (.mk _ _ _) (by k_asm) (cb_drop (by k_asm) drop_own)
    | true =>
      k_steps
      refine TurnEnd.intro (by k_asm) (by k_asm) (fun _ h => h) hn ⟨rfl, ⟨_,_, rfl, rfl, fun j hj => ?_⟩, fun y y1 y2 => by simp only [if_neg y1, if_neg y2]⟩
      rcases Nat.lt_succ_iff_lt_or_eq.mp hj with h | rfl
      · exact qh j h
      · exact hv
  · rintro m₁ news₁ h tk ⟨rfl, ⟨U, tok, q1, rfl, qh⟩, q3⟩ F₁ N₁
    exact (some_free hp qh).elim
theorem reg10 : True := by
  (k_with "call ref" => (with_reducible refine Call.at (a := 118) ?_; k_dflt (refine Spec.gr3 (C := next_free_spec) (ret := ?_); intros)))
  trivial
end

section
variable {prog : Program} {w : World} {pi pd pt : Addr} {k1 k2 k3 k4 v1 v2 v3 : Tok} {n : Nat} {o : Obj} {kvs : List (Int × Value)} {f : Int}

theorem take_told_spec {rest : Led} {k : Int} {t : Tok} (D : ((portsLed w.params pi pd pt k1 k2 k3 k4 v1 v2 v3 f n o rest).map (·.1)).Nodup) (hd : o.IsDictOf (intKind prog w) kvs) (lo : (pt == sysModules) = false)
   (hk1 : 1 ≤ k) (hk2 : k ≤ 65535) (hp : (valueAt kvs k).isSome = false) (hz : kvs.length ≤ 100) :
    Spec prog w 111 8 [.ref pi, .int k t] (portsLed w.params pi pd pt k1 k2 k3 k4 v1 v2 v3 f n o rest)
      (Q2 (fun t o' => .int k t) (fun t o' => portsLed w.params pi pd pt k1 k2 k3 k4 v1 v2 v3 f n o' rest) (fun t o' => o'.IsDictOf (intKind prog w) (stored kvs k (.bool true)))) := by
  intro pp loose mean mg mb dp un gd cn cs a' ccd cl outer A₀ base h₀ L m hh gs dr tk oz Q E B F X N T hkk hdp hu hret
  obtain ⟨d1, d2, d3, r1, r2, r3⟩ := nd3 D
  refine wpAny_call ?_
  k_dflt ktr_enter
  k_steps
  exact hret _ _ _ _ (.mk _ _ (by assumption)) (by k_asm) (cb_drop (by k_asm) (by intro p hp; k_mem))

theorem take_zero_spec {rest : Led} {p : Int} {t : Tok} (D : ((portsLed w.params pi pd pt k1 k2 k3 k4 v1 v2 v3 f n o rest).map (·.1)).Nodup) (hd : o.IsDictOf (intKind prog w) kvs) (lo : (pt == sysModules) = false)
   (hp : NextFree kvs f p) (hz : kvs.length ≤ 100) :
    Spec prog w 111 8 [.ref pi, .int 0 t] (portsLed w.params pi pd pt k1 k2 k3 k4 v1 v2 v3 f n o rest)
      (Q4 (fun t o' v3' n' => .int p t) (fun t o' v3' n' => portsLed w.params pi pd pt k1 k2 k3 k4 v1 v2 v3' (nxt p) n' o' rest) (fun t o' v3' n' => o'.IsDictOf (intKind prog w) (stored kvs p (.bool true)))) := by
  intro pp loose mean mg mb dp un gd cn cs a' ccd cl outer A₀ base h₀ L m hh gs dr tk oz Q E B F X N T hkk hdp hu hret
  obtain ⟨d1, d2, d3, r1, r2, r3⟩ := nd3 D
  refine wpAny_call ?_
  k_dflt ktr_enter
  k_steps
  exact hret _ _ _ _ (.mk _ _ _ _ (by assumption)) (by k_asm) (cb_drop (by k_asm) (by intro p hp; k_mem))

theorem free_spec {rest : Led} {k : Int} {t : Tok} {v : Value} (D : ((portsLed w.params pi pd pt k1 k2 k3 k4 v1 v2 v3 f n o rest).map (·.1)).Nodup) (hd : o.IsDictOf (intKind prog w) kvs) (lo : (pt == sysModules) = false)
   (hp : valueAt kvs k = some v) (hz : kvs.length ≤ 100) :
    Spec prog w 132 8 [.ref pi, .int k t] (portsLed w.params pi pd pt k1 k2 k3 k4 v1 v2 v3 f n o rest)
      (Q1 (fun o' => .none) (fun o' => portsLed w.params pi pd pt k1 k2 k3 k4 v1 v2 v3 f n o' rest) (fun o' => o'.IsDictOf (intKind prog w) (without kvs k))) := by
  intro pp loose mean mg mb dp un gd cn cs a' ccd cl outer A₀ base h₀ L m hh gs dr tk oz Q E B F X N T hkk hdp hu hret
  obtain ⟨d1, d2, d3, r1, r2, r3⟩ := nd3 D
  have hp' : (valueAt kvs k).isSome = true := by rw [hp]; rfl
  refine wpAny_call ?_
  k_dflt ktr_enter
  k_steps
  exact hret _ _ _ _ (.mk _ (by assumption)) (by k_asm) (cb_drop (by k_asm) (by intro p hp; k_mem))
end

def foldV (t : Int) : Int := if t = 0 then 0 else (t - 1) % 65535 + 1

def WEnd (h₀ : Heap) (L : Addr) (x : Str) (m : Str → Option Value) (news : Led) (P : Int → Prop) (μ : Nat) (s : Shared) (f : Flow) (s₃ : Shared) : Prop :=
  f = .next ∧ ∃ h' tk' m' t' tok', s₃ = { s with heap := h', toks := tk' } ∧ Fr h₀ L h' m' ∧ News h₀ L h' news ∧ m' = (fun y => if y = x then some (.int t' tok') else m y) ∧ P t' ∧ t'.toNat < μ

theorem shadow_name {x : Str} {m : Str → Option Value} {v u : Value} : (fun y => if y = x then some v else (fun y => if y = x then some u else m y) y) = fun y => if y = x then some v else m y := by
  funext y
  by_cases h : y = x <;> simp [h]

section
variable {prog : Program} {w : World} {A : Around} {E : Value → Shared → Prop} {Q : Flow → Shared → Prop} {s : Shared} {env : Env} {h₀ : Heap}
theorem while_int {x : Str} {m : Str → Option Value} {news : Led} {t₀ : Int} {tok : Tok} {test : Expr} {body : List Stmt} {pos : Pos} (P : Int → Prop)
    (F : Fr h₀ env.locals s.heap m := by k_asm) (N : News h₀ env.locals s.heap news := by k_asm) (hx : m x = some (.int t₀ tok) := by rfl) (hP : P t₀ := by exact FoldP.start (by assumption) (by assumption))
    (turn : ∀ t tok h₁ tk₁, P t → Fr h₀ env.locals h₁ (fun y => if y = x then some (.int t tok) else m y) → News h₀ env.locals h₁ news →
      wpAny (model prog w) A (isTrue test env (eval test env)) (fun b s₂ => if b = true then wpAny (model prog w) A (execs body env) (WEnd h₀ env.locals x m news P t.toNat s) E s₂ else Q .next s₂) E { s with heap := h₁, toks := tk₁ })
    (hE : PassesOwn (model prog w) A env E := by passes_own) : wpAny (model prog w) A (exec (.While test body [] pos) env) Q E s := by
  refine While_inv (fun n m₁ l => l = news ∧ ∃ t tok, m₁ = (fun y => if y = x then some (.int t tok) else m y) ∧ P t ∧ n = t.toNat) (n₀ := t₀.toNat) F N ⟨rfl, t₀, tok, ?_, hP, rfl⟩ ?_ hE
  · funext y
    by_cases h : y = x
    · subst h; simp [hx]
    · simp [h]
  · rintro n m₁ l h₁ tk₁ F₁ N₁ ⟨rfl, t, tok, rfl, hP, rfl⟩
    refine wpAny_mono (turn t tok h₁ tk₁ hP F₁ N₁) (fun b s₂ h₂ => ?_) fun _ _ e => e
    cases b with
    | false => exact h₂
    | true =>
      simp only [if_true] at h₂ ⊢
      refine wpAny_mono h₂ (fun f s₃ h₃ => ?_) fun _ _ e => e
      obtain ⟨rfl, h', tk', m', t', tok', rfl, F', N', rfl, hP', hm⟩ := h₃
      exact ⟨rfl, h', tk', _,_, t'.toNat, rfl, F', N', hm, rfl, t', tok', rfl, hP', rfl⟩
end

def FoldP (t₀ t : Int) : Prop := 0 ≤ t ∧ t < 2 ^ 32 ∧ foldV t = foldV t₀
theorem foldP_step {t₀ t : Int} (h : FoldP t₀ t) (hgt : 65535 < t) : FoldP t₀ (Builtin.bitAnd t 65535 + t.fdiv (2 ^ Int.toNat 16)) ∧ (Builtin.bitAnd t 65535 + t.fdiv (2 ^ Int.toNat 16)).toNat < t.toNat := by
  obtain ⟨h0, h1, h2⟩ := h
  have e1 : Builtin.bitAnd t 65535 = t % 65536 := bitAnd_m16 t
  have e2 : t.fdiv (2 ^ Int.toNat 16) = t / 65536 := by
    rw [Int.fdiv_eq_ediv_of_nonneg _ (by decide)]; rfl
  rw [e1, e2]
  refine ⟨⟨by omega, by omega, ?_⟩, by omega⟩
  rw [← h2]
  unfold foldV
  rw [if_neg (by omega), if_neg (by omega)]
  omega
theorem foldV_small {t₀ t : Int} (h : FoldP t₀ t) (hle : t ≤ 65535) : t = foldV t₀ := by
  obtain ⟨h0, h1, h2⟩ := h
  rw [← h2]
  unfold foldV
  split <;> omega
theorem FoldP.start {t : Int} (h : 0 ≤ t) (h' : t < 2 ^ 32) : FoldP t t := ⟨h, h', rfl⟩

theorem reg11 : True := by
  (k_with "exec While Compare cons nil" => (refine while_int (x := Str.ofString "total") (P := FoldP _) (turn := ?_); intro t'w tk'w h'w u'w hPw F'w N'w; obtain ⟨p1w, p2w, p3w⟩ := hPw))
  trivial
section
variable {prog : Program} {w : World}

theorem fold_spec {news : Led} {t : Int} {tk : Tok} (h0 : 0 ≤ t := by k_extra "k_words") (h1 : t < 2 ^ 32 := by k_extra "k_words") :
    Spec prog w 167 2 [.int t tk] news (R1 (fun t' => .int (foldV t) t') (fun t' => news)) := by
  intro pp loose mean mg mb dp un gd cn cs a' ccd cl outer A₀ base h₀ L m hh gs dr tk oz Q E B F X N T hkk hdp hu hret
  refine wpAny_call ?_
  k_dflt ktr_enter
  k_steps
  · obtain ⟨q1, q2⟩ := foldP_step (t₀ := t) ⟨by assumption, by assumption, by assumption⟩ (by assumption)
    exact ⟨rfl, _,_,_,_,_, rfl, by k_asm, by k_asm, shadow_name, q1, q2⟩
  · exact hret _ _ _ _ (.of (int_eq (foldV_small ⟨by assumption, by assumption, by assumption⟩ (by omega)))) (by k_asm) (by k_asm)
end

def wsum (ks : List Int) : Nat → Int
  | 0 => 0
  | n + 1 => wsum ks n + (ks.getD (2 * n) 0 * 256 + ks.getD (2 * n + 1) 0)

theorem range2_size (k : Nat) : Builtin.Range.rangeSize 0 (2 * (k : Int)) 2 = (k : Int) := by
  unfold Builtin.Range.rangeSize
  split <;> split <;> omega
theorem range2_small {e : Int} (h : 0 ≤ e ∧ e ≤ 1000) : Builtin.Range.small 0 e 2 = true := by
  unfold Builtin.Range.small Builtin.Range.rangeFitsLong
  have h2 : 0 ≤ Builtin.Range.rangeSize 0 e 2 ∧ Builtin.Range.rangeSize 0 e 2 ≤ 1000 := by
    unfold Builtin.Range.rangeSize
    split <;> split <;> omega
  simp only [Bool.and_eq_true, Bool.or_eq_true, decide_eq_true_eq, beq_iff_eq, if_pos (show (2 : Int) > 0 by decide)]
  omega
theorem sh8 : (2 : Int) ^ Int.toNat 8 = 256 := rfl
theorem sh16 : (2 : Int) ^ Int.toNat 16 = 65536 := rfl
theorem fd16 (x : Int) : x.fdiv 65536 = x / 65536 := Int.fdiv_eq_ediv_of_nonneg _ (by decide)
theorem fd8 (x : Int) : x.fdiv 256 = x / 256 := Int.fdiv_eq_ediv_of_nonneg _ (by decide)
theorem reg12 : True := by
  (k_with "k_words" => ((try simp only [sh8, sh16, fd16, fd8, bitAnd_m16, bitAnd_m8, Int.reduceToNat, Int.reducePow]); omega))
  trivial
theorem or16 {a b : Int} (ha : 0 ≤ a) (hb : 0 ≤ b) (hb' : b < 256) : Builtin.bitOr (a * 2 ^ Int.toNat 8) b = a * 256 + b := by
  rw [sh8, bitOr_and, bitAnd_pp (by omega) hb]
  have e1 : (a * 256).toNat = a.toNat <<< 8 := by rw [Nat.shiftLeft_eq]; omega
  have e2 := Nat.shiftLeft_add_eq_or_of_lt (b := b.toNat) (i := 8) (by omega) a.toNat
  have e3 := nat_or_add_and (a.toNat <<< 8) b.toNat
  rw [e1]
  omega
section
variable {prog : Program} {w : World}

theorem reg13 : True := by
  (k_with "call ref" => (with_reducible refine Call.at (a := 167) ?_; k_dflt (refine Spec.gr1 (C := fold_spec) (ret := ?_); intros)))
  trivial
theorem ones_sum_spec {news : Led} {b : Array UInt8} {ks : List Int} {t : Int} {tk tb : Tok} (hk : KBw.bInts b = ks := by assumption) (hb : ks.length ≤ 20 := by (try simp only [List.length_cons, List.length_nil, List.length_append]); omega) (h0 : 0 ≤ t := by k_extra "ar") (h1 : t < 2 ^ 20 := by k_extra "ar") :
    Spec prog w 175 5 [.bytes b tb, .int t tk] news (R1 (fun t' => .int (foldV (t + wsum ks ((ks.length + 1) / 2))) t') (fun t' => news)) := by
  intro pp loose mean mg mb dp un gd cn cs a' ccd cl outer A₀ base h₀ L m hh gs dr tk oz Q E B F X N T hkk hdp hu hret
  refine wpAny_call ?_
  k_dflt ktr_enter
  k_steps
  refine Halt.go ?_
  have e1 : (ks.length : Int) - (ks.length : Int).fmod 2 = 2 * ((ks.length / 2 : Nat) : Int) := by
    rw [Int.fmod_eq_emod_of_nonneg _ (by decide)]; omega
  refine loop_range (n := ks.length / 2) (IntJ (Str.ofString "total") (Str.ofString "at") (fun i U => U = t + wsum ks i ∧ 0 ≤ U ∧ U ≤ t + 65535 * i) _ _) rfl (by assumption) (by rw [e1]; exact range2_small (by omega)) (by rw [e1]; exact range2_size _) (by k_asm) (by k_asm) ⟨rfl, ⟨_,_, rfl, by simp [wsum]; omega⟩, fun _ _ _ => rfl⟩ ?_ ?_
  · rintro I i t' m₁ news₁ h tk own hI hi ⟨rfl, ⟨U, tok, q1, qu, qlo, qhi⟩, q3⟩ ho hn F₁ N₁
    rw [IntJ.map q1 q3] at F₁
    have g1 : 0 ≤ 0 + (i : Int) * 2 := by omega
    have g2 : 0 + (i : Int) * 2 < ks.length := by omega
    have g3 : 0 + (i : Int) * 2 + 1 < ks.length := by omega
    k_steps
    have z1 : (0 + (i : Int) * 2).toNat = 2 * i := by omega
    have z2 : (0 + (i : Int) * 2 + 1).toNat = 2 * i + 1 := by omega
    refine TurnEnd.intro (by k_asm) (by k_asm) (fun _ h => h) hn ⟨rfl, ⟨_,_, rfl, ?_⟩, ?_⟩
    rotate_left
    · intro y y1 y2
      simp only [if_neg y1, if_neg y2]
    have b1 : 0 ≤ ks.getD (0 + (i : Int) * 2).toNat 0 ∧ ks.getD (0 + (i : Int) * 2).toNat 0 < 256 := ⟨by assumption, by assumption⟩
    have b2 : 0 ≤ ks.getD (0 + (i : Int) * 2 + 1).toNat 0 ∧ ks.getD (0 + (i : Int) * 2 + 1).toNat 0 < 256 := ⟨by assumption, by assumption⟩
    rw [or16 b1.1 b2.1 b2.2]
    rw [z1] at b1 ⊢
    rw [z2] at b2 ⊢
    simp only [wsum]
    omega
  · rintro m₁ news₁ h tk ⟨rfl, ⟨U, tok, q1, qu, qlo, qhi⟩, q3⟩ F₁ N₁
    rw [IntJ.map q1 q3] at F₁
    k_steps
    · have e2 : ((ks.length : Int) - (ks.length : Int).fmod 2).toNat = 2 * (ks.length / 2) := by rw [e1]; omega
      have e3 : (ks.length + 1) / 2 = ks.length / 2 + 1 := by omega
      have e4 : ks.getD (2 * (ks.length / 2) + 1) 0 = 0 := by
        rw [List.getD_eq_getElem?_getD, List.getElem?_eq_none (by omega)]; rfl
      exact hret _ _ _ _ (.of (int_eq (by rw [e2, sh8, e3, qu]; simp only [wsum]; rw [e4]; congr 1; omega))) (by k_asm) (by k_asm)
    · have e3 : (ks.length + 1) / 2 = ks.length / 2 := by omega
      exact hret _ _ _ _ (.of (int_eq (by rw [e3, qu]))) (by k_asm) (by k_asm)
end

theorem in_nil : KBa.In [] := fun _ h => absurd h List.not_mem_nil
theorem in_cons {a : Int} {l : List Int} (h0 : 0 ≤ a) (h1 : a < 256) (h : KBa.In l) : KBa.In (a :: l) := fun n hn => by
  rcases List.mem_cons.mp hn with rfl | hn
  · exact ⟨h0, h1⟩
  · exact h n hn
theorem reg14 : True := by
  (k_with "kba_in" => ((repeat' first | exact in_nil | apply in_cons); all_goals k_extra "k_words"))
  trivial
theorem foldV_in (t : Int) (h : 0 ≤ t) : 0 ≤ foldV t ∧ foldV t ≤ 65535 := by
  unfold foldV; split <;> omega
theorem getD_pos {b : Array UInt8} {ks : List Int} (hk : KBw.bInts b = ks) (j : Nat) : 0 ≤ ks.getD j 0 ∧ ks.getD j 0 < 256 := KBw.getD_in fun k h => by subst hk; exact KBw.ints_in h
theorem wsum_pos {b : Array UInt8} {ks : List Int} (hk : KBw.bInts b = ks) : ∀ n, 0 ≤ wsum ks n
  | 0 => by simp [wsum]
  | n + 1 => by
    have := wsum_pos hk n
    have h1 := getD_pos hk (2 * n)
    have h2 := getD_pos hk (2 * n + 1)
    simp only [wsum]
    omega
section
variable {prog : Program} {w : World}

theorem reg15 : True := by
  (k_with "call ref" => (with_reducible refine Call.at (a := 175) ?_; k_dflt (refine Spec.gr1 (C := ones_sum_spec) (ret := ?_); intros)))
  trivial
theorem checksum_spec {news : Led} {b : Array UInt8} {ks : List Int} {t : Int} {tk tb : Tok} (hk : KBw.bInts b = ks := by assumption) (hb : ks.length ≤ 20 := by (try simp only [List.length_cons, List.length_nil, List.length_append]); omega) (h0 : 0 ≤ t := by k_extra "ar") (h1 : t < 2 ^ 20 := by k_extra "ar") :
    Spec prog w 183 8 [.bytes b tb, .int t tk] news (Q2 (fun t' c => .int c t') (fun t' c => news) (fun t' c => An3 (c = 65535 - foldV (t + wsum ks ((ks.length + 1) / 2))) (0 ≤ c) (c ≤ 65535))) := by
  intro pp loose mean mg mb dp un gd cn cs a' ccd cl outer A₀ base h₀ L m hh gs dr tk oz Q E B F X N T hkk hdp hu hret
  refine wpAny_call ?_
  k_dflt ktr_enter
  k_steps
  have hf := foldV_in (t + wsum ks ((ks.length + 1) / 2)) (Int.add_nonneg h0 (wsum_pos hk _))
  exact hret _ _ _ _ (.mk _ _ ⟨rfl, by omega, by omega⟩) (by k_asm) (by k_asm)

theorem reg16 : True := by
  (k_with "call ref" => (with_reducible refine Call.at (a := 183) ?_; k_dflt (refine Spec.gq2 (C := checksum_spec) (ret := ?_); intro t'w c'w h'w tk'w hPw F'w N'w; obtain ⟨ecw, c1w, c2w⟩ := hPw)))
  trivial
theorem pseudo_spec {news : Led} {a b z : Int} {t1 t2 t3 t4 : Tok} (ha : 0 ≤ a := by k_extra "ar") (ha' : a ≤ 200 := by k_extra "ar") (hb : 0 ≤ b := by k_extra "ar") (hb' : b ≤ 200 := by k_extra "ar") (hz : 0 ≤ z := by k_extra "ar") (hz' : z ≤ 200 := by k_extra "ar") :
    Spec prog w 190 5 [.int a t1, .int b t2, .int 17 t3, .int z t4] news (R1 (fun t' => .int (a + b + 17 + z) t') (fun t' => news)) := by
  intro pp loose mean mg mb dp un gd cn cs a' ccd cl outer A₀ base h₀ L m hh gs dr tk oz Q E B F X N T hkk hdp hu hret
  refine wpAny_call ?_
  k_dflt ktr_enter
  k_steps
  exact hret _ _ _ _ (.of (int_eq (by (try simp only [sh16, fd16, bitAnd_m16]); unfold foldV; split <;> omega))) (by k_asm) (by k_asm)

theorem reg17 : True := by
  (k_with "call ref" => (with_reducible refine Call.at (a := 190) ?_; k_dflt (refine Spec.gr1 (C := pseudo_spec) (ret := ?_); intros)))
  trivial
theorem put16_spec {news : Led} {n : Int} {t : Tok} (h0 : 0 ≤ n := by k_extra "ar") (h1 : n < 65536 := by k_extra "ar") :
    Spec prog w 146 2 [.int n t] news (Q2 (fun b t' => .bytes b t') (fun b t' => news) (fun b t' => KBw.bInts b = [n / 256, n % 256])) := by
  intro pp loose mean mg mb dp un gd cn cs a' ccd cl outer A₀ base h₀ L m hh gs dr tk oz Q E B F X N T hkk hdp hu hret
  refine wpAny_call ?_
  k_dflt ktr_enter
  k_steps
  exact hret _ _ _ _ (.mk _ _ ((KBa.ints_make (by assumption)).trans (by simp only [sh8, fd8, bitAnd_m8]; congr 1; omega))) (by k_asm) (cb_drop (by k_asm) (by intro p hp; k_mem))

theorem reg18 : True := by
  (k_with "call ref" => (with_reducible refine Call.at (a := 146) ?_; k_dflt (refine Spec.gq2 (C := put16_spec) (ret := ?_); intros)))
  trivial
theorem need_spec {news : Led} {b : Array UInt8} {ks : List Int} {a z : Int} {tb t1 t2 : Tok} (hk : KBw.bInts b = ks := by assumption) (hb : ks.length ≤ 20 := by (try simp only [List.length_cons, List.length_nil, List.length_append]); omega) (h0 : 0 ≤ a := by k_extra "ar") (h1 : a + z ≤ ks.length := by (try simp only [List.length_cons, List.length_nil, List.length_append]); omega) :
    Spec prog w 153 2 [.bytes b tb, .int a t1, .int z t2] news (R0 (.none) (news)) := by
  intro pp loose mean mg mb dp un gd cn cs a' ccd cl outer A₀ base h₀ L m hh gs dr tk oz Q E B F X N T hkk hdp hu hret
  refine wpAny_call ?_
  k_dflt ktr_enter
  k_steps
  all_goals exact hret _ _ _ _ .mk (by k_asm) (by k_asm)

theorem reg19 : True := by
  (k_with "call ref" => (with_reducible refine Call.at (a := 153) ?_; k_dflt (refine Spec.gr0 (C := need_spec) (ret := ?_); intros)))
  trivial
theorem get16_spec {news : Led} {b : Array UInt8} {ks : List Int} {a : Int} {tb t1 : Tok} (hk : KBw.bInts b = ks := by assumption) (hb : ks.length ≤ 20 := by k_extra "ar") (h0 : 0 ≤ a := by k_extra "ar") (h1 : a + 2 ≤ ks.length := by k_extra "ar") :
    Spec prog w 160 5 [.bytes b tb, .int a t1] news (R1 (fun t' => .int (ks.getD a.toNat 0 * 256 + ks.getD (a + 1).toNat 0) t') (fun t' => news)) := by
  intro pp loose mean mg mb dp un gd cn cs a' ccd cl outer A₀ base h₀ L m hh gs dr tk oz Q E B F X N T hkk hdp hu hret
  refine wpAny_call ?_
  k_dflt ktr_enter
  k_steps
  all_goals exact hret _ _ _ _ (.of (int_eq (or16 (by assumption) (by assumption) (by assumption)))) (by k_asm) (by k_asm)
end

def head0 (sp tp z : Int) : List Int := [sp / 256, sp % 256] ++ [tp / 256, tp % 256] ++ [z / 256, z % 256]
def chk (s t sp tp : Int) (ps : List Int) : Int :=
  let hs := head0 sp tp (8 + (ps.length : Int)) ++ [0 / 256, 0 % 256] ++ ps
  let x := 65535 - foldV (s + t + 17 + (8 + (ps.length : Int)) + wsum hs ((hs.length + 1) / 2))
  if x = 0 then 65535 else x
theorem chk_not {s t sp tp c : Int} {ps : List Int} (h : c = 65535 - foldV (s + t + 17 + (8 + (ps.length : Int)) + wsum (head0 sp tp (8 + (ps.length : Int)) ++ [0 / 256, 0 % 256] ++ ps) (((head0 sp tp (8 + (ps.length : Int)) ++ [0 / 256, 0 % 256] ++ ps).length + 1) / 2))) (h0 : c ≠ 0) : chk s t sp tp ps = c := by
  rw [h] at h0 ⊢
  exact if_neg h0
theorem chk_zero {s t sp tp : Int} {ps : List Int} (h : 65535 - foldV (s + t + 17 + (8 + (ps.length : Int)) + wsum (head0 sp tp (8 + (ps.length : Int)) ++ [0 / 256, 0 % 256] ++ ps) (((head0 sp tp (8 + (ps.length : Int)) ++ [0 / 256, 0 % 256] ++ ps).length + 1) / 2)) = 0) : chk s t sp tp ps = 65535 := by
  unfold chk
  exact if_pos h
def dgram (s t sp tp : Int) (ps : List Int) : List Int :=
  head0 sp tp (8 + (ps.length : Int)) ++ [chk s t sp tp ps / 256, chk s t sp tp ps % 256] ++ ps
theorem take_clip {ks : List Int} {x : Int} (h : x = ks.length) : List.take ((some x).elim ks.length (clipAt ks.length) - (none : Option Int).elim 0 (clipAt ks.length)) (List.drop ((none : Option Int).elim 0 (clipAt ks.length)) ks) = ks := by
  show List.take (clipAt ks.length x - 0) (List.drop 0 ks) = ks
  have e : clipAt ks.length x = ks.length := by
    have := clipAt_cast ks.length x
    split at this <;> omega
  rw [e, List.drop_zero, Nat.sub_zero, List.take_length]
theorem drop_clip {ks : List Int} {x : Int} (h0 : 0 ≤ x) (h : x ≤ ks.length) : List.take ((none : Option Int).elim ks.length (clipAt ks.length) - (some x).elim 0 (clipAt ks.length)) (List.drop ((some x).elim 0 (clipAt ks.length)) ks) = ks.drop x.toNat := by
  show List.take (ks.length - clipAt ks.length x) (List.drop (clipAt ks.length x) ks) = ks.drop x.toNat
  have e : clipAt ks.length x = x.toNat := by
    have := clipAt_cast ks.length x
    split at this <;> omega
  rw [e, List.take_of_length_le (by rw [List.length_drop]; exact Nat.le_refl _)]
theorem SubB.at {M : Model} {A : Around} {r : Addr} {bs : Array UInt8} {t : Tok} {v : PySem.Expr} {a b : Option PySem.Expr} {ps : Pos} {Q E : Value → Shared → Prop} {s : Shared} (h : wpAny M A (subscriptTail v (.Slice a b none ps) (.bytes bs t) (.ref r)) Q E s) : wpAny M A (subscriptTail v (.Slice a b none ps) (.bytes bs t) (.ref r)) Q E s := h
theorem reg20 : True := by
  (k_with "subscriptTail" => (with_reducible refine SubB.at ?_; (refine KBc.slice_K (s := ⟨_,_,_,_,_⟩) (by k_asm) (by k_asm) (by kba_ints) (by constructor) (by constructor) (by kba_size) ?_); intro _ _ _ _ _ kbcKw; (first | replace kbcKw := kbcKw.trans (take_clip (by omega)) | replace kbcKw := kbcKw.trans (drop_clip (by omega) (by omega)) | skip); (try simp only [Int.reduceToNat] at kbcKw)))
  trivial
@[reducible] def tupObj (vs : List Value) : Obj := { cls := .type "tuple", data := .seq vs.toArray }
section
variable {prog : Program} {w : World}

theorem reg21 : True := by
  (k_with "call ref" => (with_reducible refine Call.at (a := 160) ?_; k_dflt (refine Spec.gr1 (C := get16_spec) (ret := ?_); intro t'w h'w tk'w  F'w N'w; ((try simp only [Int.reduceToNat, Int.reduceAdd])))))
  trivial
theorem pack_spec {news : Led} {b : Array UInt8} {ps : List Int} {u v sp tp : Int} {t1 t2 t3 t4 tb : Tok} (hk : KBw.bInts b = ps := by assumption) (hb : ps.length ≤ 3 := by k_extra "ar") (s0 : 0 ≤ u := by k_extra "ar") (s1 : u ≤ 200 := by k_extra "ar") (q0 : 0 ≤ v := by k_extra "ar") (q1 : v ≤ 200 := by k_extra "ar")
   (a0 : 0 ≤ sp := by k_extra "ar") (a1 : sp < 65536 := by k_extra "ar") (b0 : 0 ≤ tp := by k_extra "ar") (b1 : tp < 65536 := by k_extra "ar") :
    Spec prog w 219 12 [.int u t1, .int v t2, .int sp t3, .int tp t4, .bytes b tb] news (Q2 (fun b' t' => .bytes b' t') (fun b' t' => news) (fun b' t' => KBw.bInts b' = dgram u v sp tp ps)) := by
  intro pp loose mean mg mb dp un gd cn cs a' ccd cl outer A₀ base h₀ L m hh gs dr tk oz Q E B F X N T hkk hdp hu hret
  refine wpAny_call ?_
  k_dflt ktr_enter
  k_steps
  · have e := chk_zero (s := u) (t := v) (sp := sp) (tp := tp) (ps := ps) ((Eq.symm ‹_ = 65535 - foldV _›).trans (by omega))
    exact hret _ _ _ _ (.mk _ _ (by unfold dgram head0; rw [e]; kba_ints)) (by k_asm) (by k_asm)
  · have e := chk_not (s := u) (t := v) (sp := sp) (tp := tp) (ps := ps) (c := _) (by assumption) (by omega)
    exact hret _ _ _ _ (.mk _ _ (by unfold dgram head0; rw [e]; kba_ints)) (by k_asm) (by k_asm)

theorem unpack_spec {news : Led} {b : Array UInt8} {ks : List Int} {u v : Int} {t1 t2 tb : Tok} (hk : KBw.bInts b = ks := by assumption) (hb : ks.length ≤ 20 := by k_extra "ar") (hb' : 8 ≤ ks.length := by k_extra "ar") (s0 : 0 ≤ u := by k_extra "ar") (s1 : u ≤ 200 := by k_extra "ar") (q0 : 0 ≤ v := by k_extra "ar") (q1 : v ≤ 200 := by k_extra "ar")
   (hz : ks.getD 4 0 * 256 + ks.getD 5 0 = ks.length := by assumption) (hc : 65535 - foldV (u + v + 17 + (ks.getD 4 0 * 256 + ks.getD 5 0) + wsum ks ((ks.length + 1) / 2)) = 0 := by assumption) :
    Spec prog w 226 12 [.int u t1, .int v t2, .bytes b tb] news (Q5 (fun T b' t1 t2 t3 => .ref T) (fun T b' t1 t2 t3 => (T, tupObj [.int (ks.getD 0 0 * 256 + ks.getD 1 0) t1, .int (ks.getD 2 0 * 256 + ks.getD 3 0) t2, .bytes b' t3]) :: news) (fun T b' t1 t2 t3 => KBw.bInts b' = ks.drop 8 ∧ ∀ p ∈ news, p.1 < T)) := by
  intro pp loose mean mg mb dp un gd cn cs a' ccd cl outer A₀ base h₀ L m hh gs dr tk oz Q E B F X N T hkk hdp hu hret
  refine wpAny_call ?_
  k_dflt ktr_enter
  k_steps
  all_goals exact hret _ _ _ _ (.mk _ _ _ _ _ ⟨by assumption, by assumption⟩) (by k_asm) (by k_asm)
end
theorem nn_cons {a : Int} {l : List Int} (h : 0 ≤ a) (h' : ∀ x ∈ l, 0 ≤ x) : ∀ x ∈ a :: l, 0 ≤ x := List.forall_mem_cons.mpr ⟨h, h'⟩
theorem wsum_nn {ks : List Int} (h : ∀ x ∈ ks, 0 ≤ x) : ∀ n, 0 ≤ wsum ks n := by
  have g : ∀ j, 0 ≤ ks.getD j 0 := fun j => by
    rw [List.getD_eq_getElem?_getD]
    cases e : ks[j]? with
    | none => exact Int.le_refl 0
    | some x => exact h x (List.mem_of_getElem? e)
  intro n
  induction n with
  | zero => exact Int.le_refl 0
  | succ n ih => exact Int.add_nonneg ih (Int.add_nonneg (Int.mul_nonneg (g _) (by decide)) (g _))
theorem word_at (x : Int) : x / 256 * 256 + x % 256 = x := Int.mul_comm _ _ ▸ Int.mul_ediv_add_emod x 256
theorem wsum_sum {sp tp z c : Int} {ps : List Int} : ∀ k, wsum (head0 sp tp z ++ [c / 256, c % 256] ++ ps) (4 + k) = wsum (head0 sp tp z ++ [0 / 256, 0 % 256] ++ ps) (4 + k) + c
  | 0 => by
    show 0 + (sp / 256 * 256 + sp % 256) + (tp / 256 * 256 + tp % 256) + (z / 256 * 256 + z % 256) + (c / 256 * 256 + c % 256) = 0 + (sp / 256 * 256 + sp % 256) + (tp / 256 * 256 + tp % 256) + (z / 256 * 256 + z % 256) + 0 + c
    rw [word_at c, Int.add_zero]
  | k + 1 => by
    have e : 2 * (4 + k) = 2 * k + 8 := by rw [Nat.mul_add, Nat.add_comm]
    show wsum _ (4 + k) + ((head0 sp tp z ++ [c / 256, c % 256] ++ ps).getD (2 * (4 + k)) 0 * 256 + (head0 sp tp z ++ [c / 256, c % 256] ++ ps).getD (2 * (4 + k) + 1) 0) = wsum _ (4 + k) + ((head0 sp tp z ++ [0 / 256, 0 % 256] ++ ps).getD (2 * (4 + k)) 0 * 256 + (head0 sp tp z ++ [0 / 256, 0 % 256] ++ ps).getD (2 * (4 + k) + 1) 0) + c
    rw [wsum_sum k, e, Int.add_right_comm]
    rfl
theorem sum_out {X c : Int} (hX : 0 < X) (e : c = if 65535 - foldV X = 0 then 65535 else 65535 - foldV X) : 65535 - foldV (X + c) = 0 := by
  unfold foldV at *
  split at e <;> split <;> (try split at e) <;> omega
theorem dgram_ok {s t sp tp : Int} {ps : List Int} (hn : ps.length ≤ 3) (hps : ∀ p ∈ ps, 0 ≤ p ∧ p < 256) (s0 : 0 ≤ s) (t0 : 0 ≤ t) (a0 : 0 ≤ sp) (a1 : sp < 65536) (b0 : 0 ≤ tp) (b1 : tp < 65536) : An6 ((dgram s t sp tp ps).length = 8 + ps.length) ((dgram s t sp tp ps).getD 0 0 * 256 + (dgram s t sp tp ps).getD 1 0 = sp) ((dgram s t sp tp ps).getD 2 0 * 256 + (dgram s t sp tp ps).getD 3 0 = tp) ((dgram s t sp tp ps).getD 4 0 * 256 + (dgram s t sp tp ps).getD 5 0 = 8 + (ps.length : Int)) ((dgram s t sp tp ps).drop 8 = ps) (65535 - foldV (s + t + 17 + ((dgram s t sp tp ps).getD 4 0 * 256 + (dgram s t sp tp ps).getD 5 0) + wsum (dgram s t sp tp ps) (((dgram s t sp tp ps).length + 1) / 2)) = 0) := by
  have hl : ∀ c : Int, (head0 sp tp (8 + (ps.length : Int)) ++ [c / 256, c % 256] ++ ps).length = 8 + ps.length := fun c => (Nat.add_comm _ _ : ps.length + 8 = 8 + ps.length)
  have h4 : (dgram s t sp tp ps).getD 4 0 * 256 + (dgram s t sp tp ps).getD 5 0 = 8 + (ps.length : Int) := word_at _
  refine ⟨hl _, word_at _, word_at _, h4, rfl, ?_⟩
  have hk : (8 + ps.length + 1) / 2 = 4 + (ps.length + 1) / 2 := by omega
  have hw := wsum_nn (ks := head0 sp tp (8 + (ps.length : Int)) ++ [0 / 256, 0 % 256] ++ ps) (fun x hx => by
    exact nn_cons (Int.ediv_nonneg a0 (by decide)) (nn_cons (Int.emod_nonneg _ (by decide)) (nn_cons (Int.ediv_nonneg b0 (by decide)) (nn_cons (Int.emod_nonneg _ (by decide)) (nn_cons (Int.ediv_nonneg (by omega) (by decide)) (nn_cons (Int.emod_nonneg _ (by decide)) (nn_cons (by decide) (nn_cons (by decide) fun x hx => (hps x hx).1))))))) x hx) (4 + (ps.length + 1) / 2)
  rw [h4, dgram, hl, hk, wsum_sum, ← Int.add_assoc]
  refine sum_out (by omega) ?_
  rw [chk, hl, hk]

section
variable {prog : Program} {w : World}

theorem reg22 : True := by
  (k_with "call ref" => (with_reducible refine Call.at (a := 219) ?_; k_dflt (refine Spec.gq2 (C := pack_spec) (ret := ?_); intros)))
  trivial
theorem read_header_spec {news : Led} {b : Array UInt8} {ks : List Int} {tb : Tok} (hk : KBw.bInts b = ks := by assumption) (hb : ks.length ≤ 20 := by k_extra "ar") (hb' : 4 ≤ ks.length := by k_extra "ar") :
    Spec prog w 233 8 [.bytes b tb] news (Q7 (fun H D k1 k2 t1 t2 n => .ref H) (fun H D k1 k2 t1 t2 n => (H, instObj 207 D) :: (D, dictOf [ent w.params "source_port" k1 (.int (ks.getD 0 0 * 256 + ks.getD 1 0) t1), ent w.params "target_port" k2 (.int (ks.getD 2 0 * 256 + ks.getD 3 0) t2)] n) :: news) (fun H D k1 k2 t1 t2 n => D < H ∧ ∀ p ∈ news, p.1 < D)) := by
  intro pp loose mean mg mb dp un gd cn cs a' ccd cl outer A₀ base h₀ L m hh gs dr tk oz Q E B F X N T hkk hdp hu hret
  refine wpAny_call ?_
  k_dflt ktr_enter
  k_steps
  exact hret _ _ _ _ (.mk _ _ _ _ _ _ _ ⟨by assumption, by assumption⟩) (by k_asm) (by k_asm)
end

inductive FarLed : Option (Int × Int) → Value → Led → Prop
  | no : FarLed none .none []
  | yes {a p : Int} {T : Addr} {t1 t2 : Tok} : FarLed (some (a, p)) (.ref T) [(T, tupObj [.int a t1, .int p t2])]

inductive RowLed (P : Params) (num adr port : Int) (far : Option (Int × Int)) (I : Addr) (l : Led) : Prop
  | mk (D : Addr) (k1 k2 k3 k4 t1 t2 t3 : Tok) (v : Value) (n : Nat) (lf : Led) (e : l = (I, instObj 264 D) :: (D, dictOf [ent P "owner" k1 (.int num t1), ent P "address" k2 (.int adr t2), ent P "port" k3 (.int port t3), ent P "remote" k4 v] n) :: lf) (hf : FarLed far v lf)

def fitV (adr port : Int) (far : Option (Int × Int)) (target tport : Int) (f : Int × Int) : Int :=
  if port ≠ tport ∨ (adr ≠ 0 ∧ adr ≠ target) then 0 else match far with
  | none => if adr = 0 then 1 else 2
  | some g => if g = f then (if adr = 0 then 3 else 4) else 0
theorem far_t {a b c d : Int} (h : (a == b && c == d) = true) : a = b ∧ c = d := by simpa using h
theorem far_f {a b c d : Int} (h : (a == b && c == d) = false) : ¬ (a = b ∧ c = d) := by simpa using h
section
variable {prog : Program} {w : World}
theorem is_at_spec {news l : Led} {num adr port a p : Int} {far : Option (Int × Int)} {I : Addr} {t1 t2 : Tok} (hr : RowLed w.params num adr port far I l := by assumption) (hl : ∀ q ∈ l, q ∈ news := by k_extra "l_sub") (hne : port ≠ p := by assumption) :
    Spec prog w 254 2 [.ref I, .int a t1, .int p t2] news (R0 (.bool false) (news)) := by
  intro pp loose mean mg mb dp un gd cn cs a' ccd cl outer A₀ base h₀ L m hh gs dr tk oz Q E B F X N T hkk hdp hu hret
  obtain ⟨D, k1, k2, k3, k4, u1, u2, u3, v, n, lf, rfl, hf⟩ := hr
  have m1 := hl _ (.head _)
  have m2 := hl _ (.tail _ (.head _))
  refine wpAny_call ?_
  k_dflt ktr_enter
  k_steps
  all_goals exact hret _ _ _ _ (.of (bool_eq (beq_eq_false_iff_ne.mpr (by omega)))) (by k_asm) (by k_asm)

theorem fits_spec {news l : Led} {num adr port target tport fa fp : Int} {far : Option (Int × Int)} {I T : Addr} {t1 t2 t3 t4 : Tok} (hr : RowLed w.params num adr port far I l := by assumption) (hl : ∀ q ∈ l, q ∈ news := by k_extra "l_sub") (hT : (T, tupObj [.int fa t3, .int fp t4]) ∈ news := by k_mem) :
    Spec prog w 261 2 [.ref I, .int target t1, .int tport t2, .ref T] news (R1 (fun t' => .int (fitV adr port far target tport (fa, fp)) t') (fun t' => news)) := by
  intro pp loose mean mg mb dp un gd cn cs a' ccd cl outer A₀ base h₀ L m hh gs dr tk oz Q E B F X N T hkk hdp hu hret
  obtain ⟨D, k1, k2, k3, k4, u1, u2, u3, v, n, lf, rfl, hf⟩ := hr
  have m1 := hl _ (.head _)
  have m2 := hl _ (.tail _ (.head _))
  cases hf with
  | no =>
    refine wpAny_call ?_
    k_dflt ktr_enter
    k_steps
    all_goals exact hret _ _ _ _ (.of (int_eq (by simp only [fitV]; (repeat' split) <;> omega))) (by k_asm) (by k_asm)
  | yes =>
    have m3 := hl _ (.tail _ (.tail _ (.head _)))
    refine wpAny_call ?_
    k_dflt ktr_enter
    k_steps
    all_goals (
      (try have hb := far_t ‹(_ && _) = true›)
      (try have hb := far_f ‹(_ && _) = false›)
      exact hret _ _ _ _ (.of (int_eq (by simp only [fitV, Prod.mk.injEq]; (repeat' split) <;> omega))) (by k_asm) (by k_asm))
end

theorem reg23 : True := by
  (k_with "k_deep" => first | assumption | exact List.mem_cons_self | (apply List.mem_cons_of_mem; k_extra "k_deep") | (apply List.mem_append_right; k_extra "k_deep") | (apply List.mem_append_left; k_extra "k_deep"))
  trivial
theorem sub_right {l A B : Led} (h : ∀ q ∈ l, q ∈ B) : ∀ q ∈ l, q ∈ A ++ B := fun q hq => List.mem_append_right _ (h q hq)
theorem sub_left {l A B : Led} (h : ∀ q ∈ l, q ∈ A) : ∀ q ∈ l, q ∈ A ++ B := fun q hq => List.mem_append_left _ (h q hq)
theorem sub_cons {l B : Led} {a : Addr × Obj} (h : ∀ q ∈ l, q ∈ B) : ∀ q ∈ l, q ∈ a :: B := fun q hq => List.mem_cons_of_mem _ (h q hq)
theorem sub_app {l l' A : Led} (h : ∀ q ∈ l, q ∈ A) (h' : ∀ q ∈ l', q ∈ A) : ∀ q ∈ l ++ l', q ∈ A := fun q hq => (List.mem_append.mp hq).elim (h q) (h' q)
theorem sub_in {l A : Led} {a : Addr × Obj} (h : a ∈ A) (h' : ∀ q ∈ l, q ∈ A) : ∀ q ∈ a :: l, q ∈ A := fun q hq => (List.mem_cons.mp hq).elim (fun e => e ▸ h) (h' q)
theorem sub_nil {A : Led} : ∀ q ∈ ([] : Led), q ∈ A := fun _ h => absurd h List.not_mem_nil

theorem reg24 : True := by
  (k_with "l_sub" => first | assumption | exact ro_sub | (refine sub_cons ?_; k_extra "l_sub") | (refine sub_right ?_; k_extra "l_sub") | (refine sub_left ?_; k_extra "l_sub"))
  (k_with "k_mem" => k_extra "k_deep")
  (k_with "k_mem" => first | assumption | exact List.mem_append_right _ (by assumption))
  trivial
structure Sk where
  num : Int
  port : Int
  adr : Int
  far : Option (Int × Int)
  q : List (List Int × Int × Int)
  err : Option (Int × Int)
  rI : Addr
  sI : Addr
  lD : Addr
  rl : Led
  sl : Led
  ll : Led

theorem all_cons {f : Sk → Led} {xs : List Sk} {B : Led} {a : Addr × Obj} (h : ∀ x ∈ xs, ∀ q ∈ f x, q ∈ B) : ∀ x ∈ xs, ∀ q ∈ f x, q ∈ a :: B := fun x hx => sub_cons (h x hx)
theorem all_right {f : Sk → Led} {xs : List Sk} {A B : Led} (h : ∀ x ∈ xs, ∀ q ∈ f x, q ∈ B) : ∀ x ∈ xs, ∀ q ∈ f x, q ∈ A ++ B := fun x hx => sub_right (h x hx)
theorem all_left {f : Sk → Led} {xs : List Sk} {A B : Led} (h : ∀ x ∈ xs, ∀ q ∈ f x, q ∈ A) : ∀ x ∈ xs, ∀ q ∈ f x, q ∈ A ++ B := fun x hx => sub_left (h x hx)
theorem reg25 : True := by
  (k_with "l_all" => first | assumption | (refine all_cons ?_; k_extra "l_all") | (refine all_right ?_; k_extra "l_all") | (refine all_left ?_; k_extra "l_all"))
  trivial
def kvsBy (f : Sk → Value) (xs : List Sk) : List (Int × Value) := xs.map fun x => (x.num, f x)
abbrev rowsOf (xs : List Sk) : List (Int × Value) := kvsBy (fun x => .ref x.rI) xs
theorem valueAt_kvs {f : Sk → Value} {xs : List Sk} (hn : (xs.map (·.num)).Nodup) {x : Sk} (hx : x ∈ xs) : valueAt (kvsBy f xs) x.num = some (f x) := by
  induction xs with
  | nil => exact absurd hx List.not_mem_nil
  | cons y ys ih =>
    rw [List.map_cons, List.nodup_cons] at hn
    rcases List.mem_cons.mp hx with rfl | hx
    · simp [kvsBy, valueAt]
    · have hne : y.num ≠ x.num := fun e => hn.1 (e ▸ List.mem_map_of_mem hx)
      have := ih hn.2 hx
      simpa [kvsBy, valueAt, List.find?_cons, hne] using this
inductive KvsAt (f : Sk → Value) (xs : List Sk) (i : Nat) (k : Int) (v : Value) : Prop
  | mk (x : Sk) (h1 : xs[i]? = some x) (h2 : x ∈ xs) (h3 : k = x.num) (h4 : v = f x)
theorem kvs_at {f : Sk → Value} {xs : List Sk} {i : Nat} {k : Int} {v : Value} (h : (kvsBy f xs)[i]? = some (k, v)) : KvsAt f xs i k v := by
  rw [kvsBy, List.getElem?_map] at h
  cases hx : xs[i]? with
  | none => rw [hx] at h; cases h
  | some x =>
    rw [hx] at h
    cases h
    exact ⟨x, hx, List.mem_of_getElem? hx, rfl, rfl⟩
theorem valueAt_none {f : Sk → Value} {xs : List Sk} {k : Int} (h : ∀ x ∈ xs, x.num ≠ k) : valueAt (kvsBy f xs) k = none := by
  induction xs with
  | nil => rfl
  | cons y ys ih =>
    have h1 := h y (.head _)
    have h2 := ih fun x hx => h x (.tail _ hx)
    simpa [kvsBy, valueAt, List.find?_cons, h1] using h2
theorem frame2 {a b : Str} {m m₀ : Str → Option Value} (h : ∀ y, y ≠ a → y ≠ b → m y = m₀ y) : m = fun y => if y = a then m a else if y = b then m b else m₀ y := by
  funext y
  by_cases ha : y = a
  · subst ha; simp
  · by_cases hb : y = b
    · subst hb; simp [ha]
    · simp [ha, hb, h y ha hb]
theorem frame4 {a b c d : Str} {vc vd : Value} {m m₀ : Str → Option Value} (hc : m c = some vc) (hd : m d = some vd) (h : ∀ y, y ≠ a → y ≠ b → y ≠ c → y ≠ d → m y = m₀ y) : m = fun y => if y = a then m a else if y = b then m b else if y = c then some vc else if y = d then some vd else m₀ y := by
  funext y
  by_cases ha : y = a
  · subst ha; simp
  · by_cases hb : y = b
    · subst hb; simp [ha]
    · by_cases hc' : y = c
      · subst hc'; simp [ha, hb, hc]
      · by_cases hd' : y = d
        · subst hd'; simp [ha, hb, hc', hd]
        · simp [ha, hb, hc', hd', h y ha hb hc' hd']

def Keep2 (a b : Str) (m₀ : Str → Option Value) (l₀ : Led) (_i : Nat) (m : Str → Option Value) (l : Led) : Prop := l = l₀ ∧ ∀ y, y ≠ a → y ≠ b → m y = m₀ y
def pickStep (target tport : Int) (f : Int × Int) (st : Int × Option Int) (x : Sk) : Int × Option Int := if fitV x.adr x.port x.far target tport f > st.1 then (fitV x.adr x.port x.far target tport f, some x.num) else st
def pickAll (target tport : Int) (f : Int × Int) (xs : List Sk) : Int × Option Int := xs.foldl (pickStep target tport f) (0, none)
theorem pickAll_take {target tport : Int} {f : Int × Int} {xs : List Sk} {i : Nat} {x : Sk} (h : xs[i]? = some x) : pickAll target tport f (xs.take (i + 1)) = pickStep target tport f (pickAll target tport f (xs.take i)) x := by
  unfold pickAll
  rw [List.take_add_one, h, List.foldl_append]
  rfl
inductive NumV : Option Int → Value → Prop
  | no : NumV none .none
  | yes {k : Int} {t : Tok} : NumV (some k) (.int k t)

inductive RowMem (P : Params) (num adr port : Int) (I : Addr) (l : Led) : Prop
  | mk (D : Addr) (k1 k2 k3 k4 t1 t2 t3 : Tok) (v : Value) (n : Nat) (h1 : (I, instObj 264 D) ∈ l) (h2 : (D, dictOf [ent P "owner" k1 (.int num t1), ent P "address" k2 (.int adr t2), ent P "port" k3 (.int port t3), ent P "remote" k4 v] n) ∈ l)
theorem RowLed.mem {P : Params} {num adr port : Int} {far : Option (Int × Int)} {I : Addr} {l : Led} (h : RowLed P num adr port far I l) : RowMem P num adr port I l := by
  obtain ⟨D, k1, k2, k3, k4, t1, t2, t3, v, n, lf, rfl, hf⟩ := h
  exact ⟨D, k1, k2, k3, k4, t1, t2, t3, v, n, .head _, .tail _ (.head _)⟩
inductive BestV (c d : Str) (m : Str → Option Value) (b : Int × Option Int) : Prop
  | mk (t : Tok) (v : Value) (h1 : m c = some (.int b.1 t)) (h2 : m d = some v) (h3 : NumV b.2 v)
def FindJ (a b c d : Str) (target tport : Int) (f : Int × Int) (xs : List Sk) (m₀ : Str → Option Value) (l₀ : Led) (i : Nat) (m : Str → Option Value) (l : Led) : Prop :=
  An3 (l = l₀) (BestV c d m (pickAll target tport f (xs.take i))) (∀ y, y ≠ a → y ≠ b → y ≠ c → y ≠ d → m y = m₀ y)
section
variable {prog : Program} {w : World} {ti td tr : Addr} {kt : Tok} {n : Nat} {o : Obj} {xs : List Sk} {news : Led}

theorem reg26 : True := by
  (k_with "call ref" => (with_reducible refine Call.at (a := 254) ?_; k_dflt (refine Spec.gr0 (C := is_at_spec) (ret := ?_); intros)))
  (k_with "call ref" => (with_reducible refine Call.at (a := 261) ?_; k_dflt (refine Spec.gr1 (C := fits_spec) (ret := ?_); intros)))
  trivial
theorem row_spec {k : Int} {v : Value} {t : Tok} (m1 : (ti, instObj 327 td) ∈ news := by k_mem) (m2 : (td, dictOf [ent w.params "rows" kt (.ref tr)] n) ∈ news := by k_mem) (m3 : (tr, o) ∈ news := by k_mem) {kvs : List (Int × Value)} (hd : o.IsDictOf (intKind prog w) kvs := by k_asm) (lo : (tr == sysModules) = false := by k_asm) (hv : valueAt kvs k = some v := by assumption) :
    Spec prog w 289 2 [.ref ti, .int k t] news (R0 (v) (news)) := by
  intro pp loose mean mg mb dp un gd cn cs a' ccd cl outer A₀ base h₀ L m hh gs dr tk oz Q E B F X N T hkk hdp hu hret
  have hv' : (valueAt kvs k).isSome = true := by rw [hv]; rfl
  refine wpAny_call ?_
  k_dflt ktr_enter
  k_steps
  all_goals exact hret _ _ _ _ .mk (by k_asm) (by k_asm)

theorem is_there_spec {owner a p : Int} {rv : Value} {t1 t2 t3 : Tok} (m1 : (ti, instObj 327 td) ∈ news := by k_mem) (m2 : (td, dictOf [ent w.params "rows" kt (.ref tr)] n) ∈ news := by k_mem) (m3 : (tr, o) ∈ news := by k_mem) (hd : o.IsDictOf (intKind prog w) (rowsOf xs) := by k_asm) (lo : (tr == sysModules) = false := by k_asm)
    (hn : (xs.map (·.num)).Nodup := by assumption) (hr : ∀ x ∈ xs, RowLed w.params x.num x.adr x.port x.far x.rI x.rl := by assumption) (hl : ∀ x ∈ xs, ∀ q ∈ x.rl, q ∈ news := by k_extra "l_all") (hne : ∀ x ∈ xs, x.num ≠ owner → x.port ≠ p := by assumption) :
    Spec prog w 296 5 [.ref ti, .int a t1, .int p t2, rv, .int owner t3] news (R0 (.bool false) (news)) := by
  intro pp loose mean mg mb dp un gd cn cs a' ccd cl outer A₀ base h₀ L m hh gs dr tk oz Q E B F X N T hkk hdp hu hret
  refine wpAny_call ?_
  k_dflt ktr_enter
  k_steps
  refine Halt.go ?_
  refine loop_keys (Keep2 (Str.ofString "other") (Str.ofString "row") _ _) rfl (by k_asm) (by k_asm) (by k_mem) (by k_asm) (by assumption) ⟨rfl, fun _ _ _ => rfl⟩ ?_ ?_
  · rintro I i k v t' m₁ news₁ h tk own hI hi ⟨rfl, hm⟩ ho hnI F₁ N₁
    obtain ⟨x, hx, hxm, rfl, rfl⟩ := kvs_at hi
    rw [frame2 hm] at F₁
    have hrx := hr x hxm
    have hlx := hl x hxm
    obtain ⟨rD, c1, c2, c3, c4, v1, v2, v3, vr, nr, hi1, hi2⟩ := hrx.mem
    replace hi1 := hlx _ hi1
    replace hi2 := hlx _ hi2
    have hv := valueAt_kvs (f := fun x => .ref x.rI) hn hxm
    by_cases hc : x.num = owner
    · k_steps
      exact TurnEnd.intro (by k_asm) (by k_asm) (fun _ h => h) hnI ⟨rfl, fun y y1 y2 => by simp only [if_neg y1, if_neg y2]⟩
    · have hp := hne x hxm hc
      k_steps
      exact TurnEnd.intro (by k_asm) (by k_asm) (fun _ h => h) hnI ⟨rfl, fun y y1 y2 => by simp only [if_neg y1, if_neg y2]⟩
  · rintro m₁ news₁ h tk ⟨rfl, hm⟩ F₁ N₁
    rw [frame2 hm] at F₁
    k_steps
    exact hret _ _ _ _ .mk (by k_asm) (by k_asm)

theorem reg27 : True := by
  (k_with "call ref" => (with_reducible refine Call.at (a := 289) ?_; k_dflt (refine Spec.gr0 (C := row_spec) (ret := ?_); intros)))
  (k_with "call ref" => (with_reducible refine Call.at (a := 296) ?_; k_dflt (refine Spec.gr0 (C := is_there_spec) (ret := ?_); intros)))
  trivial
theorem find_spec {target tport fa fp : Int} {t1 t2 t3 t4 : Tok} (m1 : (ti, instObj 327 td) ∈ news := by k_mem) (m2 : (td, dictOf [ent w.params "rows" kt (.ref tr)] n) ∈ news := by k_mem) (m3 : (tr, o) ∈ news := by k_mem) (hd : o.IsDictOf (intKind prog w) (rowsOf xs) := by k_asm) (lo : (tr == sysModules) = false := by k_asm)
    (hn : (xs.map (·.num)).Nodup := by assumption) (hr : ∀ x ∈ xs, RowLed w.params x.num x.adr x.port x.far x.rI x.rl := by assumption) (hl : ∀ x ∈ xs, ∀ q ∈ x.rl, q ∈ news := by k_extra "l_all") :
    Spec prog w 324 5 [.ref ti, .int target t1, .int tport t2, .int fa t3, .int fp t4] news (Q1 (fun (r : Value) => r) (fun r => news) (fun r => NumV (pickAll target tport (fa, fp) xs).2 r)) := by
  intro pp loose mean mg mb dp un gd cn cs a' ccd cl outer A₀ base h₀ L m hh gs dr tk oz Q E B F X N T hkk hdp hu hret
  refine wpAny_call ?_
  k_dflt ktr_enter
  k_steps
  refine Halt.go ?_
  refine loop_keys (FindJ (Str.ofString "owner") (Str.ofString "exact") (Str.ofString "best") (Str.ofString "found") target tport (fa, fp) xs _ _) rfl (by k_asm) (by k_asm) (by k_mem) (by k_asm) (by assumption) ⟨rfl, ⟨_,_, rfl, rfl, .no⟩, fun _ _ _ _ _ => rfl⟩ ?_ ?_
  · rintro I i k v t' m₁ news₁ h tk own hI hi ⟨rfl, ⟨tb, vf, q1, q2, q3⟩, hm⟩ ho hnI F₁ N₁
    obtain ⟨x, hx, hxm, rfl, rfl⟩ := kvs_at hi
    rw [frame4 q1 q2 hm] at F₁
    have hrx := hr x hxm
    have hlx := hl x hxm
    obtain ⟨rD, c1, c2, c3, c4, v1, v2, v3, vr, nr, hi1, hi2⟩ := hrx.mem
    replace hi1 := hlx _ hi1
    replace hi2 := hlx _ hi2
    have hv := valueAt_kvs (f := fun x => .ref x.rI) hn hxm
    have hpk := pickAll_take (target := target) (tport := tport) (f := (fa, fp)) hx
    k_steps
    · have e1 := hpk.trans (if_pos (by omega))
      exact TurnEnd.intro (by k_asm) (by k_asm) (by k_extra "l_sub") hnI ⟨rfl, ⟨_,_, by rw [e1]; rfl, rfl, by rw [e1]; exact .yes⟩, fun y y1 y2 y3 y4 => by simp only [if_neg y1, if_neg y2, if_neg y3, if_neg y4]⟩
    · have e1 := hpk.trans (if_neg (by omega))
      exact TurnEnd.intro (by k_asm) (by k_asm) (by k_extra "l_sub") hnI ⟨rfl, ⟨_,_, by rw [e1]; rfl, rfl, by rw [e1]; exact q3⟩, fun y y1 y2 y3 y4 => by simp only [if_neg y1, if_neg y2, if_neg y3, if_neg y4]⟩
  · rintro m₁ news₁ h tk ⟨rfl, ⟨tb, vf, q1, q2, q3⟩, hm⟩ F₁ N₁
    have e1 : xs.take (rowsOf xs).length = xs := by rw [rowsOf, kvsBy, List.length_map, List.take_length]
    rw [e1] at q1 q3
    rw [frame4 q1 q2 hm] at F₁
    k_steps
    exact hret _ _ _ _ (.mk _ q3) (by k_asm) (by k_asm)
theorem reg28 : True := by
  (k_with "call ref" => (with_reducible refine Call.at (a := 324) ?_; k_dflt (refine Spec.gq1 (C := find_spec) (ret := ?_); intro r'w h'w tk'w e1w F'w N'w; ((try (rw [‹(pickAll _ _ _ _).2 = _›] at e1w; cases e1w))))))
  trivial
end

def Fresh (l old : Led) : Prop := (l.map (·.1)).Nodup ∧ ∀ p ∈ l, ∀ q ∈ old, q.1 < p.1
theorem Fresh.nodup {l old : Led} (h : Fresh l old) (D : (old.map (·.1)).Nodup) : ((l ++ old).map (·.1)).Nodup := by
  rw [List.map_append, List.nodup_append]
  refine ⟨h.1, D, ?_⟩
  rintro a ha b hb rfl
  obtain ⟨p, hp, e⟩ := List.mem_map.mp ha
  obtain ⟨q, hq, e'⟩ := List.mem_map.mp hb
  exact absurd (h.2 p hp q hq) (by rw [e, e']; exact Nat.lt_irrefl _)
theorem fresh1 {a : Addr} {x : Obj} {old : Led} (h : ∀ p ∈ old, p.1 < a) : Fresh [(a, x)] old := by
  refine ⟨by simp, ?_⟩
  intro p hp q hq
  rw [List.mem_singleton] at hp
  subst hp
  exact h q hq
theorem fresh2 {a b : Addr} {x y : Obj} {old : Led} (h : ∀ p ∈ old, p.1 < b) (h' : b < a) : Fresh [(a, x), (b, y)] old := by
  refine ⟨?_, ?_⟩
  · have : a ≠ b := Nat.ne_of_gt h'
    simp [this]
  · intro p hp q hq
    rcases List.mem_cons.mp hp with rfl | hp
    · exact Nat.lt_trans (h q hq) h'
    · rw [List.mem_singleton] at hp
      subst hp
      exact h q hq
theorem lt_map {l l' : Led} {d : Addr} (h : ∀ p ∈ l, p.1 < d) (e : l.map (·.1) = l'.map (·.1)) : ∀ p ∈ l', p.1 < d := by
  intro p hp
  have hm : p.1 ∈ l.map (·.1) := by rw [e]; exact List.mem_map_of_mem hp
  obtain ⟨q, hq, e'⟩ := List.mem_map.mp hm
  rw [← e']; exact h q hq
theorem nodup_far {a b T : Addr} {oa ob oa' ob' x y z : Obj} {lf rest : Led} (D : (((a, oa) :: (b, ob) :: (lf ++ rest)).map (·.1)).Nodup) (h : ∀ p ∈ (a, oa') :: (b, ob') :: (lf ++ rest), p.1 < T) : (((a, x) :: (b, y) :: (T, z) :: rest).map (·.1)).Nodup := by
  have ha : @LT.lt Nat _ a T := h (a, oa') (.head _)
  have hb : @LT.lt Nat _ b T := h (b, ob') (.tail _ (.head _))
  have hr : ∀ p ∈ rest, p.1 ≠ T := fun p hp => Nat.ne_of_lt (h p (.tail _ (.tail _ (List.mem_append_right _ hp))))
  obtain ⟨d1, r1, r2⟩ := nd2 (rest := lf ++ rest) D
  have D3 : (rest.map (·.1)).Nodup := by
    rw [List.map_cons, List.map_cons, List.nodup_cons, List.nodup_cons, List.map_append, List.nodup_append] at D
    exact D.2.2.2.1
  have hn : ∀ c : Addr, (∀ p ∈ rest, p.1 ≠ c) → c ∉ rest.map (·.1) := fun c h hc => by
    obtain ⟨p, hp, e⟩ := List.mem_map.mp hc
    exact h p hp e
  have h1 : a ≠ b := d1
  have h2 : a ≠ T := Nat.ne_of_lt ha
  have h3 : b ≠ T := Nat.ne_of_lt hb
  simp only [List.map_cons, List.nodup_cons, List.mem_cons, not_or]
  exact ⟨⟨h1, h2, hn a fun p hp => r1 p (List.mem_append_right _ hp)⟩, ⟨h3, hn b fun p hp => r2 p (List.mem_append_right _ hp)⟩, hn T hr, D3⟩
theorem hit_of {kvs : List (Int × Value)} {k : Int} {v : Value} (h : valueAt kvs k = some v) : (valueAt kvs k).isSome = true := by rw [h]; rfl
theorem miss_of {kvs : List (Int × Value)} {k : Int} (h : valueAt kvs k = none) : (valueAt kvs k).isSome = false := by rw [h]; rfl
section
variable {prog : Program} {w : World} {ti td tr : Addr} {kt : Tok} {n : Nat} {o : Obj} {xs : List Sk} {rest : Led}

theorem bind_spec {owner a p : Int} {t1 t2 t3 : Tok} (D : (((ti, instObj 327 td) :: (td, dictOf [ent w.params "rows" kt (.ref tr)] n) :: (tr, o) :: rest).map (·.1)).Nodup) (hd : o.IsDictOf (intKind prog w) (rowsOf xs)) (lo : (tr == sysModules) = false)
    (hn : (xs.map (·.num)).Nodup) (hr : ∀ x ∈ xs, RowLed w.params x.num x.adr x.port x.far x.rI x.rl) (hl : ∀ x ∈ xs, ∀ q ∈ x.rl, q ∈ rest) (hne : ∀ x ∈ xs, x.port ≠ p) (hnew : ∀ x ∈ xs, x.num ≠ owner) (hz : xs.length ≤ 100) :
    Spec prog w 303 8 [.ref ti, .int owner t1, .int a t2, .int p t3] ((ti, instObj 327 td) :: (td, dictOf [ent w.params "rows" kt (.ref tr)] n) :: (tr, o) :: rest)
      (Q3 (fun rI l o' => .none) (fun rI l o' => l ++ ((ti, instObj 327 td) :: (td, dictOf [ent w.params "rows" kt (.ref tr)] n) :: (tr, o') :: rest)) (fun rI l o' => An3 (RowLed w.params owner a p none rI l) (o'.IsDictOf (intKind prog w) (rowsOf xs ++ [(owner, .ref rI)])) (Fresh l ((ti, instObj 327 td) :: (td, dictOf [ent w.params "rows" kt (.ref tr)] n) :: (tr, o') :: rest)))) := by
  intro pp loose mean mg mb dp un gd cn cs a' ccd cl outer A₀ base h₀ L m hh gs dr tk oz Q E B F X N T hkk hdp hu hret
  obtain ⟨d1, d2, d3, r1, r2, r3⟩ := nd3 D
  have hv := valueAt_none (f := fun x => .ref x.rI) hnew
  have hv' := miss_of hv
  have hz' : (rowsOf xs).length ≤ 100 := by rw [rowsOf, kvsBy, List.length_map]; exact hz
  have hl' : ∀ x ∈ xs, ∀ q ∈ x.rl, q ∈ (ti, instObj 327 td) :: (td, dictOf [ent w.params "rows" kt (.ref tr)] n) :: (tr, o) :: rest := fun x hx => sub_cons (sub_cons (sub_cons (hl x hx)))
  have hne' : ∀ x ∈ xs, x.num ≠ owner → x.port ≠ p := fun x hx _ => hne x hx
  refine wpAny_call ?_
  k_dflt ktr_enter
  k_steps
  exact hret _ _ _ _ (.mk _ _ _ ⟨⟨_,_,_,_,_,_,_,_,_,_,_, rfl, .no⟩, by rw [← stored_absent hv]; assumption, fresh2 (lt_map (by assumption) (by rfl)) (by assumption)⟩) (by k_asm) (by k_asm)

theorem connect_spec {x : Sk} {a p : Int} {t1 t2 t3 : Tok} (hx : x ∈ xs) (D : ((x.rl ++ rest).map (·.1)).Nodup) (m1 : (ti, instObj 327 td) ∈ rest) (m2 : (td, dictOf [ent w.params "rows" kt (.ref tr)] n) ∈ rest) (m3 : (tr, o) ∈ rest) (hd : o.IsDictOf (intKind prog w) (rowsOf xs)) (lo : (tr == sysModules) = false)
    (hn : (xs.map (·.num)).Nodup) (hr : ∀ x ∈ xs, RowLed w.params x.num x.adr x.port x.far x.rI x.rl) (hl : ∀ y ∈ xs, ∀ q ∈ y.rl, q ∈ x.rl ++ rest) (hne : ∀ y ∈ xs, y.num ≠ x.num → y.port ≠ x.port) :
    Spec prog w 310 8 [.ref ti, .int x.num t1, .int a t2, .int p t3] (x.rl ++ rest)
      (Q1 (fun l => .none) (fun l => l ++ rest) (fun l => RowLed w.params x.num x.adr x.port (some (a, p)) x.rI l ∧ ((l ++ rest).map (·.1)).Nodup)) := by
  intro pp loose mean mg mb dp un gd cn cs a' ccd cl outer A₀ base h₀ L m hh gs dr tk oz Q E B F X N T hkk hdp hu hret
  have hv := valueAt_kvs (f := fun x => .ref x.rI) hn hx
  have hv' := hit_of hv
  obtain ⟨rD, k1, k2, k3, k4, u1, u2, u3, v, nn, lf, e, hf⟩ := hr x hx
  have hl' : ∀ y ∈ xs, ∀ q ∈ y.rl, q ∈ (x.rI, instObj 264 rD) :: (rD, dictOf [ent w.params "owner" k1 (.int x.num u1), ent w.params "address" k2 (.int x.adr u2), ent w.params "port" k3 (.int x.port u3), ent w.params "remote" k4 v] nn) :: (lf ++ rest) := by rw [e] at hl; exact hl
  rw [e, List.cons_append, List.cons_append] at N D
  obtain ⟨d1, r1, r2⟩ := nd2 (rest := lf ++ rest) D
  refine wpAny_call ?_
  k_dflt ktr_enter
  k_steps
  exact hret _ _ _ _ (.mk _ ⟨⟨_,_,_,_,_,_,_,_,_,_,_, rfl, .yes⟩, nodup_far D (by assumption)⟩) (by k_asm) (cb_drop (by k_asm) (sub_in (.tail _ (.head _)) (sub_in (.tail _ (.tail _ (.head _))) (sub_in (.head _) (sub_cons (sub_cons (sub_cons (sub_right ro_sub))))))))

theorem remove_spec {k : Int} {t : Tok} {v : Value} {kvs : List (Int × Value)} (D : (((ti, instObj 327 td) :: (td, dictOf [ent w.params "rows" kt (.ref tr)] n) :: (tr, o) :: rest).map (·.1)).Nodup) (hd : o.IsDictOf (intKind prog w) kvs) (lo : (tr == sysModules) = false)
   (hp : valueAt kvs k = some v) (hz : kvs.length ≤ 100) :
    Spec prog w 317 8 [.ref ti, .int k t] ((ti, instObj 327 td) :: (td, dictOf [ent w.params "rows" kt (.ref tr)] n) :: (tr, o) :: rest)
      (Q1 (fun o' => .none) (fun o' => (ti, instObj 327 td) :: (td, dictOf [ent w.params "rows" kt (.ref tr)] n) :: (tr, o') :: rest) (fun o' => o'.IsDictOf (intKind prog w) (without kvs k))) := by
  intro pp loose mean mg mb dp un gd cn cs a' ccd cl outer A₀ base h₀ L m hh gs dr tk oz Q E B F X N T hkk hdp hu hret
  obtain ⟨d1, d2, d3, r1, r2, r3⟩ := nd3 D
  refine wpAny_call ?_
  k_dflt ktr_enter
  k_steps
  all_goals exact hret _ _ _ _ (.mk _ (by assumption)) (by k_asm) (cb_drop (by k_asm) (by intro p hp; k_mem))
end

inductive QLed : List (List Int × Int × Int) → List Value → Led → Prop
  | nil : QLed [] [] []
  | cons {ps : List Int} {a p : Int} {b : Array UInt8} {T : Addr} {t1 t2 t3 : Tok} {q vs l} : KBw.bInts b = ps → QLed q vs l → QLed ((ps, a, p) :: q) (.ref T :: vs) ((T, tupObj [.bytes b t1, .int a t2, .int p t3]) :: l)
theorem QLed.length {q : List (List Int × Int × Int)} {vs : List Value} {l : Led} (h : QLed q vs l) : vs.length = q.length := by
  induction h with
  | nil => rfl
  | cons _ _ ih => simp [ih]

inductive UsObj (P : Params) (pi ti sd : Addr) (g : Int) (o : Obj) : Prop
  | mk (c1 c2 c3 c4 c5 v3 v5 : Tok) (n : Nat) (e : o = dictOf [ent P "ports" c1 (.ref pi), ent P "table" c2 (.ref ti), ent P "most_waiting" c3 (.int 2 v3), ent P "sockets" c4 (.ref sd), ent P "given" c5 (.int g v5)] n)

inductive SockLed (P : Params) (adr port : Int) (far : Option (Int × Int)) (q : List (List Int × Int × Int)) (err : Option (Int × Int)) (I : Addr) (l : Led) : Prop
  | mk (D : Addr) (c1 c2 c3 c4 c5 c6 u1 u2 u5 : Tok) (lost : Int) (vr : Value) (sQ : Addr) (ve : Value) (n : Nat) (vs : List Value) (cap : Nat) (lf le lq : Led) (e : l = (I, instObj 348 D) :: (D, dictOf [ent P "address" c1 (.int adr u1), ent P "port" c2 (.int port u2), ent P "remote" c3 vr, ent P "queue" c4 (.ref sQ), ent P "lost" c5 (.int lost u5), ent P "error" c6 ve] n) :: (sQ, W.listOf vs.toArray cap) :: (lf ++ le ++ lq)) (h1 : FarLed far vr lf) (h2 : FarLed err ve le) (h3 : QLed q vs lq)
inductive SockMem (P : Params) (adr port : Int) (q : List (List Int × Int × Int)) (I : Addr) (l : Led) : Prop
  | mk (D : Addr) (c1 c2 c3 c4 c5 c6 u1 u2 u5 : Tok) (lost : Int) (vr : Value) (sQ : Addr) (ve : Value) (n : Nat) (vs : List Value) (cap : Nat) (h1 : (I, instObj 348 D) ∈ l) (h2 : (D, dictOf [ent P "address" c1 (.int adr u1), ent P "port" c2 (.int port u2), ent P "remote" c3 vr, ent P "queue" c4 (.ref sQ), ent P "lost" c5 (.int lost u5), ent P "error" c6 ve] n) ∈ l) (h3 : (sQ, W.listOf vs.toArray cap) ∈ l) (h4 : vs.length = q.length)
theorem SockLed.mem {P : Params} {adr port : Int} {far err : Option (Int × Int)} {q : List (List Int × Int × Int)} {I : Addr} {l : Led} (h : SockLed P adr port far q err I l) :
    SockMem P adr port q I l := by
  obtain ⟨D, c1, c2, c3, c4, c5, c6, u1, u2, u5, lost, vr, sQ, ve, n, vs, cap, lf, le, lq, rfl, h1, h2, h3⟩ := h
  exact ⟨D, c1, c2, c3, c4, c5, c6, u1, u2, u5, lost, vr, sQ, ve, n, vs, cap, .head _, .tail _ (.head _), .tail _ (.tail _ (.head _)), h3.length⟩

theorem len_vs {prog : Program} {w : World} {A : Around} {E : Value → Shared → Prop} {s : Shared} {l : Addr} {vs : List Value} {n : Nat} {Q : Value → Shared → Prop} (hl : s.heap.IsList l vs.toArray := by exact News.isList (by k_asm) (by k_mem)) (hn : vs.length = n := by assumption) (hfit : n ≤ 1000 := by omega)
    (h : Q (.int (n : Int) (s.toks + 1)) { s with toks := s.toks + 1 + 1 }) : wpAny (model prog w) A (call (.builtin "len") [.ref l]) Q E s := by
  subst hn
  exact len_list hl (by simp only [List.size_toArray]; omega) (by simpa using h)
theorem reg29 : True := by
  (k_with "call builtin:len" => k_dflt (refine len_vs (h := ?_)))
  trivial
section
variable {prog : Program} {w : World} {us ud pi ti sd I : Addr} {uo so : Obj} {news rest l : Led} {kvs : List (Int × Value)} {adr port g k : Int} {far err : Option (Int × Int)} {q : List (List Int × Int × Int)}

theorem socket_spec {t : Tok} {v : Value} (m1 : (us, instObj 445 ud) ∈ news := by k_mem) (m2 : (ud, uo) ∈ news := by k_mem) (hu : UsObj w.params pi ti sd g uo := by assumption) (m3 : (sd, so) ∈ news := by k_mem) (hd : so.IsDictOf (intKind prog w) kvs := by k_asm) (lo : (sd == sysModules) = false := by k_asm) (hv : valueAt kvs k = some v := by assumption) :
    Spec prog w 374 2 [.ref us, .int k t] news (R0 (v) (news)) := by
  intro pp loose mean mg mb dp un gd cn cs a' ccd cl outer A₀ base h₀ L m hh gs dr tk oz Q E B F X N T hkk hdp hu' hret
  obtain ⟨c1, c2, c3, c4, c5, v3, v5, n, rfl⟩ := hu
  have hv' := hit_of hv
  refine wpAny_call ?_
  k_dflt ktr_enter
  k_steps
  exact hret _ _ _ _ .mk (by k_asm) (by k_asm)

theorem reg30 : True := by
  (k_with "call ref" => (with_reducible refine Call.at (a := 374) ?_; k_dflt (refine Spec.gr0 (C := socket_spec) (ret := ?_); intros)))
  trivial
theorem port_of_spec {t : Tok} (m1 : (us, instObj 445 ud) ∈ news) (m2 : (ud, uo) ∈ news) (hu : UsObj w.params pi ti sd g uo) (m3 : (sd, so) ∈ news) (hd : so.IsDictOf (intKind prog w) kvs) (lo : (sd == sysModules) = false) (hv : valueAt kvs k = some (.ref I)) (hs : SockLed w.params adr port far q err I l) (hl : ∀ p ∈ l, p ∈ news) :
    Spec prog w 400 5 [.ref us, .int k t] news (R1 (fun t' => .int port t') (fun t' => news)) := by
  intro pp loose mean mg mb dp un gd cn cs a' ccd cl outer A₀ base h₀ L m hh gs dr tk oz Q E B F X N T hkk hdp hu' hret
  obtain ⟨c1, c2, c3, c4, c5, v3, v5, n, e⟩ := id hu
  subst e
  obtain ⟨D, c1, c2, c3, c4, c5, c6, u1, u2, u5, lost, vr, sQ, ve, n, vs, cap, i1, i2, i3, i4⟩ := hs.mem
  replace i1 := hl _ i1
  replace i2 := hl _ i2
  replace i3 := hl _ i3
  refine wpAny_call ?_
  k_dflt ktr_enter
  k_steps
  exact hret _ _ _ _ (.mk _) (by k_asm) (by k_asm)

theorem waiting_spec {t : Tok} (m1 : (us, instObj 445 ud) ∈ news) (m2 : (ud, uo) ∈ news) (hu : UsObj w.params pi ti sd g uo) (m3 : (sd, so) ∈ news) (hd : so.IsDictOf (intKind prog w) kvs) (lo : (sd == sysModules) = false) (hv : valueAt kvs k = some (.ref I)) (hs : SockLed w.params adr port far q err I l) (hl : ∀ p ∈ l, p ∈ news) (hq : q.length ≤ 100) :
    Spec prog w 428 5 [.ref us, .int k t] news (R1 (fun t' => .int (q.length : Int) t') (fun t' => news)) := by
  intro pp loose mean mg mb dp un gd cn cs a' ccd cl outer A₀ base h₀ L m hh gs dr tk oz Q E B F X N T hkk hdp hu' hret
  obtain ⟨c1, c2, c3, c4, c5, v3, v5, n, e⟩ := id hu
  subst e
  obtain ⟨D, c1, c2, c3, c4, c5, c6, u1, u2, u5, lost, vr, sQ, ve, n, vs, cap, i1, i2, i3, i4⟩ := hs.mem
  replace i1 := hl _ i1
  replace i2 := hl _ i2
  replace i3 := hl _ i3
  refine wpAny_call ?_
  k_dflt ktr_enter
  k_steps
  exact hret _ _ _ _ (.mk _) (by k_asm) (by k_asm)

theorem send_to_spec {a b p : Int} {bs : Array UInt8} {ps : List Int} {t1 t2 t3 t4 t5 : Tok} (m1 : (us, instObj 445 ud) ∈ news) (m2 : (ud, uo) ∈ news) (hu : UsObj w.params pi ti sd g uo) (m3 : (sd, so) ∈ news) (hd : so.IsDictOf (intKind prog w) kvs) (lo : (sd == sysModules) = false) (hv : valueAt kvs k = some (.ref I)) (hs : SockLed w.params adr port far q err I l) (hl : ∀ p ∈ l, p ∈ news)
    (hk : KBw.bInts bs = ps) (hb : ps.length ≤ 3) (s0 : 0 ≤ a) (s1 : a ≤ 200) (q0 : 0 ≤ b) (q1 : b ≤ 200) (a0 : 0 ≤ port) (a1 : port < 65536) (b0 : 0 ≤ p) (b1 : p < 65536) :
    Spec prog w 407 20 [.ref us, .int k t1, .int a t2, .int b t3, .int p t4, .bytes bs t5] news (Q2 (fun b' t' => .bytes b' t') (fun b' t' => news) (fun b' t' => KBw.bInts b' = dgram a b port p ps)) := by
  intro pp loose mean mg mb dp un gd cn cs a' ccd cl outer A₀ base h₀ L m hh gs dr tk oz Q E B F X N T hkk hdp hu' hret
  obtain ⟨c1, c2, c3, c4, c5, v3, v5, n, e⟩ := id hu
  subst e
  obtain ⟨D, c1, c2, c3, c4, c5, c6, u1, u2, u5, lost, vr, sQ, ve, n, vs, cap, i1, i2, i3, i4⟩ := hs.mem
  replace i1 := hl _ i1
  replace i2 := hl _ i2
  refine wpAny_call ?_
  k_dflt ktr_enter
  k_steps
  all_goals exact hret _ _ _ _ (.mk _ _ (by assumption)) (by k_asm) (by k_asm)
end

theorem mem_by_count {α : Type} [DecidableEq α] {A B : List α} (h : ∀ a, 0 < B.count a → 0 < A.count a) : ∀ p ∈ B, p ∈ A := fun p hp => List.count_pos_iff.mp (h p (List.count_pos_iff.mpr hp))
theorem nodup_by_count {α : Type} [DecidableEq α] {A B : List α} (D : A.Nodup) (h : ∀ a, A.count a ≤ 1 → B.count a ≤ 1) : B.Nodup := List.nodup_iff_count.mpr fun a => h a (List.nodup_iff_count.mp D a)
theorem reg31 : True := by
  (k_with "l_memx" => first | exact sub_nil | exact ro_sub | (refine sub_in ?_ ?_; (k_extra "k_deep"); (k_extra "l_memx")) | (refine sub_app ?_ ?_; (k_extra "l_memx"); (k_extra "l_memx")) | k_extra "l_sub")
  trivial
section
variable {prog : Program} {w : World} {A : Around} {s : Shared} {E : Value → Shared → Prop} {Q : Value → Shared → Prop} {l b : Addr} {items items2 : Array Value}
theorem ne_lengths (hl : s.heap.IsList l items := by exact News.isList (by k_asm) (by k_mem)) (hb : s.heap.IsList b items2 := by exact News.isList (by k_asm) (by k_mem)) (hsz : (items.size != items2.size) = true := by rfl) (hu : A.units < cLine := by k_units) (h : Q (.bool true) s) : wpAny (model prog w) A (compareOp .NotEq (.ref l) (.ref b)) Q E s := SeqAt.RcNeAt.lists_lengths hl hb hsz hu prog w E Q h
end
theorem reg32 : True := by
  (k_with "compareOp NotEq ref ref" => k_dflt (refine ne_lengths (h := ?_)))
  trivial
section
variable {prog : Program} {w : World} {us ud pi ti sd I : Addr} {uo so : Obj} {news rest l : Led} {kvs : List (Int × Value)} {adr port g k : Int} {far err : Option (Int × Int)} {q : List (List Int × Int × Int)}

theorem error_of_spec {t : Tok} (hs : SockLed w.params adr port far q err I l) (D : ((l ++ rest).map (·.1)).Nodup) (m1 : (us, instObj 445 ud) ∈ rest) (m2 : (ud, uo) ∈ rest) (hu : UsObj w.params pi ti sd g uo) (m3 : (sd, so) ∈ rest) (hd : so.IsDictOf (intKind prog w) kvs) (lo : (sd == sysModules) = false) (hv : valueAt kvs k = some (.ref I)) :
    Spec prog w 442 5 [.ref us, .int k t] (l ++ rest) (Q3 (fun (r : Value) l' lr => r) (fun r l' lr => lr ++ (l' ++ rest)) (fun r l' lr => An3 (FarLed err r lr) (SockLed w.params adr port far q none I l') (((lr ++ (l' ++ rest)).map (·.1)).Nodup))) := by
  intro pp loose mean mg mb dp un gd cn cs a' ccd cl outer A₀ base h₀ L m hh gs dr tk oz Q E B F X N T hkk hdp hu' hret
  obtain ⟨b1, b2, b3, b4, b5, b6, b7, b8, e⟩ := id hu
  subst e
  obtain ⟨sD, c1, c2, c3, c4, c5, c6, u1, u2, u5, lost, vr, sQ, ve, n, vs, cap, lf, le, lq, rfl, f1, f2, f3⟩ := hs
  dsimp only [List.cons_append] at N D
  obtain ⟨d1, d2, d3, r1, r2, r3⟩ := nd3 D
  cases f2 with
  | no =>
    refine wpAny_call ?_
    k_dflt ktr_enter
    k_steps
    refine hret _ _ _ _ (.mk _ _ _ ⟨.no, ⟨sD, _,_,_,_,_,_,_,_,_,_,_, sQ, _,_,_,_,_,_,_, rfl, f1, .no, f3⟩, ?_⟩) (by k_asm) (cb_drop (by k_asm) (by k_extra "l_memx"))
    exact Tr.nd [_,_,_] [_,_,_,_] [_,_,_] (.c 0 0 (.c 1 1 (.c 2 2 (.a (.a (.a (.s 0) .n) (.s 1)) (.s 2))))) (.a .n (.a (.c 0 0 (.c 1 3 (.c 2 2 (.a (.a (.s 0) .n) (.s 1))))) (.s 2))) rfl D
  | yes =>
    refine wpAny_call ?_
    k_dflt ktr_enter
    k_steps
    refine hret _ _ _ _ (.mk _ _ _ ⟨.yes, ⟨sD, _,_,_,_,_,_,_,_,_,_,_, sQ, _,_,_,_,_,_,_, rfl, f1, .no, f3⟩, ?_⟩) (by k_asm) (cb_drop (by k_asm) (by k_extra "l_memx"))
    exact Tr.nd [_,_,_,_] [_,_,_,_,_] [_,_,_] (.c 0 0 (.c 1 1 (.c 2 2 (.a (.a (.a (.s 0) (.c 3 3 .n)) (.s 1)) (.s 2))))) (.a (.c 3 3 .n) (.a (.c 0 0 (.c 1 4 (.c 2 2 (.a (.a (.s 0) .n) (.s 1))))) (.s 2))) rfl D

theorem receive_spec {t : Tok} (hs : SockLed w.params adr port far q err I l) (hq : q.length ≤ 2) (D : ((l ++ rest).map (·.1)).Nodup) (m1 : (us, instObj 445 ud) ∈ rest) (m2 : (ud, uo) ∈ rest) (hu : UsObj w.params pi ti sd g uo) (m3 : (sd, so) ∈ rest) (hd : so.IsDictOf (intKind prog w) kvs) (lo : (sd == sysModules) = false) (hv : valueAt kvs k = some (.ref I)) :
    Spec prog w 421 5 [.ref us, .int k t] (l ++ rest) (Q4 (fun (r : Value) l' vr lr => r) (fun r l' vr lr => lr ++ (l' ++ rest)) (fun r l' vr lr => An4 (QLed (q.take 1) vr lr) ((vr = [] ∧ r = .none ∨ vr = [r])) (SockLed w.params adr port far (q.drop 1) err I l') (((lr ++ (l' ++ rest)).map (·.1)).Nodup))) := by
  intro pp loose mean mg mb dp un gd cn cs a' ccd cl outer A₀ base h₀ L m hh gs dr tk oz Q E B F X N T hkk hdp hu' hret
  obtain ⟨b1, b2, b3, b4, b5, b6, b7, b8, e⟩ := id hu
  subst e
  obtain ⟨sD, c1, c2, c3, c4, c5, c6, u1, u2, u5, lost, vr, sQ, ve, n, vs, cap, lf, le, lq, rfl, f1, f2, f3⟩ := hs
  dsimp only [List.cons_append] at N D
  obtain ⟨d1, d2, d3, r1, r2, r3⟩ := nd3 D
  cases f3 with
  | nil =>
    refine wpAny_call ?_
    k_dflt ktr_enter
    k_steps
    refine hret _ _ _ _ (.mk _ _ _ _ ⟨.nil, .inl ⟨rfl, rfl⟩, ⟨sD, _,_,_,_,_,_,_,_,_,_,_, sQ, _,_,_,_,_,_,_, rfl, f1, f2, .nil⟩, ?_⟩) (by k_asm) (cb_drop (by k_asm) (by k_extra "l_memx"))
    exact Tr.nd [_,_,_] [_,_,_] [_,_,_] (.c 0 0 (.c 1 1 (.c 2 2 (.a (.a (.a (.s 0) (.s 1)) .n) (.s 2))))) (.a .n (.a (.c 0 0 (.c 1 1 (.c 2 2 (.a (.a (.s 0) (.s 1)) .n)))) (.s 2))) rfl D
  | cons hb1 f4 =>
    cases f4 with
    | nil =>
      refine wpAny_call ?_
      k_dflt ktr_enter
      k_steps
      refine hret _ _ _ _ (.mk _ _ _ _ ⟨.cons hb1 .nil, .inr rfl, ⟨sD, _,_,_,_,_,_,_,_,_,_,_, sQ, _,_, [], _,_,_,_, rfl, f1, f2, .nil⟩, ?_⟩) (by k_asm) (cb_drop (by k_asm) (by k_extra "l_memx"))
      exact Tr.nd [_,_,_,_] [_,_,_,_,_] [_,_,_] (.c 0 0 (.c 1 1 (.c 2 2 (.a (.a (.a (.s 0) (.s 1)) (.c 3 3 .n)) (.s 2))))) (.a (.c 3 3 .n) (.a (.c 0 0 (.c 1 1 (.c 2 4 (.a (.a (.s 0) (.s 1)) .n)))) (.s 2))) rfl D
    | cons hb2 f5 =>
      cases f5 with
      | nil =>
        refine wpAny_call ?_
        k_dflt ktr_enter
        k_steps
        refine hret _ _ _ _ (.mk _ _ _ _ ⟨.cons hb1 .nil, .inr rfl, ⟨sD, _,_,_,_,_,_,_,_,_,_,_, sQ, _,_, [_], _,_,_,_, rfl, f1, f2, .cons hb2 .nil⟩, ?_⟩) (by k_asm) (cb_drop (by k_asm) (by k_extra "l_memx"))
        exact Tr.nd [_,_,_,_,_] [_,_,_,_,_,_] [_,_,_] (.c 0 0 (.c 1 1 (.c 2 2 (.a (.a (.a (.s 0) (.s 1)) (.c 3 3 (.c 4 4 .n))) (.s 2))))) (.a (.c 3 3 .n) (.a (.c 0 0 (.c 1 1 (.c 2 5 (.a (.a (.s 0) (.s 1)) (.c 4 4 .n))))) (.s 2))) rfl D
      | cons hb3 f6 => simp at hq
end

inductive TblIn (prog : Program) (w : World) (xs : List Sk) (ti : Addr) (news : Led) : Prop
  | mk (td : Addr) (kt : Tok) (n : Nat) (tr : Addr) (o : Obj) (i1 : (ti, instObj 327 td) ∈ news) (i2 : (td, dictOf [ent w.params "rows" kt (.ref tr)] n) ∈ news) (i3 : (tr, o) ∈ news) (i4 : o.IsDictOf (intKind prog w) (rowsOf xs)) (i5 : (tr == sysModules) = false) (i6 : ∀ x ∈ xs, RowLed w.params x.num x.adr x.port x.far x.rI x.rl) (i7 : ∀ x ∈ xs, ∀ q ∈ x.rl, q ∈ news)
theorem QLed.snoc {q : List (List Int × Int × Int)} {vs : List Value} {l : Led} {b : Array UInt8} {ps : List Int} {a p p' : Int} {T : Addr} {t1 t2 t3 : Tok} (h : QLed q vs l) (hb : KBw.bInts b = ps) (e : p' = p) :
    QLed (q ++ [(ps, a, p)]) (vs ++ [.ref T]) (l ++ [(T, tupObj [.bytes b t1, .int a t2, .int p' t3])]) := by
  subst e
  induction h with
  | nil => exact .cons hb .nil
  | cons h1 _ ih => exact .cons h1 ih
theorem snoc_close {h₀ h' : Heap} {L sI sD sQ D' T' : Addr} {oI oD oI1 oD1 oQ1 oT oT1 tup : Obj} {vs : List Value} {cap : Nat} {lf le lq rest : Led}
    (N : News h₀ L h' ((D', tup) :: (T', oT) :: (sI, oI) :: (sD, oD) :: (sQ, W.listOf (vs.toArray.push (.ref D')) cap) :: (lf ++ le ++ lq ++ rest)))
    (D : (((sI, oI1) :: (sD, oD1) :: (sQ, oQ1) :: (lf ++ le ++ lq ++ rest)).map (·.1)).Nodup) (hlt : ∀ p ∈ (T', oT1) :: (sI, oI1) :: (sD, oD1) :: (sQ, oQ1) :: (lf ++ le ++ lq ++ rest), p.1 < D') :
    News h₀ L h' (((sI, oI) :: (sD, oD) :: (sQ, W.listOf (vs ++ [Value.ref D']).toArray cap) :: (lf ++ le ++ (lq ++ [(D', tup)]))) ++ rest) ∧ ((((sI, oI) :: (sD, oD) :: (sQ, W.listOf (vs ++ [Value.ref D']).toArray cap) :: (lf ++ le ++ (lq ++ [(D', tup)]))) ++ rest).map (·.1)).Nodup := by
  rw [List.push_toArray] at N
  refine ⟨fun p hp => N p ?_, ?_⟩
  · revert p; exact Tr.sb [_,_,_,_,_] [_,_,_,_,_] [_,_,_,_] (.c 0 0 (.c 1 1 (.c 2 2 (.c 3 3 (.c 4 4 (.a (.a (.a (.s 0) (.s 1)) (.s 2)) (.s 3))))))) (.a (.c 2 2 (.c 3 3 (.c 4 4 (.a (.a (.s 0) (.s 1)) (.a (.s 2) (.c 0 0 .n)))))) (.s 3)) rfl
  · have D2 : (((D', tup) :: (sI, oI1) :: (sD, oD1) :: (sQ, oQ1) :: (lf ++ le ++ lq ++ rest)).map (·.1)).Nodup :=
      (fresh1 (x := tup) (old := (sI, oI1) :: (sD, oD1) :: (sQ, oQ1) :: (lf ++ le ++ lq ++ rest)) fun p hp => hlt p (.tail _ hp)).nodup D
    exact Tr.nd [_,_,_,_] [_,_,_,_,_,_,_] [_,_,_,_] (.c 0 0 (.c 1 1 (.c 2 2 (.c 3 3 (.a (.a (.a (.s 0) (.s 1)) (.s 2)) (.s 3)))))) (.a (.c 1 4 (.c 2 5 (.c 3 6 (.a (.a (.s 0) (.s 1)) (.a (.s 2) (.c 0 0 .n)))))) (.s 3)) rfl D2
section
variable {prog : Program} {w : World} {us ud pi ti sd : Addr} {uo so : Obj} {news rest : Led} {xs : List Sk} {g : Int}

theorem reg33 : True := by
  (k_with "call ref" => (with_reducible refine Call.at (a := 226) ?_; k_dflt (refine Spec.gq5 (C := unpack_spec) (ret := ?_); intro T'w b'w t1'w t2'w t3'w h'w tk'w hPw F'w N'w; obtain ⟨kbw, ltw⟩ := hPw; ((k_lt ltw)))))
  trivial
theorem input_none_spec {a b p tp : Int} {bs : Array UInt8} {ps : List Int} {t1 t2 t5 : Tok} (m1 : (us, instObj 445 ud) ∈ news) (m2 : (ud, uo) ∈ news) (hu : UsObj w.params pi ti sd g uo) (ht : TblIn prog w xs ti news) (hn : (xs.map (·.num)).Nodup)
    (hk : KBw.bInts bs = dgram a b p tp ps) (hb : ps.length ≤ 3) (hps : ∀ c ∈ ps, 0 ≤ c ∧ c < 256) (s0 : 0 ≤ a) (s1 : a ≤ 200) (q0 : 0 ≤ b) (q1 : b ≤ 200) (a0 : 0 ≤ p) (a1 : p < 65536) (b0 : 0 ≤ tp) (b1 : tp < 65536)
    (hpk : (pickAll b tp (a, p) xs).2 = none) :
    Spec prog w 414 20 [.ref us, .int a t1, .int b t2, .bytes bs t5] news (R0 (.none) (news)) := by
  intro pp loose mean mg mb dp un gd cn cs a' ccd cl outer A₀ base h₀ L m hh gs dr tk oz Q E B F X N T hkk hdp hu' hret
  obtain ⟨y1, y2, y3, y4, y5, y6, y7, y8, e⟩ := id hu
  subst e
  obtain ⟨td, kt, n, tr, o, i1, i2, i3, i4, i5, i6, i7⟩ := ht
  obtain ⟨w1, w2, w3, w4, w5, w6⟩ := dgram_ok (s := a) (t := b) (sp := p) (tp := tp) hb hps s0 q0 a0 a1 b0 b1
  generalize dgram a b p tp ps = ks at *
  have w4' : ks.getD 4 0 * 256 + ks.getD 5 0 = ks.length := by omega
  rw [← w2, ← w3] at hpk
  refine wpAny_call ?_
  k_dflt ktr_enter
  k_steps
  exact hret _ _ _ _ .mk (by k_asm) (cb_drop (by k_asm) (by k_extra "l_sub"))

theorem input_some_spec {x : Sk} {a b p tp : Int} {bs : Array UInt8} {ps : List Int} {t1 t2 t5 : Tok} (hx : x ∈ xs) (hs : SockLed w.params x.adr x.port x.far x.q x.err x.sI x.sl) (hq : x.q.length ≤ 2) (D : ((x.sl ++ rest).map (·.1)).Nodup)
    (m1 : (us, instObj 445 ud) ∈ rest) (m2 : (ud, uo) ∈ rest) (hu : UsObj w.params pi ti sd g uo) (m3 : (sd, so) ∈ rest) (hd : so.IsDictOf (intKind prog w) (kvsBy (fun x => .ref x.sI) xs)) (lo : (sd == sysModules) = false) (ht : TblIn prog w xs ti rest) (hn : (xs.map (·.num)).Nodup)
    (hk : KBw.bInts bs = dgram a b p tp ps) (hb : ps.length ≤ 3) (hps : ∀ c ∈ ps, 0 ≤ c ∧ c < 256) (s0 : 0 ≤ a) (s1 : a ≤ 200) (q0 : 0 ≤ b) (q1 : b ≤ 200) (a0 : 0 ≤ p) (a1 : p < 65536) (b0 : 0 ≤ tp) (b1 : tp < 65536)
    (hpk : (pickAll b tp (a, p) xs).2 = some x.num) :
    Spec prog w 414 20 [.ref us, .int a t1, .int b t2, .bytes bs t5] (x.sl ++ rest) (Q2 (fun t' l' => .int x.num t') (fun t' l' => l' ++ rest) (fun t' l' => SockLed w.params x.adr x.port x.far (if x.q.length < 2 then x.q ++ [(ps, a, p)] else x.q) x.err x.sI l' ∧ ((l' ++ rest).map (·.1)).Nodup)) := by
  intro pp loose mean mg mb dp un gd cn cs a' ccd cl outer A₀ base h₀ L m hh gs dr tk oz Q E B F X N T hkk hdp hu' hret
  obtain ⟨y1, y2, y3, y4, y5, y6, y7, y8, e⟩ := id hu
  subst e
  obtain ⟨td, kt, n, tr, o, i1, i2, i3, i4, i5, i6, i7⟩ := ht
  obtain ⟨w1, w2, w3, w4, w5, w6⟩ := dgram_ok (s := a) (t := b) (sp := p) (tp := tp) hb hps s0 q0 a0 a1 b0 b1
  generalize dgram a b p tp ps = ks at *
  have w4' : ks.getD 4 0 * 256 + ks.getD 5 0 = ks.length := by omega
  have hv := valueAt_kvs (f := fun x => .ref x.sI) hn hx
  have hv' := hit_of hv
  rw [← w2, ← w3] at hpk
  obtain ⟨sD, c1, c2, c3, c4, c5, c6, u1, u2, u5, lost, vr, sQ, ve, nn, vs, cap, lf, le, lq, e, f1, f2, f3⟩ := hs
  have hlen := f3.length
  rw [e] at N D
  dsimp only [List.cons_append] at N D
  obtain ⟨d1, d2, d3, r1, r2, r3⟩ := nd3 D
  refine wpAny_call ?_
  k_dflt ktr_enter
  k_steps
  · rw [if_pos (show x.q.length < 2 by omega)] at hret
    obtain ⟨N2, D2⟩ := snoc_close (by k_asm) D (by assumption)
    exact hret _ _ _ _ (.mk _ _ ⟨⟨_,_,_,_,_,_,_,_,_,_,_,_,_,_,_,_,_,_,_,_, rfl, f1, f2, f3.snoc (Eq.trans (by assumption) w5) w2⟩, D2⟩) (by k_asm) N2
  · rw [if_neg (show ¬ x.q.length < 2 by omega)] at hret
    refine hret _ _ _ _ (.mk _ _ ⟨⟨sD, _,_,_,_,_,_,_,_,_,_,_, sQ, _,_,_,_,_,_,_, rfl, f1, f2, f3⟩, ?_⟩) (by k_asm) (cb_drop (by k_asm) (by k_extra "l_memx"))
    exact Tr.nd [_,_,_] [_,_,_,_] [_,_,_,_] (.c 0 0 (.c 1 1 (.c 2 2 (.a (.a (.a (.s 0) (.s 1)) (.s 2)) (.s 3))))) (.a (.c 0 0 (.c 1 3 (.c 2 2 (.a (.a (.s 0) (.s 1)) (.s 2))))) (.s 3)) rfl D
end

theorem reg34 : True := by
  (k_with "call ref" => with_reducible refine Halt.call (a := 310) ?_)
  (k_with "CompSrcT" => (with_reducible refine Halt.at ?_))
  trivial
theorem lt_up {l : Led} {d : Addr} (h : ∀ p ∈ l, p.1 < d) : ∀ p ∈ l, p.1 < d + 1 := fun p hp => Nat.lt_succ_of_lt (h p hp)
def selL {α : Type} (f : Nat → Bool) : Nat → List α → List α
  | _, [] => []
  | i, v :: r => if f i = true then v :: selL f (i + 1) r else selL f (i + 1) r
theorem selL_sub {α : Type} {f : Nat → Bool} : ∀ {l : List α} {i : Nat}, (selL f i l).Sublist l
  | [], _ => .slnil
  | v :: r, i => by
    unfold selL
    split
    · exact selL_sub.cons_cons v
    · exact selL_sub.cons v
theorem selL_drop {α : Type} {f : Nat → Bool} {l : List α} {i : Nat} {v : α} (h : l[i]? = some v) : selL f i (l.drop i) = if f i = true then v :: selL f (i + 1) (l.drop (i + 1)) else selL f (i + 1) (l.drop (i + 1)) := by
  obtain ⟨hlt, e⟩ := List.getElem?_eq_some_iff.mp h
  rw [List.drop_eq_getElem_cons hlt, e]
  rfl
theorem QLed.sel {q : List (List Int × Int × Int)} {vs : List Value} {l : Led} (f : Nat → Bool) (h : QLed q vs l) : ∀ i, QLed (selL f i q) (selL f i vs) (selL f i l) := by
  induction h with
  | nil => exact fun _ => .nil
  | cons hb _ ih =>
    intro i
    unfold selL
    split
    · exact .cons hb (ih _)
    · exact ih _
inductive QAt (q : List (List Int × Int × Int)) (l : Led) (i : Nat) (v : Value) : Prop
  | mk (T : Addr) (ps : List Int) (a p : Int) (b : Array UInt8) (t1 t2 t3 : Tok) (h1 : v = .ref T) (h2 : q[i]? = some (ps, a, p)) (h3 : KBw.bInts b = ps) (h4 : (T, tupObj [.bytes b t1, .int a t2, .int p t3]) ∈ l)
theorem QLed.at {q : List (List Int × Int × Int)} {vs : List Value} {l : Led} (h : QLed q vs l) : ∀ {i : Nat} {v : Value}, vs[i]? = some v → QAt q l i v := by
  induction h with
  | nil => intro i v h; cases h
  | cons hb _ ih =>
    intro i v hv
    cases i with
    | zero => cases hv; exact ⟨_,_,_,_,_,_,_,_, rfl, rfl, hb, .head _⟩
    | succ j =>
      obtain ⟨T, ps, a, p, b, t1, t2, t3, e1, e2, e3, e4⟩ := ih (by simpa using hv)
      exact ⟨T, ps, a, p, b, t1, t2, t3, e1, by simpa using e2, e3, .tail _ e4⟩
theorem filter_sel {α : Type} (pr : α → Bool) (q₀ : List α) : ∀ (l : List α) (i : Nat), (∀ j, l[j]? = q₀[i + j]?) → selL (fun i => (q₀[i]?.map pr).getD false) i l = l.filter pr
  | [], _,_ => rfl
  | v :: r, i, h => by
    have h0 : q₀[i]? = some v := by simpa using (h 0).symm
    have ih := filter_sel pr q₀ r (i + 1) fun j => by have := h (j + 1); simpa [Nat.add_assoc, Nat.add_comm 1 j] using this
    unfold selL
    rw [List.filter_cons, ih, h0]
    rfl
section
open LCt LCg
variable {prog : Program} {w : World} {A : Around} {h₀ : Heap} {L : Addr} {m : Str → Option Value} {env : Env} {ct elt : Expr} {x : Str} {scope : Scope} {cl : List (Str × Addr)} {s : Shared} {S : Led → Prop} {Fin : List Value → Led → Prop} {its : List Value} {news : Led}
theorem rest_sel (f : Nat → Bool) (hfin : Fin (selL f 0 its) news)
   (turn : ∀ i ys v I oI C oC D m₂ h tk (E' : Value → Shared → Prop) (R : List Value → Led → Prop), its[i]? = some v → NsObj oC m₂ → m₂ x = some v → Fr h₀ L h m → News h₀ L h ((I, oI) :: (C, oC) :: (D, lst ys) :: news) → Off3 I C D news → ((@Ne Nat I C) ∧ (@Ne Nat I D) ∧ (@Ne Nat C D)) →
     (f i = true → R (ys ++ [v]) news) → (f i = false → R ys news) →
      wpAny (model prog w) A (isTrue ct (compEnvC scope cl C env) (eval ct (compEnvC scope cl C env))) (fun ok s' => if ok = true then
        wpAny (model prog w) A (eval elt (compEnvC scope cl C env)) (CompEnd h₀ L m { s with heap := h, toks := tk } I oI C oC D (lst ys) S (fun y news' => R (ys ++ [y]) news')) E' s'
        else CompEnd h₀ L m { s with heap := h, toks := tk } I oI C oC D (lst ys) S (fun _ news' => R ys news') Value.none s') E' { s with heap := h, toks := tk }) :
    CompRestT prog w A h₀ L m env ct elt x scope cl s S (fun i v => its.toArray[i]? = some v) Fin its.toArray.size 0 [] news := by
  have key : ∀ k i ys, i + k = its.length → Fin (ys ++ selL f i (its.drop i)) news → CompRestT prog w A h₀ L m env ct elt x scope cl s S (fun i v => its.toArray[i]? = some v) Fin k i ys news := by
    intro k
    induction k with
    | zero =>
      intro i ys hi hf
      rw [List.drop_of_length_le (by omega)] at hf
      exact CompRestT.zero (by simpa [selL] using hf)
    | succ k ih =>
      intro i ys hi hf
      refine CompRestT.succ ?_
      intro v I oI C oC D m₂ h tk E' hv hC hx F N off ne
      have hv' : its[i]? = some v := by simpa using hv
      rw [selL_drop hv'] at hf
      refine turn i ys v I oI C oC D m₂ h tk E' (fun ys' news' => CompRestT prog w A h₀ L m env ct elt x scope cl s S (fun i v => its.toArray[i]? = some v) Fin k (i + 1) ys' news') hv' hC hx F N off ne (fun hb => ?_) (fun hb => ?_)
      · rw [if_pos hb] at hf
        exact ih (i + 1) _ (by omega) (by simpa using hf)
      · rw [if_neg (by rw [hb]; exact Bool.false_ne_true)] at hf
        exact ih (i + 1) _ (by omega) hf
  have := key its.length 0 [] (by omega) (by simpa using hfin)
  simpa using this
end
section
variable {prog : Program} {w : World} {us ud pi ti sd : Addr} {uo so : Obj} {news rest : Led} {xs : List Sk} {g : Int}

def qSel (q : List (List Int × Int × Int)) (a p : Int) (i : Nat) : Bool := (q[i]?.map fun e => e.2.1 == a && e.2.2 == p).getD false
def qKeep (q : List (List Int × Int × Int)) (a p : Int) : List (List Int × Int × Int) := selL (qSel q a p) 0 q

theorem conn310 {x : Sk} {a p : Int} {t1 t2 t3 : Tok} {c : Addr × Obj} {A : Led} {td tr : Addr} {kt : Tok} {n : Nat} {o : Obj}
    {pp : Program} {loose : List Str} {mean : ExcName → Option Value} {mg mb : Str → Option Value} {dp un : Nat} {gd : Option (List Code)} {cn : Str} {cs : Scope} {ca : Addr} {ccd : Value} {cl : List (Str × Addr)} {outer : List Env} {A₀ : Around} {base h₀ : Heap} {L : Addr} {m : Str → Option Value} {s : Shared} {Q E : Value → Shared → Prop}
    (B : Below A₀ base outer h₀) (F : Fr h₀ L s.heap m) (X : (hp w.params).In h₀) (N : News h₀ L s.heap (c :: (A ++ (x.rl ++ rest)))) (D : ((c :: (A ++ (x.rl ++ rest))).map (·.1)).Nodup)
    (hx : x ∈ xs) (i1 : (ti, instObj 327 td) ∈ rest) (i2 : (td, dictOf [ent w.params "rows" kt (.ref tr)] n) ∈ rest) (i3 : (tr, o) ∈ rest) (i4 : o.IsDictOf (intKind prog w) (rowsOf xs)) (i5 : (tr == sysModules) = false)
    (hn : (xs.map (·.num)).Nodup) (hr : ∀ x ∈ xs, RowLed w.params x.num x.adr x.port x.far x.rI x.rl) (hl : ∀ y ∈ xs, ∀ q ∈ y.rl, q ∈ x.rl ++ rest) (hne : ∀ y ∈ xs, y.num ≠ x.num → y.port ≠ x.port)
    (T : Top pp loose mean mg mb h₀) (hk : cs.kind = .function) (hd : dp + 8 < 500) (hu : un + 100 * 8 < 9000)
    (ret : ∀ l h' tk', RowLed w.params x.num x.adr x.port (some (a, p)) x.rI l → ((c :: (A ++ (l ++ rest))).map (·.1)).Nodup → Fr h₀ L h' m → News h₀ L h' (c :: (A ++ (l ++ rest))) → Q .none { s with heap := h', toks := tk' }) :
    wpAny (model prog w) (ktrTop dp un gd cn cs L ca ccd cl outer) (call (.ref 310) [.ref ti, .int x.num t1, .int a t2, .int p t3]) Q E s := by
  have D1 : ((x.rl ++ (c :: (A ++ rest))).map (·.1)).Nodup := by exact Tr.nd [_] [_] [_,_,_] (.c 0 0 (.a (.s 0) (.a (.s 1) (.s 2)))) (.a (.s 1) (.c 0 0 (.a (.s 0) (.s 2)))) rfl D
  have hsub : ∀ q ∈ x.rl ++ rest, q ∈ x.rl ++ (c :: (A ++ rest)) := by exact Tr.sb [_] [_] [_,_,_] (.a (.s 0) (.c 0 0 (.a (.s 1) (.s 2)))) (.a (.s 0) (.s 2)) rfl
  refine Spec.uq1 (connect_spec hx D1 (by k_mem) (by k_mem) (by k_mem) i4 i5 hn hr (fun y hy q hq => hsub q (hl y hy q hq)) hne) B F X N (by exact Tr.sb [_] [_] [_,_,_] (.c 0 0 (.a (.s 0) (.a (.s 1) (.s 2)))) (.a (.s 1) (.c 0 0 (.a (.s 0) (.s 2)))) rfl) T hk hd hu ?_
  rintro l h' tk' ⟨hR, D2⟩ F2 N2
  exact ret l h' tk' hR (by exact Tr.nd [_] [_] [_,_,_] (.a (.s 0) (.c 0 0 (.a (.s 1) (.s 2)))) (.c 0 0 (.a (.s 1) (.a (.s 0) (.s 2)))) rfl D2) F2 (cb_drop N2 (by exact Tr.sb [_] [_] [_,_,_] (.a (.s 0) (.c 0 0 (.a (.s 1) (.s 2)))) (.c 0 0 (.a (.s 1) (.a (.s 0) (.s 2)))) rfl))

theorem off1_mem {D : Addr} : ∀ {l : Led}, LCg.Off1 D l → ∀ p ∈ l, p.1 ≠ D
  | [], _,_, h => nomatch h
  | _ :: _, x, p, h => by
    rcases List.mem_cons.mp h with rfl | h
    · exact x.1
    · exact off1_mem x.2 p h
theorem nodup_new {d : Addr} {o : Obj} {l : Led} (h : ∀ p ∈ l, p.1 ≠ d) (D : (l.map (·.1)).Nodup) : (((d, o) :: l).map (·.1)).Nodup := by
  rw [List.map_cons, List.nodup_cons]
  refine ⟨fun hm => ?_, D⟩
  obtain ⟨p, hp, e⟩ := List.mem_map.mp hm
  exact h p hp e
theorem ne_map {l l' : Led} {d : Addr} (h : ∀ p ∈ l, p.1 ≠ d) (e : l.map (·.1) = l'.map (·.1)) : ∀ p ∈ l', p.1 ≠ d := by
  intro p hp
  have hm : p.1 ∈ l.map (·.1) := by rw [e]; exact List.mem_map_of_mem hp
  obtain ⟨q, hq, e'⟩ := List.mem_map.mp hm
  rw [← e']; exact h q hq
theorem conn_close {h₀ h' : Heap} {L sI sD sQ D' D1 : Addr} {c c1 : Addr × Obj} {oI oD oQ oI1 oD1 oQ1 oc2 oI2 oD2 oQ2 oL tup : Obj} {f : Nat → Bool} {lf le lq l rest : Led}
    (N : News h₀ L h' ((D', oL) :: (D1, tup) :: c :: (sI, oI) :: (sD, oD) :: (sQ, oQ) :: (lf ++ le ++ lq ++ (l ++ rest))))
    (D : ((c1 :: (sI, oI1) :: (sD, oD1) :: (sQ, oQ1) :: (lf ++ le ++ lq ++ (l ++ rest))).map (·.1)).Nodup) (h1 : ∀ p ∈ c1 :: (sI, oI1) :: (sD, oD1) :: (sQ, oQ1) :: (lf ++ le ++ lq ++ (l ++ rest)), p.1 < D1)
    (o : ∀ p ∈ (D1, tup) :: (c1.1, oc2) :: (sI, oI2) :: (sD, oD2) :: (sQ, oQ2) :: (lf ++ le ++ lq ++ (l ++ rest)), p.1 ≠ D') :
    News h₀ L h' (((sI, oI) :: (sD, oD) :: (D', oL) :: ([(D1, tup)] ++ le ++ selL f 0 lq)) ++ (l ++ rest)) ∧ ((((sI, oI) :: (sD, oD) :: (D', oL) :: ([(D1, tup)] ++ le ++ selL f 0 lq)) ++ (l ++ rest)).map (·.1)).Nodup := by
  have hs := selL_sub (f := f) (l := lq) (i := 0)
  refine ⟨cb_drop N ?_, ?_⟩
  · have hsub := (((((hs.append_left ([(D1, tup)] ++ le)).cons_cons (D', oL)).cons_cons (sD, oD)).cons_cons (sI, oI)).append_right (l ++ rest)).subset
    intro p hp
    have hp' := hsub hp
    clear hp
    revert p
    exact Tr.sb [_,_,_,_,_,_] [_,_,_,_,_,_] [_,_,_,_,_] (.c 0 0 (.c 1 1 (.c 2 2 (.c 3 3 (.c 4 4 (.c 5 5 (.a (.a (.a (.s 0) (.s 1)) (.s 2)) (.a (.s 3) (.s 4))))))))) (.a (.c 3 3 (.c 4 4 (.c 0 0 (.a (.a (.c 1 1 .n) (.s 1)) (.s 2))))) (.a (.s 3) (.s 4))) rfl
  · have D2 := nodup_new (o := oL) (l := (D1, tup) :: c1 :: (sI, oI1) :: (sD, oD1) :: (sQ, oQ1) :: (lf ++ le ++ lq ++ (l ++ rest))) (ne_map o (by rfl)) ((fresh1 (x := tup) h1).nodup D)
    refine nodup_by_count D2 (fun a ha => ?_)
    have hc := (hs.map (·.1)).count_le a
    simp only [List.map_append, List.map_cons, List.map_nil, List.count_append, List.count_cons, List.count_nil] at ha ⊢
    omega
theorem conn_spec {x : Sk} {a p : Int} {t1 t2 t3 : Tok} (hx : x ∈ xs) (hs : SockLed w.params x.adr x.port x.far x.q x.err x.sI x.sl) (hq : x.q.length ≤ 2) (D : ((x.sl ++ (x.rl ++ rest)).map (·.1)).Nodup)
    (m1 : (us, instObj 445 ud) ∈ rest) (m2 : (ud, uo) ∈ rest) (hu : UsObj w.params pi ti sd g uo) (m3 : (sd, so) ∈ rest) (hd : so.IsDictOf (intKind prog w) (kvsBy (fun x => .ref x.sI) xs)) (lo : (sd == sysModules) = false)
    {td tr : Addr} {kt : Tok} {n : Nat} {o : Obj} (i1 : (ti, instObj 327 td) ∈ rest) (i2 : (td, dictOf [ent w.params "rows" kt (.ref tr)] n) ∈ rest) (i3 : (tr, o) ∈ rest) (i4 : o.IsDictOf (intKind prog w) (rowsOf xs)) (i5 : (tr == sysModules) = false)
    (hn : (xs.map (·.num)).Nodup) (hr : ∀ x ∈ xs, RowLed w.params x.num x.adr x.port x.far x.rI x.rl) (hl : ∀ y ∈ xs, ∀ q ∈ y.rl, q ∈ x.rl ++ rest) (hne : ∀ y ∈ xs, y.num ≠ x.num → y.port ≠ x.port) :
    Spec prog w 386 20 [.ref us, .int x.num t1, .int a t2, .int p t3] (x.sl ++ (x.rl ++ rest)) (Q2 (fun l l' => .none) (fun l l' => l' ++ (l ++ rest)) (fun l l' => An3 (RowLed w.params x.num x.adr x.port (some (a, p)) x.rI l) (SockLed w.params x.adr x.port (some (a, p)) (qKeep x.q a p) x.err x.sI l') (((l' ++ (l ++ rest)).map (·.1)).Nodup))) := by
  intro pp loose mean mg mb dp un gd cn cs a' ccd cl outer A₀ base h₀ L m hh gs dr tk oz Q E B F X N T hkk hdp hu' hret
  obtain ⟨y1, y2, y3, y4, y5, y6, y7, y8, e⟩ := id hu
  subst e
  have hv := valueAt_kvs (f := fun x => .ref x.sI) hn hx
  have hv' := hit_of hv
  obtain ⟨sD, c1, c2, c3, c4, c5, c6, u1, u2, u5, lost, vr, sQ, ve, nn, vs, cap, lf, le, lq, e, f1, f2, f3⟩ := hs
  rw [e] at N D
  dsimp only [List.cons_append] at N D
  obtain ⟨d1, d2, d3, r1, r2, r3⟩ := nd3 D
  refine wpAny_call ?_
  k_dflt (refine' code_defC ?k1 ?k2 ?k3 ?k4 ?k5 ?kA ?kF ?kK ?k6 ?k7 ?k8 ?k9 ?kB ?kD ?_ ?c2 ?c3 ?c4; (case kA => exact rfl); (case kF => exact rfl); (case kK => assumption); (case k1 => k_asm); (case k2 => k_asm); (case k3 => k_asm); (case k4 => k_asm); (case k5 => k_asm); (case k6 => k_is); (case k7 => k_is); (case k8 => k_room); (case k9 => first | exact BindsTo.of_eq rfl | exact binds_K (by k_in) rfl (by k_is) rfl rfl rfl); (case kB => exact rfl); (case kD => decide +kernel); (case c2 => exact rfl); (case c3 => exact rfl); (case c4 => exact rfl); k_whole; intro g' L' h' tk' cells' FG' F' N' Y' B' X' T' l1; (have hUp := lt_up l1); (try k_lt l1); k_cells Y'; (try dsimp only [List.cons_append, List.nil_append] at N'); (try dsimp only); (try k_fold))
  k_steps
  refine Halt.go ?_
  have D0 := (fresh1 (x := o) (by assumption : ∀ q ∈ (x.sI, instObj 348 sD) :: (sD, dictOf [ent w.params "address" c1 (.int x.adr u1), ent w.params "port" c2 (.int x.port u2), ent w.params "remote" c3 vr, ent w.params "queue" c4 (.ref sQ), ent w.params "lost" c5 (.int lost u5), ent w.params "error" c6 ve] nn) :: (sQ, W.listOf vs.toArray cap) :: (lf ++ le ++ lq ++ (x.rl ++ rest)), q.1 < _ + 1)).nodup D
  refine conn310 (A := (x.sI, instObj 348 sD) :: (sD, dictOf [ent w.params "address" c1 (.int x.adr u1), ent w.params "port" c2 (.int x.port u2), ent w.params "remote" c3 vr, ent w.params "queue" c4 (.ref sQ), ent w.params "lost" c5 (.int lost u5), ent w.params "error" c6 ve] nn) :: (sQ, W.listOf vs.toArray cap) :: (lf ++ le ++ lq)) (rest := rest) (by k_asm) (by k_asm) (by k_asm) (by k_asm) (by exact D0) hx i1 i2 i3 i4 i5 hn hr hl hne (by k_asm) (by first | exact rfl | assumption) (by k_extra "bud") (by k_extra "bud") ?_
  intro l h' tk' hR D2 F2 N2
  dsimp only [List.cons_append] at N2 D2
  obtain ⟨p1, p2, p3, p4, p5, p6, z1, z2, z3, z4⟩ := nd4 D2
  try dsimp only
  k_steps
  refine Halt.go ?_
  refine LCt.CompSrcT.ledger (by rfl) (by k_asm) (by k_asm) (by k_mem) (by rw [List.size_toArray, f3.length, sizeLine_eq]; omega) ?_
  intro g'
  refine rest_sel (qSel x.q a p) ?_ ?_
  · unfold LCg.FinE
    intro D3 h3 tk3 F3 N3 o3
    have oRaw := off1_mem o3
    simp only [LCg.Off1, and_true] at o3
    try dsimp only
    k_steps
    obtain ⟨N4, D4⟩ := conn_close (f := qSel x.q a p) (by k_asm) D2 (by assumption) oRaw
    exact hret _ _ _ _ (.mk _ _ ⟨hR, ⟨_,_,_,_,_,_,_,_,_,_,_,_,_,_,_,_,_,_,_,_, rfl, .yes, f2, f3.sel _ 0⟩, D4⟩) (by k_asm) N4
  · intro i ys v I oI C oC D m₂ h tk E' R hv hC hx F3 N3 off ne Ry Rn
    have offRaw := off
    simp only [LCg.Off3, and_true] at off
    obtain ⟨T, ps, a2, p2, b2, t1, t2, t3, rfl, hq2, hb2, hm2⟩ := f3.at hv
    have hsel : qSel x.q a p i = (a2 == a && p2 == p) := by unfold qSel; rw [hq2]; rfl
    k_steps
    · exact LCg.CompEnd.intro (by k_asm) (by k_asm) _ (sub_cons ro_sub) offRaw (Or.inr ⟨_, by k_mem, rfl, _, rfl⟩) (Ry (hsel.trans (by assumption)))
    · exact LCg.CompEnd.intro (by k_asm) (by k_asm) _ (sub_cons ro_sub) offRaw (Or.inr ⟨_, by k_mem, rfl, _, rfl⟩) (Rn (hsel.trans (by assumption)))
end

theorem reg35 : True := by
  (k_with "call ref" => with_reducible (first | refine Halt.call (a := 317) ?_ | refine Halt.call (a := 132) ?_))
  trivial
def portsOf (xs : List Sk) : List (Int × Value) := xs.map fun x => (x.port, .bool true)
theorem valueAt_ports {xs : List Sk} {x : Sk} (hx : x ∈ xs) : valueAt (portsOf xs) x.port = some (.bool true) := by
  induction xs with
  | nil => exact absurd hx List.not_mem_nil
  | cons y ys ih =>
    by_cases h : y.port = x.port
    · simp [portsOf, valueAt, List.find?_cons, h]
    · rcases List.mem_cons.mp hx with rfl | hx
      · exact absurd rfl h
      · simpa [portsOf, valueAt, List.find?_cons, h] using ih hx
theorem reg36 : True := by
  (k_with "call ref" => (with_reducible refine Call.at (a := 233) ?_; k_dflt (refine Spec.gq7 (C := read_header_spec) (ret := ?_); intro H'w D'w k1'w k2'w t1'w t2'w n1'w h'w tk'w hPw F'w N'w; obtain ⟨lt1w, lt2w⟩ := hPw; ((k_lt lt2w)))))
  trivial
section
variable {prog : Program} {w : World} {us ud pi pd pt ti td tr sd : Addr} {uo po o so : Obj} {rest : Led} {xs : List Sk} {g f : Int} {kt k1 k2 k3 k4 v1 v2 v3 : Tok} {n n2 : Nat}

theorem close_spec {x : Sk} {t : Tok} (hx : x ∈ xs) (hs : SockLed w.params x.adr x.port x.far x.q x.err x.sI x.sl) (hl : ∀ p ∈ x.sl, p ∈ rest)
    (D : (((ti, instObj 327 td) :: (td, dictOf [ent w.params "rows" kt (.ref tr)] n) :: (tr, o) :: (pi, instObj 135 pd) :: (pd, dictOf (portsEs w.params k1 k2 k3 k4 v1 v2 v3 f pt) n2) :: (pt, po) :: (sd, so) :: rest).map (·.1)).Nodup)
    (m1 : (us, instObj 445 ud) ∈ rest) (m2 : (ud, uo) ∈ rest) (hu : UsObj w.params pi ti sd g uo)
    (hdt : o.IsDictOf (intKind prog w) (rowsOf xs)) (lot : (tr == sysModules) = false) (hdp : po.IsDictOf (intKind prog w) (portsOf xs)) (lop : (pt == sysModules) = false) (hds : so.IsDictOf (intKind prog w) (kvsBy (fun x => .ref x.sI) xs)) (los : (sd == sysModules) = false)
    (hn : (xs.map (·.num)).Nodup) (hz : xs.length ≤ 100) :
    Spec prog w 393 20 [.ref us, .int x.num t] ((ti, instObj 327 td) :: (td, dictOf [ent w.params "rows" kt (.ref tr)] n) :: (tr, o) :: (pi, instObj 135 pd) :: (pd, dictOf (portsEs w.params k1 k2 k3 k4 v1 v2 v3 f pt) n2) :: (pt, po) :: (sd, so) :: rest)
      (Q3 (fun o' po' so' => .none) (fun o' po' so' => (ti, instObj 327 td) :: (td, dictOf [ent w.params "rows" kt (.ref tr)] n) :: (tr, o') :: (pi, instObj 135 pd) :: (pd, dictOf (portsEs w.params k1 k2 k3 k4 v1 v2 v3 f pt) n2) :: (pt, po') :: (sd, so') :: rest) (fun o' po' so' => An3 (o'.IsDictOf (intKind prog w) (without (rowsOf xs) x.num)) (po'.IsDictOf (intKind prog w) (without (portsOf xs) x.port)) (so'.IsDictOf (intKind prog w) (without (kvsBy (fun x => .ref x.sI) xs) x.num)))) := by
  intro pp loose mean mg mb dp un gd cn cs a' ccd cl outer A₀ base h₀ L m hh gs dr tk oz Q E B F X N T hkk hdp' hu' hret
  obtain ⟨y1, y2, y3, y4, y5, y6, y7, y8, e⟩ := id hu
  subst e
  have hv := valueAt_kvs (f := fun x => .ref x.sI) hn hx
  have hv2 := valueAt_kvs (f := fun x => .ref x.rI) hn hx
  have hv3 := valueAt_ports hx
  have hv' := hit_of hv
  have hz1 : (rowsOf xs).length ≤ 100 := by rw [rowsOf, kvsBy, List.length_map]; exact hz
  have hz2 : (portsOf xs).length ≤ 100 := by rw [portsOf, List.length_map]; exact hz
  have hz3 : (kvsBy (fun x => .ref x.sI) xs).length ≤ 100 := by rw [kvsBy, List.length_map]; exact hz
  obtain ⟨sD, c1, c2, c3, c4, c5, c6, u1, u2, u5, lost, vr, sQ, ve, nn, vs, cap, s1, s2, s3, s4⟩ := hs.mem
  replace s1 := hl _ s1
  replace s2 := hl _ s2
  have hD : (((sd, so) :: (ti, instObj 327 td) :: (td, dictOf [ent w.params "rows" kt (.ref tr)] n) :: (tr, o) :: (pi, instObj 135 pd) :: (pd, dictOf (portsEs w.params k1 k2 k3 k4 v1 v2 v3 f pt) n2) :: (pt, po) :: rest).map (·.1)).Nodup := by exact Tr.nd [_,_,_,_,_,_,_] [_,_,_,_,_,_,_] [_] (.c 0 0 (.c 1 1 (.c 2 2 (.c 3 3 (.c 4 4 (.c 5 5 (.c 6 6 (.s 0)))))))) (.c 6 6 (.c 0 0 (.c 1 1 (.c 2 2 (.c 3 3 (.c 4 4 (.c 5 5 (.s 0)))))))) rfl D
  have hne := ne_of_nodup hD
  have g1 : @Ne Nat ti sd := hne (ti, instObj 327 td) (.head _)
  have g2 : @Ne Nat td sd := hne (td, _) (.tail _ (.head _))
  have g3 : @Ne Nat tr sd := hne (tr, o) (.tail _ (.tail _ (.head _)))
  have g4 : @Ne Nat pi sd := hne (pi, instObj 135 pd) (.tail _ (.tail _ (.tail _ (.head _))))
  have g5 : @Ne Nat pd sd := hne (pd, _) (.tail _ (.tail _ (.tail _ (.tail _ (.head _)))))
  have g6 : @Ne Nat pt sd := hne (pt, po) (.tail _ (.tail _ (.tail _ (.tail _ (.tail _ (.head _))))))
  have g7 : ∀ p ∈ rest, p.1 ≠ sd := fun p hp => hne p (.tail _ (.tail _ (.tail _ (.tail _ (.tail _ (.tail _ hp))))))
  clear hne hD
  refine wpAny_call ?_
  k_dflt ktr_enter
  k_steps
  refine Halt.go ?_
  refine Spec.uq1 (remove_spec D hdt lot hv2 hz1) (ret := ?_)
  rintro o1 h' tk' hd1 F2 N2
  try dsimp only
  k_steps
  refine Halt.go ?_
  have D3 : (((pi, instObj 135 pd) :: (pd, dictOf (portsEs w.params k1 k2 k3 k4 v1 v2 v3 f pt) n2) :: (pt, po) :: (ti, instObj 327 td) :: (td, dictOf [ent w.params "rows" kt (.ref tr)] n) :: (tr, o1) :: (sd, so) :: rest).map (·.1)).Nodup := by exact Tr.nd [_,_,_,_,_,_,_] [_,_,_,_,_,_,_,_] [_] (.c 0 0 (.c 1 1 (.c 2 2 (.c 3 3 (.c 4 4 (.c 5 5 (.c 6 6 (.s 0)))))))) (.c 3 3 (.c 4 4 (.c 5 5 (.c 0 0 (.c 1 1 (.c 2 7 (.c 6 6 (.s 0)))))))) rfl D
  refine Spec.uq1 (free_spec D3 hdp lop hv3 hz2) (hs := by exact Tr.sb [_,_,_,_,_,_,_] [_,_,_,_,_,_,_] [_] (.c 0 0 (.c 1 1 (.c 2 2 (.c 3 3 (.c 4 4 (.c 5 5 (.c 6 6 (.s 0)))))))) (.c 3 3 (.c 4 4 (.c 5 5 (.c 0 0 (.c 1 1 (.c 2 2 (.c 6 6 (.s 0)))))))) rfl) (ret := ?_)
  rintro o2 h' tk' hd2 F3 N3
  try dsimp only
  k_steps
  exact hret _ _ _ _ (.mk _ _ _ ⟨hd1, hd2, by assumption⟩) (by k_asm) (cb_drop (by k_asm) (by k_extra "l_memx"))

theorem nd5 {a b c d e : Addr} {oa ob oc od oe : Obj} {rest : Led} (D : (((a, oa) :: (b, ob) :: (c, oc) :: (d, od) :: (e, oe) :: rest).map (·.1)).Nodup) : An15 (@Ne Nat a b) (@Ne Nat a c) (@Ne Nat a d) (@Ne Nat a e) (@Ne Nat b c) (@Ne Nat b d) (@Ne Nat b e) (@Ne Nat c d) (@Ne Nat c e) (@Ne Nat d e) ((∀ p ∈ rest, p.1 ≠ a)) ((∀ p ∈ rest, p.1 ≠ b)) ((∀ p ∈ rest, p.1 ≠ c)) ((∀ p ∈ rest, p.1 ≠ d)) (∀ p ∈ rest, p.1 ≠ e) := by
  have h := ne_of_nodup D
  rw [List.map_cons, List.nodup_cons] at D
  obtain ⟨h1, h2, h3, h4, h5, h6, z1, z2, z3, z4⟩ := nd4 D.2
  exact ⟨fun q => h _ (.head _) q.symm, fun q => h _ (.tail _ (.head _)) q.symm, fun q => h _ (.tail _ (.tail _ (.head _))) q.symm, fun q => h _ (.tail _ (.tail _ (.tail _ (.head _)))) q.symm, h1, h2, h3, h4, h5, h6, fun p hp => h p (.tail _ (.tail _ (.tail _ (.tail _ hp)))), z1, z2, z3, z4⟩
theorem tell_move {h₀ h : Heap} {L I sd : Addr} {so : Obj} {h1 h2 a b c : Addr × Obj} {A rest own : Led} (N : News h₀ L h (own ++ (h1 :: h2 :: ((a :: b :: c :: A) ++ rest)))) (D : ((h1 :: h2 :: ((a :: b :: c :: A) ++ rest)).map (·.1)).Nodup)
    (hsd : (sd, so) ∈ rest) (ho : ∀ p ∈ own, p.1 = I ∨ p.1 = sd) (hnI : ∀ p ∈ h1 :: h2 :: ((a :: b :: c :: A) ++ rest), p.1 ≠ I) :
    News h₀ L h (a :: b :: c :: h1 :: h2 :: (A ++ rest ++ own)) ∧ @Ne Nat a.1 b.1 ∧ @Ne Nat b.1 c.1 ∧ @Ne Nat b.1 h1.1 ∧ @Ne Nat b.1 h2.1 ∧ ∀ p ∈ A ++ rest ++ own, p.1 ≠ b.1 := by
  have D2 : (((b.1, b.2) :: (a.1, a.2) :: (c.1, c.2) :: (h1.1, h1.2) :: (h2.1, h2.2) :: (A ++ rest)).map (·.1)).Nodup := by exact Tr.nd [_,_,_,_,_] [_,_,_,_,_] [_,_] (.c 0 0 (.c 1 1 (.a (.c 2 2 (.c 3 3 (.c 4 4 (.s 0)))) (.s 1)))) (.c 3 3 (.c 2 2 (.c 4 4 (.c 0 0 (.c 1 1 (.a (.s 0) (.s 1))))))) rfl D
  obtain ⟨e1, e2, e3, e4, -, -, -, -, -, -, z1, -⟩ := nd5 D2
  refine ⟨cb_drop N (by exact Tr.sb [_,_,_,_,_] [_,_,_,_,_] [_,_,_] (.a (.s 0) (.c 0 0 (.c 1 1 (.a (.c 2 2 (.c 3 3 (.c 4 4 (.s 1)))) (.s 2))))) (.c 2 2 (.c 3 3 (.c 4 4 (.c 0 0 (.c 1 1 (.a (.a (.s 1) (.s 2)) (.s 0))))))) rfl), e1.symm, e2, e3, e4, fun p hp => ?_⟩
  rcases List.mem_append.mp hp with hp | hp
  · exact z1 p hp
  · rcases ho p hp with e | e
    · rw [e]; exact fun q => hnI b (by simp) q.symm
    · rw [e]
      exact z1 (sd, so) (List.mem_append_right _ hsd)
theorem tell_close {h₀ h' : Heap} {L I sI sD sQ T : Addr} {h1 h2 t1 : Addr × Obj} {oi oI oD oQ oI1 oD1 oQ1 oI2 oD2 oQ2 tup : Obj} {lf le lq rest own : Led}
    (N : News h₀ L h' ((T, tup) :: t1 :: (sI, oI) :: (sD, oD) :: (sQ, oQ) :: h1 :: h2 :: (lf ++ le ++ lq ++ rest ++ own)))
    (hlt : ∀ p ∈ t1 :: (sI, oI2) :: (sD, oD2) :: (sQ, oQ2) :: h1 :: h2 :: (lf ++ le ++ lq ++ rest ++ own), p.1 < T)
    (D : ((h1 :: h2 :: (((sI, oI1) :: (sD, oD1) :: (sQ, oQ1) :: (lf ++ le ++ lq)) ++ rest)).map (·.1)).Nodup) (hoI : (I, oi) ∈ own) (hnI : ∀ p ∈ h1 :: h2 :: (((sI, oI1) :: (sD, oD1) :: (sQ, oQ1) :: (lf ++ le ++ lq)) ++ rest), p.1 ≠ I) :
    (∀ p ∈ own ++ (h1 :: h2 :: (((sI, oI) :: (sD, oD) :: (sQ, oQ) :: (lf ++ [(T, tup)] ++ lq)) ++ rest)), p ∈ (T, tup) :: t1 :: (sI, oI) :: (sD, oD) :: (sQ, oQ) :: h1 :: h2 :: (lf ++ le ++ lq ++ rest ++ own)) ∧
    ((h1 :: h2 :: (((sI, oI) :: (sD, oD) :: (sQ, oQ) :: (lf ++ [(T, tup)] ++ lq)) ++ rest)).map (·.1)).Nodup ∧ ∀ p ∈ h1 :: h2 :: (((sI, oI) :: (sD, oD) :: (sQ, oQ) :: (lf ++ [(T, tup)] ++ lq)) ++ rest), p.1 ≠ I := by
  have hI : @LT.lt Nat _ I T := hlt (I, oi) (by simp [hoI])
  have hlt2 : ∀ p ∈ (sI, oI2) :: (sD, oD2) :: (sQ, oQ2) :: h1 :: h2 :: (lf ++ le ++ lq ++ rest), p.1 < T := fun p hp => hlt p (by
    have h3 : ∀ p ∈ (sI, oI2) :: (sD, oD2) :: (sQ, oQ2) :: h1 :: h2 :: (lf ++ le ++ lq ++ rest), p ∈ t1 :: (sI, oI2) :: (sD, oD2) :: (sQ, oQ2) :: h1 :: h2 :: (lf ++ le ++ lq ++ rest ++ own) := by exact Tr.sb [_,_,_,_,_,_] [_,_,_,_,_,_] [_,_,_,_,_] (.c 0 0 (.c 1 1 (.c 2 2 (.c 3 3 (.c 4 4 (.c 5 5 (.a (.a (.a (.a (.s 0) (.s 1)) (.s 2)) (.s 3)) (.s 4)))))))) (.c 1 1 (.c 2 2 (.c 3 3 (.c 4 4 (.c 5 5 (.a (.a (.a (.s 0) (.s 1)) (.s 2)) (.s 3))))))) rfl
    exact h3 p hp)
  have D0 : (((sI, oI2) :: (sD, oD2) :: (sQ, oQ2) :: h1 :: h2 :: (lf ++ le ++ lq ++ rest)).map (·.1)).Nodup := by exact Tr.nd [_,_,_,_,_] [_,_,_,_,_,_,_,_] [_,_,_,_] (.c 0 0 (.c 1 1 (.a (.c 2 2 (.c 3 3 (.c 4 4 (.a (.a (.s 0) (.s 1)) (.s 2))))) (.s 3)))) (.c 2 5 (.c 3 6 (.c 4 7 (.c 0 0 (.c 1 1 (.a (.a (.a (.s 0) (.s 1)) (.s 2)) (.s 3))))))) rfl D
  have D2 := (fresh1 (x := tup) hlt2).nodup D0
  refine ⟨by exact Tr.sb [_,_,_,_,_,_,_] [_,_,_,_,_,_,_] [_,_,_,_,_] (.c 0 0 (.c 1 1 (.c 2 2 (.c 3 3 (.c 4 4 (.c 5 5 (.c 6 6 (.a (.a (.a (.a (.s 0) (.s 1)) (.s 2)) (.s 3)) (.s 4))))))))) (.a (.s 4) (.c 5 5 (.c 6 6 (.a (.c 2 2 (.c 3 3 (.c 4 4 (.a (.a (.s 0) (.c 0 0 .n)) (.s 2))))) (.s 3))))) rfl, by exact Tr.nd [_,_,_,_,_,_] [_,_,_,_,_,_,_,_,_] [_,_,_,_] (.a (.c 0 0 .n) (.c 1 1 (.c 2 2 (.c 3 3 (.c 4 4 (.c 5 5 (.a (.a (.a (.s 0) (.s 1)) (.s 2)) (.s 3)))))))) (.c 4 4 (.c 5 5 (.a (.c 1 6 (.c 2 7 (.c 3 8 (.a (.a (.s 0) (.c 0 0 .n)) (.s 2))))) (.s 3)))) rfl D2, fun p hp => ?_⟩
  have h4 : ∀ a ∈ (h1 :: h2 :: (((sI, oI) :: (sD, oD) :: (sQ, oQ) :: (lf ++ [(T, tup)] ++ lq)) ++ rest)).map (·.1), a = T ∨ a ∈ (h1 :: h2 :: (((sI, oI1) :: (sD, oD1) :: (sQ, oQ1) :: (lf ++ le ++ lq)) ++ rest)).map (·.1) := by
    intro a ha
    simp only [List.map_cons, List.map_append, List.mem_cons, List.mem_append, List.map_nil, List.not_mem_nil, or_false, List.cons_append] at ha ⊢
    rcases ha with h | h | h | h | h | ((h | h) | h) | h <;> simp [h]
  rcases h4 p.1 (List.mem_map_of_mem hp) with e | e
  · rw [e]; exact Nat.ne_of_gt hI
  · obtain ⟨q, hq, e'⟩ := List.mem_map.mp e
    rw [← e']; exact hnI q hq
theorem num_inj {xs : List Sk} (hn : (xs.map (·.num)).Nodup) {x y : Sk} (hx : x ∈ xs) (hy : y ∈ xs) (e : x.num = y.num) : x = y := by
  induction xs with
  | nil => exact absurd hx List.not_mem_nil
  | cons z zs ih =>
    rw [List.map_cons, List.nodup_cons] at hn
    rcases List.mem_cons.mp hx with hx | hx <;> rcases List.mem_cons.mp hy with hy | hy
    · exact hx.trans hy.symm
    · exact absurd (List.mem_map.mpr ⟨y, hy, by rw [← e, hx]⟩) hn.1
    · exact absurd (List.mem_map.mpr ⟨x, hx, by rw [e, hy]⟩) hn.1
    · exact ih hn.2 hx hy
theorem eq_none_tup {prog : Program} {w : World} {A : Around} {s : Shared} {E : Value → Shared → Prop} {Q : Value → Shared → Prop} {l : Addr} {items : Array Value} (hl : s.heap.IsTuple l items := by exact News.isTup (by k_asm) (by k_mem)) (hu : A.units < cLine := by k_units) (h : Q (.bool false) s) : wpAny (model prog w) A (compareOp .Eq .none (.ref l)) Q E s := SeqAt.RcAt.none_tuple hl hu prog w E Q h
theorem reg37 : True := by
  (k_with "compareOp Eq none ref" => k_dflt (refine eq_none_tup (h := ?_)))
  trivial
inductive TellJ (P : Params) (na nb : Str) (xs : List Sk) (x : Sk) (f : Int × Int) (rest : Led) (h1 h2 : Addr × Obj) (m₀ : Str → Option Value) (i : Nat) (m : Str → Option Value) (l : Led) : Prop
  | mk (lx : Led) (ex : Option (Int × Int)) (e1 : SockLed P x.adr x.port x.far x.q ex x.sI lx) (e2 : l = h1 :: h2 :: (lx ++ rest)) (e3 : ((h1 :: h2 :: (lx ++ rest)).map (·.1)).Nodup)
    (e4 : ex = x.err ∨ ex = if x.far = some f then some (3, 3) else x.err) (e5 : x ∈ xs.take i → ex = if x.far = some f then some (3, 3) else x.err) (e6 : ∀ y, y ≠ na → y ≠ nb → m y = m₀ y)
theorem tell_hit_spec {x : Sk} {a p : Int} {bs : Array UInt8} {ks : List Int} {t1 t5 t6 t7 : Tok} (hx : x ∈ xs) (hs : ∀ y ∈ xs, SockLed w.params y.adr y.port y.far y.q y.err y.sI y.sl) (hl : ∀ y ∈ xs, y.num ≠ x.num → ∀ q ∈ y.sl, q ∈ rest) (D : ((x.sl ++ rest).map (·.1)).Nodup)
    (m1 : (us, instObj 445 ud) ∈ rest) (m2 : (ud, uo) ∈ rest) (hu : UsObj w.params pi ti sd g uo) (m3 : (sd, so) ∈ rest) (hd : so.IsDictOf (intKind prog w) (kvsBy (fun x => .ref x.sI) xs)) (lo : (sd == sysModules) = false) (hn : (xs.map (·.num)).Nodup) (hpn : ∀ y ∈ xs, y.num ≠ x.num → y.port ≠ x.port)
    (hk : KBw.bInts bs = ks) (hb : ks.length ≤ 20) (hb' : 4 ≤ ks.length) (hport : ks.getD 0 0 * 256 + ks.getD 1 0 = x.port) (hfp : ks.getD 2 0 * 256 + ks.getD 3 0 = p) :
    Spec prog w 435 20 [.ref us, .int a t1, .bytes bs t5, .int 3 t6, .int 3 t7] (x.sl ++ rest) (Q1 (fun l' => .none) (fun l' => l' ++ rest) (fun l' => SockLed w.params x.adr x.port x.far x.q (if x.far = some (a, p) then some (3, 3) else x.err) x.sI l' ∧ ((l' ++ rest).map (·.1)).Nodup)) := by
  intro pp loose mean mg mb dp un gd cn cs a' ccd cl outer A₀ base h₀ L m hh gs dr tk oz Q E B F X N T hkk hdp hu' hret
  obtain ⟨y1, y2, y3, y4, y5, y6, y7, y8, e⟩ := id hu
  subst e
  refine wpAny_call ?_
  k_dflt ktr_enter
  k_steps
  refine Halt.go ?_
  have D0 := (fresh2 (x := so) (y := so) (by assumption : ∀ p ∈ x.sl ++ rest, p.1 < _) (by assumption)).nodup D
  refine loop_keys (TellJ w.params (Str.ofString "number") (Str.ofString "socket") xs x (a, p) rest (_,_) (_,_) _) rfl (by k_asm) (by k_asm) (by k_mem) (by k_asm) (by assumption) ⟨_,_, hs x hx, rfl, by exact D0, .inl rfl, fun h => absurd h List.not_mem_nil, fun _ _ _ => rfl⟩ ?_ ?_
  · rintro I i k v t' m₁ news₁ h tk own hI hi ⟨lx, ex, hS, rfl, D1, h1, h2, hm⟩ ⟨ho, oI, hoI⟩ hnI F₁ N₁
    obtain ⟨y, hy, hym, rfl, rfl⟩ := kvs_at hi
    rw [frame2 hm] at F₁
    have hv := valueAt_kvs (f := fun x => .ref x.sI) hn hym
    by_cases hc : y = x
    · subst hc
      obtain ⟨sD, c1, c2, c3, c4, c5, c6, u1, u2, u5, lost, vr, sQ, ve, nn, vs, cap, lf, le, lq, rfl, f1, f2, f3⟩ := id hS
      obtain ⟨N2, d1, d2, d3, d4, d5⟩ := tell_move N₁ D1 m3 ho hnI
      clear N₁
      try dsimp only at d1 d2 d3 d4 d5
      have hfx : y.port = ks.getD 0 0 * 256 + ks.getD 1 0 := hport.symm
      generalize hfr : y.far = fr at f1
      cases f1 with
      | no =>
        k_steps
        refine TurnEnd.intro (by k_asm) (by k_asm) ?_ hnI ⟨_, ex, hS, rfl, D1, h1, fun _ => ?_, fun z z1 z2 => by simp only [if_neg z1, if_neg z2]⟩
        · exact Tr.sb [_,_,_,_,_,_] [_,_,_,_,_,_] [_,_,_,_] (.c 0 0 (.c 1 1 (.c 2 2 (.c 3 3 (.c 4 4 (.c 5 5 (.a (.a (.a (.a .n (.s 0)) (.s 1)) (.s 2)) (.s 3)))))))) (.a (.s 3) (.c 4 4 (.c 5 5 (.a (.c 1 1 (.c 2 2 (.c 3 3 (.a (.a .n (.s 0)) (.s 1))))) (.s 2))))) rfl
        · rw [hfr] at h1 ⊢
          simpa using h1
      | @yes a2 p2 T2 _ _ =>
        k_steps
        · have hb := far_t ‹(_ && _) = true›
          have hfin : (if y.far = some (a, p) then some ((3 : Int), (3 : Int)) else y.err) = some (3, 3) := by
            rw [hfr, if_pos (by simp only [Option.some.injEq, Prod.mk.injEq]; omega)]
          obtain ⟨w1, w2, w3⟩ := tell_close (by k_asm) (by assumption) D1 hoI hnI
          exact TurnEnd.intro (by k_asm) (by k_asm) w1 w3 ⟨_,_, ⟨_,_,_,_,_,_,_,_,_,_,_,_,_,_,_,_,_,_,_,_, rfl, hfr ▸ .yes, .yes, f3⟩, rfl, w2, .inr hfin.symm, fun _ => hfin.symm, fun z z1 z2 => by simp only [if_neg z1, if_neg z2]⟩
        · have hb := far_f ‹(_ && _) = false›
          refine TurnEnd.intro (by k_asm) (by k_asm) ?_ hnI ⟨_, ex, hS, rfl, D1, h1, fun _ => ?_, fun z z1 z2 => by simp only [if_neg z1, if_neg z2]⟩
          · exact Tr.sb [_,_,_,_,_,_,_] [_,_,_,_,_,_,_] [_,_,_,_] (.c 0 0 (.c 1 1 (.c 2 2 (.c 3 3 (.c 4 4 (.c 5 5 (.a (.a (.a (.a (.c 6 6 .n) (.s 0)) (.s 1)) (.s 2)) (.s 3)))))))) (.a (.s 3) (.c 4 4 (.c 5 5 (.a (.c 1 1 (.c 2 2 (.c 3 3 (.a (.a (.c 6 6 .n) (.s 0)) (.s 1))))) (.s 2))))) rfl
          · rw [hfr, if_neg (fun e => hb (by simp at e; omega))] at h1 ⊢
            simpa using h1
    · have hcn : y.num ≠ x.num := fun e => hc (num_inj hn hym hx e)
      have hpf : y.port ≠ ks.getD 0 0 * 256 + ks.getD 1 0 := fun e => hpn y hym hcn (e.trans hport)
      have hly := hl y hym hcn
      obtain ⟨sD, c1, c2, c3, c4, c5, c6, u1, u2, u5, lost, vr, sQ, ve, nn, vs, cap, s1, s2, s3, s4⟩ := (hs y hym).mem
      replace s1 := hly _ s1
      replace s2 := hly _ s2
      k_steps
      refine TurnEnd.intro (by k_asm) (by k_asm) ?_ hnI ⟨_, ex, hS, rfl, D1, h1, fun h => h2 ?_, fun z z1 z2 => by simp only [if_neg z1, if_neg z2]⟩
      · exact ro_sub
      · rw [List.take_add_one, hy] at h
        rcases List.mem_append.mp h with h | h
        · exact h
        · exact absurd (by simpa using h : x = y) (fun e => hc e.symm)
  · rintro m₁ news₁ h tk ⟨lx, ex, hS, rfl, D1, h1, h2, hm⟩ F₁ N₁
    rw [frame2 hm] at F₁
    have e1 : xs.take (kvsBy (fun x => .ref x.sI) xs).length = xs := by rw [kvsBy, List.length_map, List.take_length]
    rw [e1] at h2
    k_steps
    have e2 := h2 hx
    subst e2
    exact hret _ _ _ _ (.mk _ ⟨hS, by exact Tr.nd [_,_] [_,_] [_,_] (.c 0 0 (.c 1 1 (.a (.s 0) (.s 1)))) (.a (.s 0) (.s 1)) rfl D1⟩) (by k_asm) (cb_drop (by k_asm) (sub_cons (sub_cons ro_sub)))
end

theorem reg38 : True := by
  (k_with "testChain" => (k_dflt (refine test_link ?_)))
  trivial
theorem nodup1 {d : Addr} {o : Obj} {l l' : Led} (h : ∀ p ∈ l', p.1 < d) (e : l'.map (·.1) = l.map (·.1)) (D : (l.map (·.1)).Nodup) : (((d, o) :: l).map (·.1)).Nodup := (fresh1 (x := o) (lt_map h e)).nodup D
theorem nodup2 {d x : Addr} {o ox : Obj} {l l' : Led} (h : ∀ p ∈ l', p.1 < d) (e : l'.map (·.1) = l.map (·.1)) (hx : d < x) (D : (l.map (·.1)).Nodup) : (((x, ox) :: (d, o) :: l).map (·.1)).Nodup := (fresh2 (x := ox) (y := o) (lt_map h e) hx).nodup D
theorem reg39 : True := by
  (k_with "l_fresh" => first | assumption | (refine nodup1 (by assumption) (by rfl) ?_; k_extra "l_fresh") | (refine nodup2 (by assumption) (by rfl) (by assumption) ?_; k_extra "l_fresh"))
  trivial
theorem nd_news {h₀ h : Heap} {L : Addr} {l : Led} (_ : News h₀ L h l) (D : (l.map (·.1)).Nodup) : (l.map (·.1)).Nodup := D
section
variable {prog : Program} {w : World}
theorem new_spec {news : Led} {t1 t2 t3 : Tok} (D : (news.map (·.1)).Nodup) :
    Spec prog w 445 20 [.int 7 t1, .int 9 t2, .int 2 t3] news (Q23 (fun us ud uo pi pd pt po ti td tr o sd so k1 k2 k3 k4 v1 v2 v3 n n2 kt => .ref us) (fun us ud uo pi pd pt po ti td tr o sd so k1 k2 k3 k4 v1 v2 v3 n n2 kt => [(us, instObj 445 ud), (ud, uo), (pi, instObj 135 pd), (pd, dictOf (portsEs w.params k1 k2 k3 k4 v1 v2 v3 7 pt) n), (pt, po), (ti, instObj 327 td), (td, dictOf [ent w.params "rows" kt (.ref tr)] n2), (tr, o), (sd, so)] ++ news) (fun us ud uo pi pd pt po ti td tr o sd so k1 k2 k3 k4 v1 v2 v3 n n2 kt => An8 (UsObj w.params pi ti sd 0 uo) (o.IsDictOf (intKind prog w) []) ((tr == sysModules) = false) (po.IsDictOf (intKind prog w) []) ((pt == sysModules) = false) (so.IsDictOf (intKind prog w) []) ((sd == sysModules) = false) ((([(us, instObj 445 ud), (ud, uo), (pi, instObj 135 pd), (pd, dictOf (portsEs w.params k1 k2 k3 k4 v1 v2 v3 7 pt) n), (pt, po), (ti, instObj 327 td), (td, dictOf [ent w.params "rows" kt (.ref tr)] n2), (tr, o), (sd, so)] ++ news).map (·.1)).Nodup))) := by
  intro pp loose mean mg mb dp un gd cn cs a' ccd cl outer A₀ base h₀ L m hh gs dr tk oz Q E B F X N T hkk hdp hu' hret
  k_dflt (refine call_cls (by k_asm) (by k_asm) (by k_asm) (by k_is) (by k_is) (by k_is) ?_; intro x' d' h' F' N' l1 l2; (try k_lt l1); (try k_lt2 l2); ktr_enter)
  k_steps
  (with_reducible rename News _ _ _ _ => NL)
  have D2 := nd_news NL (by k_extra "l_fresh")
  refine' hret _ _ _ _ (.mk _ _ _ _ _ _ _ _ _ _ _ _ _ _ _ _ _ _ _ _ _ _ _ ⟨⟨_,_,_,_,_,_,_,_, rfl⟩, ?c1, ?c2, ?c3, ?c4, ?c5, ?c6, ?c7⟩) ?cF (cb_drop ?cN ?c0)
  case cF => k_asm
  case cN => exact NL
  case c0 => k_extra "l_memx"
  case c1 => assumption
  case c2 => assumption
  case c3 => assumption
  case c4 => assumption
  case c5 => assumption
  case c6 => assumption
  exact Tr.nd [_,_,_,_,_,_,_,_,_] [_,_,_,_,_,_,_,_,_] [_] (.c 0 0 (.c 1 1 (.c 2 2 (.c 3 3 (.c 4 4 (.c 5 5 (.c 6 6 (.c 7 7 (.c 8 8 (.s 0)))))))))) (.a (.c 7 7 (.c 8 8 (.c 5 5 (.c 6 6 (.c 4 4 (.c 2 2 (.c 3 3 (.c 1 1 (.c 0 0 .n))))))))) (.s 0)) rfl D2
end

section
variable {M : Model} {A : Around} {E : Value → Shared → Prop} {h : Heap} {g : Array GenState} {d : Drawn} {t : Nat} {os : OsState}
variable {nm q : Str} {C N : Addr} {bs bm bmB : List Value} {hdct : Bool} {sn : List Str} {sub : List Value} {ab : Bool} {col : Option Bool} {dd : Option Addr} {k0 k1 k2 k3 k5 : Option Value} {B newId initId : String}
theorem exc_check_new (F : ExcBaseFacts B newId initId bmB) (hb : bm.contains (.type B) = true) {rest : List Value} {Q : Unit → Shared → Prop} (hC : h.get? C = some (excClassObj nm q C N bs bm hdct sn sub ab col dd k0 k1 k2 k3 k5 newId))
    (hq : Q () ⟨h, g, d, t, os⟩) : wpAny M A (checkBuiltinCall newId ⟨.ref C :: rest, []⟩) Q E ⟨h, g, d, t, os⟩ := by
  have hcont : (Value.ref C :: bm).contains (.type B) = true := by rw [List.contains_cons, hb, Bool.or_true]
  have hstar := F.noStar
  simp only [checkBuiltinCall, F.newKind, F.newSplit, F.newRow]
  repeat (first | refine wpAny_loadPart_at hC ?_ | (refine wpAny_isSubtype_exc hC ?_; rw [hcont]) | refine wpAny_staticBase_exc hC ?_ | refine wpAny_madeBy_exc hC ?_ | simp only [bne_self_eq_false, Bool.false_eq_true, if_false] | wp_step)
  exact hq
end
section
variable {prog : Program} {w : World} {A : Around} {h : Heap} {g : Array GenState} {d : Drawn} {t : Nat} {os : OsState}
variable {nm q : Str} {C N : Addr} {bs bm bmB : List Value} {hdct : Bool} {sn : List Str} {sub : List Value} {ab : Bool} {col : Option Bool} {dd : Option Addr} {k0 k1 k2 k3 k5 : Option Value} {B newId initId : String}
structure Kin (B : String) (bm : List Value) : Prop where
  base : bm.contains (.type B) = true
  attr : bm.contains (.type "AttributeError") = false
  name : bm.contains (.type "NameError") = false

theorem exc_new {R : Result → Shared → Prop} (F : ExcBaseFacts B newId initId bmB) (hK : Kin B bm) {rest : List Value} (hC : h.get? C = some (excClassObj nm q C N bs bm hdct sn sub ab col dd k0 k1 k2 k3 k5 newId))
    (hq : R (.ok (.ret (.ref (h.objs.size + 1)))) ⟨(h.push { cls := .type "tuple", data := .seq rest.toArray }).push
      { cls := .ref C, data := .fields #[.ref h.objs.size, .none, .none, .none, .bool false, .none] }, g, d, t, os⟩) (hrest : rest.length ≤ sizeLine) :
    codeAny (model prog w) A (.builtin newId ⟨.ref C :: rest, []⟩) R ⟨h, g, d, t, os⟩ := by
  have hends := F.ends
  have hcB : (Value.ref C :: bm).contains (.type B) = true := by rw [List.contains_cons, hK.base, Bool.or_true]
  have hcA : (Value.ref C :: bm).contains (.type "AttributeError") = false := by rw [List.contains_cons, hK.attr]; rfl
  have hcN : (Value.ref C :: bm).contains (.type "NameError") = false := by rw [List.contains_cons, hK.name]; rfl
  refine codeAny_builtinAt F.entry ?_
  unfold Builtin.«BaseException.__new__»
  refine PySem.wpAt_bind ?_
  show PySem.wpAt _ _ _ (stack >>= _) _ _ _
  refine PySem.wpAt_bind (PySem.wpAt_stack fun p below => PySem.wpAt_of_wpAny ?_)
  wp_walk
  refine PySem.wpAt_of_wpAny ?_
  rw [F.owner]
  repeat (first | with_reducible refine wpAny_madeHere_exc F.canon hC ?_ | with_reducible refine wpAny_loadPart_at hC ?_ | (with_reducible refine wpAny_isSubtype_exc hC ?_; first | rw [hcB] | rw [hcA] | rw [hcN]) | wp_step)
  show R _ _
  rw [Heap.size_push]
  exact hq

variable {E : Value → Shared → Prop}
theorem exc_init_lookup {C2 : Addr} {c0 : Value} {dd2 : Option Addr} {cd : ClassData} {sl : Array (Option Value)} {mN mA : Str → Option Value} {v : Value} {Q : Option Value → Shared → Prop}
    (hC : h.get? C = some (excClassObj nm q C N bs (.ref C2 :: bm) hdct sn sub ab col dd k0 k1 k2 k3 k5 newId)) (hn : h.Ns N mN) (hni : mN "__init__" = none)
    (hA : h.get? C2 = some { cls := c0, dict := dd2, data := .cls cd, slots := sl }) (hnA : h.Ns cd.ns mA) (hi : mA "__init__" = some v) (hq : Q (some v) ⟨h, g, d, t, os⟩) :
    wpAny (model prog w) A (typeLookup (.ref C) "__init__") Q E ⟨h, g, d, t, os⟩ := by
  rw [typeLookup_eq]
  refine wpAny_bind (wpAny_mroOf_exc hC ?_)
  rw [lookupAlong_cons]
  refine wpAny_bind (wpAny_classOwn_exc hC hn ?_)
  rw [hni]
  show wpAny _ _ (lookupAlong (.ref C2 :: bm) "__init__") _ _ _
  rw [lookupAlong_cons]
  refine wpAny_bind (wpAny_classOwn_cls hA hnA ?_)
  rw [hi]
  exact wpAny_pure hq

theorem exc_type_call (F : ExcBaseFacts B newId initId bmB) {C2 : Addr} {c0 : Value} {dd2 : Option Addr} {cd : ClassData} {sl : Array (Option Value)} {mN mA : Str → Option Value} {rest : List Value} {fI : Addr} {oI : Obj} {Q : Fin → Shared → Prop} (hK : Kin B (.ref C2 :: bm))
    (hC : h.get? C = some (excClassObj nm q C N bs (.ref C2 :: bm) hdct sn sub ab col dd k0 k1 k2 k3 k5 newId)) (hn : h.Ns N mN) (hni : mN "__init__" = none)
    (hA : h.get? C2 = some { cls := c0, dict := dd2, data := .cls cd, slots := sl }) (hnA : h.Ns cd.ns mA) (hi : mA "__init__" = some (.ref fI))
    (hfI : h.get? fI = some oI) (hfc : oI.cls = .type "function")
    (hq : ∀ h' e, Heap.MadeExcOf h h' e (.ref C) rest →
      wpAny (model prog w) A (call (.ref fI) (.ref e :: rest)) (fun r s' => r = .none ∧ Q (.done (.ret (.ref e))) s') E ⟨h', g, d, t, os⟩) (hrest : rest.length ≤ sizeLine) :
    wpAny (model prog w) A (Builtin.«type.__call__» ⟨.ref C :: rest, []⟩) Q E ⟨h, g, d, t, os⟩ := by
  repeat (first | with_reducible refine wpAny_loadPart_at hC ?_ | with_reducible refine wpAny_madeBy_exc hC ?_ | wp_step)
  refine codeAny_call_builtin_code (Code.quiet_builtin _ F.quiet) (exc_check_new F hK.base hC ?_)
  refine exc_new F hK hC ?_ hrest
  show wpAny _ _ _ _ _ _
  have up : ∀ {b : Addr} {o : Obj}, h.get? b = some o → ((h.push { cls := .type "tuple", data := .seq rest.toArray }).push { cls := .ref C, data := .fields #[.ref h.objs.size, .none, .none, .none, .bool false, .none] }).get? b = some o :=
    fun e => Heap.get?_push_of_some _ (Heap.get?_push_of_some _ e)
  have hget : ((h.push { cls := .type "tuple", data := .seq rest.toArray }).push
      { cls := .ref C, data := .fields #[.ref h.objs.size, .none, .none, .none, .bool false, .none] }).get? (h.objs.size + 1) = some
      { cls := .ref C, data := .fields #[.ref h.objs.size, .none, .none, .none, .bool false, .none] } := by heap_get
  have hcC : (Value.ref C :: .ref C2 :: bm).contains (.ref C) = true := by simp
  have hC₁ := up hC
  unfold isInstance
  repeat (first | with_reducible refine wpAny_loadPart_at hget ?_ | (with_reducible refine wpAny_isSubtype_exc hC₁ ?_; rw [hcC]) | wp_step)
  show wpAny _ _ (typeLookup (.ref C) _) _ _ _
  refine exc_init_lookup hC₁ (hn.keeps fun b o e => up e) hni (up hA) (hnA.keeps fun b o e => up e) hi ?_
  refine wpAny_holding (wpAny_bind ?_)
  unfold bindSpecial
  refine wpAny_bind (wpAny_typeOf (T := "function") ⟨_, up hfI, hfc⟩ ?_)
  rw [if_pos (by decide)]
  refine wpAny_pure (wpAny_bind (wpAny_mono (hq _ (h.objs.size + 1) ⟨fun b o hb => up hb, Heap.get?_none_of_le (Nat.le_succ _), h.objs.size, hget, Heap.get?_none_of_le (Nat.le_refl _), ?_⟩) (fun r s' hr => ?_) fun _ _ x => x))
  · exact Heap.get?_push_of_some _ (Heap.get?_push_at rfl rfl)
  · obtain ⟨rfl, hQ⟩ := hr
    wp_walk
    exact hQ

theorem exc_call (F : ExcBaseFacts B newId initId bmB) {C2 : Addr} {c0 : Value} {dd2 : Option Addr} {cd : ClassData} {sl : Array (Option Value)} {mN mA : Str → Option Value} {rest : List Value} {fI : Addr} {oI : Obj} {Q : Value → Shared → Prop} (hK : Kin B (.ref C2 :: bm))
    (hC : h.get? C = some (excClassObj nm q C N bs (.ref C2 :: bm) hdct sn sub ab col dd k0 k1 k2 k3 k5 newId)) (hn : h.Ns N mN) (hni : mN "__init__" = none)
    (hA : h.get? C2 = some { cls := c0, dict := dd2, data := .cls cd, slots := sl }) (hnA : h.Ns cd.ns mA) (hi : mA "__init__" = some (.ref fI))
    (hfI : h.get? fI = some oI) (hfc : oI.cls = .type "function")
    (hq : ∀ h' e, Heap.MadeExcOf h h' e (.ref C) rest →
      wpAny (model prog w) (A.under (.builtin "type.__call__" ⟨.ref C :: rest, []⟩)) (call (.ref fI) (.ref e :: rest)) (fun r s' => r = .none ∧ Q (.ref e) s') E ⟨h', g, d, t, os⟩) (hrest : rest.length ≤ sizeLine) :
    wpAny (model prog w) A (call (.ref C) rest) Q E ⟨h, g, d, t, os⟩ := by
  have f1 := tc_lookup
  have f2 := tc_bind (.ref C)
  have hT : (⟨h, g, d, t, os⟩ : Shared).TypeIs (.ref C) "type" := ⟨_, hC, rfl⟩
  refine wpAny_call (codeAny_of_tree ?_)
  show wpAny _ _ (callAny (.ref C) _) _ _ _
  repeat (any_goals (first | assumption | with_reducible refine wpAny_loadPart_at hC ?_ | wp_step))
  refine ⟨rfl, ?_⟩
  refine codeAny_call_builtin_at (Code.quiet_builtin _ (by decide +kernel)) entry_typeCall (wpAny_check_type_call_sub hC (exc_type_call F hK hC hn hni hA hnA hi hfI hfc (fun h' e hm => ?_) hrest))
  exact hq h' e hm
end

inductive ExcAt (h : Heap) (C : Addr) : Prop
  | mk (nm q : Str) (N : Addr) (bs : List Value) (sn : List Str) (sub : List Value) (ab : Bool) (col : Option Bool) (dd : Option Addr) (k0 k1 k2 k3 k5 : Option Value) (mN : Str → Option Value) (c0 : Value) (dd2 : Option Addr) (cd : ClassData) (sl : Array (Option Value)) (mA : Str → Option Value) (oI : Obj)
    (c1 : h.get? C = some (excClassObj nm q C N bs [.ref 31, .type "Exception", .type "BaseException", .type "object"] true sn sub ab col dd k0 k1 k2 k3 k5 "Exception.__new__")) (c2 : h.Ns N mN) (c3 : mN "__init__" = none) (c4 : h.get? 31 = some { cls := c0, dict := dd2, data := .cls cd, slots := sl }) (c5 : h.Ns cd.ns mA) (c6 : mA "__init__" = some (.ref 28)) (c7 : h.get? 28 = some oI) (c8 : oI.cls = .type "function") (c9 : mN "__setattr__" = none) (c10 : mN "message" = none) (c11 : mA "__setattr__" = none) (c12 : mA "message" = none)
theorem ns_some_of {K : Frag} {h : Heap} {N : Addr} {m : Str → Option Value} {n : Str} {v : Value} (X : K.In h) (G : h.Ns N m) (e : nsIn K N n = some (some v)) : m n = some v := by
  obtain ⟨o, es, ep, ho, hd, _, hf⟩ := G
  unfold nsIn at e
  split at e
  · rename_i c d es' n' sl q
    have := X _ _ q
    rw [ho] at this
    cases this
    cases hd
    split at e
    · rename_i en he
      cases e
      rw [← hf]
      unfold nsFind findBy
      rw [← Array.find?_toList, he]
      rfl
    · split at e <;> cases e
  · cases e
theorem ns_ok_of {K : Frag} {N : Addr} {c : Value} {dd : Option Addr} {es : Array DictEntry} {n : Nat} {sl : Array (Option Value)} (h : K.lookup N = some ⟨c, dd, .dict es n, sl⟩) (q : (es.all fun e => match e.key with | .str _ _ => true | _ => false) = true) : nsOkIn K N = true := by
  unfold nsOkIn
  rw [h]
  exact q
theorem kin_exc : Kin "Exception" [.ref 31, .type "Exception", .type "BaseException", .type "object"] := ⟨by decide, by decide, by decide⟩
theorem exc68 {P : Params} {h : Heap} (X : (hp P).In h) : ExcAt h 68 := by
  refine ⟨_,_,_,_,_,_,_,_,_,_,_,_,_,_,_,_,_,_,_,_,_, X _ _ (by k_is), .of_isNs (isNs_of_in X (ns_ok_of (by k_is) (by simp))), nsMap_none_of_in X (ns_ok_of (by k_is) (by simp)) (by k_is), X _ _ (by k_is), .of_isNs (isNs_of_in X (ns_ok_of (by k_is) (by simp))), ns_some_of X (.of_isNs (isNs_of_in X (ns_ok_of (by k_is) (by simp)))) (by k_is), X _ _ (by k_is), rfl, nsMap_none_of_in X (ns_ok_of (by k_is) (by simp)) (by k_is), nsMap_none_of_in X (ns_ok_of (by k_is) (by simp)) (by k_is), nsMap_none_of_in X (ns_ok_of (by k_is) (by simp)) (by k_is), nsMap_none_of_in X (ns_ok_of (by k_is) (by simp)) (by k_is)⟩
theorem exc80 {P : Params} {h : Heap} (X : (hp P).In h) : ExcAt h 80 := by
  refine ⟨_,_,_,_,_,_,_,_,_,_,_,_,_,_,_,_,_,_,_,_,_, X _ _ (by k_is), .of_isNs (isNs_of_in X (ns_ok_of (by k_is) (by simp))), nsMap_none_of_in X (ns_ok_of (by k_is) (by simp)) (by k_is), X _ _ (by k_is), .of_isNs (isNs_of_in X (ns_ok_of (by k_is) (by simp))), ns_some_of X (.of_isNs (isNs_of_in X (ns_ok_of (by k_is) (by simp)))) (by k_is), X _ _ (by k_is), rfl, nsMap_none_of_in X (ns_ok_of (by k_is) (by simp)) (by k_is), nsMap_none_of_in X (ns_ok_of (by k_is) (by simp)) (by k_is), nsMap_none_of_in X (ns_ok_of (by k_is) (by simp)) (by k_is), nsMap_none_of_in X (ns_ok_of (by k_is) (by simp)) (by k_is)⟩
@[reducible] def excObj (C t : Addr) (dd : Option Addr) : Obj := { cls := .ref C, dict := dd, data := .fields #[.ref t, .none, .none, .none, .bool false, .none] }
theorem made_led {h₀ h h' : Heap} {L e C : Addr} {m : Str → Option Value} {news : Led} {args : List Value} (hm : Heap.MadeExcOf h h' e (.ref C) args) (F : Fr h₀ L h m) (N : News h₀ L h news) :
    ∃ t, Fr h₀ L h' m ∧ News h₀ L h' ((e, excObj C t none) :: (t, tupObj args) :: news) ∧ @Ne Nat e t ∧ (∀ p ∈ news, p.1 ≠ e) ∧ ∀ p ∈ news, p.1 ≠ t := by
  obtain ⟨t, he, ht, ho⟩ := hm.there
  have hne := hm.new
  have off : ∀ {b : Addr}, h.get? b = none → b ≠ L ∧ h₀.get? b = none ∧ ∀ p ∈ news, p.1 ≠ b := by
    intro b hb
    refine ⟨fun q => ?_, ?_, fun p hp q => ?_⟩
    · obtain ⟨o, _,_, ho, _⟩ := F.ns
      rw [← q, hb] at ho; cases ho
    · cases q : h₀.get? b with
      | none => rfl
      | some o => have := F.keep _ _ q; rw [hb] at this; cases this
    · have := (N p hp).1; rw [q, hb] at this; cases this
  refine ⟨t, ⟨F.ns.keeps hm.keeps, fun b o q => hm.keeps _ _ (F.keep b o q), F.above⟩, ?_, ?_, (off hne).2.2, (off ht).2.2⟩
  · intro p hp
    rcases List.mem_cons.mp hp with rfl | hp
    · exact ⟨he, (off hne).1, (off hne).2.1⟩
    rcases List.mem_cons.mp hp with rfl | hp
    · exact ⟨ho, (off ht).1, (off ht).2.1⟩
    · exact ⟨hm.keeps _ _ (N p hp).1, (N p hp).2⟩
  · intro q
    have q' : e = t := q
    rw [q', ho] at he
    cases he
section
open PySem.Builtin PySem.Builtin.ObjectAttr
variable {prog : Program} {w : World} {A : Around} {E : Value → Shared → Prop} {h : Heap} {g : Array GenState} {d : Drawn} {t : Nat} {os : OsState}
variable {nm q : Str} {C N x : Addr} {bs bm : List Value} {sn : List Str} {sub : List Value} {ab : Bool} {col : Option Bool} {dd : Option Addr} {k0 k1 k2 k3 k5 : Option Value} {B newId sa owner : String}
  {mN mA : Str → Option Value} {name : Str} {v : Value} {C2 : Addr} {c0 : Value} {dd2 : Option Addr} {cd : ClassData} {sl : Array (Option Value)}
theorem exc_find {Q : Option Value → Shared → Prop} {y : Option Value} (hC : h.get? C = some (excClassObj nm q C N bs (.ref C2 :: bm) true sn sub ab col dd k0 k1 k2 k3 k5 newId)) (hn : h.Ns N mN) (hni : mN name = none)
    (hA : h.get? C2 = some { cls := c0, dict := dd2, data := .cls cd, slots := sl }) (hnA : h.Ns cd.ns mA) (hi : mA name = none) (hbm : mroOf (.type B) = pure bm) (hB : typeLookup (.type B) name = pure y) (hq : Q y ⟨h, g, d, t, os⟩) :
    wpAny (model prog w) A (typeLookup (.ref C) name) Q E ⟨h, g, d, t, os⟩ := by
  have hrest : lookupAlong bm name = pure y := by rw [typeLookup_eq, hbm] at hB; exact hB
  rw [typeLookup_eq]
  refine wpAny_bind (wpAny_mroOf_exc hC ?_)
  rw [lookupAlong_cons]
  refine wpAny_bind (wpAny_classOwn_exc hC hn ?_)
  rw [hni]
  show wpAny _ _ (lookupAlong (.ref C2 :: bm) name) _ _ _
  rw [lookupAlong_cons]
  refine wpAny_bind (wpAny_classOwn_cls hA hnA ?_)
  rw [hi]
  show wpAny _ _ (lookupAlong bm name) _ _ _
  rw [hrest]
  exact wpAny_pure hq

theorem exc_store {o : Obj} {Q : Unit → Shared → Prop} (SF : StoreFacts B bm sa owner) (hC : h.get? C = some (excClassObj nm q C N bs (.ref C2 :: bm) true sn sub ab col dd k0 k1 k2 k3 k5 newId)) (hn : h.Ns N mN) (hns : mN "__setattr__" = none) (hna : mN name = none)
    (hA : h.get? C2 = some { cls := c0, dict := dd2, data := .cls cd, slots := sl }) (hnA : h.Ns cd.ns mA) (hAs : mA "__setattr__" = none) (hAa : mA name = none) (hB : typeLookup (.type B) name = pure none)
    (hx : h.get? x = some o) (hc : o.cls = .ref C) (hnc : ∀ c, o.data ≠ .cls c) (hdn : o.dict = none)
    (hq : ∀ h' tk' dx, h'.get? x = some { cls := o.cls, dict := some dx, data := o.data, slots := o.slots } → (∀ b o, b ≠ x → h.get? b = some o → h'.get? b = some o) → Q () ⟨h', g, d, tk', os⟩) :
    wpAny (model prog w) A (setAttr (.ref x) name v) Q E ⟨h, g, d, t, os⟩ := by
  have f3 := SF.slot.bind (.ref x)
  have hpass := SF.passes (.ref x)
  have hcO : (Value.ref C :: .ref C2 :: bm).contains (.type owner) = true := by rw [List.contains_cons, List.contains_cons, SF.hasOwner, Bool.or_true, Bool.or_true]
  unfold setAttr callSpecial? specialOf
  repeat (any_goals (first | assumption | (with_reducible refine wpAny_loadPart_at hx ?_; rw [hc]) | (with_reducible refine exc_find hC hn hns hA hnA hAs SF.mro SF.slot.lookup ?_) | wp_step))
  refine codeAny_call_builtin SF.slot.plain SF.entry ?_
  · have ha := fun nv => SF.args (.ref x) nv v
    simp only [checkBuiltinCall, SF.kind, SF.split]
    refine wpAny_bind ?_
    unfold isInstance
    repeat (first | (with_reducible refine wpAny_loadPart_at hx ?_; rw [hc]) | (with_reducible refine wpAny_isSubtype_exc hC ?_; rw [hcO]) | wp_step)
    have fin : ∀ {A' : Around} {E' : Value → Shared → Prop} {Q' : Fin → Shared → Prop} {tk : Tok} {t0 : Nat}, (∀ h' tk' dx, h'.get? x = some { cls := o.cls, dict := some dx, data := o.data, slots := o.slots } → (∀ b o, b ≠ x → h.get? b = some o → h'.get? b = some o) → Q' (.done (.ret .none)) ⟨h', g, d, tk', os⟩) →
        wpAny (model prog w) A' (Builtin.«object.__setattr__» ⟨[.ref x, .str name tk, v], []⟩) Q' E' ⟨h, g, d, t0, os⟩ := by
      intro A' E' Q' tk t0 hq'
      unfold Builtin.«object.__setattr__»
      repeat (first | rw [refuse_eq] | (rw [refuseLoop_ref, refuseLoop_ref, hpass]) | (with_reducible refine wpAny_loadPart_at hx ?_; rw [hc]) | with_reducible refine wpAny_mroOf_exc hC ?_ | (with_reducible refine exc_find hC hn hna hA hnA hAa SF.mro hB ?_) | wp_step)
      trace_state
      rw [hdn, if_neg (by simp [typeHasDict])]
      split
      · rename_i hcd
        cases hcd
      split
      · rename_i c hcd
        exact absurd hcd (hnc c)
      have hx₁ : (h.push { cls := .type "dict", data := .dict #[] }).get? x = some o := Heap.get?_push_of_some _ hx
      have hxs : x ≠ h.objs.size := Nat.ne_of_lt (Heap.lt_size hx)
      refine wpAny_bind (wpAny_alloc' (wpAny_bind (wpAny_update' hx₁ (wpAny_pure ?_))))
      have hgd : ((h.push { cls := .type "dict", data := .dict #[] }).update x fun o => { cls := o.cls, dict := some h.objs.size, data := o.data, slots := o.slots }).get? h.objs.size
          = some { cls := .type "dict", data := .dict #[] } := (Heap.get?_update_ne _ _ _ _ hxs.symm).trans (Heap.get?_push_at rfl rfl)
      have hnd : ((h.push { cls := .type "dict", data := .dict #[] }).update x fun o => { cls := o.cls, dict := some h.objs.size, data := o.data, slots := o.slots }).Ns h.objs.size (fun _ => none) :=
        ⟨_, #[], _, hgd, rfl, fun e he => absurd he (by simp), fun _ => rfl⟩
      show wpAny _ _ (storeInDict h.objs.size (.str name tk) name v) _ _ _
      unfold storeInDict newKeyGuard
      refine wpAny_bind (wpAny_pure (wpAny_bind (wpAny_nsSet1 (Heap.Ns1.of_empty hnd) fun h' hn' hs => ?_)))
      obtain ⟨oD, esD, epD, hoD, hdD, hcD⟩ := hn'.count (Within.cons name v Within.nil)
      refine wpAny_bind (wpAny_lookBehind hoD (by rw [hdD]; exact pastItsLine_dict (Nat.le_trans hcD (by rw [List.length_cons, List.length_nil, sizeLine_eq]; omega))) ?_)
      wp_walk
      refine hq' h' _ h.objs.size ((hs.2 x hxs).trans (Heap.get?_update_self _ hx₁ ?_)) fun b ob hbx hb => ?_
      · have hfr := (Heap.get?_some_iff.mp hx).2
        obtain ⟨oc, od, odt, osl⟩ := o
        cases odt <;> first | rfl | exact hfr
      · exact (hs.2 b (Nat.ne_of_lt (Heap.lt_size hb))).trans ((Heap.get?_update_ne _ _ _ _ hbx).trans (Heap.get?_push_of_some _ hb))
    cases hsig : Manifest.signature? sa with
    | none =>
      refine wpAny_pure (fin fun h' tk' dx e1 e2 => ?_)
      repeat (any_goals (first | assumption | wp_step))
      exact hq h' tk' dx e1 e2
    | some sig =>
      have ha := ha (.str name t)
      simp only [argsOk, hsig] at ha
      have h2 : Bind.checkArgs sa sig ⟨[.ref x, .str name t, v], []⟩ = pure () := ha
      show wpAny _ _ (Bind.checkArgs sa sig ⟨[.ref x, .str name t, v], []⟩) _ _ _
      rw [h2]
      refine wpAny_pure (fin fun h' tk' dx e1 e2 => ?_)
      repeat (any_goals (first | assumption | wp_step))
      exact hq h' tk' dx e1 e2
end
theorem lk_message : typeLookup (.type "Exception") "message" = pure none := by rw [typeLookup_type, builtinLookup_eq_fast]; kernel_rfl
theorem exc_store_led {prog : Program} {w : World} {A : Around} {E : Value → Shared → Prop} {s : Shared} {g : Heap} {L e C t : Addr} {m : Str → Option Value} {rest : Led} {v : Value} {Q : Unit → Shared → Prop} (F : Fr g L s.heap m) (N : News g L s.heap ((e, excObj C t none) :: rest)) (hC : ExcAt s.heap C)
    (hne : ∀ p ∈ rest, p.1 ≠ e) (ret : ∀ h' tk' d, Fr g L h' m → News g L h' ((e, excObj C t (some d)) :: rest) → Q () { s with heap := h', toks := tk' }) : wpAny (model prog w) A (setAttr (.ref e) "message" v) Q E s := by
  obtain ⟨h, gs, dr, tk0, os⟩ := s
  obtain ⟨nm, q, N', bs, sn, sub, ab, col, dd, k0, k1, k2, k3, k5, mN, c0, dd2, cd, sl, mA, oI, c1, c2, c3, c4, c5, c6, c7, c8, c9, c10, c11, c12⟩ := hC
  obtain ⟨a1, a2, a3⟩ := N _ (.head _)
  refine exc_store PySem.F.store_Exception c1 c2 c9 c10 c4 c5 c11 c12 lk_message a1 rfl (fun c hc => by cases hc) rfl (fun h' tk' dx e1 e2 => ret h' tk' dx ⟨?_, fun b o hb => e2 b o (fun q => ?_) (F.keep b o hb), F.above⟩ (fun p hp => ?_))
  · obtain ⟨o, es, ep, ho, r⟩ := F.ns
    exact ⟨o, es, ep, e2 _ _ (fun q => a2 q.symm) ho, r⟩
  · have a3' : g.get? e = none := a3
    rw [← q, hb] at a3'
    cases a3'
  · rcases List.mem_cons.mp hp with rfl | hp
    · exact ⟨e1, a2, a3⟩
    · obtain ⟨b1, b2⟩ := N p (.tail _ hp)
      exact ⟨e2 _ _ (hne p hp) b1, b2⟩
section
variable {prog : Program} {w : World}
theorem exc_make {C : Addr} {news : Led} {msg : Str} {tk : Tok} {p : Program} {loose : List Str} {mean : ExcName → Option Value} {mg mb : Str → Option Value} {dp un : Nat} {gd : Option (List Code)} {cn : Str} {cs : Scope} {a : Addr} {ccd : Value} {cl : List (Str × Addr)} {outer : List Env} {A₀ : Around} {base h₀ : Heap} {L : Addr} {m : Str → Option Value} {s : Shared} {Q E : Value → Shared → Prop}
    (B : Below A₀ base outer h₀) (F : Fr h₀ L s.heap m) (X : (hp w.params).In h₀) (N : News h₀ L s.heap news) (T : Top p loose mean mg mb h₀) (hkk : cs.kind = .function) (hC : ∀ {h : Heap}, (hp w.params).In h → ExcAt h C) (hdp : dp + 5 < 500) (hun : un + 100 * 5 < 9000)
    (ret : ∀ e t d h' tk', Fr h₀ L h' m → News h₀ L h' ((e, excObj C t (some d)) :: (t, tupObj [.str msg tk]) :: news) → @Ne Nat e t → (∀ p ∈ news, p.1 ≠ e) → (∀ p ∈ news, p.1 ≠ t) → Q (.ref e) { s with heap := h', toks := tk' }) :
    wpAny (model prog w) (ktrTop dp un gd cn cs L a ccd cl outer) (call (.ref C) [.str msg tk]) Q E s := by
  obtain ⟨hp, g, dr, tk0, os⟩ := s
  obtain ⟨nm, q, N', bs, sn, sub, ab, col, dd, k0, k1, k2, k3, k5, mN, c0, dd2, cd, sl, mA, oI, c1, c2, c3, c4, c5, c6, c7, c8, -⟩ := hC (X.keeps F.keep)
  refine exc_call PySem.F.excBase_Exception kin_exc c1 c2 c3 c4 c5 c6 c7 c8 (fun h' e hm => ?_) (by rw [sizeLine_eq, List.length_singleton]; omega)
  obtain ⟨t, F1, N1, n1, n2, n3⟩ := made_led hm F N
  refine wpAny_call ?_
  k_dflt ktr_enter
  k_steps
  (with_reducible rename Frag.In _ _ => kX9)
  (with_reducible rename Fr _ _ _ _ => kF9)
  refine exc_store_led (by k_asm) (by k_asm) (hC (kX9.keeps kF9.keep)) (fun p hp => (List.mem_cons.mp hp).elim (fun q => q ▸ fun z => n1 z.symm) (n2 p)) ?_
  intro h5 tk5 d5 F5 N5
  k_steps
  exact ret _ _ _ _ _ (by k_asm) (by k_asm) n1 n2 n3
end

def RaiseV (C : Addr) (E : Value → Shared → Prop) (v : Value) (s : Shared) : Prop := ∃ e t dd, v = .ref e ∧ ExcAt s.heap C ∧ s.heap.get? e = some (excObj C t dd) ∧ E (.ref e) s
theorem raise_stmt {M : Model} {A : Around} {E : Value → Shared → Prop} {env : Env} {s : Shared} {C : Addr} {x : Sem Value} {Q : Flow → Shared → Prop} (hh : A.handled = none) (h : wpAny M A x (RaiseV C E) E s) :
    wpAny M A (raiseStmt env (some x) none) Q E s := by
  unfold raiseStmt
  refine wpAny_bind (wpAny_mono h (fun v s₁ h₁ => ?_) fun _ _ x => x)
  obtain ⟨e, t, dd, rfl, hC, he, hE⟩ := h₁
  obtain ⟨hp, g, d, tk, os⟩ := s₁
  obtain ⟨nm, q, N', bs, sn, sub, ab, col, dd', k0, k1, k2, k3, k5, mN, c0, dd2, cd, sl, mA, oI, c1, -⟩ := hC
  have hcB : (Value.ref C :: [Value.ref 31, .type "Exception", .type "BaseException", .type "object"]).contains (.type "BaseException") = true := by rw [List.contains_cons]; simp
  repeat (first | with_reducible refine wpAny_loadPart_at he ?_ | with_reducible refine wpAny_loadPart_at c1 ?_ | (with_reducible refine wpAny_isSubtype_exc c1 ?_; rw [hcB]) | wp_step)
  exact wpAny_raiseNew_none hh hE
theorem raise_own {M : Model} {A : Around} {E : Value → Shared → Prop} {env : Env} {s : Shared} {C : Addr} {x : Str} {np cpos pos : Pos} {args : List Expr} {Q : Flow → Shared → Prop} (hh : A.handled = none)
    (h : wpAny M A (eval (.Call (.Name x np) args [] cpos) env) (RaiseV C E) E s) : wpAny M A (exec (.Raise (some (.Call (.Name x np) args [] cpos)) none pos) env) Q E s := by
  rw [arm_exec_Raise]
  first
    | exact wpAny_bind (wpAny_standAt (raise_stmt (C := C) hh (wpAny_bind (wpAny_mono h (fun v s₃ h₃ => wpAny_bind (wpAny_standAt (wpAny_pure h₃))) fun _ _ x => x))))
    | (simp only [evalOpt, Option.map]; exact wpAny_bind (wpAny_standAt (raise_stmt (C := C) hh (wpAny_bind (wpAny_mono h (fun v s₃ h₃ => wpAny_bind (wpAny_standAt (wpAny_pure h₃))) fun _ _ x => x)))))
    | (simp only [evalOpt, Option.map]; exact wpAny_bind (wpAny_standAt (raise_stmt (C := C) hh h)))

theorem leave_made {M : Model} {A : Around} {E : Value → Shared → Prop} {s' : Shared} {base g : Heap} {outer : List Env} {L a e t C : Addr} {dd : Option Addr} {m : Str → Option Value} {name : Str} {scope : Scope} {cd : Value} {Q : Unit → Shared → Prop} {news : Led} {args : List Value}
    (K : Below A base outer g) (F : Fr g L s'.heap m) (N : News g L s'.heap ((e, excObj C t dd) :: (t, tupObj args) :: news)) (n1 : @Ne Nat e t) (n2 : ∀ p ∈ news, p.1 ≠ e) (n3 : ∀ p ∈ news, p.1 ≠ t)
    (hQ : ∀ h', RaisedS base g outer e (.ref C) t args news h' → g.UpToSlots h' → Q () { s' with heap := h' }) (hk : scope.kind = .function) :
    wpAny M (A.deeper (envOf name scope L a cd)) (leaving (envOf name scope L a cd) (.ref e)) Q E s' := by
  have K' := K.push (name := name) (a := a) (cd := cd) F hk
  obtain ⟨a1, a2, a3⟩ := N _ (.head _)
  obtain ⟨b1, b2, b3⟩ := N _ (.tail _ (.head _))
  have bn : ∀ {b : Addr}, g.get? b = none → base.get? b = none := fun q => fresh_of_stays K.stays q
  -- the heap less the frames and the exception
  let fs := e :: t :: (envOf name scope L a cd :: outer).filterMap (·.frame)
  have hin : ∀ env ∈ (envOf name scope L a cd :: outer), ∀ b, env.frame = some b → b ∈ fs := fun env he b hb => .tail _ (.tail _ (List.mem_filterMap.mpr ⟨env, he, hb⟩))
  have nog : ∀ {b : Addr} {o : Obj}, g.get? b = some o → b ∉ outer.filterMap (·.frame) → b ∉ fs := by
    intro b o q nm hm
    rcases List.mem_cons.mp hm with z | hm
    · have a3' : g.get? e = none := a3
      rw [← z, q] at a3'; cases a3'
    rcases List.mem_cons.mp hm with z | hm
    · have b3' : g.get? t = none := b3
      rw [← z, q] at b3'; cases b3'
    rcases kts_mem hm with z | z
    · rw [z, kts_self F] at q; cases q
    · exact nm z
  have st : base.StaysIn (hideAll s'.heap fs) := fun b o q => hideAll_get _ (K'.stays b o q) (nog (K.stays b o q) fun hm => by
    rw [(K.frames.mem hm).1] at q; cases q)
  have sg : ∀ b o, g.get? b = some o → b ∉ outer.filterMap (·.frame) → (hideAll s'.heap fs).get? b = some o := fun b o q nm => hideAll_get _ (F.keep b o q) (nog q nm)
  have hl : ∀ q ∈ news, (hideAll s'.heap fs).get? q.1 = some q.2 ∧ g.get? q.1 = none ∧ base.get? q.1 = none := fun q hq => by
    obtain ⟨c1, c2, c3⟩ := N q (.tail _ (.tail _ hq))
    refine ⟨hideAll_get _ c1 fun hm => ?_, c3, bn c3⟩
    rcases List.mem_cons.mp hm with z | hm
    · exact n2 q hq z
    rcases List.mem_cons.mp hm with z | hm
    · exact n3 q hq z
    rcases kts_mem hm with z | z
    · exact c2 z
    · obtain ⟨o, ho, _⟩ := (K.frames.mem z).2
      rw [c3] at ho; cases ho
  have he0 : (hideAll s'.heap fs).get? e = none := hideAll_none _ (.head _)
  have ht0 : (hideAll s'.heap fs).get? t = none := hideAll_none _ (.tail _ (.head _))
  refine wpAny_leaving_firstW (a0 := .ref t) K'.stack (funFrames_hide K'.frames hin) rfl a1 (fun b o q => of_hideAll _ q) he0 rfl rfl rfl fun h' hL => ?_
  obtain ⟨k1, ⟨_,_, k2⟩, k3, k4⟩ := hL
  exact hQ h' ⟨⟨_, st, sg, hl, ⟨k1, he0, k2, k3⟩, ht0⟩, Heap.TupAt.of_slots ⟨_,_, b1, rfl, rfl⟩ k4⟩ ((Heap.UpToSlots.of_keeps F.keep).trans k4)

def SpecR (prog : Program) (w : World) (f : Addr) (lvl : Nat) (vs : List Value) (news : Led) (C : Addr) (Post : Led → Prop) : Prop :=
  ∀ (p : Program) (loose : List Str) (mean : ExcName → Option Value) (mg mb : Str → Option Value) (dp un : Nat) (gd : Option (List Code)) (cn : Str) (cs : Scope) (a : Addr) (ccd : Value) (outer : List Env) (A₀ : Around) (base h₀ : Heap) (L : Addr) (m : Str → Option Value) (hh : Heap) (gs : Array GenState) (dr : Drawn) (tk : Nat) (oz : OsState) (Q E : Value → Shared → Prop),
    Below A₀ base outer h₀ → Fr h₀ L hh m → (hp w.params).In h₀ → News h₀ L hh news → Top p loose mean mg mb h₀ → cs.kind = .function → dp + lvl < 500 → un + 100 * lvl < 9000 →
    (∀ e t args news' G h' tk', Post news' → RaisedS base G (envOf cn cs L a ccd :: outer) e (.ref C) t args news' h' → Fr h₀ L G m → G.UpToSlots h' → E (.ref e) ⟨h', gs, dr, tk', oz⟩) →
    wpAny (model prog w) (ktrTop dp un gd cn cs L a ccd [] outer) (call (.ref f) vs) Q E ⟨hh, gs, dr, tk, oz⟩
theorem SpecR.use {prog : Program} {w : World} {f : Addr} {lvl : Nat} {vs : List Value} {news : Led} {C : Addr} {Post : Led → Prop} (S : SpecR prog w f lvl vs news C Post)
    {p : Program} {loose : List Str} {mean : ExcName → Option Value} {mg mb : Str → Option Value} {dp un : Nat} {gd : Option (List Code)} {cn : Str} {cs : Scope} {a : Addr} {ccd : Value} {outer : List Env} {A₀ : Around} {base h₀ : Heap} {L : Addr} {m : Str → Option Value} {hh : Heap} {gs : Array GenState} {dr : Drawn} {tk : Nat} {oz : OsState} {Q E : Value → Shared → Prop} {news₀ : Led}
    (B : Below A₀ base outer h₀) (F : Fr h₀ L hh m) (X : (hp w.params).In h₀) (N : News h₀ L hh news₀) (hs : ∀ q ∈ news, q ∈ news₀) (T : Top p loose mean mg mb h₀) (hk : cs.kind = .function) (hd : dp + lvl < 500) (hu : un + 100 * lvl < 9000)
    (ret : ∀ e t args news' G h' tk', Post news' → RaisedS base G (envOf cn cs L a ccd :: outer) e (.ref C) t args news' h' → Fr h₀ L G m → G.UpToSlots h' → E (.ref e) ⟨h', gs, dr, tk', oz⟩) :
    wpAny (model prog w) (ktrTop dp un gd cn cs L a ccd [] outer) (call (.ref f) vs) Q E ⟨hh, gs, dr, tk, oz⟩ := S _ _ _ _ _ _ _ _ _ _ _ _ _ _ _ _ _ _ _ _ _ _ _ _ _ B F X (fun q hq => N q (hs q hq)) T hk hd hu ret
theorem reg40 : True := by
  (k_with "exec Raise some none" => (with_reducible refine Halt.at ?_))
  (k_with "call ref" => with_reducible (first | refine Halt.call (a := 68) ?_ | refine Halt.call (a := 80) ?_))
  trivial
section
variable {prog : Program} {w : World} {pi pd pt : Addr} {k1 k2 k3 k4 v1 v2 v3 : Tok} {n : Nat} {o : Obj} {kvs : List (Int × Value)} {f : Int}
theorem next_free_raise {news : Led} (m1 : (pi, instObj 135 pd) ∈ news) (m2 : (pd, dictOf (portsEs w.params k1 k2 k3 k4 v1 v2 v3 f pt) n) ∈ news) (m3 : (pt, o) ∈ news) (hd : o.IsDictOf (intKind prog w) kvs) (lo : (pt == sysModules) = false)
    (h1 : (valueAt kvs f).isSome = true) (h2 : (valueAt kvs (nxt f)).isSome = true) (h3 : (valueAt kvs (nxt (nxt f))).isSome = true) :
    SpecR prog w 118 10 [.ref pi] news 68 (fun news' => news' = news) := by
  intro pp loose mean mg mb dp un gd cn cs a' ccd outer A₀ base h₀ L m hh gs dr tk oz Q E B F X N T hkk hdp hu hret
  have hNH : NoHalt := trivial
  refine wpAny_call ?_
  k_dflt ktr_enter
  k_steps
  refine Halt.go ?_
  k_dflt (refine raise_own (C := 68) rfl ?_)
  k_steps
  refine Halt.go ?_
  refine exc_make (by k_asm) (by k_asm) (by k_asm) (by k_asm) (by k_asm) (by first | exact rfl | assumption) (fun X => exc68 X) (by k_extra "bud") (by k_extra "bud") ?_
  intro e t d h5 tk5 F5 N5 n1 n2 n3
  (with_reducible rename Frag.In _ _ => kX9)
  refine ⟨e, t, some d, rfl, exc68 (kX9.keeps F5.keep), (N5 _ (.head _)).1, ?_⟩
  exact leave_made (by k_asm) F5 N5 n1 n2 n3 (fun h6 R6 U6 => hret _ _ _ _ _ _ _ rfl R6 (by k_asm) U6) rfl
theorem reg41 : True := by
  (k_with "call ref" => with_reducible refine Halt.call (a := 118) ?_)
  trivial
theorem take_raise_zero {news : Led} {t : Tok} (m1 : (pi, instObj 135 pd) ∈ news) (m2 : (pd, dictOf (portsEs w.params k1 k2 k3 k4 v1 v2 v3 f pt) n) ∈ news) (m3 : (pt, o) ∈ news) (hd : o.IsDictOf (intKind prog w) kvs) (lo : (pt == sysModules) = false)
    (h1 : (valueAt kvs f).isSome = true) (h2 : (valueAt kvs (nxt f)).isSome = true) (h3 : (valueAt kvs (nxt (nxt f))).isSome = true) :
    SpecR prog w 111 15 [.ref pi, .int 0 t] news 68 (fun news' => news' = news) := by
  intro pp loose mean mg mb dp un gd cn cs a' ccd outer A₀ base h₀ L m hh gs dr tk oz Q E B F X N T hkk hdp hu hret
  refine wpAny_call ?_
  k_dflt ktr_enter
  k_steps
  refine Halt.go ?_
  refine (next_free_raise m1 m2 m3 hd lo h1 h2 h3).use (by k_asm) (by k_asm) (by k_asm) (by k_asm) ro_sub (by k_asm) (by first | exact rfl | assumption) (by k_extra "bud") (by k_extra "bud") ?_
  rintro e t args news' G h' tk' rfl R F2 U
  exact leave_onS (by k_asm) F2 R U (fun h6 R6 _ U6 => hret _ _ _ _ _ _ _ rfl R6 (by k_asm) U6)
theorem take_raise_told {news : Led} {k : Int} {t : Tok} (m1 : (pi, instObj 135 pd) ∈ news) (m2 : (pd, dictOf (portsEs w.params k1 k2 k3 k4 v1 v2 v3 f pt) n) ∈ news) (m3 : (pt, o) ∈ news) (hd : o.IsDictOf (intKind prog w) kvs) (lo : (pt == sysModules) = false)
    (hk : k = 7 ∨ k = 8) (h1 : (valueAt kvs k).isSome = true) :
    SpecR prog w 111 15 [.ref pi, .int k t] news 68 (fun news' => news' = news) := by
  intro pp loose mean mg mb dp un gd cn cs a' ccd outer A₀ base h₀ L m hh gs dr tk oz Q E B F X N T hkk hdp hu hret
  rcases hk with rfl | rfl
  all_goals (
    refine wpAny_call ?_
    k_dflt ktr_enter
    k_steps
    refine Halt.go ?_
    k_dflt (refine raise_own (C := 68) rfl ?_)
    k_steps
    refine Halt.go ?_
    refine exc_make (by k_asm) (by k_asm) (by k_asm) (by k_asm) (by k_asm) (by first | exact rfl | assumption) (fun X => exc68 X) (by k_extra "bud") (by k_extra "bud") ?_
    intro e t d h5 tk5 F5 N5 n1 n2 n3
    (with_reducible rename Frag.In _ _ => kX9)
    refine ⟨e, t, some d, rfl, exc68 (kX9.keeps F5.keep), (N5 _ (.head _)).1, ?_⟩
    exact leave_made (by k_asm) F5 N5 n1 n2 n3 (fun h6 R6 U6 => hret _ _ _ _ _ _ _ rfl R6 (by k_asm) U6) rfl)
end
theorem reg42 : True := by
  (k_with "call ref" => with_reducible refine Halt.call (a := 111) ?_)
  trivial
section
variable {prog : Program} {w : World} {us ud pi ti sd pd pt : Addr} {uo so o : Obj} {news : Led} {kvs : List (Int × Value)} {g k f : Int} {k1 k2 k3 k4 v1 v2 v3 : Tok} {n : Nat}
theorem open_raise {a p : Int} {t1 t2 : Tok} (u1 : (us, instObj 445 ud) ∈ news) (u2 : (ud, uo) ∈ news) (hu : UsObj w.params pi ti sd g uo) (m1 : (pi, instObj 135 pd) ∈ news) (m2 : (pd, dictOf (portsEs w.params k1 k2 k3 k4 v1 v2 v3 f pt) n) ∈ news) (m3 : (pt, o) ∈ news) (hd : o.IsDictOf (intKind prog w) kvs) (lo : (pt == sysModules) = false)
    (h : p = 0 ∧ (valueAt kvs f).isSome = true ∧ (valueAt kvs (nxt f)).isSome = true ∧ (valueAt kvs (nxt (nxt f))).isSome = true ∨ (p = 7 ∨ p = 8) ∧ (valueAt kvs p).isSome = true) :
    SpecR prog w 381 20 [.ref us, .int a t1, .int p t2] news 68 (fun news' => news' = news) := by
  intro pp loose mean mg mb dp un gd cn cs a' ccd outer A₀ base h₀ L m hh gs dr tk oz Q E B F X N T hkk hdp hu' hret
  obtain ⟨c1, c2, c3, c4, c5, w3, w5, n, e⟩ := id hu
  subst e
  have S : SpecR prog w 111 15 [.ref pi, .int p t2] news 68 (fun news' => news' = news) := by
    rcases h with ⟨rfl, h1, h2, h3⟩ | ⟨hp, h1⟩
    · exact take_raise_zero m1 m2 m3 hd lo h1 h2 h3
    · exact take_raise_told m1 m2 m3 hd lo hp h1
  refine wpAny_call ?_
  k_dflt ktr_enter
  k_steps
  refine Halt.go ?_
  refine S.use (by k_asm) (by k_asm) (by k_asm) (by k_asm) ro_sub (by k_asm) (by first | exact rfl | assumption) (by k_extra "bud") (by k_extra "bud") ?_
  rintro e t args news' G h' tk' rfl R F2 U
  exact leave_onS (by k_asm) F2 R U (fun h6 R6 _ U6 => hret _ _ _ _ _ _ _ rfl R6 (by k_asm) U6)
theorem socket_raise {t : Tok} (m1 : (us, instObj 445 ud) ∈ news) (m2 : (ud, uo) ∈ news) (hu : UsObj w.params pi ti sd g uo) (m3 : (sd, so) ∈ news) (hd : so.IsDictOf (intKind prog w) kvs) (lo : (sd == sysModules) = false) (hv : (valueAt kvs k).isSome = false) :
    SpecR prog w 374 10 [.ref us, .int k t] news 80 (fun news' => news' = news) := by
  intro pp loose mean mg mb dp un gd cn cs a' ccd outer A₀ base h₀ L m hh gs dr tk oz Q E B F X N T hkk hdp hu' hret
  obtain ⟨c1, c2, c3, c4, c5, w3, w5, n, e⟩ := id hu
  subst e
  refine wpAny_call ?_
  k_dflt ktr_enter
  k_steps
  refine Halt.go ?_
  k_dflt (refine raise_own (C := 80) rfl ?_)
  k_steps
  refine Halt.go ?_
  refine exc_make (by k_asm) (by k_asm) (by k_asm) (by k_asm) (by k_asm) (by first | exact rfl | assumption) (fun X => exc80 X) (by k_extra "bud") (by k_extra "bud") ?_
  intro e t d h5 tk5 F5 N5 n1 n2 n3
  (with_reducible rename Frag.In _ _ => kX9)
  refine ⟨e, t, some d, rfl, exc80 (kX9.keeps F5.keep), (N5 _ (.head _)).1, ?_⟩
  exact leave_made (by k_asm) F5 N5 n1 n2 n3 (fun h6 R6 U6 => hret _ _ _ _ _ _ _ rfl R6 (by k_asm) U6) rfl
theorem reg43 : True := by
  (k_with "call ref" => with_reducible refine Halt.call (a := 374) ?_)
  trivial
theorem port_of_raise {t : Tok} (m1 : (us, instObj 445 ud) ∈ news) (m2 : (ud, uo) ∈ news) (hu : UsObj w.params pi ti sd g uo) (m3 : (sd, so) ∈ news) (hd : so.IsDictOf (intKind prog w) kvs) (lo : (sd == sysModules) = false) (hv : (valueAt kvs k).isSome = false) :
    SpecR prog w 400 15 [.ref us, .int k t] news 80 (fun news' => news' = news) := by
  intro pp loose mean mg mb dp un gd cn cs a' ccd outer A₀ base h₀ L m hh gs dr tk oz Q E B F X N T hkk hdp hu' hret
  have hu2 := hu
  obtain ⟨c1, c2, c3, c4, c5, w3, w5, n, e⟩ := hu
  subst e
  refine wpAny_call ?_
  k_dflt ktr_enter
  k_steps
  refine Halt.go ?_
  refine (socket_raise m1 m2 hu2 m3 hd lo hv).use (by k_asm) (by k_asm) (by k_asm) (by k_asm) ro_sub (by k_asm) (by first | exact rfl | assumption) (by k_extra "bud") (by k_extra "bud") ?_
  rintro e t args news' G h' tk' rfl R F2 U
  exact leave_onS (by k_asm) F2 R U (fun h6 R6 _ U6 => hret _ _ _ _ _ _ _ rfl R6 (by k_asm) U6)
end

theorem reg44 : True := by
  (k_with "call ref" => with_reducible refine Halt.call (a := 303) ?_)
  trivial
theorem ne8 {x a b c d e f g h : Addr} {ox oa ob oc od oe of og oh : Obj} {rest : Led} (D : (((x, ox) :: (a, oa) :: (b, ob) :: (c, oc) :: (d, od) :: (e, oe) :: (f, of) :: (g, og) :: (h, oh) :: rest).map (·.1)).Nodup) : An9 (@Ne Nat a x) (@Ne Nat b x) (@Ne Nat c x) (@Ne Nat d x) (@Ne Nat e x) (@Ne Nat f x) (@Ne Nat g x) (@Ne Nat h x) (∀ p ∈ rest, p.1 ≠ x) := by
  have q := ne_of_nodup D
  exact ⟨q _ (.head _), q _ (.tail _ (.head _)), q _ (.tail _ (.tail _ (.head _))), q _ (.tail _ (.tail _ (.tail _ (.head _)))), q _ (.tail _ (.tail _ (.tail _ (.tail _ (.head _))))), q _ (.tail _ (.tail _ (.tail _ (.tail _ (.tail _ (.head _)))))), q _ (.tail _ (.tail _ (.tail _ (.tail _ (.tail _ (.tail _ (.head _))))))), q _ (.tail _ (.tail _ (.tail _ (.tail _ (.tail _ (.tail _ (.tail _ (.head _)))))))), fun p hp => q p (.tail _ (.tail _ (.tail _ (.tail _ (.tail _ (.tail _ (.tail _ (.tail _ hp)))))))) ⟩
section
variable {prog : Program} {w : World} {us ud pi ti sd pd pt td tr : Addr} {uo so po o : Obj} {rest : Led} {xs : List Sk} {g f f' : Int} {k1 k2 k3 k4 v1 v2 v3 kt : Tok} {n n2 : Nat}
theorem open_spec {a p port : Int} {t1 t2 : Tok}
    (D : (((us, instObj 445 ud) :: (ud, uo) :: (pi, instObj 135 pd) :: (pd, dictOf (portsEs w.params k1 k2 k3 k4 v1 v2 v3 f pt) n) :: (pt, po) :: (ti, instObj 327 td) :: (td, dictOf [ent w.params "rows" kt (.ref tr)] n2) :: (tr, o) :: (sd, so) :: rest).map (·.1)).Nodup)
    (hu : UsObj w.params pi ti sd g uo) (hdt : o.IsDictOf (intKind prog w) (rowsOf xs)) (lot : (tr == sysModules) = false) (hdp : po.IsDictOf (intKind prog w) (portsOf xs)) (lop : (pt == sysModules) = false) (hds : so.IsDictOf (intKind prog w) (kvsBy (fun x => .ref x.sI) xs)) (los : (sd == sysModules) = false)
    (hn : (xs.map (·.num)).Nodup) (hz : xs.length ≤ 100) (hr : ∀ x ∈ xs, RowLed w.params x.num x.adr x.port x.far x.rI x.rl) (hl : ∀ x ∈ xs, ∀ q ∈ x.rl, q ∈ rest) (hne : ∀ x ∈ xs, x.port ≠ p) (hnew : ∀ x ∈ xs, x.num ≠ g + 1)
    (hT : ∀ rest', ((portsLed w.params pi pd pt k1 k2 k3 k4 v1 v2 v3 f n po rest').map (·.1)).Nodup → Spec prog w 111 8 [.ref pi, .int port t2] (portsLed w.params pi pd pt k1 k2 k3 k4 v1 v2 v3 f n po rest')
      (Q4 (fun t o' v3' n' => .int p t) (fun t o' v3' n' => portsLed w.params pi pd pt k1 k2 k3 k4 v1 v2 v3' f' n' o' rest') (fun t o' v3' n' => o'.IsDictOf (intKind prog w) (stored (portsOf xs) p (.bool true))))) :
    Spec prog w 381 20 [.ref us, .int a t1, .int port t2] ((us, instObj 445 ud) :: (ud, uo) :: (pi, instObj 135 pd) :: (pd, dictOf (portsEs w.params k1 k2 k3 k4 v1 v2 v3 f pt) n) :: (pt, po) :: (ti, instObj 327 td) :: (td, dictOf [ent w.params "rows" kt (.ref tr)] n2) :: (tr, o) :: (sd, so) :: rest)
      (Q11 (fun t uo' po' o' so' v3' n' rI sI rl sl => .int (g + 1) t) (fun t uo' po' o' so' v3' n' rI sI rl sl => (us, instObj 445 ud) :: (ud, uo') :: (pi, instObj 135 pd) :: (pd, dictOf (portsEs w.params k1 k2 k3 k4 v1 v2 v3' f' pt) n') :: (pt, po') :: (ti, instObj 327 td) :: (td, dictOf [ent w.params "rows" kt (.ref tr)] n2) :: (tr, o') :: (sd, so') :: (rl ++ (sl ++ rest))) (fun t uo' po' o' so' v3' n' rI sI rl sl => An7 (UsObj w.params pi ti sd (g + 1) uo') (po'.IsDictOf (intKind prog w) (stored (portsOf xs) p (.bool true))) (o'.IsDictOf (intKind prog w) (rowsOf xs ++ [(g + 1, .ref rI)])) (so'.IsDictOf (intKind prog w) (stored (kvsBy (fun x => .ref x.sI) xs) (g + 1) (.ref sI))) (RowLed w.params (g + 1) a p none rI rl) (SockLed w.params a p none [] none sI sl) ((((us, instObj 445 ud) :: (ud, uo') :: (pi, instObj 135 pd) :: (pd, dictOf (portsEs w.params k1 k2 k3 k4 v1 v2 v3' f' pt) n') :: (pt, po') :: (ti, instObj 327 td) :: (td, dictOf [ent w.params "rows" kt (.ref tr)] n2) :: (tr, o') :: (sd, so') :: (rl ++ (sl ++ rest))).map (·.1)).Nodup))) := by
  intro pp loose mean mg mb dp un gd cn cs a' ccd cl outer A₀ base h₀ L m hh gs dr tk oz Q E B F X N T hkk hdp' hu' hret
  obtain ⟨y1, y2, y3, y4, y5, y6, y7, y8, rfl⟩ := id hu
  generalize huo : dictOf [ent w.params "ports" y1 (.ref pi), ent w.params "table" y2 (.ref ti), ent w.params "most_waiting" y3 (.int 2 y6), ent w.params "sockets" y4 (.ref sd), ent w.params "given" y5 (.int g y7)] y8 = uo at D
  refine wpAny_call ?_
  k_dflt ktr_enter
  k_steps
  refine Halt.go ?_
  have D1 : ((portsLed w.params pi pd pt k1 k2 k3 k4 v1 v2 v3 f n po ((us, instObj 445 ud) :: (ud, dictOf [ent w.params "ports" y1 (.ref pi), ent w.params "table" y2 (.ref ti), ent w.params "most_waiting" y3 (.int 2 y6), ent w.params "sockets" y4 (.ref sd), ent w.params "given" y5 (.int g y7)] y8) :: (ti, instObj 327 td) :: (td, dictOf [ent w.params "rows" kt (.ref tr)] n2) :: (tr, o) :: (sd, so) :: rest)).map (·.1)).Nodup := by exact Tr.nd [_,_,_,_,_,_,_,_,_] [_,_,_,_,_,_,_,_,_,_] [_] (.c 0 0 (.c 1 1 (.c 2 2 (.c 3 3 (.c 4 4 (.c 5 5 (.c 6 6 (.c 7 7 (.c 8 8 (.s 0)))))))))) (.c 2 2 (.c 3 3 (.c 4 4 (.c 0 0 (.c 1 9 (.c 5 5 (.c 6 6 (.c 7 7 (.c 8 8 (.s 0)))))))))) rfl D
  refine Spec.uq4 (hT _ D1) (hs := by k_extra "l_memx") (ret := ?_)
  rintro tp po' v3' n3 h' tk' hpo F2 N2
  have Du : (((ud, uo) :: (us, uo) :: (pi, uo) :: (pd, uo) :: (pt, uo) :: (ti, uo) :: (td, uo) :: (tr, uo) :: (sd, uo) :: rest).map (·.1)).Nodup := by exact Tr.nd [_,_,_,_,_,_,_,_,_] [_,_,_,_,_,_,_,_,_] [_] (.c 0 0 (.c 1 1 (.c 2 2 (.c 3 3 (.c 4 4 (.c 5 5 (.c 6 6 (.c 7 7 (.c 8 8 (.s 0)))))))))) (.c 1 1 (.c 0 1 (.c 2 1 (.c 3 1 (.c 4 1 (.c 5 1 (.c 6 1 (.c 7 1 (.c 8 1 (.s 0)))))))))) rfl D
  obtain ⟨a1, a2, a3, a4, a5, a6, a7, a8, a9⟩ := ne8 Du
  have Ds : (((sd, uo) :: (us, uo) :: (pi, uo) :: (pd, uo) :: (pt, uo) :: (ti, uo) :: (td, uo) :: (tr, uo) :: (ud, uo) :: rest).map (·.1)).Nodup := by exact Tr.nd [_,_,_,_,_,_,_,_,_] [_,_,_,_,_,_,_,_,_] [_] (.c 0 0 (.c 1 1 (.c 2 2 (.c 3 3 (.c 4 4 (.c 5 5 (.c 6 6 (.c 7 7 (.c 8 8 (.s 0)))))))))) (.c 8 1 (.c 0 1 (.c 2 1 (.c 3 1 (.c 4 1 (.c 5 1 (.c 6 1 (.c 7 1 (.c 1 1 (.s 0)))))))))) rfl D
  obtain ⟨b1, b2, b3, b4, b5, b6, b7, b8, b9⟩ := ne8 Ds
  clear Du Ds
  unfold portsLed at N2
  try dsimp only
  k_steps
  refine Halt.go ?_
  (with_reducible rename News _ _ _ _ => NL)
  try dsimp only at NL
  obtain ⟨tg, NL⟩ : ∃ tg, News _ _ _ ((pi, instObj 135 pd) :: (pd, dictOf (portsEs w.params k1 k2 k3 k4 v1 v2 v3' f' pt) n3) :: (pt, po') :: (us, instObj 445 ud) :: (ud, dictOf [ent w.params "ports" y1 (.ref pi), ent w.params "table" y2 (.ref ti), ent w.params "most_waiting" y3 (.int 2 y6), ent w.params "sockets" y4 (.ref sd), ent w.params "given" y5 (.int (g + 1) tg)] y8) :: (ti, instObj 327 td) :: (td, dictOf [ent w.params "rows" kt (.ref tr)] n2) :: (tr, o) :: (sd, so) :: rest) := ⟨_, NL⟩
  generalize hX : dictOf [ent w.params "ports" y1 (.ref pi), ent w.params "table" y2 (.ref ti), ent w.params "most_waiting" y3 (.int 2 y6), ent w.params "sockets" y4 (.ref sd), ent w.params "given" y5 (.int (g + 1) tg)] y8 = X at NL
  have D2 : (((ti, instObj 327 td) :: (td, dictOf [ent w.params "rows" kt (.ref tr)] n2) :: (tr, o) :: (pi, instObj 135 pd) :: (pd, dictOf (portsEs w.params k1 k2 k3 k4 v1 v2 v3' f' pt) n3) :: (pt, po') :: (us, instObj 445 ud) :: (ud, X) :: (sd, so) :: rest).map (·.1)).Nodup := by exact Tr.nd [_,_,_,_,_,_,_,_,_] [_,_,_,_,_,_,_,_,_,_,_,_] [_] (.c 0 0 (.c 1 1 (.c 2 2 (.c 3 3 (.c 4 4 (.c 5 5 (.c 6 6 (.c 7 7 (.c 8 8 (.s 0)))))))))) (.c 5 5 (.c 6 6 (.c 7 7 (.c 2 2 (.c 3 9 (.c 4 10 (.c 0 0 (.c 1 11 (.c 8 8 (.s 0)))))))))) rfl D
  refine Spec.uq3 (bind_spec D2 hdt lot hn hr (fun x hx q hq => by have := hl x hx q hq; simp [this]) hne hnew hz) (hs := by k_extra "l_memx") (ret := ?_)
  rintro rI rl o' h' tk' ⟨hrl, ho', hfr⟩ F3 N3
  have D3 := hfr.nodup (by exact Tr.nd [_,_,_,_,_,_,_,_,_] [_,_,_,_,_,_,_,_,_,_] [_] (.c 0 0 (.c 1 1 (.c 2 2 (.c 3 3 (.c 4 4 (.c 5 5 (.c 6 6 (.c 7 7 (.c 8 8 (.s 0)))))))))) (.c 0 0 (.c 1 1 (.c 2 9 (.c 3 3 (.c 4 4 (.c 5 5 (.c 6 6 (.c 7 7 (.c 8 8 (.s 0)))))))))) rfl D2)
  clear hfr
  obtain ⟨R2, hR2⟩ : ∃ R2, R2 = (ti, instObj 327 td) :: (td, dictOf [ent w.params "rows" kt (.ref tr)] n2) :: (tr, o') :: (pi, instObj 135 pd) :: (pd, dictOf (portsEs w.params k1 k2 k3 k4 v1 v2 v3' f' pt) n3) :: (pt, po') :: (rl ++ rest) := ⟨_, rfl⟩
  replace N3 : News _ _ _ ((us, instObj 445 ud) :: (ud, X) :: (sd, so) :: R2) := cb_drop N3 (by rw [hR2]; exact Tr.sb [_, _, _, _, _, _, _, _, _] [_, _, _, _, _, _, _, _, _] [_, _] (.a (.s 0) (.c 0 0 (.c 1 1 (.c 2 2 (.c 3 3 (.c 4 4 (.c 5 5 (.c 6 6 (.c 7 7 (.c 8 8 (.s 1))))))))))) (.c 6 6 (.c 7 7 (.c 8 8 (.c 0 0 (.c 1 1 (.c 2 2 (.c 3 3 (.c 4 4 (.c 5 5 (.a (.s 0) (.s 1))))))))))) rfl)
  replace D3 : (((us, instObj 445 ud) :: (ud, X) :: (sd, so) :: R2).map (·.1)).Nodup := by rw [hR2]; exact Tr.nd [_, _, _, _, _, _, _, _, _] [_, _, _, _, _, _, _, _, _] [_, _] (.a (.s 0) (.c 0 0 (.c 1 1 (.c 2 2 (.c 3 3 (.c 4 4 (.c 5 5 (.c 6 6 (.c 7 7 (.c 8 8 (.s 1))))))))))) (.c 6 6 (.c 7 7 (.c 8 8 (.c 0 0 (.c 1 1 (.c 2 2 (.c 3 3 (.c 4 4 (.c 5 5 (.a (.s 0) (.s 1))))))))))) rfl D3
  clear a1 a2 a3 a4 a5 a6 a7 a8 a9 b1 b2 b3 b4 b5 b6 b7 b8 b9
  obtain ⟨d1, d2, d3, r1, r2, r3⟩ := nd3 D3
  subst hX
  try dsimp only
  have hv := miss_of (valueAt_none (f := fun x => .ref x.sI) hnew)
  have hz' : (kvsBy (fun x => Value.ref x.sI) xs).length ≤ 100 := by rw [kvsBy, List.length_map]; exact hz
  k_steps
  (with_reducible rename News _ _ _ _ => NL)
  have D4 := nd_news NL (by k_extra "l_fresh")
  subst hR2
  refine' hret _ _ _ _ (.mk _ _ _ _ _ _ _ _ _ _ _ ⟨⟨_,_,_,_,_,_,_,_, rfl⟩, hpo, ho', ?c1, hrl, ⟨_,_,_,_,_,_,_,_,_,_,_,_,_,_,_,_,_,_,_,_, rfl, .no, .no, .nil⟩, ?c2⟩) ?cF (cb_drop ?cN ?c0)
  case cF => k_asm
  case cN => exact NL
  case c0 => k_extra "l_memx"
  case c1 => assumption
  exact Tr.nd [_, _, _, _, _, _, _, _, _, _, _, _] [_, _, _, _, _, _, _, _, _, _, _, _] [_, _] (.c 0 0 (.c 1 1 (.c 2 2 (.c 3 3 (.c 4 4 (.c 5 5 (.c 6 6 (.c 7 7 (.c 8 8 (.c 9 9 (.c 10 10 (.c 11 11 (.a (.s 0) (.s 1)))))))))))))) (.c 3 3 (.c 4 4 (.c 9 9 (.c 10 10 (.c 11 11 (.c 6 6 (.c 7 7 (.c 8 8 (.c 5 5 (.a (.s 0) (.a (.c 1 1 (.c 2 2 (.c 0 0 (.a (.a .n .n) .n)))) (.s 1)))))))))))) rfl D4
end

theorem fmod_in (x : Int) {m : Int} (h : 0 < m) : 0 ≤ x.fmod m ∧ x.fmod m < m := by
  rw [Int.fmod_eq_emod_of_nonneg _ (Int.le_of_lt h)]
  exact ⟨Int.emod_nonneg _ (by omega), Int.emod_lt_of_pos _ h⟩
theorem mul_ok_small {a b : Int} (h0 : 0 ≤ a) (h1 : a < 2147483647) : IntMulOk a b := IntMulOk.of_left (intBits_le_iff.mpr (by omega))
inductive SrcObj (o : Obj) : Prop
  | mk (a b : Int) (ta tb : Tok) (n : Nat) (e : o = W.listOf #[.int a ta, .int b tb] n) (h0 : 0 ≤ a) (h1 : 0 ≤ b) (h2 : b < 2147483647)
theorem reg45 : True := by
  (k_with "binaryOp Mult int int" => (k_dflt (refine mul_int ?_ (by first | exact mul_ok_small (fmod_in _ (by decide)).1 (fmod_in _ (by decide)).2 | exact mul_ok_small (by assumption) (by assumption)))))
  trivial
section
variable {prog : Program} {w : World} {src : Addr} {o : Obj} {rest : Led}
theorem take_spec {top : Int} {t : Tok} (ho : SrcObj o) (hr : ∀ p ∈ rest, p.1 ≠ src) (h0 : 1 ≤ top) (h1 : top ≤ 10) :
    Spec prog w 463 5 [.ref src, .int top t] ((src, o) :: rest) (Q3 (fun k t' o' => .int k t') (fun k t' o' => (src, o') :: rest) (fun k t' o' => An3 (0 ≤ k) (k < top) (SrcObj o'))) := by
  intro pp loose mean mg mb dp un gd cn cs a' ccd cl outer A₀ base h₀ L m hh gs dr tk oz Q E B F X N T hkk hdp hu hret
  obtain ⟨a, b, ta, tb, n, rfl, a0, b0, b1⟩ := ho
  refine wpAny_call ?_
  k_dflt ktr_enter
  k_steps
  · refine' hret _ _ _ _ (.mk _ _ _ ⟨(fmod_in _ (by omega)).1, (fmod_in _ (by omega)).2, ⟨_,_,_,_,_, rfl, ?c1, b0, b1⟩⟩) (by k_asm) ?cN
    case cN => k_asm
    exact Int.fdiv_nonneg (by simpa using a0) (by omega)
  · exact hret _ _ _ _ (.mk _ _ _ ⟨(fmod_in _ (by omega)).1, (fmod_in _ (by omega)).2, ⟨_,_,_,_,_, rfl, a0, (fmod_in _ (by decide)).1, (fmod_in _ (by decide)).2⟩⟩) (by k_asm) (by k_asm)
theorem reg46 : True := by
  (k_with "call ref" => with_reducible refine Halt.call (a := 463) ?_)
  trivial
theorem item_at {prog : Program} {w : World} {A : Around} {E : Value → Shared → Prop} {s : Shared} {value slice : PySem.Expr} {l : Addr} {vs : List Value} {k : Int} {u : Tok} {v : Value} {Q : Value → Shared → Prop}
    (hl : s.heap.IsList l vs.toArray := by exact News.isList (by k_asm) (by k_mem)) (h0 : 0 ≤ k := by first | assumption | decide) (hhi : k < 2 ^ 63 := by first | decide | omega) (hx : vs[k.toNat]? = some v := by first | assumption | rfl) (h : Q v s) (hs : subscripted slice false (.ref l) (.int k u) = operate [.ref l, .int k u] (getItem (.ref l) (.int k u)) := by with_unfolding_all rfl) :
    wpAny (model prog w) A (subscriptTail value slice (.ref l) (.int k u)) Q E s := tail_any hl.typeIs slot_list_getitem.lookup (wpAny_getItem_list hl h0 hhi (by simpa using hx) h) hs
theorem reg47 : True := by
  (k_with "subscriptTail" => (with_reducible refine SubI.at ?_; k_dflt (refine item_at (h := ?_))))
  trivial
theorem one_spec {th : Addr} {vs : List Value} {nn : Nat} (ho : SrcObj o) (hr : ∀ p ∈ rest, p.1 ≠ src) (h0 : 1 ≤ vs.length) (h1 : vs.length ≤ 4) (hth : (th, W.listOf vs.toArray nn) ∈ rest) :
    Spec prog w 470 8 [.ref src, .ref th] ((src, o) :: rest) (Q2 (fun (r : Value) o' => r) (fun r o' => (src, o') :: rest) (fun r o' => r ∈ vs ∧ SrcObj o')) := by
  intro pp loose mean mg mb dp un gd cn cs a' ccd cl outer A₀ base h₀ L m hh gs dr tk oz Q E B F X N T hkk hdp hu hret
  obtain ⟨k, hk⟩ : ∃ k, vs.length = k := ⟨_, rfl⟩
  refine wpAny_call ?_
  k_dflt ktr_enter
  k_steps
  refine Halt.go ?_
  refine Spec.uq3 (take_spec ho hr (by omega) (by omega)) (ret := ?_)
  rintro j tj o2 h' tk' ⟨j0, j1, ho2⟩ F2 N2
  have hj : vs[j.toNat]? = some (vs[j.toNat]'(by omega)) := List.getElem?_eq_getElem _
  try dsimp only
  k_steps
  exact hret _ _ _ _ (.mk _ _ ⟨List.getElem_mem _, ho2⟩) (by k_asm) (by k_asm)
end

section
open LCg
variable {prog : Program} {w : World} {A : Around} {h₀ : Heap} {L : Addr} {m : Str → Option Value} {env : Env} {elt : Expr} {x : Str} {scope : Scope} {cl : List (Str × Addr)} {E : Value → Shared → Prop} {s : Shared}
def SrcG (prog : Program) (w : World) (A : Around) (h₀ : Heap) (L : Addr) (m : Str → Option Value) (env : Env) (elt : Expr) (x : Str) (scope : Scope) (cl : List (Str × Addr)) (Fin : Shared → List Value → Led → Prop) (it : Value) (s₂ : Shared) : Prop :=
  ∃ (I : Addr) (fp : List Addr) (n : Nat) (P : Nat → Value → Prop) (St : Nat → Heap → Prop) (S : Led → Prop) (news : Led), it = .ref I ∧ Walks prog w A I fp [I] n P St ∧ n ≤ sizeLine ∧ (∀ i h, St i h → ∃ o, h.get? I = some o) ∧
    (∀ i h h' o nw, St i h → h.get? I = some o → h'.get? I = some o → (∀ b o, h₀.get? b = some o → h'.get? b = some o) → News h₀ L h' nw → S nw → St i h') ∧ St 0 s₂.heap ∧ (∀ b ∈ fp, b < s₂.heap.objs.size) ∧
    Fr h₀ L s₂.heap m ∧ News h₀ L s₂.heap news ∧ L ≠ I ∧ h₀.get? I = none ∧ (∀ p ∈ news, p.1 ≠ I) ∧ S news ∧ CompRest prog w A h₀ L m env elt x scope cl s₂ S P (Fin s₂) n 0 [] news
theorem ListComp_G {iter : Expr} {px : Pos} {pos : Pos} {Q : Value → Shared → Prop} (F₀ : Fr h₀ L s.heap m) (hclos : closureFor scope env = pure cl) (hcell : ∀ y ∈ scope.names, y.2 ≠ .cell) (hkind : scope.kind = .function)
    (hnames : ∀ y ∈ scope.names, y.2 = .local → scope.names.lookup y.1 = some .local) (hx : scope.names.lookup x = some .local)
    (h : wpAny (model prog w) A (eval iter env) (fun xv s₁ => wpAny (model prog w) A (pyIter xv) (SrcG prog w A h₀ L m env elt x scope cl (fun s₂ => FinE h₀ L m s₂ Q)) E s₁) E s)
    (hs : ∀ x, foldedSetIterable iter env x = pure x := by intro _; rfl) :
    wpAny (model prog w) A (eval (.ListComp elt [⟨.Name x px, iter, [], 0⟩] scope pos) env) Q E s := by
  rw [eval_ListComp]
  refine wpAny_comprehension_free (use := none) rfl hs hclos hkind hnames (wpAny_mono h (fun xv s₁ h₁ => wpAny_mono h₁ (fun it s₂ h₂ => ?_) fun _ _ e => e) fun _ _ e => e)
  obtain ⟨I, fp, n, P, St, S, news, rfl, W, hsz, hIo, hSt, hst, hfp, F, N, hIL, hI₀, off, hS, R⟩ := h₂
  refine block_U W hsz hIo hSt hcell hkind hx hst hfp F N hIL hI₀ off hS R ?_
  intro D C h tk m' ys news' F' N' o1 hn hC₀ hD₀ hCL hDL hCD offC fin
  refine ⟨m', hn, fun h'' hs'' => fin D h'' tk (F'.change hs'' hCL hC₀) (fun p hp => ?_) o1⟩
  refine ⟨hs''.extBut _ _ ?_ (N' p hp).1, (N' p hp).2⟩
  rcases List.mem_cons.mp hp with rfl | hp
  · exact Ne.symm hCD
  · exact offC p hp
theorem Assign_ListComp_G {iter : Expr} {y : Str} {px py : Pos} {pos spos : Pos} {Q : Flow → Shared → Prop} (F₀ : Fr h₀ L s.heap m) (hLe : env.locals = L)
    (hsw : swapsWith (.ListComp elt [⟨.Name x px, iter, [], 0⟩] scope pos) (some (.Name y py)) spos.line env = pure true)
    (hclos : closureFor scope env = pure cl) (hcell : ∀ z ∈ scope.names, z.2 ≠ .cell) (hkind : scope.kind = .function)
    (hnames : ∀ z ∈ scope.names, z.2 = .local → scope.names.lookup z.1 = some .local) (hx : scope.names.lookup x = some .local)
    (hy : env.kindOf y = some .local) (hp : (env.scope.kind == .class || (env.scope.kind == .module && env.locals != env.globals)) = false)
    (h : wpAny (model prog w) A (eval iter env) (fun xv s₁ => wpAny (model prog w) A (pyIter xv) (SrcG prog w A h₀ L m env elt x scope cl (fun s₂ => FinA h₀ L m s₂ y Q)) E s₁) E s)
    (hs : ∀ x, foldedSetIterable iter env x = pure x := by intro _; rfl) :
    wpAny (model prog w) A (exec (.Assign [.Name y py] (.ListComp elt [⟨.Name x px, iter, [], 0⟩] scope pos) spos) env) Q E s := by
  subst hLe
  rw [exec_Assign_Name_used _ _ _ _ hsw]
  refine wpAny_bind (wpAny_standAt (wpAny_bind ?_))
  show wpAny _ A (do let _ ← comprehension (.ListComp elt [⟨.Name x px, iter, [], 0⟩] scope pos) scope env _ (newList []) false (eval iter env) (some (assign (.Name y py) env))) _ _ s
  refine wpAny_bind (wpAny_mono (wpAny_comprehension_free (use := some (assign (.Name y py) env)) (Q := fun _ s' => Q .next s') rfl hs hclos hkind hnames
    (wpAny_mono h (fun xv s₁ h₁ => wpAny_mono h₁ (fun it s₂ h₂ => ?_) fun _ _ e => e) fun _ _ e => e)) (fun _ s' hq => wpAny_pure (wpAny_pure hq)) fun _ _ e => e)
  obtain ⟨I, fp, n, P, St, S, news, rfl, W, hsz, hIo, hSt, hst, hfp, F, N, hIL, hI₀, off, hS, R⟩ := h₂
  refine block_U W hsz hIo hSt hcell hkind hx hst hfp F N hIL hI₀ off hS R ?_
  intro D C h' tk m' ys news' F' N' o1 hn hC₀ hD₀ hCL hDL hCD offC fin
  show wpAny _ A (assign (.Name y py) env (.ref D)) _ _ _
  refine wpAny_assign_Name (wpAny_storeName_local hy F'.ns (fun h₂ hn₂ hs₂ => ?_) hp)
  have hL₀ : h₀.get? env.locals = none := Heap.get?_none_of_le F'.above
  have F₂ : Fr h₀ env.locals h₂ (fun z => if z = y then some (.ref D) else m z) := ⟨hn₂, fun b o e => hs₂.extBut b o (fun q => by rw [q, hL₀] at e; cases e) (F'.keep b o e), F'.above⟩
  refine ⟨m', hn.sameBut hs₂ hCL, fun h'' hs'' => fin D h'' _ (F₂.change hs'' hCL hC₀) (fun p hp => ?_) o1⟩
  have z : h₂.get? p.1 = some p.2 := hs₂.extBut _ _ (N' p hp).2.1 (N' p hp).1
  refine ⟨hs''.extBut _ _ ?_ z, (N' p hp).2⟩
  rcases List.mem_cons.mp hp with rfl | hp
  · exact Ne.symm hCD
  · exact offC p hp
theorem src_vals {d vw : Addr} {o : Obj} {kvs : List (Int × Value)} {news : Led} {Fin : Shared → List Value → Led → Prop} (hh : A.handled = none) (F : Fr h₀ L s.heap m) (N : News h₀ L s.heap news) (hv : s.heap.IsValuesView vw d) (hm : (d, o) ∈ news) (hd : o.IsDictOf (intKind prog w) kvs) (hsz : kvs.length ≤ sizeLine)
    (R : ∀ g, CompRest prog w A h₀ L m env elt x scope cl { s with heap := g } (fun nw => (d, o) ∈ nw) (fun i v => ∃ k, kvs[i]? = some (k, v)) (Fin { s with heap := g }) kvs.length 0 [] news) :
    wpAny (model prog w) A (pyIter (.ref vw)) (SrcG prog w A h₀ L m env elt x scope cl Fin) E s := by
  have hd' := kda_dict N hm hd
  obtain ⟨ep, hat⟩ := hd'.dictAt
  have hne : d ≠ s.heap.objs.size := Nat.ne_of_lt hat.lt_size
  refine wpAny_pyIter_values hv hat ?_
  refine ⟨s.heap.objs.size, [s.heap.objs.size, d], kvs.length, _,_, fun nw => (d, o) ∈ nw, news, rfl, Walks.dictValues (knd := intKind prog w) hh _ d hne kvs ep, hsz, ?_, ?_, ⟨⟨_, Heap.get?_push_size _ rfl, rfl, rfl⟩, hat.push _⟩, ?_, F.push _, (fun p hp => ⟨Heap.get?_push_of_some _ (N p hp).1, (N p hp).2⟩), Nat.ne_of_lt F.ns.lt, next_is_new F, (fun p hp => Nat.ne_of_lt (Heap.lt_size (N p hp).1)), hm, R _⟩
  · intro i h st
    obtain ⟨⟨o, e, _⟩, _⟩ := st
    exact ⟨o, e⟩
  · intro i h h' oI nw st e e' k N' S'
    obtain ⟨⟨o1, q1, r1⟩, -⟩ := st
    rw [e] at q1; cases q1
    refine ⟨⟨_, e', r1⟩, ?_⟩
    exact hat.at' fun o9 e9 => by
      have e2 : o9 = o := Option.some.inj (e9.symm.trans (N _ hm).1)
      rw [e2]; exact (N' _ S').1
  · intro b hb
    show b < (s.heap.push _).objs.size
    rw [Heap.size_push]
    rcases List.mem_cons.mp hb with rfl | hb
    · exact Nat.lt_succ_self _
    · rw [List.mem_singleton.mp hb]; exact Nat.lt_succ_of_lt hat.lt_size
theorem src_keys {d : Addr} {o : Obj} {kvs : List (Int × Value)} {news : Led} {Fin : Shared → List Value → Led → Prop} (hh : A.handled = none) (F : Fr h₀ L s.heap m) (N : News h₀ L s.heap news) (hm : (d, o) ∈ news) (hd : o.IsDictOf (intKind prog w) kvs) (lo : (d == sysModules) = false) (hsz : kvs.length ≤ sizeLine)
    (R : ∀ g, CompRest prog w A h₀ L m env elt x scope cl { s with heap := g } (fun nw => (d, o) ∈ nw) (fun i v => ∃ k x, kvs[i]? = some (k, x) ∧ (intKind prog w).is k v = true) (Fin { s with heap := g }) kvs.length 0 [] news) :
    wpAny (model prog w) A (pyIter (.ref d)) (SrcG prog w A h₀ L m env elt x scope cl Fin) E s := by
  have hd' := kda_dict N hm hd
  obtain ⟨ep, hat⟩ := hd'.dictAt
  have hne : d ≠ s.heap.objs.size := Nat.ne_of_lt hat.lt_size
  refine wpAny_pyIter_dict lo hat ?_
  refine ⟨s.heap.objs.size, [s.heap.objs.size, d], kvs.length, _,_, fun nw => (d, o) ∈ nw, news, rfl, Walks.dictKeys (knd := intKind prog w) hh _ d hne kvs ep, hsz, ?_, ?_, ⟨⟨_, Heap.get?_push_size _ rfl, rfl, rfl⟩, hat.push _⟩, ?_, F.push _, (fun p hp => ⟨Heap.get?_push_of_some _ (N p hp).1, (N p hp).2⟩), Nat.ne_of_lt F.ns.lt, next_is_new F, (fun p hp => Nat.ne_of_lt (Heap.lt_size (N p hp).1)), hm, R _⟩
  · intro i h st
    obtain ⟨⟨o, e, _⟩, _⟩ := st
    exact ⟨o, e⟩
  · intro i h h' oI nw st e e' k N' S'
    obtain ⟨⟨o1, q1, r1⟩, -⟩ := st
    rw [e] at q1; cases q1
    refine ⟨⟨_, e', r1⟩, ?_⟩
    exact hat.at' fun o9 e9 => by
      have e2 : o9 = o := Option.some.inj (e9.symm.trans (N _ hm).1)
      rw [e2]; exact (N' _ S').1
  · intro b hb
    show b < (s.heap.push _).objs.size
    rw [Heap.size_push]
    rcases List.mem_cons.mp hb with rfl | hb
    · exact Nat.lt_succ_self _
    · rw [List.mem_singleton.mp hb]; exact Nat.lt_succ_of_lt hat.lt_size
theorem rest_map {S : Led → Prop} {P : Nat → Value → Prop} {Fin : List Value → Led → Prop} {news : Led} {n : Nat} (R : Nat → Value → Prop) (hfin : ∀ ys : List Value, ys.length = n → (∀ i y, ys[i]? = some y → R i y) → Fin ys news)
   (turn : ∀ i ys v I oI C oC D m₂ h tk (E' : Value → Shared → Prop) (G : Value → Led → Prop), i < n → P i v → NsObj oC m₂ → m₂ x = some v → Fr h₀ L h m → News h₀ L h ((I, oI) :: (C, oC) :: (D, lst ys) :: news) → Off3 I C D news → ((@Ne Nat I C) ∧ (@Ne Nat I D) ∧ (@Ne Nat C D)) →
     (∀ y, R i y → G y news) →
      wpAny (model prog w) A (eval elt (compEnvC scope cl C env)) (CompEnd h₀ L m { s with heap := h, toks := tk } I oI C oC D (lst ys) S G) E' { s with heap := h, toks := tk }) :
    CompRest prog w A h₀ L m env elt x scope cl s S P Fin n 0 [] news := by
  have key : ∀ k i ys, i + k = n → ys.length = i → (∀ j y, ys[j]? = some y → R j y) → CompRest prog w A h₀ L m env elt x scope cl s S P Fin k i ys news := by
    intro k
    induction k with
    | zero =>
      intro i ys hi hl hy
      exact CompRest.zero (hfin ys (by omega) hy)
    | succ k ih =>
      intro i ys hi hl hy
      refine CompRest.succ ?_
      intro v I oI C oC D m₂ h tk E' hv hC hx F N off ne
      refine turn i ys v I oI C oC D m₂ h tk E' _ (by omega) hv hC hx F N off ne (fun y hR => ih (i + 1) (ys ++ [y]) (by omega) (by simp [hl]) (fun j z hz => ?_))
      rcases Nat.lt_trichotomy j ys.length with hj | hj | hj
      · rw [List.getElem?_append_left hj] at hz; exact hy j z hz
      · subst hj; simp at hz; subst hz; rw [hl]; exact hR
      · rw [List.getElem?_append_right (Nat.le_of_lt hj)] at hz
        have : 1 ≤ j - ys.length := by omega
        rw [List.getElem?_eq_none (by simpa using this)] at hz; cases hz
  exact key n 0 [] (by omega) rfl (fun j y h => by simp at h)
end

theorem reg48 : True := by
  (k_with "exec Assign cons ListComp" => (k_here; k_dflt (refine Assign_ListComp_G (F₀ := by k_asm) (by rfl) (by with_unfolding_all rfl) (by with_unfolding_all rfl) (by decide) (by rfl) (by decide) (by rfl) (by rfl) (by rfl) ?_)))
  (k_with "eval ListComp" => (k_here; k_dflt (refine ListComp_G (F₀ := by k_asm) (by with_unfolding_all rfl) (by decide) (by rfl) (by decide) (by rfl) ?_)))
  (k_with "call builtin:dict.values" => (k_dflt (refine values_I (h := ?_)); intro D'w h'w F'w N'w l1w; (have hRaww := l1w); (try k_lt l1w)))
  trivial
inductive RowObj (prog : Program) (w : World) (adr port : Int) (vf ve : Value) (qD : Addr) (o : Obj) : Prop
  | mk (t1 t2 : Tok) (h : o.IsDictOf (strKind prog w) [("port", .int port t1), ("address", .int adr t2), ("far", vf), ("queue", .ref qD), ("error", ve)])
inductive LawLed (prog : Program) (w : World) (adr port : Int) (far : Option (Int × Int)) (q : List (List Int × Int × Int)) (err : Option (Int × Int)) (I : Addr) (l : Led) : Prop
  | mk (o : Obj) (vf ve : Value) (qD : Addr) (vs : List Value) (cap : Nat) (lf le lq : Led) (e : l = (I, o) :: (qD, W.listOf vs.toArray cap) :: (lf ++ le ++ lq)) (h1 : RowObj prog w adr port vf ve qD o) (h2 : (I == sysModules) = false) (h3 : FarLed far vf lf) (h4 : FarLed err ve le) (h5 : QLed q vs lq)
inductive LawMem (prog : Program) (w : World) (adr port : Int) (q : List (List Int × Int × Int)) (I : Addr) (l : Led) : Prop
  | mk (o : Obj) (vf ve : Value) (qD : Addr) (vs : List Value) (cap : Nat) (h1 : (I, o) ∈ l) (h2 : (qD, W.listOf vs.toArray cap) ∈ l) (h3 : RowObj prog w adr port vf ve qD o) (h4 : (I == sysModules) = false) (h5 : vs.length = q.length)
theorem LawLed.mem {prog : Program} {w : World} {adr port : Int} {far err : Option (Int × Int)} {q : List (List Int × Int × Int)} {I : Addr} {l : Led} (h : LawLed prog w adr port far q err I l) :
    LawMem prog w adr port q I l := by
  obtain ⟨o, vf, ve, qD, vs, cap, lf, le, lq, rfl, h1, h2, h3, h4, h5⟩ := h
  exact ⟨o, vf, ve, qD, vs, cap, .head _, .tail _ (.head _), h1, h2, h5.length⟩
def dueV (f : Int) (ps : List Int) : Option Int := if f ∈ ps then (if nxt f ∈ ps then (if nxt (nxt f) ∈ ps then none else some (nxt (nxt f))) else some (nxt f)) else some f
def pst (f : Int) (j : Nat) : Int := 7 + (f - 7 + (0 + (j : Int))).fmod 3
theorem step_le {a w : Int} (h : a ≤ w) : w = a ∨ a + 1 ≤ w := (Int.le_iff_eq_or_lt.mp h).imp Eq.symm id
theorem port_in3 {f : Int} (h : 7 ≤ f ∧ f ≤ 9) : f = 7 ∨ f = 8 ∨ f = 9 := by
  rcases step_le h.1 with e | h1
  · exact .inl e
  rcases step_le h1 with e | h2
  · exact .inr (.inl e)
  · exact .inr (.inr (Int.le_antisymm h.2 h2))
theorem pst_is {f : Int} (hf : 7 ≤ f ∧ f ≤ 9) : pst f 0 = f ∧ pst f 1 = nxt f ∧ pst f 2 = nxt (nxt f) := by
  rcases port_in3 hf with rfl | rfl | rfl <;> exact ⟨rfl, rfl, rfl⟩
theorem any_mem {ps : List Int} {k : Int} {b : Bool} (h : (ps.any fun x => x == k) = b) : k ∈ ps ↔ b = true := by
  rw [← h]; simp
theorem due0 {ps : List Int} {f : Int} (hf : 7 ≤ f ∧ f ≤ 9) (h0 : (ps.any fun x => x == pst f 0) = false) : dueV f ps = some (pst f 0) := by
  have a := any_mem h0
  rw [(pst_is hf).1] at *
  simp [dueV, a]
theorem due1 {ps : List Int} {f : Int} (hf : 7 ≤ f ∧ f ≤ 9) (h0 : (ps.any fun x => x == pst f 0) = true) (h1 : (ps.any fun x => x == pst f 1) = false) : dueV f ps = some (pst f 1) := by
  have a := any_mem h0
  have b := any_mem h1
  obtain ⟨q0, q1, q2⟩ := pst_is hf
  rw [q0] at a; rw [q1] at b ⊢
  simp [dueV, a, b]
theorem due2 {ps : List Int} {f : Int} (hf : 7 ≤ f ∧ f ≤ 9) (h0 : (ps.any fun x => x == pst f 0) = true) (h1 : (ps.any fun x => x == pst f 1) = true) (h2 : (ps.any fun x => x == pst f 2) = false) : dueV f ps = some (pst f 2) := by
  have a := any_mem h0
  have b := any_mem h1
  have c := any_mem h2
  obtain ⟨q0, q1, q2⟩ := pst_is hf
  rw [q0] at a; rw [q1] at b; rw [q2] at c ⊢
  simp [dueV, a, b, c]
theorem due3 {ps : List Int} {f : Int} (hf : 7 ≤ f ∧ f ≤ 9) (h0 : (ps.any fun x => x == pst f 0) = true) (h1 : (ps.any fun x => x == pst f 1) = true) (h2 : (ps.any fun x => x == pst f 2) = true) : dueV f ps = none := by
  have a := any_mem h0
  have b := any_mem h1
  have c := any_mem h2
  obtain ⟨q0, q1, q2⟩ := pst_is hf
  rw [q0] at a; rw [q1] at b; rw [q2] at c
  simp [dueV, a, b, c]
theorem numV_of {o : Option Int} {k : Int} {t : Tok} (h : o = some k) : NumV o (.int k t) := h ▸ .yes
theorem ints_of {ys : List Value} : ∀ {ns : List Int}, ys.length = ns.length → (∀ (i : Nat) (y : Value), ys[i]? = some y → ∃ (n : Int) (t : Tok), ns[i]? = some n ∧ y = Value.int n t) → IntsAre ys ns := by
  induction ys with
  | nil => intro ns h _; cases ns with
    | nil => exact .nil
    | cons => simp at h
  | cons y ys ih => intro ns h hy; cases ns with
    | nil => simp at h
    | cons n ns =>
      obtain ⟨n', t, e1, e2⟩ := hy 0 y rfl
      simp at e1
      subst e1 e2
      exact .cons _ _ (ih (by simpa using h) fun i z hz => by simpa using hy (i + 1) z (by simpa using hz))
theorem reg49 : True := by
  (k_with "compareOp NotIn int ref" => k_dflt (refine notin_list_ints (News.isList (by k_asm) (by k_mem)) (by assumption) ?_))
  trivial
section
variable {prog : Program} {w : World} {rw_ : Addr} {ro : Obj} {news : Led} {xs : List Sk}
theorem free_port_spec {f : Int} {t : Tok} (m : (rw_, ro) ∈ news) (hd : ro.IsDictOf (intKind prog w) (kvsBy (fun x => .ref x.lD) xs)) (lo : (rw_ == sysModules) = false)
    (hl : ∀ x ∈ xs, LawLed prog w x.adr x.port x.far x.q x.err x.lD x.ll) (hs : ∀ x ∈ xs, ∀ q ∈ x.ll, q ∈ news) (hf : 7 ≤ f ∧ f ≤ 9) (hz : xs.length ≤ 100) :
    Spec prog w 475 8 [.ref rw_, .int f t] news (Q1 (fun (r : Value) => r) (fun r => news) (fun r => NumV (dueV f (xs.map (·.port))) r)) := by
  intro pp loose mean mg mb dp un gd cn cs a' ccd cl outer A₀ base h₀ L m hh gs dr tk oz Q E B F X N T hkk hdp hu hret
  refine wpAny_call ?_
  k_dflt ktr_enter
  k_steps
  refine Halt.go ?_
  refine src_vals (by rfl) (by k_asm) (by k_asm) ⟨_, by first | exact ((by k_asm : News _ _ _ _) _ (.head _)).1, rfl, rfl⟩ (by k_mem) hd (by rw [kvsBy, List.length_map, sizeLine_eq]; omega) ?_
  intro g9
  refine rest_map (fun i y => ∃ x t, xs[i]? = some x ∧ y = .int x.port t) ?_ ?_
  · intro ys hlen hys
    unfold LCg.FinA
    intro D3 h3 tk3 F3 N3 o3
    dsimp only [LCg.Off1] at o3
    have hns : IntsAre ys (xs.map (·.port)) := ints_of (by rw [hlen, kvsBy, List.length_map, List.length_map]) fun i y hy => by
      obtain ⟨x, t, e1, e2⟩ := hys i y hy
      exact ⟨x.port, t, by rw [List.getElem?_map, e1]; rfl, e2⟩
    have hNH : NoHalt := trivial
    try dsimp only
    k_steps
    · exact hret _ _ _ _ (.mk _ ((due3 hf (by assumption) (by assumption) (by assumption)) ▸ .no)) (by k_asm) (cb_drop (by k_asm) (by k_extra "l_sub"))
    · exact hret _ _ _ _ (.mk _ (numV_of (due2 hf (by assumption) (by assumption) (by assumption)))) (by k_asm) (cb_drop (by k_asm) (by k_extra "l_sub"))
    · exact hret _ _ _ _ (.mk _ (numV_of (due1 hf (by assumption) (by assumption)))) (by k_asm) (cb_drop (by k_asm) (by k_extra "l_sub"))
    · exact hret _ _ _ _ (.mk _ (numV_of (due0 hf (by assumption)))) (by k_asm) (cb_drop (by k_asm) (by k_extra "l_sub"))
  · intro i ys v I oI C oC D m₂ h tk E' G hi hv hC hx F3 N3 off ne Gy
    obtain ⟨k, hk⟩ := hv
    obtain ⟨x, hx1, hx2, rfl, rfl⟩ := kvs_at hk
    obtain ⟨lo_, vf, ve, qD, vs, cap, i1, i2, ⟨t1, t2, i3⟩, i4, i5⟩ := (hl x hx2).mem
    replace i1 := hs x hx2 _ i1
    have offRaw := off
    dsimp only [LCg.Off3] at off
    k_steps
    exact LCg.CompEnd.intro (by k_asm) (by k_asm) _ ro_sub offRaw (by k_mem) (Gy _ ⟨x, _, hx1, rfl⟩)
end

theorem reg50 : True := by
  (k_with "exec For Name Name cons nil" => (k_here; (rename Fr _ _ _ _ => lF'w); (with_unfolding_all refine For_invVF lF'w (by rfl) (by rfl) ?_); k_whole))
  trivial
theorem frame5 {a b c d e : Str} {vc vd : Value} {m m₀ : Str → Option Value} (hc : m c = some vc) (hd : m d = some vd) (h : ∀ y, y ≠ a → y ≠ b → y ≠ c → y ≠ d → y ≠ e → m y = m₀ y) : m = fun y => if y = a then m a else if y = b then m b else if y = c then some vc else if y = d then some vd else if y = e then m e else m₀ y := by
  funext y
  by_cases ha : y = a
  · subst ha; simp
  · by_cases hb : y = b
    · subst hb; simp [ha]
    · by_cases hc' : y = c
      · subst hc'; simp [ha, hb, hc]
      · by_cases hd' : y = d
        · subst hd'; simp [ha, hb, hc', hd]
        · by_cases he' : y = e
          · subst he'; simp [ha, hb, hc', hd']
          · simp [ha, hb, hc', hd', he', h y ha hb hc' hd' he']
section
open SeqAt
variable {prog : Program} {w : World} {A : Around} {E : Value → Shared → Prop} {s : Shared} {l T T2 : Addr} {Q : Value → Shared → Prop}
theorem eqAt_none : EqAt A s .none .none true := fun prog w E Q h => by
  unfold eqBool
  wp_walk
  exact h
theorem eqAt_pairs {a b c d : Int} {t1 t2 t3 t4 : Tok} (hT : s.heap.IsTuple T #[.int a t1, .int b t2]) (hT2 : s.heap.IsTuple T2 #[.int c t3, .int d t4]) (hne : T ≠ T2) (hu : A.units < cLine) : EqAt A s (.ref T) (.ref T2) (a == c && b == d) := by
  have := RcAt.tuples (A := A) (e := fun j => if j = 0 then a == c else b == d) hT hT2 hu (fun j h1 h2 => by
    have : j = 0 ∨ j = 1 := by simp at h1; omega
    rcases this with rfl | rfl
    · exact EqAt.int_int _ _ _ _
    · exact EqAt.int_int _ _ _ _)
  have e : ((List.range (min (#[Value.int a t1, .int b t2]).size (#[Value.int c t3, .int d t4]).size)).all (fun j => if j = 0 then a == c else b == d) && (#[Value.int a t1, .int b t2]).size == (#[Value.int c t3, .int d t4]).size) = (a == c && b == d) := by
    simp [List.range, List.range.loop]
  rw [e] at this
  exact .of_refs hne this
theorem far_in_no {its : Array Value} (hl : s.heap.IsList l #[.none, .ref T]) (hT : s.heap.IsTuple T its) (hu : A.in1.units < cLine) (h : Q (.bool true) s) : wpAny (model prog w) A (compareOp .In .none (.ref l)) Q E s := by
  refine in_listAt (fun v => match v with | .none => true | _ => false) hl (fun y hy => ?_) (by simpa using h)
  have : y = .none ∨ y = .ref T := by simpa using hy
  rcases this with rfl | rfl
  · exact eqAt_none
  · exact EqAt.tuple_none hT hu
theorem far_in_yes {a b c d : Int} {t1 t2 t3 t4 : Tok} (hl : s.heap.IsList l #[.none, .ref T]) (hT : s.heap.IsTuple T #[.int c t3, .int d t4]) (hT2 : s.heap.IsTuple T2 #[.int a t1, .int b t2]) (hne : T ≠ T2) (hu : A.in1.units < cLine) (h : Q (.bool (c == a && d == b)) s) :
    wpAny (model prog w) A (compareOp .In (.ref T2) (.ref l)) Q E s := by
  refine in_listAt (fun v => match v with | .none => false | _ => c == a && d == b) hl (fun y hy => ?_) (by simpa using h)
  have : y = .none ∨ y = .ref T := by simpa using hy
  rcases this with rfl | rfl
  · exact EqAt.none_tuple hT2 hu
  · exact eqAt_pairs hT hT2 hne hu
def farIn : Option (Int × Int) → Int × Int → Bool
  | none, _ => true
  | some g, f => f.1 == g.1 && f.2 == g.2
theorem far_in {fr : Option (Int × Int)} {vf : Value} {lf news : Led} {h₀ : Heap} {L : Addr} {c d : Int} {t3 t4 : Tok} (hf : FarLed fr vf lf := by assumption) (N : News h₀ L s.heap news := by k_asm) (hs : ∀ q ∈ lf, q ∈ news := by k_extra "l_sub") (hl : s.heap.IsList l #[.none, .ref T] := by exact News.isList (by k_asm) (by k_mem)) (hT : s.heap.IsTuple T #[.int c t3, .int d t4] := by exact News.isTup (by k_asm) (by k_mem)) (hne : ∀ q ∈ lf, q.1 ≠ T := by assumption) (hu : A.in1.units < cLine := by k_units) (h : Q (.bool (farIn fr (c, d))) s) :
    wpAny (model prog w) A (compareOp .In vf (.ref l)) Q E s := by
  cases hf with
  | no => exact far_in_no hl hT hu h
  | yes => exact far_in_yes hl hT (News.isTup N (hs _ (.head _))) (fun e => hne _ (.head _) e.symm) hu h
theorem far_isnot {fr : Option (Int × Int)} {vf : Value} {lf : Led} (hf : FarLed fr vf lf := by assumption) (h : Q (.bool fr.isSome) s) : wpAny (model prog w) A (compareOp .IsNot vf .none) Q E s := isNot_none (by cases hf <;> exact h)
end
theorem reg51 : True := by
  (k_with "compareOp In ref" => k_dflt (refine far_in (h := ?_)))
  (k_with "compareOp IsNot none" => k_dflt (refine far_isnot (h := ?_)))
  trivial
theorem any_two {target adr : Int} {b : Bool} (h : ([0, target].any fun y => y == adr) = b) : (adr = 0 ∨ adr = target) ↔ b = true := by
  rw [← h]
  simp only [List.any_cons, List.any_nil, Bool.or_false, Bool.or_eq_true, beq_iff_eq]
  constructor <;> omega
theorem any_two_t {target adr : Int} (h : ([0, target].any fun y => y == adr) = true) : adr = 0 ∨ adr = target := (any_two h).mpr rfl
theorem fit_no {adr port target tport : Int} {f : Int × Int} (hp : port = tport) (ha : ([0, target].any fun y => y == adr) = true) : fitV adr port none target tport f = (1 + if (adr != 0) = true then 1 else 0) + 2 * (if false = true then 1 else 0) := by
  have := any_two_t ha
  simp only [fitV, bne_iff_ne, Bool.false_eq_true, if_false]
  (repeat' split) <;> omega
theorem fit_yes {adr port target tport a2 p2 fa fp : Int} (hp : port = tport) (ha : ([0, target].any fun y => y == adr) = true) (hf : (fa == a2 && fp == p2) = true) : fitV adr port (some (a2, p2)) target tport (fa, fp) = (1 + if (adr != 0) = true then 1 else 0) + 2 * (if true = true then 1 else 0) := by
  have := any_two_t ha
  have := far_t hf
  simp only [fitV, bne_iff_ne, Prod.mk.injEq, if_true]
  (repeat' split) <;> omega
theorem fit_off {adr port target tport : Int} {far : Option (Int × Int)} {f : Int × Int} (h : port ≠ tport ∨ ([0, target].any fun y => y == adr) = false) : fitV adr port far target tport f = 0 := by
  have q : port ≠ tport ∨ (adr ≠ 0 ∧ adr ≠ target) := by
    rcases h with h | h
    · exact .inl h
    · have := any_two h
      simp at this
      exact .inr this
  unfold fitV
  rw [if_pos q]
theorem fit_far {adr port target tport a2 p2 fa fp : Int} (hf : (fa == a2 && fp == p2) = false) : fitV adr port (some (a2, p2)) target tport (fa, fp) = 0 := by
  have := far_f hf
  simp only [fitV, Prod.mk.injEq]
  (repeat' split) <;> omega
theorem fit_all {adr port target tport fa fp : Int} {fr : Option (Int × Int)} (hp : port = tport) (ha : ([0, target].any fun y => y == adr) = true) (hf : farIn fr (fa, fp) = true) : fitV adr port fr target tport (fa, fp) = (1 + if (adr != 0) = true then 1 else 0) + 2 * (if fr.isSome = true then 1 else 0) := by
  cases fr with
  | none => exact fit_no hp ha
  | some g => exact fit_yes hp ha hf
theorem fit_other {adr port target tport fa fp : Int} {fr : Option (Int × Int)} (hf : farIn fr (fa, fp) = false) : fitV adr port fr target tport (fa, fp) = 0 := by
  cases fr with
  | none => cases hf
  | some g => exact fit_far hf
theorem fit_pos {adr port target tport : Int} {far : Option (Int × Int)} {f : Int × Int} : 0 ≤ fitV adr port far target tport f := by
  unfold fitV
  cases far <;> simp only [] <;> (repeat' split) <;> omega
theorem pick_pos {target tport : Int} {f : Int × Int} (xs : List Sk) : 0 ≤ (pickAll target tport f xs).1 := by
  have key : ∀ (xs : List Sk) (st : Int × Option Int), 0 ≤ st.1 → 0 ≤ (xs.foldl (pickStep target tport f) st).1 := by
    intro xs
    induction xs with
    | nil => exact fun st h => h
    | cons x xs ih =>
      intro st h
      rw [List.foldl_cons]
      refine ih _ ?_
      unfold pickStep
      split
      · exact fit_pos
      · exact h
  exact key xs (0, none) (Int.le_refl 0)
def TargJ (a b c d e : Str) (target tport : Int) (f : Int × Int) (xs : List Sk) (m₀ : Str → Option Value) (l₀ : Led) (i : Nat) (m : Str → Option Value) (l : Led) : Prop :=
  An3 (l = l₀) (BestV c d m (pickAll target tport f (xs.take i))) (∀ y, y ≠ a → y ≠ b → y ≠ c → y ≠ d → y ≠ e → m y = m₀ y)
section
variable {prog : Program} {w : World} {rw_ : Addr} {ro : Obj} {news : Led} {xs : List Sk}
theorem target_spec {target tport fa fp : Int} {T : Addr} {t1 t2 t3 t4 : Tok} (m : (rw_, ro) ∈ news) (hd : ro.IsDictOf (intKind prog w) (kvsBy (fun x => .ref x.lD) xs)) (lo : (rw_ == sysModules) = false) (hT : (T, tupObj [.int fa t3, .int fp t4]) ∈ news)
    (hn : (xs.map (·.num)).Nodup) (hl : ∀ x ∈ xs, LawLed prog w x.adr x.port x.far x.q x.err x.lD x.ll) (hs : ∀ x ∈ xs, ∀ q ∈ x.ll, q ∈ news) (hTx : ∀ x ∈ xs, ∀ q ∈ x.ll, q.1 ≠ T) :
    Spec prog w 487 8 [.ref rw_, .int target t1, .int tport t2, .ref T] news (Q1 (fun (r : Value) => r) (fun r => news) (fun r => NumV (pickAll target tport (fa, fp) xs).2 r)) := by
  intro pp loose mean mg mb dp un gd cn cs a' ccd cl outer A₀ base h₀ L m₀ hh gs dr tk oz Q E B F X N TT hkk hdp hu hret
  refine wpAny_call ?_
  k_dflt ktr_enter
  k_steps
  refine Halt.go ?_
  refine loop_keys (TargJ (Str.ofString "number") (Str.ofString "row") (Str.ofString "best") (Str.ofString "found") (Str.ofString "worth") target tport (fa, fp) xs _ _) rfl (by k_asm) (by k_asm) (by k_mem) (by k_asm) (by assumption) ⟨rfl, ⟨_,_, rfl, rfl, .no⟩, fun _ _ _ _ _ _ => rfl⟩ ?_ ?_
  · rintro I i k v t' m₁ news₁ h tk own hI hi ⟨rfl, ⟨tb, vf, q1, q2, q3⟩, hm⟩ ho hnI F₁ N₁
    obtain ⟨x, hx, hxm, rfl, rfl⟩ := kvs_at hi
    rw [frame5 q1 q2 hm] at F₁
    have hsx := hs x hxm
    obtain ⟨lo_, vfar, ve, qD, vs, cap, lf, le, lq, e, ⟨u1, u2, i3⟩, i4, f1, f2, f3⟩ := hl x hxm
    have i1 := hsx _ (by rw [e]; exact .head _)
    have hv := valueAt_kvs (f := fun x => .ref x.lD) hn hxm
    have hpk := pickAll_take (target := target) (tport := tport) (f := (fa, fp)) hx
    have hlf : ∀ q ∈ lf, q ∈ x.ll := fun q hq => by rw [e]; exact .tail _ (.tail _ (List.mem_append_left _ (List.mem_append_left _ hq)))
    have hlf2 : ∀ q ∈ lf, q ∈ news := fun q hq => hsx q (hlf q hq)
    have hne : ∀ q ∈ lf, q.1 ≠ T := fun q hq => hTx x hxm q (hlf q hq)
    clear hlf
    k_steps
    · have e1 := hpk.trans (if_pos (by rw [fit_all (by assumption) (by assumption) (by assumption)]; assumption))
      rw [fit_all (by assumption) (by assumption) (by assumption)] at e1
      exact TurnEnd.intro (by k_asm) (by k_asm) (by k_extra "l_sub") hnI ⟨rfl, ⟨_,_, by rw [e1]; rfl, rfl, by rw [e1]; exact .yes⟩, fun y y1 y2 y3 y4 y5 => by simp only [if_neg y1, if_neg y2, if_neg y3, if_neg y4, if_neg y5]⟩
    · have e1 := hpk.trans (if_neg (by rw [fit_all (by assumption) (by assumption) (by assumption)]; assumption))
      exact TurnEnd.intro (by k_asm) (by k_asm) (by k_extra "l_sub") hnI ⟨rfl, ⟨_,_, by rw [e1]; rfl, rfl, by rw [e1]; exact q3⟩, fun y y1 y2 y3 y4 y5 => by simp only [if_neg y1, if_neg y2, if_neg y3, if_neg y4, if_neg y5]⟩
    · have e1 := hpk.trans (if_neg (by rw [fit_other (by assumption)]; have := pick_pos (target := target) (tport := tport) (f := (fa, fp)) (xs.take i); omega))
      exact TurnEnd.intro (by k_asm) (by k_asm) (by k_extra "l_sub") hnI ⟨rfl, ⟨_,_, by rw [e1]; rfl, rfl, by rw [e1]; exact q3⟩, fun y y1 y2 y3 y4 y5 => by simp only [if_neg y1, if_neg y2, if_neg y3, if_neg y4, if_neg y5]⟩
    · have e1 := hpk.trans (if_neg (by rw [fit_off (.inr (by assumption))]; have := pick_pos (target := target) (tport := tport) (f := (fa, fp)) (xs.take i); omega))
      exact TurnEnd.intro (by k_asm) (by k_asm) (by k_extra "l_sub") hnI ⟨rfl, ⟨_,_, by rw [e1]; rfl, rfl, by rw [e1]; exact q3⟩, fun y y1 y2 y3 y4 y5 => by simp only [if_neg y1, if_neg y2, if_neg y3, if_neg y4, if_neg y5]⟩
    · have e1 := hpk.trans (if_neg (by rw [fit_off (.inl (by assumption))]; have := pick_pos (target := target) (tport := tport) (f := (fa, fp)) (xs.take i); omega))
      exact TurnEnd.intro (by k_asm) (by k_asm) (by k_extra "l_sub") hnI ⟨rfl, ⟨_,_, by rw [e1]; rfl, rfl, by rw [e1]; exact q3⟩, fun y y1 y2 y3 y4 y5 => by simp only [if_neg y1, if_neg y2, if_neg y3, if_neg y4, if_neg y5]⟩
  · rintro m₁ news₁ h tk ⟨rfl, ⟨tb, vf, q1, q2, q3⟩, hm⟩ F₁ N₁
    have e1 : xs.take (kvsBy (fun x => Value.ref x.lD) xs).length = xs := by rw [kvsBy, List.length_map, List.take_length]
    rw [e1] at q1 q3
    rw [frame5 q1 q2 hm] at F₁
    k_steps
    exact hret _ _ _ _ (.mk _ q3) (by k_asm) (cb_drop (by k_asm) (sub_cons ro_sub))
end

theorem reg52 : True := by
  (k_with "k_mem" => first | assumption | (apply List.mem_append_right; assumption) | k_extra "k_deep")
  trivial
theorem law_snoc {h₀ h' : Heap} {L lD qD D' : Addr} {oI oI1 oQ1 tup : Obj} {vs : List Value} {cap : Nat} {lf le lq rest : Led}
    (N : News h₀ L h' ((D', tup) :: (lD, oI) :: (qD, W.listOf (vs.toArray.push (.ref D')) cap) :: (lf ++ le ++ lq ++ rest)))
    (D : (((lD, oI1) :: (qD, oQ1) :: (lf ++ le ++ lq ++ rest)).map (·.1)).Nodup) (hlt : ∀ p ∈ (lD, oI1) :: (qD, oQ1) :: (lf ++ le ++ lq ++ rest), p.1 < D') :
    News h₀ L h' (((lD, oI) :: (qD, W.listOf (vs ++ [Value.ref D']).toArray cap) :: (lf ++ le ++ (lq ++ [(D', tup)]))) ++ rest) ∧ ((((lD, oI) :: (qD, W.listOf (vs ++ [Value.ref D']).toArray cap) :: (lf ++ le ++ (lq ++ [(D', tup)]))) ++ rest).map (·.1)).Nodup := by
  rw [List.push_toArray] at N
  refine ⟨fun p hp => N p ?_, ?_⟩
  · revert p; exact Tr.sb [_,_,_] [_,_,_] [_,_,_,_] (.c 0 0 (.c 1 1 (.c 2 2 (.a (.a (.a (.s 0) (.s 1)) (.s 2)) (.s 3))))) (.a (.c 1 1 (.c 2 2 (.a (.a (.s 0) (.s 1)) (.a (.s 2) (.c 0 0 .n))))) (.s 3)) rfl
  · have D2 := (fresh1 (x := tup) hlt).nodup D
    exact Tr.nd [_,_,_] [_,_,_,_,_] [_,_,_,_] (.a (.c 0 0 .n) (.c 1 1 (.c 2 2 (.a (.a (.a (.s 0) (.s 1)) (.s 2)) (.s 3))))) (.a (.c 1 3 (.c 2 4 (.a (.a (.s 0) (.s 1)) (.a (.s 2) (.c 0 0 .n))))) (.s 3)) rfl D2
theorem reg53 : True := by
  (k_with "call ref" => with_reducible (first | refine Halt.call (a := 487) ?_ | refine Halt.call (a := 414) ?_))
  trivial
section
variable {prog : Program} {w : World} {us ud pi ti sd rw_ T : Addr} {uo so ro : Obj} {news rest : Led} {xs : List Sk} {g : Int}
theorem came_none_spec {b tp fa fp : Int} {bs : Array UInt8} {ps : List Int} {t1 t2 t3 t4 t5 : Tok} (m1 : (us, instObj 445 ud) ∈ news) (m2 : (ud, uo) ∈ news) (hu : UsObj w.params pi ti sd g uo) (ht : TblIn prog w xs ti news) (hn : (xs.map (·.num)).Nodup)
    (m3 : (rw_, ro) ∈ news) (hd : ro.IsDictOf (intKind prog w) (kvsBy (fun x => .ref x.lD) xs)) (lo : (rw_ == sysModules) = false) (hT : (T, tupObj [.int fa t3, .int fp t4]) ∈ news)
    (hl : ∀ x ∈ xs, LawLed prog w x.adr x.port x.far x.q x.err x.lD x.ll) (hs : ∀ x ∈ xs, ∀ q ∈ x.ll, q ∈ news) (hTx : ∀ x ∈ xs, ∀ q ∈ x.ll, q.1 ≠ T)
    (hk : KBw.bInts bs = ps) (hb : ps.length ≤ 3) (hps : ∀ c ∈ ps, 0 ≤ c ∧ c < 256) (s0 : 0 ≤ fa) (s1 : fa ≤ 200) (q0 : 0 ≤ b) (q1 : b ≤ 200) (a0 : 0 ≤ fp) (a1 : fp < 65536) (b0 : 0 ≤ tp) (b1 : tp < 65536)
    (hpk : (pickAll b tp (fa, fp) xs).2 = none) :
    Spec prog w 494 25 [.ref us, .ref rw_, .int b t1, .int tp t2, .ref T, .bytes bs t5] news (R0 (.bool true) (news)) := by
  intro pp loose mean mg mb dp un gd cn cs a' ccd cl outer A₀ base h₀ L m hh gs dr tk oz Q E B F X N TT hkk hdp hu' hret
  have hu2 := hu
  obtain ⟨y1, y2, y3, y4, y5, y6, y7, y8, e⟩ := hu
  subst e
  refine wpAny_call ?_
  k_dflt ktr_enter
  k_steps
  refine Halt.go ?_
  refine Spec.uq1 (target_spec m3 hd lo hT hn hl hs hTx) (ret := ?_)
  rintro r' h' tk' hr F2 N2
  rw [hpk] at hr
  cases hr
  try dsimp only
  k_steps
  refine Halt.go ?_
  refine Spec.ur0 (input_none_spec m1 m2 hu2 ht hn (by assumption) hb hps s0 s1 q0 q1 a0 a1 b0 b1 hpk) (hs := by k_extra "l_sub") (ret := ?_)
  rintro h' tk' F3 N3
  try dsimp only
  k_steps
  exact hret _ _ _ _ .mk (by k_asm) (by k_asm)
theorem came_some_spec {x : Sk} {b tp fa fp : Int} {bs : Array UInt8} {ps : List Int} {t1 t2 t3 t4 t5 : Tok} (hx : x ∈ xs) (hsk : SockLed w.params x.adr x.port x.far x.q x.err x.sI x.sl) (hq : x.q.length ≤ 2) (D : ((x.ll ++ (x.sl ++ rest)).map (·.1)).Nodup)
    (m1 : (us, instObj 445 ud) ∈ rest) (m2 : (ud, uo) ∈ rest) (hu : UsObj w.params pi ti sd g uo) (m4 : (sd, so) ∈ rest) (hds : so.IsDictOf (intKind prog w) (kvsBy (fun x => .ref x.sI) xs)) (los : (sd == sysModules) = false) (ht : TblIn prog w xs ti rest) (hn : (xs.map (·.num)).Nodup)
    (m3 : (rw_, ro) ∈ rest) (hd : ro.IsDictOf (intKind prog w) (kvsBy (fun x => .ref x.lD) xs)) (lo : (rw_ == sysModules) = false) (hT : (T, tupObj [.int fa t3, .int fp t4]) ∈ rest)
    (hl : ∀ x ∈ xs, LawLed prog w x.adr x.port x.far x.q x.err x.lD x.ll) (hs : ∀ y ∈ xs, ∀ q ∈ y.ll, q ∈ x.ll ++ (x.sl ++ rest)) (hTx : ∀ x ∈ xs, ∀ q ∈ x.ll, q.1 ≠ T)
    (hk : KBw.bInts bs = ps) (hb : ps.length ≤ 3) (hps : ∀ c ∈ ps, 0 ≤ c ∧ c < 256) (s0 : 0 ≤ fa) (s1 : fa ≤ 200) (q0 : 0 ≤ b) (q1 : b ≤ 200) (a0 : 0 ≤ fp) (a1 : fp < 65536) (b0 : 0 ≤ tp) (b1 : tp < 65536)
    (hpk : (pickAll b tp (fa, fp) xs).2 = some x.num) :
    Spec prog w 494 25 [.ref us, .ref rw_, .int b t1, .int tp t2, .ref T, .bytes bs t5] (x.ll ++ (x.sl ++ rest)) (Q2 (fun ll sl => .bool true) (fun ll sl => ll ++ (sl ++ rest)) (fun ll sl => An3 (SockLed w.params x.adr x.port x.far (if x.q.length < 2 then x.q ++ [(ps, fa, fp)] else x.q) x.err x.sI sl) (LawLed prog w x.adr x.port x.far (if x.q.length < 2 then x.q ++ [(ps, fa, fp)] else x.q) x.err x.lD ll) (((ll ++ (sl ++ rest)).map (·.1)).Nodup))) := by
  intro pp loose mean mg mb dp un gd cn cs a' ccd cl outer A₀ base h₀ L m hh gs dr tk oz Q E B F X N TT hkk hdp hu' hret
  have hu2 := hu
  obtain ⟨y1, y2, y3, y4, y5, y6, y7, y8, e⟩ := hu
  subst e
  refine wpAny_call ?_
  k_dflt ktr_enter
  k_steps
  refine Halt.go ?_
  refine Spec.uq1 (target_spec (by k_mem) hd lo (by k_mem) hn hl hs hTx) (ret := ?_)
  rintro r' h' tk' hr F2 N2
  rw [hpk] at hr
  cases hr
  try dsimp only
  k_steps
  refine Halt.go ?_
  have D1 : ((x.sl ++ (x.ll ++ rest)).map (·.1)).Nodup := by exact Tr.nd [] [] [_,_,_] (.a (.s 0) (.a (.s 1) (.s 2))) (.a (.s 1) (.a (.s 0) (.s 2))) rfl D
  have ht1 : TblIn prog w xs ti (x.ll ++ rest) := by
    obtain ⟨td, kt, n, tr, o, i1, i2, i3, i4, i5, i6, i7⟩ := ht
    exact ⟨td, kt, n, tr, o, sub_right ro_sub _ i1, sub_right ro_sub _ i2, sub_right ro_sub _ i3, i4, i5, i6, fun x hx => sub_right (i7 x hx)⟩
  refine Spec.uq2 (input_some_spec hx hsk hq D1 (by k_mem) (by k_mem) hu2 (by k_mem) hds los ht1 hn (by assumption) hb hps s0 s1 q0 q1 a0 a1 b0 b1 hpk) (hs := by exact Tr.sb [] [] [_,_,_] (.a (.s 0) (.a (.s 1) (.s 2))) (.a (.s 1) (.a (.s 0) (.s 2))) rfl) (ret := ?_)
  rintro t' l' h' tk' ⟨hsk', D2⟩ F3 N3
  obtain ⟨lo_, vf, ve, qD, vs, cap, lf, le, lq, e, ⟨u1, u2, i3⟩, i4, f1, f2, f3⟩ := hl x hx
  have hv := valueAt_kvs (f := fun x => .ref x.lD) hn hx
  have hlen := f3.length
  replace N3 : News _ _ _ ((x.lD, lo_) :: (qD, W.listOf vs.toArray cap) :: (lf ++ le ++ lq ++ (l' ++ rest))) := cb_drop N3 (by rw [e]; exact Tr.sb [_,_] [_,_] [_,_,_,_,_] (.a (.s 0) (.a (.c 0 0 (.c 1 1 (.a (.a (.s 1) (.s 2)) (.s 3)))) (.s 4))) (.c 0 0 (.c 1 1 (.a (.a (.a (.s 1) (.s 2)) (.s 3)) (.a (.s 0) (.s 4))))) rfl)
  have D3 : (((x.lD, lo_) :: (qD, W.listOf vs.toArray cap) :: (lf ++ le ++ lq ++ (l' ++ rest))).map (·.1)).Nodup := by
    rw [e] at D2
    exact Tr.nd [_,_] [_,_] [_,_,_,_,_] (.a (.s 0) (.a (.c 0 0 (.c 1 1 (.a (.a (.s 1) (.s 2)) (.s 3)))) (.s 4))) (.c 0 0 (.c 1 1 (.a (.a (.a (.s 1) (.s 2)) (.s 3)) (.a (.s 0) (.s 4))))) rfl D2
  obtain ⟨d1, r1, r2⟩ := nd2 D3
  try dsimp only
  k_steps
  · exfalso; omega
  · rw [if_pos (show x.q.length < 2 by omega)] at hsk' hret
    obtain ⟨N4, D4⟩ := law_snoc (by k_asm) D3 (by assumption)
    exact hret _ _ _ _ (.mk _ _ ⟨hsk', ⟨_,_,_,_,_,_,_,_,_, rfl, ⟨_,_, i3⟩, i4, f1, f2, f3.snoc (by assumption) rfl⟩, D4⟩) (by k_asm) N4
  · rw [if_neg (show ¬ x.q.length < 2 by omega)] at hsk' hret
    refine hret _ _ _ _ (.mk _ _ ⟨hsk', ⟨_,_,_,_,_,_,_,_,_, rfl, ⟨_,_, i3⟩, i4, f1, f2, f3⟩, ?_⟩) (by k_asm) (cb_drop (by k_asm) (by k_extra "l_memx"))
    exact Tr.nd [_,_] [_,_] [_,_,_,_,_] (.c 0 0 (.c 1 1 (.a (.a (.a (.s 0) (.s 1)) (.s 2)) (.a (.s 3) (.s 4))))) (.a (.c 0 0 (.c 1 1 (.a (.a (.s 0) (.s 1)) (.s 2)))) (.a (.s 3) (.s 4))) rfl D3
end

section
open SeqAt
variable {prog : Program} {w : World} {A : Around} {E : Value → Shared → Prop} {s : Shared} {l T T2 : Addr} {Q : Value → Shared → Prop}
theorem bInts_inj {b c : Array UInt8} (h : KBw.bInts b = KBw.bInts c) : b = c := by
  have e : b.toList = c.toList := by
    unfold KBw.bInts at h
    refine List.map_inj_right (f := fun (x : UInt8) => (x.toNat : Int)) ?_ |>.mp h
    intro x y hxy
    exact UInt8.toNat_inj.mp (by exact_mod_cast hxy)
  cases b; cases c; simpa using e
theorem eqAt_bytes {b c : Array UInt8} {t u : Tok} (h : b = c) : EqAt A s (.bytes b t) (.bytes c u) true := fun prog w E Q hq => eqBool_bytes (by rw [h]; simpa using hq)
theorem eqAt_int {a b : Int} {t u : Tok} (h : a = b) : EqAt A s (.int a t) (.int b u) true := by
  have := EqAt.int_int (A := A) (s := s) a t b u
  rwa [beq_iff_eq.mpr h] at this
theorem eq_trip {v1 v2 v3 u1 u2 u3 : Value} (hT : s.heap.IsTuple T #[v1, v2, v3]) (hT2 : s.heap.IsTuple T2 #[u1, u2, u3]) (hu : A.units < cLine) (h1 : EqAt A.in1 s v1 u1 true) (h2 : EqAt A.in1 s v2 u2 true) (h3 : EqAt A.in1 s v3 u3 true) (h : Q (.bool true) s) :
    wpAny (model prog w) A (compareOp .Eq (.ref T) (.ref T2)) Q E s := by
  refine eq_tupleAt (e := fun _ => true) hT hT2 hu (fun j q1 q2 => ?_) (by exact h)
  have : j = 0 ∨ j = 1 ∨ j = 2 := by simp at q1; omega
  rcases this with rfl | rfl | rfl
  · exact h1
  · exact h2
  · exact h3
end
theorem reg54 : True := by
  (k_with "call ref" => with_reducible (first | refine Halt.call (a := 421) ?_ | refine Halt.call (a := 428) ?_))
  trivial
theorem EqHalt.at {M : Model} {A : Around} {a b : Addr} {Q E : Value → Shared → Prop} {s : Shared} (h : Halt (wpAny M A (compareOp .Eq (.ref a) (.ref b)) Q E s)) : wpAny M A (compareOp .Eq (.ref a) (.ref b)) Q E s := h
theorem reg55 : True := by
  (k_with "compareOp Eq ref ref" => with_reducible refine EqHalt.at ?_)
  trivial
section
variable {prog : Program} {w : World} {us ud pi ti sd rw_ T : Addr} {uo so ro : Obj} {news rest : Led} {xs : List Sk} {g : Int}
theorem read_spec {x : Sk} {t1 : Tok} (hx : x ∈ xs) (hsk : SockLed w.params x.adr x.port x.far x.q x.err x.sI x.sl) (hq : x.q.length ≤ 2) (D : ((x.ll ++ (x.sl ++ rest)).map (·.1)).Nodup)
    (m1 : (us, instObj 445 ud) ∈ rest) (m2 : (ud, uo) ∈ rest) (hu : UsObj w.params pi ti sd g uo) (m4 : (sd, so) ∈ rest) (hds : so.IsDictOf (intKind prog w) (kvsBy (fun x => .ref x.sI) xs)) (los : (sd == sysModules) = false) (hn : (xs.map (·.num)).Nodup)
    (hlx : LawLed prog w x.adr x.port x.far x.q x.err x.lD x.ll) :
    Spec prog w 501 15 [.ref us, .ref x.lD, .int x.num t1] (x.ll ++ (x.sl ++ rest)) (Q2 (fun ll sl => .bool true) (fun ll sl => ll ++ (sl ++ rest)) (fun ll sl => An3 (SockLed w.params x.adr x.port x.far (x.q.drop 1) x.err x.sI sl) (LawLed prog w x.adr x.port x.far (x.q.drop 1) x.err x.lD ll) (((ll ++ (sl ++ rest)).map (·.1)).Nodup))) := by
  intro pp loose mean mg mb dp un gd cn cs a' ccd cl outer A₀ base h₀ L m hh gs dr tk oz Q E B F X N TT hkk hdp hu' hret
  have hu2 := hu
  obtain ⟨y1, y2, y3, y4, y5, y6, y7, y8, e⟩ := hu
  subst e
  have hv := valueAt_kvs (f := fun x => .ref x.sI) hn hx
  obtain ⟨lo_, vf, ve, qD, vs, cap, lf, le, lq, e, ⟨u1, u2, i3⟩, i4, f1, f2, f3⟩ := hlx
  rw [e] at N D
  clear e
  generalize x.q = q0 at *
  cases f3 with
  | nil =>
    dsimp only [List.cons_append] at N D
    obtain ⟨d1, r1, r2⟩ := nd2 D
    refine wpAny_call ?_
    k_dflt ktr_enter
    k_steps
    refine Halt.go ?_
    have D1 : ((x.sl ++ ((x.lD, lo_) :: (qD, W.listOf #[] cap) :: (lf ++ le ++ [] ++ rest))).map (·.1)).Nodup := by exact Tr.nd [_,_] [_,_] [_,_,_,_] (.c 0 0 (.c 1 1 (.a (.a (.a (.s 0) (.s 1)) .n) (.a (.s 2) (.s 3))))) (.a (.s 2) (.c 0 0 (.c 1 1 (.a (.a (.a (.s 0) (.s 1)) .n) (.s 3))))) rfl D
    refine Spec.uq4 (receive_spec hsk hq D1 (by k_mem) (by k_mem) hu2 (by k_mem) hds los hv) (hs := by exact Tr.sb [_,_,_] [_,_,_] [_,_,_,_] (.c 0 0 (.c 1 1 (.c 2 2 (.a (.a (.a (.s 0) (.s 1)) .n) (.a (.s 2) (.s 3)))))) (.a (.s 2) (.c 1 1 (.c 2 2 (.a (.a (.a (.s 0) (.s 1)) .n) (.s 3))))) rfl) (ret := ?_)
    rintro r' l' vr lr h' tk' ⟨g1, g2, hsk', D2⟩ F3 N3
    cases g1
    obtain rfl : r' = .none := by
      rcases g2 with ⟨_, e⟩ | e
      · exact e
      · cases e
    try dsimp only
    k_steps
    refine Halt.go ?_
    refine Spec.ur1 (waiting_spec (news := [] ++ (l' ++ ((x.lD, lo_) :: (qD, W.listOf #[] cap) :: (lf ++ le ++ [] ++ rest)))) (by k_mem) (by k_mem) hu2 (by k_mem) hds los hv hsk' (sub_right (sub_left ro_sub)) (by simp)) (hs := by exact Tr.sb [_,_] [_,_] [_,_,_,_] (.a .n (.a (.s 0) (.c 0 0 (.c 1 1 (.a (.a (.a (.s 1) (.s 2)) .n) (.s 3)))))) (.a .n (.a (.s 0) (.c 0 0 (.c 1 1 (.a (.a (.a (.s 1) (.s 2)) .n) (.s 3)))))) rfl) (ret := ?_)
    rintro t3 h' tk' F4 N4
    try dsimp only
    k_steps
    refine hret _ _ _ _ (.mk _ _ ⟨hsk', ⟨_,_,_,_,_,_,_,_,_, rfl, ⟨_,_, i3⟩, i4, f1, f2, .nil⟩, ?_⟩) (by k_asm) (cb_drop (by k_asm) (by k_extra "l_memx"))
    exact Tr.nd [_,_] [_,_] [_,_,_,_] (.a .n (.a (.s 0) (.c 0 0 (.c 1 1 (.a (.a (.a (.s 1) (.s 2)) .n) (.s 3)))))) (.a (.c 0 0 (.c 1 1 (.a (.a (.s 1) (.s 2)) .n))) (.a (.s 0) (.s 3))) rfl D2
  | @cons ps1 a1 p1 b1 T1 c1 c2 c3 q1 vs1 l1 hb1 f4 =>
    cases f4 with
    | nil =>
      dsimp only [List.cons_append] at N D
      obtain ⟨d1, r1, r2⟩ := nd2 D
      refine wpAny_call ?_
      k_dflt ktr_enter
      k_steps
      refine Halt.go ?_
      have D1 : ((x.sl ++ ((x.lD, lo_) :: (qD, W.listOf #[] (cap + 1)) :: (lf ++ le ++ [(T1, tupObj [.bytes b1 c1, .int a1 c2, .int p1 c3])] ++ rest))).map (·.1)).Nodup := by exact Tr.nd [_,_,_] [_,_,_,_] [_,_,_,_] (.c 0 0 (.c 1 1 (.a (.a (.a (.s 0) (.s 1)) (.c 2 2 .n)) (.a (.s 2) (.s 3))))) (.a (.s 2) (.c 0 0 (.c 1 3 (.a (.a (.a (.s 0) (.s 1)) (.c 2 2 .n)) (.s 3))))) rfl D
      refine Spec.uq4 (receive_spec hsk hq D1 (by k_mem) (by k_mem) hu2 (by k_mem) hds los hv) (hs := by exact Tr.sb [_,_,_,_] [_,_,_,_] [_,_,_,_] (.c 0 0 (.c 1 1 (.c 2 2 (.a (.a (.a (.s 0) (.s 1)) (.c 3 3 .n)) (.a (.s 2) (.s 3)))))) (.a (.s 2) (.c 1 1 (.c 2 2 (.a (.a (.a (.s 0) (.s 1)) (.c 3 3 .n)) (.s 3))))) rfl) (ret := ?_)
      rintro r' l' vr lr h' tk' ⟨g1, g2, hsk', D2⟩ F3 N3
      cases g1 with
      | @cons _ _ _ b3 T3 d1_ d2_ d3_ _ _ _ hb3 g3 =>
      cases g3
      obtain rfl : r' = .ref T3 := by
        rcases g2 with ⟨e, _⟩ | e
        · cases e
        · simpa using e.symm
      try dsimp only
      k_steps
      refine Halt.go ?_
      refine eq_trip (News.isTup (by k_asm) (by k_mem)) (News.isTup (by k_asm) (by k_mem)) (by k_units) (eqAt_bytes (bInts_inj (hb3.trans hb1.symm))) (eqAt_int rfl) (eqAt_int rfl) ?_
      try dsimp only
      k_steps
      refine Halt.go ?_
      refine Spec.ur1 (waiting_spec (news := [(T3, tupObj [.bytes b3 d1_, .int a1 d2_, .int p1 d3_])] ++ (l' ++ ((x.lD, lo_) :: (qD, W.listOf #[] (cap + 1)) :: (lf ++ le ++ [(T1, tupObj [.bytes b1 c1, .int a1 c2, .int p1 c3])] ++ rest)))) (by k_mem) (by k_mem) hu2 (by k_mem) hds los hv hsk' (sub_right (sub_left ro_sub)) (by simp)) (hs := by exact Tr.sb [_,_,_,_] [_,_,_,_] [_,_,_,_] (.a (.c 0 0 .n) (.a (.s 0) (.c 1 1 (.c 2 2 (.a (.a (.a (.s 1) (.s 2)) (.c 3 3 .n)) (.s 3)))))) (.a (.c 0 0 .n) (.a (.s 0) (.c 1 1 (.c 2 2 (.a (.a (.a (.s 1) (.s 2)) (.c 3 3 .n)) (.s 3)))))) rfl) (ret := ?_)
      rintro t3 h' tk' F4 N4
      try dsimp only
      k_steps
      refine hret _ _ _ _ (.mk _ _ ⟨hsk', ⟨_,_,_,_,_,_,_,_,_, rfl, ⟨_,_, i3⟩, i4, f1, f2, .nil⟩, ?_⟩) (by k_asm) (cb_drop (by k_asm) (by k_extra "l_memx"))
      exact Tr.nd [_,_,_,_] [_,_,_,_] [_,_,_,_] (.a (.c 0 0 .n) (.a (.s 0) (.c 1 1 (.c 2 2 (.a (.a (.a (.s 1) (.s 2)) (.c 3 3 .n)) (.s 3)))))) (.a (.c 1 1 (.c 2 2 (.a (.a (.s 1) (.s 2)) .n))) (.a (.s 0) (.s 3))) rfl D2
    | @cons ps2 a2 p2 b2 T2 c4 c5 c6 q2 vs2 l2 hb2 f5 =>
      cases f5 with
      | nil =>
        dsimp only [List.cons_append] at N D
        obtain ⟨d1, r1, r2⟩ := nd2 D
        refine wpAny_call ?_
        k_dflt ktr_enter
        k_steps
        refine Halt.go ?_
        have D1 : ((x.sl ++ ((x.lD, lo_) :: (qD, W.listOf #[.ref T2] (cap + 1)) :: (lf ++ le ++ [(T1, tupObj [.bytes b1 c1, .int a1 c2, .int p1 c3]), (T2, tupObj [.bytes b2 c4, .int a2 c5, .int p2 c6])] ++ rest))).map (·.1)).Nodup := by exact Tr.nd [_,_,_,_] [_,_,_,_,_] [_,_,_,_] (.c 0 0 (.c 1 1 (.a (.a (.a (.s 0) (.s 1)) (.c 2 2 (.c 3 3 .n))) (.a (.s 2) (.s 3))))) (.a (.s 2) (.c 0 0 (.c 1 4 (.a (.a (.a (.s 0) (.s 1)) (.c 2 2 (.c 3 3 .n))) (.s 3))))) rfl D
        refine Spec.uq4 (receive_spec hsk hq D1 (by k_mem) (by k_mem) hu2 (by k_mem) hds los hv) (hs := by exact Tr.sb [_,_,_,_,_] [_,_,_,_,_] [_,_,_,_] (.c 0 0 (.c 1 1 (.c 2 2 (.a (.a (.a (.s 0) (.s 1)) (.c 3 3 (.c 4 4 .n))) (.a (.s 2) (.s 3)))))) (.a (.s 2) (.c 1 1 (.c 2 2 (.a (.a (.a (.s 0) (.s 1)) (.c 3 3 (.c 4 4 .n))) (.s 3))))) rfl) (ret := ?_)
        rintro r' l' vr lr h' tk' ⟨g1, g2, hsk', D2⟩ F3 N3
        cases g1 with
        | @cons _ _ _ b3 T3 d1_ d2_ d3_ _ _ _ hb3 g3 =>
        cases g3
        obtain rfl : r' = .ref T3 := by
          rcases g2 with ⟨e, _⟩ | e
          · cases e
          · simpa using e.symm
        try dsimp only
        k_steps
        refine Halt.go ?_
        refine eq_trip (News.isTup (by k_asm) (by k_mem)) (News.isTup (by k_asm) (by k_mem)) (by k_units) (eqAt_bytes (bInts_inj (hb3.trans hb1.symm))) (eqAt_int rfl) (eqAt_int rfl) ?_
        try dsimp only
        k_steps
        refine Halt.go ?_
        refine Spec.ur1 (waiting_spec (news := [(T3, tupObj [.bytes b3 d1_, .int a1 d2_, .int p1 d3_])] ++ (l' ++ ((x.lD, lo_) :: (qD, W.listOf #[.ref T2] (cap + 1)) :: (lf ++ le ++ [(T1, tupObj [.bytes b1 c1, .int a1 c2, .int p1 c3]), (T2, tupObj [.bytes b2 c4, .int a2 c5, .int p2 c6])] ++ rest)))) (by k_mem) (by k_mem) hu2 (by k_mem) hds los hv hsk' (sub_right (sub_left ro_sub)) (by simp)) (hs := by exact Tr.sb [_,_,_,_,_] [_,_,_,_,_] [_,_,_,_] (.a (.c 0 0 .n) (.a (.s 0) (.c 1 1 (.c 2 2 (.a (.a (.a (.s 1) (.s 2)) (.c 3 3 (.c 4 4 .n))) (.s 3)))))) (.a (.c 0 0 .n) (.a (.s 0) (.c 1 1 (.c 2 2 (.a (.a (.a (.s 1) (.s 2)) (.c 3 3 (.c 4 4 .n))) (.s 3)))))) rfl) (ret := ?_)
        rintro t3 h' tk' F4 N4
        try dsimp only
        k_steps
        refine hret _ _ _ _ (.mk _ _ ⟨hsk', ⟨_,_,_,_,_,_,_,_,_, rfl, ⟨_,_, i3⟩, i4, f1, f2, .cons hb2 .nil⟩, ?_⟩) (by k_asm) (cb_drop (by k_asm) (by k_extra "l_memx"))
        exact Tr.nd [_,_,_,_,_] [_,_,_,_,_] [_,_,_,_] (.a (.c 0 0 .n) (.a (.s 0) (.c 1 1 (.c 2 2 (.a (.a (.a (.s 1) (.s 2)) (.c 3 3 (.c 4 4 .n))) (.s 3)))))) (.a (.c 1 1 (.c 2 2 (.a (.a (.s 1) (.s 2)) (.c 4 4 .n)))) (.a (.s 0) (.s 3))) rfl D2
      | cons hb3 f6 => simp at hq
end

theorem reg56 : True := by
  (k_with "call ref" => with_reducible (first | refine Halt.call (a := 407) ?_ | refine Halt.call (a := 226) ?_))
  trivial
section
variable {prog : Program} {w : World} {us ud pi ti sd rw_ T : Addr} {uo so ro : Obj} {news rest : Led} {xs : List Sk} {g : Int}
theorem sent_spec {x : Sk} {fa fp : Int} {bs : Array UInt8} {ps : List Int} {t1 t3 t4 t5 : Tok} (hx : x ∈ xs) (hsk : SockLed w.params x.adr x.port x.far x.q x.err x.sI x.sl) (hs1 : ∀ q ∈ x.sl, q ∈ news)
    (m1 : (us, instObj 445 ud) ∈ news) (m2 : (ud, uo) ∈ news) (hu : UsObj w.params pi ti sd g uo) (m4 : (sd, so) ∈ news) (hds : so.IsDictOf (intKind prog w) (kvsBy (fun x => .ref x.sI) xs)) (los : (sd == sysModules) = false) (hn : (xs.map (·.num)).Nodup)
    (hlx : LawLed prog w x.adr x.port x.far x.q x.err x.lD x.ll) (hs2 : ∀ q ∈ x.ll, q ∈ news) (hT : (T, tupObj [.int fa t3, .int fp t4]) ∈ news)
    (hk : KBw.bInts bs = ps) (hb : ps.length ≤ 3) (hps : ∀ c ∈ ps, 0 ≤ c ∧ c < 256) (s0 : 0 ≤ fa) (s1 : fa ≤ 200) (a0 : 0 ≤ fp) (a1 : fp < 65536) (b0 : 0 ≤ x.port) (b1 : x.port < 65536) :
    Spec prog w 508 30 [.ref us, .ref x.lD, .int x.num t1, .ref T, .bytes bs t5] news (R0 (.bool true) (news)) := by
  intro pp loose mean mg mb dp un gd cn cs a' ccd cl outer A₀ base h₀ L m hh gs dr tk oz Q E B F X N TT hkk hdp hu' hret
  have hu2 := hu
  obtain ⟨y1, y2, y3, y4, y5, y6, y7, y8, e⟩ := hu
  subst e
  have hv := valueAt_kvs (f := fun x => .ref x.sI) hn hx
  obtain ⟨lo_, vf, ve, qD, vs, cap, i1, i2, ⟨u1, u2, i3⟩, i4, i5⟩ := hlx.mem
  replace i1 := hs2 _ i1
  obtain ⟨w1, w2, w3, w4, w5, w6⟩ := dgram_ok (s := 11) (t := fa) (sp := x.port) (tp := fp) hb hps (by omega) s0 b0 b1 a0 a1
  refine wpAny_call ?_
  k_dflt ktr_enter
  k_steps
  refine Halt.go ?_
  refine Spec.uq2 (send_to_spec m1 m2 hu2 m4 hds los hv hsk hs1 hk hb (by omega) (by omega) s0 s1 b0 b1 a0 a1) (ret := ?_)
  rintro b' t' h' tk' hk' F2 N2
  generalize dgram 11 fa x.port fp ps = ks at *
  try dsimp only
  k_steps
  refine Halt.go ?_
  refine Spec.uq5 (unpack_spec hk' (by omega) (by omega) (by omega) (by omega) s0 s1 (by omega) w6) (ret := ?_)
  rintro T' b2 c1 c2 c3 h' tk' ⟨hk2, lt⟩ F3 N3
  k_lt lt
  try dsimp only
  k_steps
  refine Halt.go ?_
  refine eq_trip (News.isTup (by k_asm) (by k_mem)) (News.isTup (by k_asm) (by k_mem)) (by k_units) (eqAt_int w2) (eqAt_int w3) (eqAt_bytes (bInts_inj (hk2.trans (w5.trans hk.symm)))) ?_
  try dsimp only
  k_steps
  exact hret _ _ _ _ .mk (by k_asm) (cb_drop (by k_asm) (by k_extra "l_sub"))
end

theorem reg57 : True := by
  (k_with "call ref" => with_reducible (first | refine Halt.call (a := 435) ?_ | refine Halt.call (a := 219) ?_))
  trivial
theorem eq_pairs {prog : Program} {w : World} {A : Around} {E : Value → Shared → Prop} {s : Shared} {T T2 : Addr} {Q : Value → Shared → Prop} {a b c d : Int} {t1 t2 t3 t4 : Tok} (hT : s.heap.IsTuple T #[.int a t1, .int b t2]) (hT2 : s.heap.IsTuple T2 #[.int c t3, .int d t4]) (hu : A.units < cLine) (h : Q (.bool (a == c && b == d)) s) :
    wpAny (model prog w) A (compareOp .Eq (.ref T) (.ref T2)) Q E s := by
  refine SeqAt.eq_tupleAt (e := fun j => if j = 0 then a == c else b == d) hT hT2 hu (fun j h1 h2 => ?_) ?_
  · have : j = 0 ∨ j = 1 := by simp at h1; omega
    rcases this with rfl | rfl
    · exact SeqAt.EqAt.int_int _ _ _ _
    · exact SeqAt.EqAt.int_int _ _ _ _
  · have e : ((List.range (min (#[Value.int a t1, .int b t2]).size (#[Value.int c t3, .int d t4]).size)).all (fun j => if j = 0 then a == c else b == d) && (#[Value.int a t1, .int b t2]).size == (#[Value.int c t3, .int d t4]).size) = (a == c && b == d) := by
      simp [List.range, List.range.loop]
    rw [e]
    exact h
inductive ErrJ (prog : Program) (w : World) (na : Str) (xs : List Sk) (x : Sk) (f : Int × Int) (rest : Led) (m₀ : Str → Option Value) (i : Nat) (m : Str → Option Value) (l : Led) : Prop
  | mk (lx : Led) (ex : Option (Int × Int)) (e1 : LawLed prog w x.adr x.port x.far x.q ex x.lD lx) (e2 : l = lx ++ rest) (e3 : ((lx ++ rest).map (·.1)).Nodup)
    (e4 : ex = x.err ∨ ex = if x.far = some f then some (3, 3) else x.err) (e5 : x ∈ xs.take i → ex = if x.far = some f then some (3, 3) else x.err) (e6 : ∀ y, y ≠ na → m y = m₀ y)
theorem frame1 {a : Str} {m m₀ : Str → Option Value} (h : ∀ y, y ≠ a → m y = m₀ y) : m = fun y => if y = a then m a else m₀ y := by
  funext y
  by_cases ha : y = a
  · subst ha; simp
  · simp [ha, h y ha]
theorem err_move {h₀ h : Heap} {L I rd : Addr} {ro : Obj} {a b : Addr × Obj} {A rest own : Led} (N : News h₀ L h (own ++ ((a :: b :: A) ++ rest))) (D : (((a :: b :: A) ++ rest).map (·.1)).Nodup)
    (hrd : (rd, ro) ∈ rest) (ho : ∀ p ∈ own, p.1 = I ∨ p.1 = rd) (hnI : ∀ p ∈ (a :: b :: A) ++ rest, p.1 ≠ I) :
    News h₀ L h (a :: b :: (A ++ rest ++ own)) ∧ @Ne Nat b.1 a.1 ∧ ∀ p ∈ A ++ rest ++ own, p.1 ≠ a.1 := by
  have D2 : (((a.1, a.2) :: (b.1, b.2) :: (A ++ rest)).map (·.1)).Nodup := by exact Tr.nd [_,_] [_,_] [_,_] (.a (.c 0 0 (.c 1 1 (.s 0))) (.s 1)) (.c 0 0 (.c 1 1 (.a (.s 0) (.s 1)))) rfl D
  obtain ⟨e1, z1, z2⟩ := nd2 D2
  refine ⟨cb_drop N (by exact Tr.sb [_,_] [_,_] [_,_,_] (.a (.s 0) (.a (.c 0 0 (.c 1 1 (.s 1))) (.s 2))) (.c 0 0 (.c 1 1 (.a (.a (.s 1) (.s 2)) (.s 0)))) rfl), fun q => e1 q.symm, fun p hp => ?_⟩
  rcases List.mem_append.mp hp with hp | hp
  · exact z1 p hp
  · rcases ho p hp with e | e
    · rw [e]; exact fun q => hnI a (by simp) q.symm
    · rw [e]; exact z1 (rd, ro) (List.mem_append_right _ hrd)
theorem err_close {h₀ h' : Heap} {L I lD qD T : Addr} {oi oI oQ oI1 oQ1 oI2 oQ2 tup : Obj} {lf le lq rest own : Led}
    (N : News h₀ L h' ((T, tup) :: (lD, oI) :: (qD, oQ) :: (lf ++ le ++ lq ++ rest ++ own)))
    (hlt : ∀ p ∈ (lD, oI2) :: (qD, oQ2) :: (lf ++ le ++ lq ++ rest ++ own), p.1 < T)
    (D : ((((lD, oI1) :: (qD, oQ1) :: (lf ++ le ++ lq)) ++ rest).map (·.1)).Nodup) (hoI : (I, oi) ∈ own) (hnI : ∀ p ∈ ((lD, oI1) :: (qD, oQ1) :: (lf ++ le ++ lq)) ++ rest, p.1 ≠ I) :
    (∀ p ∈ own ++ (((lD, oI) :: (qD, oQ) :: (lf ++ [(T, tup)] ++ lq)) ++ rest), p ∈ (T, tup) :: (lD, oI) :: (qD, oQ) :: (lf ++ le ++ lq ++ rest ++ own)) ∧
    ((((lD, oI) :: (qD, oQ) :: (lf ++ [(T, tup)] ++ lq)) ++ rest).map (·.1)).Nodup ∧ ∀ p ∈ ((lD, oI) :: (qD, oQ) :: (lf ++ [(T, tup)] ++ lq)) ++ rest, p.1 ≠ I := by
  have hI : @LT.lt Nat _ I T := hlt (I, oi) (by simp [hoI])
  have hlt2 : ∀ p ∈ (lD, oI2) :: (qD, oQ2) :: (lf ++ le ++ lq ++ rest), p.1 < T := fun p hp => hlt p (by
    have h3 : ∀ p ∈ (lD, oI2) :: (qD, oQ2) :: (lf ++ le ++ lq ++ rest), p ∈ (lD, oI2) :: (qD, oQ2) :: (lf ++ le ++ lq ++ rest ++ own) := by exact Tr.sb [_,_] [_,_] [_,_,_,_,_] (.c 0 0 (.c 1 1 (.a (.a (.a (.a (.s 0) (.s 1)) (.s 2)) (.s 3)) (.s 4)))) (.c 0 0 (.c 1 1 (.a (.a (.a (.s 0) (.s 1)) (.s 2)) (.s 3)))) rfl
    exact h3 p hp)
  have D0 : (((lD, oI2) :: (qD, oQ2) :: (lf ++ le ++ lq ++ rest)).map (·.1)).Nodup := by exact Tr.nd [_,_] [_,_,_,_] [_,_,_,_] (.a (.c 0 0 (.c 1 1 (.a (.a (.s 0) (.s 1)) (.s 2)))) (.s 3)) (.c 0 2 (.c 1 3 (.a (.a (.a (.s 0) (.s 1)) (.s 2)) (.s 3)))) rfl D
  have D2 := (fresh1 (x := tup) hlt2).nodup D0
  refine ⟨by exact Tr.sb [_,_,_] [_,_,_] [_,_,_,_,_] (.c 0 0 (.c 1 1 (.c 2 2 (.a (.a (.a (.a (.s 0) (.s 1)) (.s 2)) (.s 3)) (.s 4))))) (.a (.s 4) (.a (.c 1 1 (.c 2 2 (.a (.a (.s 0) (.c 0 0 .n)) (.s 2)))) (.s 3))) rfl, by exact Tr.nd [_,_,_] [_,_,_,_,_] [_,_,_,_] (.a (.c 0 0 .n) (.c 1 1 (.c 2 2 (.a (.a (.a (.s 0) (.s 1)) (.s 2)) (.s 3))))) (.a (.c 1 3 (.c 2 4 (.a (.a (.s 0) (.c 0 0 .n)) (.s 2)))) (.s 3)) rfl D2, fun p hp => ?_⟩
  have h4 : ∀ a ∈ (((lD, oI) :: (qD, oQ) :: (lf ++ [(T, tup)] ++ lq)) ++ rest).map (·.1), a = T ∨ a ∈ (((lD, oI1) :: (qD, oQ1) :: (lf ++ le ++ lq)) ++ rest).map (·.1) := by
    intro a ha
    simp only [List.map_cons, List.map_append, List.mem_cons, List.mem_append, List.map_nil, List.not_mem_nil, or_false, List.cons_append] at ha ⊢
    rcases ha with h | h | ((h | h) | h) | h <;> simp [h]
  rcases h4 p.1 (List.mem_map_of_mem hp) with e | e
  · rw [e]; exact Nat.ne_of_gt hI
  · obtain ⟨q, hq, e'⟩ := List.mem_map.mp e
    rw [← e']; exact hnI q hq
section
variable {prog : Program} {w : World} {us ud pi ti sd rw_ T : Addr} {uo so ro : Obj} {news rest : Led} {xs : List Sk} {g : Int}
theorem erred_spec {x : Sk} {fa fp : Int} {t3 t4 : Tok} (hx : x ∈ xs) (hsk : ∀ y ∈ xs, SockLed w.params y.adr y.port y.far y.q y.err y.sI y.sl) (hly : ∀ y ∈ xs, y.num ≠ x.num → ∀ q ∈ y.sl, q ∈ rest) (D : ((x.ll ++ (x.sl ++ rest)).map (·.1)).Nodup)
    (m1 : (us, instObj 445 ud) ∈ rest) (m2 : (ud, uo) ∈ rest) (hu : UsObj w.params pi ti sd g uo) (m4 : (sd, so) ∈ rest) (hds : so.IsDictOf (intKind prog w) (kvsBy (fun x => .ref x.sI) xs)) (los : (sd == sysModules) = false) (hn : (xs.map (·.num)).Nodup) (hpn : ∀ y ∈ xs, y.num ≠ x.num → y.port ≠ x.port)
    (m3 : (rw_, ro) ∈ rest) (hd : ro.IsDictOf (intKind prog w) (kvsBy (fun x => .ref x.lD) xs)) (lo : (rw_ == sysModules) = false) (hT : (T, tupObj [.int fa t3, .int fp t4]) ∈ rest)
    (hl : ∀ x ∈ xs, LawLed prog w x.adr x.port x.far x.q x.err x.lD x.ll) (hlz : ∀ y ∈ xs, y.num ≠ x.num → ∀ q ∈ y.ll, q ∈ rest)
    (s0 : 0 ≤ fa) (s1 : fa ≤ 200) (a0 : 0 ≤ fp) (a1 : fp < 65536) (b0 : 0 ≤ x.port) (b1 : x.port < 65536) :
    Spec prog w 515 30 [.ref us, .ref rw_, .ref x.lD, .ref T] (x.ll ++ (x.sl ++ rest)) (Q2 (fun ll sl => .bool true) (fun ll sl => ll ++ (sl ++ rest)) (fun ll sl => An3 (SockLed w.params x.adr x.port x.far x.q (if x.far = some (fa, fp) then some (3, 3) else x.err) x.sI sl) (LawLed prog w x.adr x.port x.far x.q (if x.far = some (fa, fp) then some (3, 3) else x.err) x.lD ll) (((ll ++ (sl ++ rest)).map (·.1)).Nodup))) := by
  intro pp loose mean mg mb dp un gd cn cs a' ccd cl outer A₀ base h₀ L m hh gs dr tk oz Q E B F X N TT hkk hdp hu' hret
  have hu2 := hu
  obtain ⟨y1, y2, y3, y4, y5, y6, y7, y8, e⟩ := hu
  subst e
  obtain ⟨lo_, vf, ve, qD, vs, cap, i1, i2, ⟨u1, u2, i3⟩, i4, i5⟩ := (hl x hx).mem
  obtain ⟨w1, w2, w3, w4, w5, w6⟩ := dgram_ok (s := 11) (t := fa) (sp := x.port) (tp := fp) (ps := []) (by decide) (fun c h => absurd h List.not_mem_nil) (by omega) s0 b0 b1 a0 a1
  have i1' : (x.lD, lo_) ∈ x.ll ++ (x.sl ++ rest) := List.mem_append_left _ i1
  refine wpAny_call ?_
  k_dflt ktr_enter
  k_steps
  refine Halt.go ?_
  refine Spec.uq2 (pack_spec (ps := []) (by rfl) (by decide) (by omega) (by omega) s0 s1 b0 b1 a0 a1) (ret := ?_)
  rintro b' t' h' tk' hk' F2 N2
  have w1' : (dgram 11 fa x.port fp []).length = 8 := w1
  generalize dgram 11 fa x.port fp [] = ks at *
  try dsimp only
  k_steps
  refine Halt.go ?_
  have D1 : ((x.sl ++ (x.ll ++ rest)).map (·.1)).Nodup := by exact Tr.nd [] [] [_,_,_] (.a (.s 0) (.a (.s 1) (.s 2))) (.a (.s 1) (.a (.s 0) (.s 2))) rfl D
  refine Spec.uq1 (tell_hit_spec hx hsk (fun y hy q => sub_right (hly y hy q)) D1 (by k_mem) (by k_mem) hu2 (by k_mem) hds los hn hpn (by assumption) (by omega) (by omega) w2 w3) (hs := by exact Tr.sb [] [] [_,_,_] (.a (.s 0) (.a (.s 1) (.s 2))) (.a (.s 1) (.a (.s 0) (.s 2))) rfl) (ret := ?_)
  rintro l' h' tk' ⟨hsk', D2⟩ F3 N3
  replace N3 : News _ _ _ (x.ll ++ (l' ++ rest)) := cb_drop N3 (by exact Tr.sb [] [] [_,_,_] (.a (.s 0) (.a (.s 1) (.s 2))) (.a (.s 1) (.a (.s 0) (.s 2))) rfl)
  have D3 : ((x.ll ++ (l' ++ rest)).map (·.1)).Nodup := by exact Tr.nd [] [] [_,_,_] (.a (.s 0) (.a (.s 1) (.s 2))) (.a (.s 1) (.a (.s 0) (.s 2))) rfl D2
  try dsimp only
  k_steps
  refine Halt.go ?_
  (with_reducible rename News _ _ _ _ => NL)
  refine loop_vals (ErrJ prog w (Str.ofString "other") xs x (fa, fp) (l' ++ rest) _) rfl (by k_asm) (cb_drop NL (sub_cons ro_sub)) ⟨_, (NL _ (.head _)).1, rfl, rfl⟩ (by k_mem) (by k_asm) ⟨_,_, hl x hx, rfl, D3, .inl rfl, fun h => absurd h List.not_mem_nil, fun _ _ => rfl⟩ ?_ ?_
  · rintro I i k v m₁ news₁ h tk own hI hi ⟨lx, ex, hS, rfl, D4, h1, h2, hm⟩ ⟨ho, oI, hoI⟩ hnI F₁ N₁
    obtain ⟨y, hy, hym, rfl, rfl⟩ := kvs_at hi
    rw [frame1 hm] at F₁
    by_cases hc : y = x
    · subst hc
      obtain ⟨lo1, vf1, ve1, qD1, vs1, cap1, lf, le, lq, rfl, ⟨u3, u4, j3⟩, j4, f1, f2, f3⟩ := id hS
      obtain ⟨N2, d1, d2⟩ := err_move N₁ D4 (List.mem_append_right _ m3) ho hnI
      clear N₁
      try dsimp only at d1 d2
      have hT2 := List.mem_append_right l' hT
      generalize hfr : y.far = fr at f1
      cases f1 with
      | no =>
        k_steps
        · refine TurnEnd.intro (by k_asm) (by k_asm) ?_ hnI ⟨_, ex, hS, rfl, D4, h1, fun _ => ?_, fun z z1 => by simp only [if_neg z1]⟩
          · exact Tr.sb [_,_] [_,_] [_,_,_,_,_] (.c 0 0 (.c 1 1 (.a (.a (.a (.a .n (.s 0)) (.s 1)) (.a (.s 2) (.s 3))) (.s 4)))) (.a (.s 4) (.a (.c 0 0 (.c 1 1 (.a (.a .n (.s 0)) (.s 1)))) (.a (.s 2) (.s 3)))) rfl
          · rw [hfr] at h1 ⊢
            simpa using h1
        · exfalso; omega
      | @yes a2 p2 T2 _ _ =>
        k_steps
        · refine Halt.go ?_
          refine eq_pairs (News.isTup (by k_asm) (by k_mem)) (News.isTup (by k_asm) (by k_mem)) (by k_units) ?_
          try dsimp only
          k_steps
          · have hb := far_t ‹(_ && _) = true›
            have hfin : (if y.far = some (fa, fp) then some ((3 : Int), (3 : Int)) else y.err) = some (3, 3) := by
              rw [hfr, if_pos (by simp only [Option.some.injEq, Prod.mk.injEq]; omega)]
            obtain ⟨w7, w8, w9⟩ := err_close (by k_asm) (by assumption) D4 hoI hnI
            exact TurnEnd.intro (by k_asm) (by k_asm) w7 w9 ⟨_,_, ⟨_,_,_,_,_,_,_,_,_, rfl, ⟨_,_, by assumption⟩, j4, (by rw [hfr]; exact .yes), .yes, f3⟩, rfl, w8, .inr hfin.symm, fun _ => hfin.symm, fun z z1 => by simp only [if_neg z1]⟩
          · have hb := far_f ‹(_ && _) = false›
            refine TurnEnd.intro (by k_asm) (by k_asm) ?_ hnI ⟨_, ex, hS, rfl, D4, h1, fun _ => ?_, fun z z1 => by simp only [if_neg z1]⟩
            · exact Tr.sb [_,_,_] [_,_,_] [_,_,_,_,_] (.c 0 0 (.c 1 1 (.a (.a (.a (.a (.c 2 2 .n) (.s 0)) (.s 1)) (.a (.s 2) (.s 3))) (.s 4)))) (.a (.s 4) (.a (.c 0 0 (.c 1 1 (.a (.a (.c 2 2 .n) (.s 0)) (.s 1)))) (.a (.s 2) (.s 3)))) rfl
            · rw [hfr, if_neg (fun e => hb (by simp at e; omega))] at h1 ⊢
              simpa using h1
        · exfalso; omega
    · have hcn : y.num ≠ x.num := fun e => hc (num_inj hn hym hx e)
      have hpf : y.port ≠ x.port := fun e => hpn y hym hcn e
      have hlzy := hlz y hym hcn
      obtain ⟨lo1, vf1, ve1, qD1, vs1, cap1, j1, j2, ⟨u3, u4, j3⟩, j4, j5⟩ := (hl y hym).mem
      replace j1 := hlzy _ j1
      obtain ⟨lo2, vf2, ve2, qD2, vs2, cap2, z1, z2, ⟨u5, u6, z3⟩, z4, z5⟩ := hS.mem
      k_steps
      refine TurnEnd.intro (by k_asm) (by k_asm) ?_ hnI ⟨_, ex, hS, rfl, D4, h1, fun h => h2 ?_, fun z z1 => by simp only [if_neg z1]⟩
      · exact ro_sub
      · rw [List.take_add_one, hy] at h
        rcases List.mem_append.mp h with h | h
        · exact h
        · exact absurd (by simpa using h : x = y) (fun e => hc e.symm)
  · rintro m₁ news₁ h tk ⟨lx, ex, hS, rfl, D4, h1, h2, hm⟩ F₁ N₁
    rw [frame1 hm] at F₁
    have e1 : xs.take (kvsBy (fun x => Value.ref x.lD) xs).length = xs := by rw [kvsBy, List.length_map, List.take_length]
    rw [e1] at h2
    k_steps
    have e2 := h2 hx
    subst e2
    exact hret _ _ _ _ (.mk _ _ ⟨hsk', hS, D4⟩) (by k_asm) (by k_asm)
end

abbrev frs (l : List Env) : List Addr := l.filterMap (·.frame)
section
variable {prog : Program} {w : World} {A₀ A : Around} {s : Shared} {base h₀ g₀ : Heap} {outer : List Env} {L : Addr} {m : Str → Option Value} {news : Led} {K : Frag} {p : Program} {loose : List Str} {mean : ExcName → Option Value} {mg mb : Str → Option Value}
    {R : Result → Shared → Prop} {name qual : Str} {params : Arguments} {body : List Stmt} {scope : Scope} {dV kV doc pm cdv ct oc : Value} {an od : Option Addr} {osl : Array (Option Value)} {f : Addr} {args : Args} {binds : List (Str × Value)} {env : Env}
theorem frs_mem {b : Addr} (hf : env.frame = some L) (hm : b ∈ frs (env :: outer)) : b = L ∨ b ∈ frs outer := by
  obtain ⟨e, he, hb⟩ := List.mem_filterMap.mp hm
  rcases List.mem_cons.mp he with rfl | he
  · rw [hf] at hb; exact .inl (Option.some.inj hb).symm
  · exact .inr (List.mem_filterMap.mpr ⟨e, he, hb⟩)
theorem enterX (B : Below A₀ base outer h₀) (F : Fr h₀ L s.heap m) (N : News h₀ L s.heap news) (hA : A.frames = some (env :: outer)) (hf : env.frame = some L) (hke : env.scope.kind = .function) :
    ∃ oL es ep, (hideAll s.heap (news.map (·.1))).get? L = some oL ∧ oL.data = .dict es ep ∧ (∀ h', h'.get? L = some oL → Heap.Ns h' L m) ∧ (∀ (sl : Array (Option Value)) h', h'.get? L = some { oL with slots := sl } → Heap.Ns h' L m) ∧
      h₀.StaysIn (hideAll s.heap (news.map (·.1))) ∧ Below A base (env :: outer) (hideAll s.heap (news.map (·.1))) := by
  obtain ⟨FG, BG, st, -⟩ := groundX (R := fun _ _ => True) B F N hA hf hke
  obtain ⟨oL, es, ep, hL, hLd, hLk, hLf⟩ := FG.ns
  exact ⟨oL, es, ep, hL, hLd, fun h' e => ⟨oL, es, ep, e, hLd, hLk, hLf⟩, fun sl h' e => ⟨_, es, ep, e, hLd, hLk, hLf⟩, st, BG⟩
theorem back_S {oL : Obj} {es : Array DictEntry} {ep : Nat} (B : Below A₀ base outer h₀) (F : Fr h₀ L s.heap m) (XB : K.In base) (TB : Top p loose mean mg mb base) (D : KtsDicts (frs outer) h₀) (T0 : KtsTurn (frs outer) g₀ h₀) (hf : env.frame = some L)
    (hLg : (hideAll s.heap (news.map (·.1))).get? L = some oL) (hN : ∀ h', h'.get? L = some oL → Heap.Ns h' L m) (hNs : ∀ (sl : Array (Option Value)) h', h'.get? L = some { oL with slots := sl } → Heap.Ns h' L m) (st : h₀.StaysIn (hideAll s.heap (news.map (·.1)))) {v : Value} {s' : Shared}
    (hl : LeaveS (frs (env :: outer)) A₀ base outer K p loose mean mg mb g₀ h₀ L m (hideAll s.heap (news.map (·.1))) R v s') : R (.ok (.ret v)) s' := by
  have nL₀ : h₀.get? L = none := kts_self F
  rcases hl with ⟨L', m', news', F', N', k⟩ | ⟨g', L', m', news', T', F', N', k⟩
  · refine k ⟨hN _ (F'.keep _ _ hLg), fun b o e => F'.keep b o (st b o e), F.above⟩ fun p hp => ⟨(N' p hp).1, fun q => ?_, ?_⟩
    · have := (N' p hp).2.2; rw [q, hLg] at this; cases this
    · cases q : h₀.get? p.1 with
      | none => rfl
      | some o => have := (N' p hp).2.2; rw [st _ _ q] at this; cases this
  obtain ⟨sl, hs⟩ := T'.up hLg
  obtain ⟨T₁, S₁⟩ := kts_turn_at (h := s'.heap) (fs := frs outer) (g := h₀)
    (fun b hb => by
      obtain ⟨_, o, ho', _⟩ := B.frames.mem hb
      exact ⟨o, ho'⟩)
    (fun b o e nmem => F'.keep b o (T'.other b o (st b o e) (fun q => by
      rcases frs_mem hf q with z | z
      · rw [z, nL₀] at e
        cases e
      · exact nmem z)))
    (fun b o e hm => by
      obtain ⟨sl', hs'⟩ := T'.up (st b o e)
      exact ⟨sl', F'.keep _ _ hs'⟩)
  have B₃ : Below A₀ base outer (ktsHeap s'.heap (frs outer) h₀) := ⟨B.stack, fun b o e => T₁.other b o (B.stays b o e) (fun hm => by
    rw [(B.frames.mem hm).1] at e
    cases e), B.frames.of_keeps fun b o e _ => by
    obtain ⟨sl', hs'⟩ := T₁.up e
    exact ⟨_, hs', rfl⟩⟩
  refine k _ (T0.trans T₁) ⟨hNs sl _ (F'.keep _ _ hs), S₁, by rw [T₁.size]; exact F.above⟩ (fun p hp => ⟨(N' p hp).1, fun q => ?_, ?_⟩) B₃ (XB.keeps B₃.stays) (TB.keeps B₃.stays) (D.turn T₁)
  · have := (N' p hp).2.2; rw [q, hs] at this; cases this
  · refine T₁.none_ _ ?_
    cases q : h₀.get? p.1 with
    | none => rfl
    | some o =>
      obtain ⟨sl', hs'⟩ := T'.up (st _ _ q)
      have := (N' p hp).2.2
      rw [hs'] at this
      cases this
theorem dicts_push {oL : Obj} {es : Array DictEntry} {ep : Nat} {g : Heap} (hf : env.frame = some L) (D : KtsDicts (frs outer) h₀) (hL : g.get? L = some oL) (hd : oL.data = .dict es ep) (st : h₀.StaysIn g) : KtsDicts (frs (env :: outer)) g := fun b hb => by
  rcases frs_mem hf hb with rfl | hb
  · exact ⟨oL, es, ep, hL, hd⟩
  · obtain ⟨o, es', n', ho', hd'⟩ := D b hb
    exact ⟨o, es', n', st b o ho', hd'⟩
theorem code_defSX (B : Below A₀ base outer h₀) (F : Fr h₀ L s.heap m) (X₀ : K.In h₀) (N : News h₀ L s.heap news) (T : Top p loose mean mg mb h₀) (XB : K.In base) (TB : Top p loose mean mg mb base) (D : KtsDicts (frs outer) h₀)
    (T0 : KtsTurn (frs outer) g₀ h₀) (hA : A.frames = some (env :: outer)) (hf : env.frame = some L) (hke : env.scope.kind = .function)
    (ho : K.lookup f = some ⟨oc, od, .func (fnOf name qual params body scope dV kV doc pm an cdv ct), osl⟩) (hcd : codeIn K cdv qual = true) (hroom : A.depth < recursionLimit)
    (hbind : BindsTo s (fnOf name qual params body scope dV kV doc pm an cdv ct) args binds) (hloc : ∀ y ∈ binds, scope.names.lookup y.1 = some .local)
    (h : ∀ g L' h₁, Fr h₀ L g m → Fr g L' h₁ (fun y => binds.reverse.lookup y) → News g L' h₁ news → Below A base (env :: outer) g → K.In g → Top p loose mean mg mb g → KtsDicts (frs (env :: outer)) g →
      wpAny (model prog w) (A.deeper (envOf qual scope L' f cdv)) (execs body (envOf qual scope L' f cdv))
        (fun fl s' => LeaveS (frs (env :: outer)) A₀ base outer K p loose mean mg mb g₀ h₀ L m g R (match fl with | .ret v => v | _ => .none) s')
        (fun e s' => wpAny (model prog w) (A.deeper (envOf qual scope L' f cdv)) (leaving (envOf qual scope L' f cdv) e) (fun _ s'' => R (.error e) s'') (fun e' s'' => R (.error e') s'') s')
        { s with heap := h₁, toks := s.toks + binds.length })
    (hco : scope.isCoroutine = false) (hgen : scope.isGenerator = false) (hk : scope.kind = .function)
    (hcell : ∀ x ∈ scope.names, x.2 ≠ .cell) : codeAny (model prog w) A (.call (.ref f) args) R s := by
  have X := X₀.keeps F.keep
  refine codeAny_call_def (fd := fnOf name qual params body scope dV kV doc pm an cdv ct) (body := body) (binds := binds) hroom (X _ _ ho) rfl (T.nolimit.keeps F.keep) (codeRec_of X hcd) rfl hbind hcell hloc (fun h₁ hns hk₁ => ?_) hco hgen hk
  obtain ⟨oL, es, ep, hLg, hLd, hN, hNs, st, B₂⟩ := enterX B F N hA hf hke
  exact wpAny_mono (h _ s.heap.objs.size h₁ ⟨hN _ hLg, st, F.above⟩ ⟨hns, fun b o e => hk₁ b o (of_hideAll _ e), Nat.le_of_eq (hideAll_size _ _)⟩
    (fun p hp => ⟨hk₁ _ _ (N p hp).1, Nat.ne_of_lt (Heap.lt_size (N p hp).1), hideAll_none _ (List.mem_map_of_mem hp)⟩) B₂ (X₀.keeps st) (T.keeps st) (dicts_push hf D hLg hLd st)) (fun fl s' hl => back_S (es := es) (ep := ep) B F XB TB D T0 hf hLg hN hNs st hl) fun _ _ y => y
theorem code_defSC (B : Below A₀ base outer h₀) (F : Fr h₀ L s.heap m) (X₀ : K.In h₀) (N : News h₀ L s.heap news) (T : Top p loose mean mg mb h₀) (XB : K.In base) (TB : Top p loose mean mg mb base) (D : KtsDicts (frs outer) h₀)
    (T0 : KtsTurn (frs outer) g₀ h₀) (hA : A.frames = some (env :: outer)) (hf : env.frame = some L) (hke : env.scope.kind = .function)
    (ho : K.lookup f = some ⟨oc, od, .func (fnOf name qual params body scope dV kV doc pm an cdv ct), osl⟩) (hcd : codeIn K cdv qual = true) (hroom : A.depth < recursionLimit)
    (hbind : BindsTo s (fnOf name qual params body scope dV kV doc pm an cdv ct) args binds) (hkind : (binds.all fun y => scope.names.lookup y.1 == some .local || scope.names.lookup y.1 == some .cell) = true)
    (hnd : ((cellsFrom 0 scope.names []).map (·.1)).Nodup)
    (h : ∀ g L' h₁ tk cells, Fr h₀ L g m → Fr g L' h₁ (bindL (envOfC qual scope L' f cdv).kindOf binds fun _ => none) → News g L' h₁ (cells ++ news) →
      CellsAre (bindC (envOfC qual scope L' f cdv).kindOf binds fun _ => none) (cellsFrom (L' + 1) scope.names []) cells → Below A base (env :: outer) g → K.In g → Top p loose mean mg mb g → KtsDicts (frs (env :: outer)) g → (∀ p ∈ news, p.1 < L') →
      wpAny (model prog w) (A.deeper (envOfC qual scope L' f cdv)) (execs body (envOfC qual scope L' f cdv))
        (fun fl s' => LeaveS (frs (env :: outer)) A₀ base outer K p loose mean mg mb g₀ h₀ L m g R (match fl with | .ret v => v | _ => .none) s')
        (fun e s' => wpAny (model prog w) (A.deeper (envOfC qual scope L' f cdv)) (leaving (envOfC qual scope L' f cdv) e) (fun _ s'' => R (.error e) s'') (fun e' s'' => R (.error e') s'') s')
        { s with heap := h₁, toks := tk })
    (hco : scope.isCoroutine = false) (hgen : scope.isGenerator = false) (hk : scope.kind = .function) : codeAny (model prog w) A (.call (.ref f) args) R s := by
  have X := X₀.keeps F.keep
  obtain ⟨oL, es, ep, hLg, hLd, hN, hNs, st, B₂⟩ := enterX B F N hA hf hke
  refine codeAny_call_function hroom (X _ _ ho) rfl hco hgen rfl (codeRec_of X hcd) (hbind _ _ _ _ ?_)
  refine wpAny_newFunctionEnv_cells hk (kindsX hkind _) fun env' he s' x => ?_
  subst he
  refine ⟨(T.nolimit.keeps F.keep).keeps x.toInCall.keep, codeAny_func ?_⟩
  obtain ⟨h₁, tk, rfl, _⟩ := x.done
  have hk₁ := x.toInCall.keep
  obtain ⟨cells, NC, Y⟩ := Cl.news (h₀ := s.heap) (Nat.le_refl _) fun n c hm => ⟨x.cell n c (lookup_of_mem_nodup (cellsFrom_names scope.names 0 (s.heap.objs.size + 1) [] [] rfl ▸ hnd) hm), x.above n c hm⟩
  refine wpAny_mono (h _ s.heap.objs.size h₁ tk cells ⟨hN _ hLg, st, F.above⟩ ⟨x.toInCall.ns, fun b o e => hk₁ b o (of_hideAll _ e), Nat.le_of_eq (hideAll_size _ _)⟩ (fun p hp => ?_) Y B₂ (X₀.keeps st) (T.keeps st) (dicts_push hf D hLg hLd st) (fun p hp => Heap.lt_size (N p hp).1))
    (fun fl s' hl => back_S (es := es) (ep := ep) B F XB TB D T0 hf hLg hN hNs st hl) fun _ _ y => y
  rcases List.mem_append.mp hp with hp | hp
  · refine ⟨(NC p hp).1, (NC p hp).2.1, ?_⟩
    cases q : (hideAll s.heap (news.map (·.1))).get? p.1 with
    | none => rfl
    | some o => have := of_hideAll _ q; rw [(NC p hp).2.2] at this; cases this
  · exact ⟨hk₁ _ _ (N p hp).1, Nat.ne_of_lt (Heap.lt_size (N p hp).1), hideAll_none _ (List.mem_map_of_mem hp)⟩
end
def SpecS (prog : Program) (w : World) (f : Addr) (lvl : Nat) (vs : List Value) (news : Led) (Post : Value → Led → Prop) : Prop :=
  ∀ (p : Program) (loose : List Str) (mean : ExcName → Option Value) (mg mb : Str → Option Value) (dp un : Nat) (gd : Option (List Code)) (cn : Str) (cs : Scope) (a : Addr) (ccd : Value) (cl : List (Str × Addr)) (outer : List Env) (A₀ : Around) (base h₀ : Heap) (L : Addr) (m : Str → Option Value) (hh : Heap) (gs : Array GenState) (dr : Drawn) (tk : Nat) (oz : OsState) (Q E : Value → Shared → Prop),
    Below A₀ base outer h₀ → Fr h₀ L hh m → (hp w.params).In h₀ → News h₀ L hh news → Top p loose mean mg mb h₀ → (hp w.params).In base → Top p loose mean mg mb base → KtsDicts (frs outer) h₀ → cs.kind = .function → dp + lvl < 500 → un + 100 * lvl < 9000 →
    (∀ r news' h' tk' h₁, Post r news' → KtsTurn (frs outer) h₀ h₁ → Fr h₁ L h' m → News h₁ L h' news' → Below A₀ base outer h₁ → (hp w.params).In h₁ → Top p loose mean mg mb h₁ → KtsDicts (frs outer) h₁ → Q r ⟨h', gs, dr, tk', oz⟩) →
    wpAny (model prog w) (ktrTop dp un gd cn cs L a ccd cl outer) (call (.ref f) vs) Q E ⟨hh, gs, dr, tk, oz⟩
theorem reg58 : True := by
  (k_with "noteFrame ref" => (with_reducible refine Halt.at ?_))
  (k_with "LeaveS" => (with_reducible refine Halt.at ?_))
  (k_with "call ref" => with_reducible refine Halt.call (a := 400) ?_)
  trivial
section
variable {prog : Program} {w : World} {us ud pi ti sd : Addr} {uo so : Obj} {news : Led} {kvs : List (Int × Value)} {g k : Int}
theorem gone_spec {t : Tok} (m1 : (us, instObj 445 ud) ∈ news) (m2 : (ud, uo) ∈ news) (hu : UsObj w.params pi ti sd g uo) (m3 : (sd, so) ∈ news) (hd : so.IsDictOf (intKind prog w) kvs) (lo : (sd == sysModules) = false) (hv : (valueAt kvs k).isSome = false) :
    SpecS prog w 522 30 [.ref us, .int k t] news (fun r news' => r = .bool true ∧ news' = news) := by
  intro pp loose mean mg mb dp un gd cn cs a' ccd cl outer A₀ base h₀ L m hh gs dr tk oz Q E B F X N T XB TB KD hkk hdp hu' hret
  have hu2 := hu
  obtain ⟨c1, c2, c3, c4, c5, w3, w5, n, e⟩ := hu
  subst e
  refine wpAny_call ?_
  k_dflt (refine' code_defSX ?k1 ?k2 ?k3 ?k4 ?k5 ?XB ?TB ?D ?T0 ?kA ?kF ?cK ?k6 ?k7 ?k8 ?k9 ?kB ?_ ?c2 ?c3 ?c4 ?c5; (case kA => exact rfl); (case kF => exact rfl); (case k2 => exact F); (case k1 => exact B); (case XB => exact XB); (case TB => exact TB); (case D => exact KD); (case T0 => exact KtsTurn.refl); (case k3 => exact X); (case k4 => exact N); (case k5 => exact T); (case k6 => k_is); (case k7 => k_is); (case k8 => k_room); (case k9 => first | exact binds_K (by k_in) rfl (by k_is) rfl rfl rfl | exact BindsTo.of_eq rfl); (case kB => exact locs rfl); (case cK => exact hkk); (case c2 => exact rfl); (case c3 => exact rfl); (case c4 => exact rfl); (case c5 => decide); k_whole; intro g' L' h' FG' F' N' B' X' T' D'; (try dsimp only); (try k_fold))
  k_steps
  refine Halt.go ?_
  refine (port_of_raise m1 m2 hu2 m3 hd lo hv).use (by k_asm) (by k_asm) (by k_asm) (by k_asm) ro_sub (by k_asm) (by first | exact rfl | assumption) (by k_extra "bud") (by k_extra "bud") ?_
  intro e t args news' G h2 tk2 hnw R F2 U
  obtain rfl := hnw.symm
  try dsimp only
  refine caught_SO0 (KF := hp w.params) R F2 B' U XB TB D' KtsTurn.refl (by k_is) (by kts_isx) ?_
  intro h3 g3 news₂ T3 F3 N₂ G3 N3 K3 X3 P3 D3
  k_steps
  refine Halt.go ?_
  refine leaveS_r F3 (by k_asm) T3 ?_
  intro h4 T4 F4 N4 B4 X4 P4 D4
  exact hret _ _ _ _ _ ⟨rfl, rfl⟩ T4 F4 N4 B4 X4 P4 D4
end

theorem reg59 : True := by
  (k_with "call ref" => with_reducible (first | refine Halt.call (a := 475) ?_ | refine Halt.call (a := 381) ?_))
  (k_with "compareOp In int ref" => (k_here; k_dflt (refine in_list_ints (News.isList (by k_asm) (by k_mem)) (by assumption) ?_)))
  trivial
theorem ports_find {xs : List Sk} {k : Int} : (valueAt (portsOf xs) k).isSome = decide (k ∈ xs.map (·.port)) := by
  induction xs with
  | nil => rfl
  | cons y ys ih =>
    by_cases h : y.port = k
    · simp [portsOf, valueAt, h]
    · have h' : ¬ k = y.port := fun e => h e.symm
      simpa [portsOf, valueAt, List.find?_cons, h, h'] using ih
theorem ports_in {xs : List Sk} {k : Int} (h : k ∈ xs.map (·.port)) : (valueAt (portsOf xs) k).isSome = true := by rw [ports_find, decide_eq_true h]
theorem ports_out {xs : List Sk} {k : Int} (h : k ∉ xs.map (·.port)) : (valueAt (portsOf xs) k).isSome = false := by rw [ports_find, decide_eq_false h]
theorem due_none {f : Int} {ps : List Int} (h : dueV f ps = none) : f ∈ ps ∧ nxt f ∈ ps ∧ nxt (nxt f) ∈ ps := by
  unfold dueV at h
  split at h
  · split at h
    · split at h
      · exact ⟨by assumption, by assumption, by assumption⟩
      · cases h
    · cases h
  · cases h
theorem due_some {xs : List Sk} {f p : Int} (h : dueV f (xs.map (·.port)) = some p) : NextFree (portsOf xs) f p ∧ p ∉ xs.map (·.port) := by
  unfold dueV at h
  split at h
  · split at h
    · split at h
      · cases h
      · cases h
        exact ⟨.inr (.inr ⟨ports_in (by assumption), ports_in (by assumption), ports_out (by assumption), rfl⟩), by assumption⟩
    · cases h
      exact ⟨.inr (.inl ⟨ports_in (by assumption), ports_out (by assumption), rfl⟩), by assumption⟩
  · cases h
    exact ⟨.inl ⟨ports_out (by assumption), rfl⟩, by assumption⟩
section
variable {prog : Program} {w : World} {us ud pi ti sd pd pt rw_ st : Addr} {uo po ro : Obj} {news : Led} {xs : List Sk} {g f gv : Int} {k1 k2 k3 k4 v1 v2 v3 tg tf : Tok} {n ns : Nat}
theorem opened_fail {adr port : Int} {t1 t2 : Tok} (u1 : (us, instObj 445 ud) ∈ news) (u2 : (ud, uo) ∈ news) (hu : UsObj w.params pi ti sd g uo) (m1 : (pi, instObj 135 pd) ∈ news) (m2 : (pd, dictOf (portsEs w.params k1 k2 k3 k4 v1 v2 v3 f pt) n) ∈ news) (m3 : (pt, po) ∈ news) (hdp : po.IsDictOf (intKind prog w) (portsOf xs)) (lop : (pt == sysModules) = false)
    (m : (rw_, ro) ∈ news) (hd : ro.IsDictOf (intKind prog w) (kvsBy (fun x => .ref x.lD) xs)) (lo : (rw_ == sysModules) = false) (hl : ∀ x ∈ xs, LawLed prog w x.adr x.port x.far x.q x.err x.lD x.ll) (hs : ∀ x ∈ xs, ∀ q ∈ x.ll, q ∈ news) (hf : 7 ≤ f ∧ f ≤ 9) (hz : xs.length ≤ 100)
    (ms : (st, W.listOf #[.int gv tg, .int f tf] ns) ∈ news) (h : port = 0 ∧ dueV f (xs.map (·.port)) = none ∨ (port = 7 ∨ port = 8) ∧ port ∈ xs.map (·.port)) :
    SpecS prog w 480 40 [.ref us, .ref rw_, .ref st, .int adr t1, .int port t2] news (fun r news' => r = .bool true ∧ news' = news) := by
  intro pp loose mean mg mb dp un gd cn cs a' ccd cl outer A₀ base h₀ L m₀ hh gs dr tk oz Q E B F X N T XB TB KD hkk hdp' hu' hret
  have S : SpecR prog w 381 20 [.ref us, .int adr t1, .int port t2] news 68 (fun news' => news' = news) := by
    refine open_raise u1 u2 hu m1 m2 m3 hdp lop ?_
    rcases h with ⟨rfl, h1⟩ | ⟨h1, h2⟩
    · obtain ⟨q1, q2, q3⟩ := due_none h1
      exact .inl ⟨rfl, ports_in q1, ports_in q2, ports_in q3⟩
    · exact .inr ⟨h1, ports_in h2⟩
  obtain ⟨c1, c2, c3, c4, c5, w3, w5, n0, e⟩ := hu
  subst e
  refine wpAny_call ?_
  k_dflt (refine' code_defSX ?k1 ?k2 ?k3 ?k4 ?k5 ?XB ?TB ?D ?T0 ?kA ?kF ?cK ?k6 ?k7 ?k8 ?k9 ?kB ?_ ?c2 ?c3 ?c4 ?c5; (case kA => exact rfl); (case kF => exact rfl); (case k2 => exact F); (case k1 => exact B); (case XB => exact XB); (case TB => exact TB); (case D => exact KD); (case T0 => exact KtsTurn.refl); (case k3 => exact X); (case k4 => exact N); (case k5 => exact T); (case k6 => k_is); (case k7 => k_is); (case k8 => k_room); (case k9 => first | exact binds_K (by k_in) rfl (by k_is) rfl rfl rfl | exact BindsTo.of_eq rfl); (case kB => exact locs rfl); (case cK => exact hkk); (case c2 => exact rfl); (case c3 => exact rfl); (case c4 => exact rfl); (case c5 => decide); k_whole; intro g' L' h' FG' F' N' B' X' T' D'; (try dsimp only); (try k_fold))
  k_steps
  refine Halt.go ?_
  refine src_vals (by rfl) (by k_asm) (by k_asm) ⟨_, by first | exact ((by k_asm : News _ _ _ _) _ (.head _)).1, rfl, rfl⟩ (by k_mem) hd (by rw [kvsBy, List.length_map, sizeLine_eq]; omega) ?_
  intro g9
  refine rest_map (fun i y => ∃ x t, xs[i]? = some x ∧ y = .int x.port t) ?_ ?_
  · intro ys hlen hys
    unfold LCg.FinA
    intro D3 h3 tk3 F3 N3 o3
    dsimp only [LCg.Off1] at o3
    have hns : IntsAre ys (xs.map (·.port)) := ints_of (by rw [hlen, kvsBy, List.length_map, List.length_map]) fun i y hy => by
      obtain ⟨x, t, e1, e2⟩ := hys i y hy
      exact ⟨x.port, t, by rw [List.getElem?_map, e1]; rfl, e2⟩
    try dsimp only
    rcases h with ⟨rfl, h1⟩ | ⟨h1, h2⟩
    · k_steps
      refine Halt.go ?_
      refine Spec.uq1 (free_port_spec m hd lo hl hs hf hz) (hs := by k_extra "l_sub") (ret := ?_)
      rintro r' h' tk' hr F4 N4
      rw [h1] at hr
      cases hr
      try dsimp only
      k_steps
      refine Halt.go ?_
      refine S.use (by k_asm) (by k_asm) (by k_asm) (by k_asm) (by k_extra "l_sub") (by k_asm) (by first | exact rfl | assumption) (by k_extra "bud") (by k_extra "bud") ?_
      intro e t args news' G h2 tk2 hnw R F2 U
      obtain rfl := hnw.symm
      try dsimp only
      refine caught_SO0 (KF := hp w.params) R F2 B' U XB TB D' KtsTurn.refl (by k_is) (by kts_isx) ?_
      intro h6 g6 news₂ T6 F6 N₂ G6 N6 K6 X6 P6 D6
      k_steps
      refine Halt.go ?_
      refine leaveS_r F6 (by k_asm) T6 ?_
      intro h7 T7 F7 N7 B7 X7 P7 D7
      exact hret _ _ _ _ _ ⟨rfl, rfl⟩ T7 F7 N7 B7 X7 P7 D7
    · have hp0 : port ≠ 0 := by omega
      k_steps
      · refine Halt.go ?_
        refine S.use (by k_asm) (by k_asm) (by k_asm) (by k_asm) (by k_extra "l_sub") (by k_asm) (by first | exact rfl | assumption) (by k_extra "bud") (by k_extra "bud") ?_
        intro e t args news' G h2 tk2 hnw R F2 U
        obtain rfl := hnw.symm
        try dsimp only
        refine caught_SO0 (KF := hp w.params) R F2 B' U XB TB D' KtsTurn.refl (by k_is) (by kts_isx) ?_
        intro h6 g6 news₂ T6 F6 N₂ G6 N6 K6 X6 P6 D6
        k_steps
        refine Halt.go ?_
        refine leaveS_r F6 (by k_asm) T6 ?_
        intro h7 T7 F7 N7 B7 X7 P7 D7
        exact hret _ _ _ _ _ ⟨rfl, rfl⟩ T7 F7 N7 B7 X7 P7 D7
      · exact absurd ((any_mem (by assumption)).mp h2) (by decide)
  · intro i ys v I oI C oC D m₂ h9 tk E' G hi hv hC hx F3 N3 off ne Gy
    obtain ⟨k, hk⟩ := hv
    obtain ⟨x, hx1, hx2, rfl, rfl⟩ := kvs_at hk
    obtain ⟨lo_, vf, ve, qD, vs, cap, i1, i2, ⟨t1, t2, i3⟩, i4, i5⟩ := (hl x hx2).mem
    replace i1 := hs x hx2 _ i1
    have offRaw := off
    dsimp only [LCg.Off3] at off
    k_steps
    exact LCg.CompEnd.intro (by k_asm) (by k_asm) _ ro_sub offRaw (by k_mem) (Gy _ ⟨x, _, hx1, rfl⟩)
end

theorem nxt_of {p : Int} (h : 7 ≤ p ∧ p ≤ 9) : 7 + (p - 6).fmod 3 = nxt p := by
  rcases port_in3 h with rfl | rfl | rfl <;> rfl
theorem stored_at {kvs : List (Int × Value)} {k : Int} {v : Value} (h : valueAt kvs k = none) : valueAt (stored kvs k v) k = some v := by
  rw [stored_absent h]
  unfold valueAt at *
  rw [List.find?_append]
  cases e : List.find? (fun kv : Int × Value => kv.1 = k) kvs with
  | none => simp
  | some x => rw [e] at h; cases h
inductive JoinAt (g : Heap) (L : Addr) (m : Str → Option Value) (led : Led) (gs : Array GenState) (dr : Drawn) (oz : OsState) (p : Int) : Value → Shared → Prop
  | mk (tt : Tok) (h' : Heap) (tk' : Nat) (F : Fr g L h' m) (N : News g L h' led) : JoinAt g L m led gs dr oz p (.int p tt) ⟨h', gs, dr, tk', oz⟩
theorem int_join {M : Model} {A : Around} {t : Sem Value} {Q E : Value → Shared → Prop} {g : Heap} {L : Addr} {h0 hh : Heap} {m : Str → Option Value} {gs : Array GenState} {dr : Drawn} {tk : Nat} {oz : OsState} {p : Int} (_ : Fr g L h0 m) (led : Led)
    (h1 : wpAny M A t (JoinAt g L m led gs dr oz p) E ⟨hh, gs, dr, tk, oz⟩) (h2 : ∀ tt h' tk', Fr g L h' m → News g L h' led → Q (.int p tt) ⟨h', gs, dr, tk', oz⟩) : wpAny M A t Q E ⟨hh, gs, dr, tk, oz⟩ :=
  wpAny_mono h1 (fun _ _ j => by cases j with | mk tt h' tk' F N => exact h2 tt h' tk' F N) fun _ _ e => e
theorem IfHalt.at {M : Model} {A : Around} {env : Env} {p1 p2 p3 : Pos} {o1 : List CmpOp} {c1 : List PySem.Expr} {e1 e2 : PySem.Expr} {Q E : Value → Shared → Prop} {s : Shared} (h : Halt (wpAny M A (eval (Expr.IfExp (Expr.Compare (Expr.Name (Str.ofString "port") p1) o1 c1 p2) e1 e2 p3) env) Q E s)) : wpAny M A (eval (Expr.IfExp (Expr.Compare (Expr.Name (Str.ofString "port") p1) o1 c1 p2) e1 e2 p3) env) Q E s := h
theorem reg60 : True := by
  (k_with "eval IfExp" => with_reducible refine IfHalt.at ?_)
  trivial
inductive StateAt (g : Heap) (L : Addr) (m : Str → Option Value) (st : Addr) (g0 : Int) (tg : Tok) (q : Int) (led : Led) (gs : Array GenState) (dr : Drawn) (oz : OsState) : Flow → Shared → Prop
  | mk (tf : Tok) (ns : Nat) (h' : Heap) (tk' : Nat) (F : Fr g L h' m) (N : News g L h' ((st, W.listOf #[.int g0 tg, .int q tf] ns) :: led)) : StateAt g L m st g0 tg q led gs dr oz .next ⟨h', gs, dr, tk', oz⟩
theorem state_join {M : Model} {A : Around} {t : Sem Flow} {Q : Flow → Shared → Prop} {E : Value → Shared → Prop} {g : Heap} {L : Addr} {h0 hh : Heap} {m : Str → Option Value} {gs : Array GenState} {dr : Drawn} {tk : Nat} {oz : OsState} (_ : Fr g L h0 m) (st : Addr) (g0 : Int) (tg : Tok) (q : Int) (led : Led)
    (h1 : wpAny M A t (StateAt g L m st g0 tg q led gs dr oz) E ⟨hh, gs, dr, tk, oz⟩) (h2 : ∀ tf ns h' tk', Fr g L h' m → News g L h' ((st, W.listOf #[.int g0 tg, .int q tf] ns) :: led) → Q .next ⟨h', gs, dr, tk', oz⟩) : wpAny M A t Q E ⟨hh, gs, dr, tk, oz⟩ :=
  wpAny_mono h1 (fun _ _ j => by cases j with | mk tf ns h' tk' F N => exact h2 tf ns h' tk' F N) fun _ _ e => e
theorem PortHalt.at {M : Model} {A : Around} {env : Env} {p1 p2 p3 : Pos} {o1 : List CmpOp} {c1 : List PySem.Expr} {b1 b2 : List Stmt} {Q : Flow → Shared → Prop} {E : Value → Shared → Prop} {s : Shared} (h : Halt (wpAny M A (exec (Stmt.If (Expr.Compare (Expr.Name (Str.ofString "port") p1) o1 c1 p2) b1 b2 p3) env) Q E s)) : wpAny M A (exec (Stmt.If (Expr.Compare (Expr.Name (Str.ofString "port") p1) o1 c1 p2) b1 b2 p3) env) Q E s := h
theorem reg61 : True := by
  (k_with "exec If" => with_reducible refine PortHalt.at ?_)
  trivial
section
variable {prog : Program} {w : World} {us ud pi ti sd pd pt td tr rw_ st : Addr} {uo so po o ro : Obj} {rest : Led} {xs : List Sk} {g f : Int} {k1 k2 k3 k4 v1 v2 v3 kt tg tf : Tok} {n n2 ns : Nat}
theorem opened_ok {adr port p : Int} {t1 t2 : Tok}
    (D : (((us, instObj 445 ud) :: (ud, uo) :: (pi, instObj 135 pd) :: (pd, dictOf (portsEs w.params k1 k2 k3 k4 v1 v2 v3 f pt) n) :: (pt, po) :: (ti, instObj 327 td) :: (td, dictOf [ent w.params "rows" kt (.ref tr)] n2) :: (tr, o) :: (sd, so) :: (rw_, ro) :: (st, W.listOf #[.int g tg, .int f tf] ns) :: rest).map (·.1)).Nodup)
    (hu : UsObj w.params pi ti sd g uo) (hdt : o.IsDictOf (intKind prog w) (rowsOf xs)) (lot : (tr == sysModules) = false) (hdp : po.IsDictOf (intKind prog w) (portsOf xs)) (lop : (pt == sysModules) = false) (hds : so.IsDictOf (intKind prog w) (kvsBy (fun x => .ref x.sI) xs)) (los : (sd == sysModules) = false)
    (hd : ro.IsDictOf (intKind prog w) (kvsBy (fun x => .ref x.lD) xs)) (lo : (rw_ == sysModules) = false)
    (hn : (xs.map (·.num)).Nodup) (hz : xs.length ≤ 100) (hr : ∀ x ∈ xs, RowLed w.params x.num x.adr x.port x.far x.rI x.rl) (hlr : ∀ x ∈ xs, ∀ q ∈ x.rl, q ∈ rest) (hl : ∀ x ∈ xs, LawLed prog w x.adr x.port x.far x.q x.err x.lD x.ll) (hs : ∀ x ∈ xs, ∀ q ∈ x.ll, q ∈ rest)
    (hnew : ∀ x ∈ xs, x.num ≠ g + 1) (hf : 7 ≤ f ∧ f ≤ 9) (hp9 : 7 ≤ p ∧ p ≤ 9)
    (h : port = 0 ∧ dueV f (xs.map (·.port)) = some p ∨ (port = 7 ∨ port = 8) ∧ p = port ∧ port ∉ xs.map (·.port)) :
    Spec prog w 480 40 [.ref us, .ref rw_, .ref st, .int adr t1, .int port t2] ((us, instObj 445 ud) :: (ud, uo) :: (pi, instObj 135 pd) :: (pd, dictOf (portsEs w.params k1 k2 k3 k4 v1 v2 v3 f pt) n) :: (pt, po) :: (ti, instObj 327 td) :: (td, dictOf [ent w.params "rows" kt (.ref tr)] n2) :: (tr, o) :: (sd, so) :: (rw_, ro) :: (st, W.listOf #[.int g tg, .int f tf] ns) :: rest)
      (Q16 (fun uo' po' o' so' ro' v3' n' tg' tf' ns' rI sI lD rl sl ll => .bool true) (fun uo' po' o' so' ro' v3' n' tg' tf' ns' rI sI lD rl sl ll => (us, instObj 445 ud) :: (ud, uo') :: (pi, instObj 135 pd) :: (pd, dictOf (portsEs w.params k1 k2 k3 k4 v1 v2 v3' (if port = 0 then nxt p else f) pt) n') :: (pt, po') :: (ti, instObj 327 td) :: (td, dictOf [ent w.params "rows" kt (.ref tr)] n2) :: (tr, o') :: (sd, so') :: (rw_, ro') :: (st, W.listOf #[.int (g + 1) tg', .int (if port = 0 then nxt p else f) tf'] ns') :: (rl ++ (sl ++ (ll ++ rest)))) (fun uo' po' o' so' ro' v3' n' tg' tf' ns' rI sI lD rl sl ll => An9 (UsObj w.params pi ti sd (g + 1) uo') (po'.IsDictOf (intKind prog w) (stored (portsOf xs) p (.bool true))) (o'.IsDictOf (intKind prog w) (rowsOf xs ++ [(g + 1, .ref rI)])) (so'.IsDictOf (intKind prog w) (stored (kvsBy (fun x => .ref x.sI) xs) (g + 1) (.ref sI))) (ro'.IsDictOf (intKind prog w) (stored (kvsBy (fun x => .ref x.lD) xs) (g + 1) (.ref lD))) (RowLed w.params (g + 1) adr p none rI rl) (SockLed w.params adr p none [] none sI sl) (LawLed prog w adr p none [] none lD ll) ((((us, instObj 445 ud) :: (ud, uo') :: (pi, instObj 135 pd) :: (pd, dictOf (portsEs w.params k1 k2 k3 k4 v1 v2 v3' (if port = 0 then nxt p else f) pt) n') :: (pt, po') :: (ti, instObj 327 td) :: (td, dictOf [ent w.params "rows" kt (.ref tr)] n2) :: (tr, o') :: (sd, so') :: (rw_, ro') :: (st, W.listOf #[.int (g + 1) tg', .int (if port = 0 then nxt p else f) tf'] ns') :: (rl ++ (sl ++ (ll ++ rest)))).map (·.1)).Nodup))) := by
  intro pp loose mean mg mb dp un gd cn cs a' ccd cl outer A₀ base h₀ L m hh gs dr tk oz Q E B F X N T hkk hdp' hu' hret
  have hT : ∀ rest', ((portsLed w.params pi pd pt k1 k2 k3 k4 v1 v2 v3 f n po rest').map (·.1)).Nodup → Spec prog w 111 8 [.ref pi, .int port t2] (portsLed w.params pi pd pt k1 k2 k3 k4 v1 v2 v3 f n po rest')
      (Q4 (fun t o' v3' n' => .int p t) (fun t o' v3' n' => portsLed w.params pi pd pt k1 k2 k3 k4 v1 v2 v3' (if port = 0 then nxt p else f) n' o' rest') (fun t o' v3' n' => o'.IsDictOf (intKind prog w) (stored (portsOf xs) p (.bool true)))) := by
    intro rest' D'
    have hzp : (portsOf xs).length ≤ 100 := by rw [portsOf, List.length_map]; exact hz
    rcases h with ⟨rfl, h1⟩ | ⟨h1, rfl, h2⟩
    · exact (take_zero_spec D' hdp lop (due_some h1).1 hzp).mono ro_sub fun r l h => by
        obtain ⟨t, o', v3', n', h⟩ := h
        exact .mk t o' v3' n' h
    · exact (take_told_spec D' hdp lop (by omega) (by omega) (ports_out h2) hzp).mono ro_sub fun r l h => by
        obtain ⟨t, o', h⟩ := h
        simp only [if_neg (show ¬ p = 0 by omega)]
        exact .mk t o' v3 n h
  have hne : ∀ x ∈ xs, x.port ≠ p := by
    have : p ∉ xs.map (·.port) := by
      rcases h with ⟨_, h1⟩ | ⟨_, rfl, h2⟩
      · exact (due_some h1).2
      · exact h2
    exact fun x hx e => this (List.mem_map.mpr ⟨x, hx, e⟩)
  have hu2 := hu
  obtain ⟨R0, hR0⟩ : ∃ R0, R0 = (us, instObj 445 ud) :: (ud, uo) :: (pi, instObj 135 pd) :: (pd, dictOf (portsEs w.params k1 k2 k3 k4 v1 v2 v3 f pt) n) :: (pt, po) :: (ti, instObj 327 td) :: (td, dictOf [ent w.params "rows" kt (.ref tr)] n2) :: (tr, o) :: (sd, so) :: rest := ⟨_, rfl⟩
  replace N : News _ _ _ ((rw_, ro) :: (st, W.listOf #[.int g tg, .int f tf] ns) :: R0) := cb_drop N (by rw [hR0]; exact Tr.sb [_,_,_,_,_,_,_,_,_,_,_] [_,_,_,_,_,_,_,_,_,_,_] [_] (.c 0 0 (.c 1 1 (.c 2 2 (.c 3 3 (.c 4 4 (.c 5 5 (.c 6 6 (.c 7 7 (.c 8 8 (.c 9 9 (.c 10 10 (.s 0)))))))))))) (.c 9 9 (.c 10 10 (.c 0 0 (.c 1 1 (.c 2 2 (.c 3 3 (.c 4 4 (.c 5 5 (.c 6 6 (.c 7 7 (.c 8 8 (.s 0)))))))))))) rfl)
  have q1 : (us, instObj 445 ud) ∈ R0 := by rw [hR0]; exact .head _
  have q2 : (ud, uo) ∈ R0 := by rw [hR0]; exact .tail _ (.head _)
  have hs0 : ∀ x ∈ xs, ∀ q ∈ x.ll, q ∈ (rw_, ro) :: (st, W.listOf #[.int g tg, .int f tf] ns) :: R0 := fun x hx => by rw [hR0]; exact sub_cons (sub_cons (sub_cons (sub_cons (sub_cons (sub_cons (sub_cons (sub_cons (sub_cons (sub_cons (sub_cons (hs x hx)))))))))))
  have S0 : ∀ q ∈ (us, instObj 445 ud) :: (ud, uo) :: (pi, instObj 135 pd) :: (pd, dictOf (portsEs w.params k1 k2 k3 k4 v1 v2 v3 f pt) n) :: (pt, po) :: (ti, instObj 327 td) :: (td, dictOf [ent w.params "rows" kt (.ref tr)] n2) :: (tr, o) :: (sd, so) :: (rw_, ro) :: (st, W.listOf #[.int g tg, .int f tf] ns) :: rest, q ∈ (rw_, ro) :: (st, W.listOf #[.int g tg, .int f tf] ns) :: R0 := by rw [hR0]; exact Tr.sb [_,_,_,_,_,_,_,_,_,_,_] [_,_,_,_,_,_,_,_,_,_,_] [_] (.c 0 0 (.c 1 1 (.c 2 2 (.c 3 3 (.c 4 4 (.c 5 5 (.c 6 6 (.c 7 7 (.c 8 8 (.c 9 9 (.c 10 10 (.s 0)))))))))))) (.c 2 2 (.c 3 3 (.c 4 4 (.c 5 5 (.c 6 6 (.c 7 7 (.c 8 8 (.c 9 9 (.c 10 10 (.c 0 0 (.c 1 1 (.s 0)))))))))))) rfl
  clear hR0
  obtain ⟨y1, y2, y3, y4, y5, y6, y7, y8, e⟩ := hu
  rw [e] at q2
  refine wpAny_call ?_
  k_dflt ktr_enter
  k_steps
  refine Halt.go ?_
  refine src_vals (by rfl) (by k_asm) (by k_asm) ⟨_, by first | exact ((by k_asm : News _ _ _ _) _ (.head _)).1, rfl, rfl⟩ (by k_mem) hd (by rw [kvsBy, List.length_map, sizeLine_eq]; omega) ?_
  intro g9
  refine rest_map (fun i y => ∃ x t, xs[i]? = some x ∧ y = .int x.port t) ?_ ?_
  · intro ys hlen hys
    unfold LCg.FinA
    intro D3 h3 tk3 F3 N3 o3
    dsimp only [LCg.Off1] at o3
    have hns : IntsAre ys (xs.map (·.port)) := ints_of (by rw [hlen, kvsBy, List.length_map, List.length_map]) fun i y hy => by
      obtain ⟨x, t, e1, e2⟩ := hys i y hy
      exact ⟨x.port, t, by rw [List.getElem?_map, e1]; rfl, e2⟩
    try dsimp only
    k_steps
    refine Halt.go ?_
    refine int_join F3 (p := p) ((rw_, ro) :: (st, W.listOf #[.int g tg, .int f tf] ns) :: R0) ?_ ?_
    · refine wpAny_IfExp ?_
      rcases h with ⟨rfl, h1⟩ | ⟨h1, rfl, h2⟩
      · k_steps
        refine Halt.go ?_
        refine Spec.uq1 (free_port_spec (f := f) (news := (rw_, ro) :: (st, W.listOf #[.int g tg, .int f tf] ns) :: R0) (by k_mem) hd lo hl hs0 hf hz) (hs := by k_extra "l_sub") (ret := ?_)
        rintro r' h' tk' hr' F4 N4
        rw [h1] at hr'
        cases hr'
        try dsimp only
        k_steps
        exact .mk _ _ _ (by k_asm) (by k_asm)
      · k_steps
        refine Halt.go ?_
        refine wpAny_IfExp ?_
        k_steps
        · exact absurd ((any_mem (by assumption)).mpr rfl) h2
        · exact .mk _ _ _ (by k_asm) (cb_drop (by k_asm) (by k_extra "l_sub"))
    intro tt h' tk' F4 N4
    clear F3 N3
    try dsimp only
    k_steps
    refine Halt.go ?_
    refine Spec.uq11 (open_spec (rest := (rw_, ro) :: (st, W.listOf #[.int g tg, .int f tf] ns) :: rest) D hu2 hdt lot hdp lop hds los hn hz hr (fun x hx => sub_cons (sub_cons (hlr x hx))) hne hnew hT) (hs := S0) (ret := ?_)
    rintro tn uo' po' o' so' v3' n3 rI sI rl sl h' tk' ⟨hu', hpo', ho', hso', hrl, hsl, D5⟩ F5 N5
    obtain ⟨z1, z2, z3, z4, z5, z6, z7, z8, e⟩ := id hu'
    have hvn : valueAt (stored (kvsBy (fun x => Value.ref x.sI) xs) (g + 1)  (.ref sI)) (g + 1) = some (.ref sI) := stored_at (valueAt_none hnew)
    replace N5 : News _ _ _ ((st, W.listOf #[.int g tg, .int f tf] ns) :: (rw_, ro) :: ((us, instObj 445 ud) :: (ud, uo') :: (pi, instObj 135 pd) :: (pd, dictOf (portsEs w.params k1 k2 k3 k4 v1 v2 v3' (if port = 0 then nxt p else f) pt) n3) :: (pt, po') :: (ti, instObj 327 td) :: (td, dictOf [ent w.params "rows" kt (.ref tr)] n2) :: (tr, o') :: (sd, so') :: (rl ++ (sl ++ rest)))) := cb_drop N5 (by exact Tr.sb [_,_,_,_,_,_,_,_,_,_,_] [_,_,_,_,_,_,_,_,_,_,_] [_,_,_] (.c 0 0 (.c 1 1 (.c 2 2 (.c 3 3 (.c 4 4 (.c 5 5 (.c 6 6 (.c 7 7 (.c 8 8 (.a (.s 0) (.a (.s 1) (.c 9 9 (.c 10 10 (.s 2)))))))))))))) (.c 10 10 (.c 9 9 (.c 0 0 (.c 1 1 (.c 2 2 (.c 3 3 (.c 4 4 (.c 5 5 (.c 6 6 (.c 7 7 (.c 8 8 (.a (.s 0) (.a (.s 1) (.s 2)))))))))))))) rfl)
    have D6 : (((st, W.listOf #[.int g tg, .int f tf] ns) :: (rw_, ro) :: ((us, instObj 445 ud) :: (ud, uo') :: (pi, instObj 135 pd) :: (pd, dictOf (portsEs w.params k1 k2 k3 k4 v1 v2 v3' (if port = 0 then nxt p else f) pt) n3) :: (pt, po') :: (ti, instObj 327 td) :: (td, dictOf [ent w.params "rows" kt (.ref tr)] n2) :: (tr, o') :: (sd, so') :: (rl ++ (sl ++ rest)))).map (·.1)).Nodup := by exact Tr.nd [_,_,_,_,_,_,_,_,_,_,_] [_,_,_,_,_,_,_,_,_,_,_] [_,_,_] (.c 0 0 (.c 1 1 (.c 2 2 (.c 3 3 (.c 4 4 (.c 5 5 (.c 6 6 (.c 7 7 (.c 8 8 (.a (.s 0) (.a (.s 1) (.c 9 9 (.c 10 10 (.s 2)))))))))))))) (.c 10 10 (.c 9 9 (.c 0 0 (.c 1 1 (.c 2 2 (.c 3 3 (.c 4 4 (.c 5 5 (.c 6 6 (.c 7 7 (.c 8 8 (.a (.s 0) (.a (.s 1) (.s 2)))))))))))))) rfl D5
    obtain ⟨R2, hR2⟩ : ∃ R2, R2 = (us, instObj 445 ud) :: (ud, uo') :: (pi, instObj 135 pd) :: (pd, dictOf (portsEs w.params k1 k2 k3 k4 v1 v2 v3' (if port = 0 then nxt p else f) pt) n3) :: (pt, po') :: (ti, instObj 327 td) :: (td, dictOf [ent w.params "rows" kt (.ref tr)] n2) :: (tr, o') :: (sd, so') :: (rl ++ (sl ++ rest)) := ⟨_, rfl⟩
    have mu1 : (us, instObj 445 ud) ∈ R2 := by rw [hR2]; exact .head _
    have mu2 : (ud, uo') ∈ R2 := by rw [hR2]; exact .tail _ (.head _)
    have mu3 : (sd, so') ∈ R2 := by rw [hR2]; simp
    have mu4 : ∀ q ∈ sl, q ∈ R2 := by rw [hR2]; intro q hq; simp [hq]
    rw [← hR2] at N5 D6
    obtain ⟨e1, e2, e3⟩ := nd2 D6
    have mu2' := mu2
    rw [e] at mu2'
    clear D5
    try dsimp only
    k_steps
    · exact absurd (show g + 1 ≤ g from by assumption) (by omega)
    refine Halt.go ?_
    refine Spec.ur1 (port_of_spec (news := (st, W.listOf #[.int g tg, .int f tf] ns) :: (rw_, ro) :: R2) (by k_mem) (.tail _ (.tail _ mu2)) hu' (by k_mem) hso' los hvn hsl (sub_cons (sub_cons mu4))) (ret := ?_)
    rintro tq h' tk' F7 N7
    try dsimp only
    have hzl : (kvsBy (fun x => Value.ref x.lD) xs).length ≤ 100 := by rw [kvsBy, List.length_map]; exact hz
    k_steps
    · exfalso; omega
    refine Halt.go ?_
    refine state_join F7 st g tg (if port = 0 then nxt p else f) ((rw_, ro) :: R2) ?_ ?_
    · refine wpAny_If ?_
      k_steps
      · have e0 : (if port = 0 then nxt p else f) = nxt p := if_pos (by first | assumption | exact beq_iff_eq.mp (by assumption) | omega)
        (with_reducible rename News _ _ _ _ => NL)
        rw [nxt_of hp9] at NL
        rw [e0]
        exact .mk _ _ _ _ (by k_asm) (cb_drop NL (by k_extra "l_sub"))
      · have e0 : (if port = 0 then nxt p else f) = f := if_neg (by first | assumption | omega)
        rw [e0]
        exact .mk _ _ _ _ (by k_asm) (cb_drop (by k_asm) (by k_extra "l_sub"))
    intro tf2 ns2 h8 tk8 F8 N8
    clear F7
    try dsimp only
    k_steps
    (with_reducible rename News _ _ _ _ => NL)
    have D4 := nd_news NL (by k_extra "l_fresh")
    subst hR2
    refine' hret _ _ _ _ (.mk uo' po' o' so' _ v3' n3 _ _ _ rI sI _ rl sl _ ⟨hu', hpo', ho', hso', ?cro, hrl, hsl, ⟨_,_,_,_, [], _, [], [], [], rfl, ⟨_,_, ?cR⟩, ?cL, .no, .no, .nil⟩, ?cD⟩) ?cF (cb_drop ?cN ?c0)
    case cF => k_asm
    case cN => exact NL
    case cro => assumption
    case cR => assumption
    case cL => assumption
    case c0 => k_extra "l_memx"
    exact Tr.nd [_, _, _, _, _, _, _, _, _, _, _, _, _] [_, _, _, _, _, _, _, _, _, _, _, _, _] [_, _, _] (.c 0 0 (.c 1 1 (.c 2 2 (.c 3 3 (.c 4 4 (.c 5 5 (.c 6 6 (.c 7 7 (.c 8 8 (.c 9 9 (.c 10 10 (.c 11 11 (.c 12 12 (.a (.s 0) (.a (.s 1) (.s 2)))))))))))))))) (.c 4 4 (.c 5 5 (.c 6 6 (.c 7 7 (.c 8 8 (.c 9 9 (.c 10 10 (.c 11 11 (.c 12 12 (.c 3 3 (.c 2 2 (.a (.s 0) (.a (.s 1) (.a (.c 1 1 (.c 0 0 (.a (.a .n .n) .n))) (.s 2))))))))))))))) rfl D4
  · intro i ys v I oI C oC D m₂ h9 tk E' G hi hv hC hx F3 N3 off ne Gy
    obtain ⟨k, hk⟩ := hv
    obtain ⟨x, hx1, hx2, rfl, rfl⟩ := kvs_at hk
    obtain ⟨lo_, vf, ve, qD, vs, cap, i1, i2, ⟨t1, t2, i3⟩, i4, i5⟩ := (hl x hx2).mem
    replace i1 := hs0 x hx2 _ i1
    have offRaw := off
    dsimp only [LCg.Off3] at off
    k_steps
    exact LCg.CompEnd.intro (by k_asm) (by k_asm) _ ro_sub offRaw (by k_mem) (Gy _ ⟨x, _, hx1, rfl⟩)
end

def skLed (x : Sk) : Led := x.rl ++ (x.sl ++ x.ll)
inductive Fixed (prog : Program) (w : World) (us rw_ st : Addr) (xs : List Sk) (g f : Int) (fx : Led) : Prop
  | mk (ud : Addr) (uo : Obj) (pi pd pt : Addr) (po : Obj) (ti td tr : Addr) (o : Obj) (sd : Addr) (so ro : Obj) (k1 k2 k3 k4 v1 v2 v3 kt tg tf : Tok) (n n2 ns : Nat)
    (e : fx = (us, instObj 445 ud) :: (ud, uo) :: (pi, instObj 135 pd) :: (pd, dictOf (portsEs w.params k1 k2 k3 k4 v1 v2 v3 f pt) n) :: (pt, po) :: (ti, instObj 327 td) :: (td, dictOf [ent w.params "rows" kt (.ref tr)] n2) :: (tr, o) :: (sd, so) :: (rw_, ro) :: [(st, W.listOf #[.int g tg, .int f tf] ns)]) (hu : UsObj w.params pi ti sd g uo) (hdt : o.IsDictOf (intKind prog w) (rowsOf xs)) (lot : (tr == sysModules) = false) (hdp : po.IsDictOf (intKind prog w) (portsOf xs)) (lop : (pt == sysModules) = false) (hds : so.IsDictOf (intKind prog w) (kvsBy (fun x => .ref x.sI) xs)) (los : (sd == sysModules) = false) (hdr : ro.IsDictOf (intKind prog w) (kvsBy (fun x => .ref x.lD) xs)) (lor : (rw_ == sysModules) = false)
structure SkOk (prog : Program) (w : World) (x : Sk) : Prop where
  p7 : 7 ≤ x.port
  p9 : x.port ≤ 9
  ql : x.q.length ≤ 2
  rx : RowLed w.params x.num x.adr x.port x.far x.rI x.rl
  sx : SockLed w.params x.adr x.port x.far x.q x.err x.sI x.sl
  lx : LawLed prog w x.adr x.port x.far x.q x.err x.lD x.ll
def Good (prog : Program) (w : World) (g : Int) (xs : List Sk) : Prop :=
  (xs.map (·.num)).Nodup ∧ (xs.map (·.port)).Nodup ∧ ∀ x ∈ xs, x.num ≤ g ∧ SkOk prog w x
inductive Wld (prog : Program) (w : World) (us rw_ st : Addr) (xs : List Sk) (W : Led) : Prop
  | mk (g f : Int) (fx : Led) (F : Fixed prog w us rw_ st xs g f fx) (G : Good prog w g xs) (f1 : 7 ≤ f) (f2 : f ≤ 9) (e : W = fx ++ xs.flatMap skLed)
structure Twin (x y : Sk) : Prop where
  num : y.num = x.num
  port : y.port = x.port
  rI : y.rI = x.rI
  sI : y.sI = x.sI
  lD : y.lD = x.lD
theorem twin_kvs {pre post : List Sk} {x y : Sk} (h : Twin x y) : rowsOf (pre ++ y :: post) = rowsOf (pre ++ x :: post) ∧ portsOf (pre ++ y :: post) = portsOf (pre ++ x :: post) ∧ kvsBy (fun x => .ref x.sI) (pre ++ y :: post) = kvsBy (fun x => .ref x.sI) (pre ++ x :: post) ∧ kvsBy (fun x => .ref x.lD) (pre ++ y :: post) = kvsBy (fun x => .ref x.lD) (pre ++ x :: post) := by
  simp [rowsOf, kvsBy, portsOf, h.num, h.port, h.rI, h.sI, h.lD]
theorem len3 : ∀ {l : List Int}, l.Nodup → (∀ a ∈ l, 7 ≤ a ∧ a ≤ 9) → l.length ≤ 3 := by
  intro l D h
  have key : ∀ l : List Int, (∀ a ∈ l, 7 ≤ a ∧ a ≤ 9) → l.length = l.count 7 + l.count 8 + l.count 9 := by
    intro l
    induction l with
    | nil => intro _; rfl
    | cons a l ih =>
      intro h
      have ha := h a (.head _)
      have := ih fun b hb => h b (.tail _ hb)
      have : a = 7 ∨ a = 8 ∨ a = 9 := by omega
      rcases this with rfl | rfl | rfl <;> simp [List.count_cons] <;> omega
  have c := List.nodup_iff_count.mp D
  have := key l h
  have c7 := c 7
  have c8 := c 8
  have c9 := c 9
  omega
theorem Good.len {prog : Program} {w : World} {g : Int} {xs : List Sk} (G : Good prog w g xs) : xs.length ≤ 3 := by
  have := len3 G.2.1 (fun a ha => by
    obtain ⟨x, hx, rfl⟩ := List.mem_map.mp ha
    exact ⟨(G.2.2 x hx).2.p7, (G.2.2 x hx).2.p9⟩)
  simpa using this
theorem nodup_num {xs : List Sk} (h : (xs.map (·.port)).Nodup) {x y : Sk} (hx : x ∈ xs) (hy : y ∈ xs) (e : x.port = y.port) : x = y := by
  induction xs with
  | nil => exact absurd hx List.not_mem_nil
  | cons z zs ih =>
    rw [List.map_cons, List.nodup_cons] at h
    rcases List.mem_cons.mp hx with hx | hx <;> rcases List.mem_cons.mp hy with hy | hy
    · exact hx.trans hy.symm
    · exact absurd (List.mem_map.mpr ⟨y, hy, by rw [← e, hx]⟩) h.1
    · exact absurd (List.mem_map.mpr ⟨x, hx, by rw [e, hy]⟩) h.1
    · exact ih h.2 hx hy
theorem Good.apart {prog : Program} {w : World} {g : Int} {xs : List Sk} (G : Good prog w g xs) {x : Sk} (hx : x ∈ xs) : ∀ y ∈ xs, y.num ≠ x.num → y.port ≠ x.port := fun y hy h e => h (by rw [nodup_num G.2.1 hy hx e])
theorem split_at {xs : List Sk} {x : Sk} (h : x ∈ xs) : ∃ pre post, xs = pre ++ x :: post := List.append_of_mem h
theorem led_sub {xs : List Sk} {x : Sk} (h : x ∈ xs) : ∀ q ∈ skLed x, q ∈ xs.flatMap skLed := fun q hq => List.mem_flatMap.mpr ⟨x, h, hq⟩
theorem good_upd {prog : Program} {w : World} {g : Int} {pre post : List Sk} {x y : Sk} (G : Good prog w g (pre ++ x :: post)) (T : Twin x y) (hy : SkOk prog w y) : Good prog w g (pre ++ y :: post) := by
  obtain ⟨a, b, c⟩ := G
  refine ⟨by simpa [T.num] using a, by simpa [T.port] using b, fun z hz => ?_⟩
  rcases List.mem_append.mp hz with hz | hz
  · exact c z (List.mem_append_left _ hz)
  rcases List.mem_cons.mp hz with rfl | hz
  · exact ⟨by rw [T.num]; exact (c x (by simp)).1, hy⟩
  · exact c z (by simp [hz])
theorem fixed_upd {prog : Program} {w : World} {us rw_ st : Addr} {g f : Int} {pre post : List Sk} {x y : Sk} {fx : Led} (F : Fixed prog w us rw_ st (pre ++ x :: post) g f fx) (T : Twin x y) : Fixed prog w us rw_ st (pre ++ y :: post) g f fx := by
  obtain ⟨e1, e2, e3, e4⟩ := twin_kvs (pre := pre) (post := post) T
  obtain ⟨ud, uo, pi, pd, pt, po, ti, td, tr, o, sd, so, ro, k1, k2, k3, k4, v1, v2, v3, kt, tg, tf, n, n2, ns, e, hu, hdt, lot, hdp, lop, hds, los, hdr, lor⟩ := F
  rw [← e1] at hdt
  rw [← e2] at hdp
  rw [← e3] at hds
  rw [← e4] at hdr
  exact ⟨ud, uo, pi, pd, pt, po, ti, td, tr, o, sd, so, ro, k1, k2, k3, k4, v1, v2, v3, kt, tg, tf, n, n2, ns, e, hu, hdt, lot, hdp, lop, hds, los, hdr, lor⟩

theorem pick_mem {target tport : Int} {f : Int × Int} {xs : List Sk} {k : Int} (h : (pickAll target tport f xs).2 = some k) : ∃ x ∈ xs, x.num = k := by
  have key : ∀ (xs : List Sk) (st : Int × Option Int), (xs.foldl (pickStep target tport f) st).2 = some k → st.2 = some k ∨ ∃ x ∈ xs, x.num = k := by
    intro xs
    induction xs with
    | nil => exact fun st h => .inl h
    | cons x xs ih =>
      intro st h
      rw [List.foldl_cons] at h
      rcases ih _ h with h | ⟨y, hy, e⟩
      · unfold pickStep at h
        split at h
        · exact .inr ⟨x, .head _, by simpa using h⟩
        · exact .inl h
      · exact .inr ⟨y, .tail _ hy, e⟩
  rcases key xs (0, none) h with h | h
  · cases h
  · exact h
inductive After (prog : Program) (w : World) (us rw_ st : Addr) (A : Led) (r : Value) (news' : Led) : Prop
  | mk (xs : List Sk) (W : Led) (e : r = .bool true) (h : Wld prog w us rw_ st xs W) (hs : ∀ q ∈ A ++ W, q ∈ news') (D : ((A ++ W).map (·.1)).Nodup)
theorem flat_mid {pre post : List Sk} {x : Sk} : (pre ++ x :: post).flatMap skLed = pre.flatMap skLed ++ (x.rl ++ (x.sl ++ x.ll) ++ post.flatMap skLed) := by
  simp [List.flatMap_append, List.flatMap_cons, skLed]
theorem row_tbl {prog : Program} {w : World} {xs : List Sk} {g : Int} {ti td tr : Addr} {kt : Tok} {n2 : Nat} {o : Obj} {news : Led} (G : Good prog w g xs) (i1 : (ti, instObj 327 td) ∈ news) (i2 : (td, dictOf [ent w.params "rows" kt (.ref tr)] n2) ∈ news) (i3 : (tr, o) ∈ news) (hdt : o.IsDictOf (intKind prog w) (rowsOf xs)) (lot : (tr == sysModules) = false)
    (hl : ∀ x ∈ xs, ∀ q ∈ x.rl, q ∈ news) : TblIn prog w xs ti news := ⟨td, kt, n2, tr, o, i1, i2, i3, hdt, lot, fun x hx => (G.2.2 x hx).2.rx, hl⟩
inductive FixMem (prog : Program) (w : World) (us rw_ st : Addr) (xs : List Sk) (g f : Int) (fx : Led) : Prop
  | mk (ud : Addr) (uo : Obj) (pi ti td tr : Addr) (o : Obj) (sd : Addr) (so ro : Obj) (kt tg tf : Tok) (n2 ns : Nat)
    (m1 : (us, instObj 445 ud) ∈ fx) (m2 : (ud, uo) ∈ fx) (m3 : (ti, instObj 327 td) ∈ fx) (m4 : (td, dictOf [ent w.params "rows" kt (.ref tr)] n2) ∈ fx) (m5 : (tr, o) ∈ fx) (m6 : (sd, so) ∈ fx) (m7 : (rw_, ro) ∈ fx) (m8 : (st, W.listOf #[.int g tg, .int f tf] ns) ∈ fx) (hu : UsObj w.params pi ti sd g uo) (hdt : o.IsDictOf (intKind prog w) (rowsOf xs)) (lot : (tr == sysModules) = false) (hds : so.IsDictOf (intKind prog w) (kvsBy (fun x => .ref x.sI) xs)) (los : (sd == sysModules) = false) (hdr : ro.IsDictOf (intKind prog w) (kvsBy (fun x => .ref x.lD) xs)) (lor : (rw_ == sysModules) = false)
theorem Fixed.mems {prog : Program} {w : World} {us rw_ st : Addr} {xs : List Sk} {g f : Int} {fx : Led} (F : Fixed prog w us rw_ st xs g f fx) : FixMem prog w us rw_ st xs g f fx := by
  obtain ⟨ud, uo, pi, pd, pt, po, ti, td, tr, o, sd, so, ro, k1, k2, k3, k4, v1, v2, v3, kt, tg, tf, n, n2, ns, rfl, hu, hdt, lot, hdp, lop, hds, los, hdr, lor⟩ := F
  exact ⟨ud, uo, pi, ti, td, tr, o, sd, so, ro, kt, tg, tf, n2, ns, by k_extra "k_deep", by k_extra "k_deep", by k_extra "k_deep", by k_extra "k_deep", by k_extra "k_deep", by k_extra "k_deep", by k_extra "k_deep", by k_extra "k_deep", hu, hdt, lot, hds, los, hdr, lor⟩
section
variable {prog : Program} {w : World} {us rw_ st T : Addr} {xs : List Sk} {A W : Led}
theorem off_front {T : Addr} {o : Obj} {x : Sk} (hT : (T, o) ∈ A) (D : ((A ++ W).map (·.1)).Nodup) (hx : ∀ q ∈ skLed x, q ∈ W) : ∀ q ∈ x.ll, q.1 ≠ T := by
  intro q hq e
  have hq' := hx q (List.mem_append_right _ (List.mem_append_right _ hq))
  rw [List.map_append, List.nodup_append] at D
  exact D.2.2 T (List.mem_map.mpr ⟨_, hT, rfl⟩) q.1 (List.mem_map_of_mem hq') e.symm
theorem came_way {b tp fa fp : Int} {bs : Array UInt8} {ps : List Int} {t1 t2 t3 t4 t5 : Tok} (hW : Wld prog w us rw_ st xs W) (D : ((A ++ W).map (·.1)).Nodup) (hT : (T, tupObj [.int fa t3, .int fp t4]) ∈ A)
    (hk : KBw.bInts bs = ps) (hb : ps.length ≤ 3) (hps : ∀ c ∈ ps, 0 ≤ c ∧ c < 256) (s0 : 0 ≤ fa) (s1 : fa ≤ 200) (q0 : 0 ≤ b) (q1 : b ≤ 200) (a0 : 0 ≤ fp) (a1 : fp < 65536) (b0 : 0 ≤ tp) (b1 : tp < 65536) :
    Spec prog w 494 25 [.ref us, .ref rw_, .int b t1, .int tp t2, .ref T, .bytes bs t5] (A ++ W) (After prog w us rw_ st A) := by
  obtain ⟨g, f, fx, F, G, f1, f2, rfl⟩ := hW
  obtain ⟨ud, uo, pi, ti, td, tr, o, sd, so, ro, kt, tg, tf, n2, ns, b1', b2, b3, b4, b5, b6, b7, b8, hu, hdt, lot, hds, los, hdr, lor⟩ := F.mems
  have inW : ∀ {q}, q ∈ fx → q ∈ A ++ (fx ++ xs.flatMap skLed) := fun h => List.mem_append_right _ (List.mem_append_left _ h)
  have inS : ∀ {x}, x ∈ xs → ∀ {q}, q ∈ skLed x → q ∈ A ++ (fx ++ xs.flatMap skLed) := fun hx q h => List.mem_append_right _ (List.mem_append_right _ (led_sub hx q h))
  have hoff : ∀ x ∈ xs, ∀ q ∈ x.ll, q.1 ≠ T := fun x hx => off_front hT D (fun q hq => List.mem_append_right _ (led_sub hx q hq))
  cases hp : (pickAll b tp (fa, fp) xs).2 with
  | none =>
    refine (came_none_spec (inW b1') (inW b2) hu (row_tbl G (inW b3) (inW b4) (inW b5) hdt lot (fun x hx q hq => inS hx (List.mem_append_left _ hq)))
      G.1 (inW b7) hdr lor (List.mem_append_left _ hT) (fun x hx => (G.2.2 x hx).2.lx) (fun x hx q hq => inS hx (List.mem_append_right _ (List.mem_append_right _ hq))) hoff hk hb hps s0 s1 q0 q1 a0 a1 b0 b1 hp).mono ro_sub ?_
    rintro r l ⟨⟩
    exact ⟨xs, _, rfl, ⟨g, f, _, F, G, f1, f2, rfl⟩, ro_sub, D⟩
  | some k =>
    obtain ⟨x, hx, rfl⟩ := pick_mem hp
    have ok := (G.2.2 x hx).2
    obtain ⟨pre, post, rfl⟩ := split_at hx
    obtain ⟨R, hR⟩ : ∃ R, R = A ++ (fx ++ (pre.flatMap skLed ++ (x.rl ++ post.flatMap skLed))) := ⟨_, rfl⟩
    have hsub : ∀ q ∈ A ++ (fx ++ (pre ++ x :: post).flatMap skLed), q ∈ x.ll ++ (x.sl ++ R) := by rw [flat_mid, hR]; exact Tr.sb [] [] [_,_,_,_,_,_,_] (.a (.s 0) (.a (.s 1) (.a (.s 2) (.a (.s 3) (.a (.s 4) (.a (.s 5) (.s 6))))))) (.a (.s 2) (.a (.s 3) (.a (.s 4) (.a (.a (.s 5) (.a (.s 1) (.s 0))) (.s 6))))) rfl
    have hsup : ∀ q ∈ x.ll ++ (x.sl ++ R), q ∈ A ++ (fx ++ (pre ++ x :: post).flatMap skLed) := by rw [flat_mid, hR]; exact Tr.sb [] [] [_,_,_,_,_,_,_] (.a (.s 0) (.a (.s 1) (.a (.s 2) (.a (.a (.s 3) (.a (.s 4) (.s 5))) (.s 6))))) (.a (.s 5) (.a (.s 4) (.a (.s 0) (.a (.s 1) (.a (.s 2) (.a (.s 3) (.s 6))))))) rfl
    have D1 : ((x.ll ++ (x.sl ++ R)).map (·.1)).Nodup := by rw [flat_mid] at D; rw [hR]; exact Tr.nd [] [] [_,_,_,_,_,_,_] (.a (.s 0) (.a (.s 1) (.a (.s 2) (.a (.a (.s 3) (.a (.s 4) (.s 5))) (.s 6))))) (.a (.s 5) (.a (.s 4) (.a (.s 0) (.a (.s 1) (.a (.s 2) (.a (.s 3) (.s 6))))))) rfl D
    have inR : ∀ {q}, q ∈ fx → q ∈ R := fun h => by rw [hR]; exact List.mem_append_right _ (List.mem_append_left _ h)
    have rlR : ∀ y ∈ pre ++ x :: post, ∀ q ∈ y.rl, q ∈ R := fun y hy q hq => by
      rw [hR]
      rcases List.mem_append.mp hy with hy | hy
      · simp only [List.mem_append]; exact .inr (.inr (.inl (led_sub hy q (List.mem_append_left _ hq))))
      rcases List.mem_cons.mp hy with rfl | hy
      · simp only [List.mem_append]; exact .inr (.inr (.inr (.inl hq)))
      · simp only [List.mem_append]; exact .inr (.inr (.inr (.inr (led_sub hy q (List.mem_append_left _ hq)))))
    refine (came_some_spec (rest := R) hx ok.sx ok.ql D1 (inR b1') (inR b2) hu (inR b6) hds los (row_tbl G (inR b3) (inR b4) (inR b5) hdt lot rlR)
      G.1 (inR b7) hdr lor (by rw [hR]; exact List.mem_append_left _ hT) (fun x hx => (G.2.2 x hx).2.lx) (fun y hy q hq => hsub q (inS hy (List.mem_append_right _ (List.mem_append_right _ hq)))) hoff hk hb hps s0 s1 q0 q1 a0 a1 b0 b1 hp).mono hsup ?_
    rintro r l ⟨ll, sl, h1, h2, D2⟩
    obtain ⟨y, hy⟩ : ∃ y : Sk, y = { x with q := if x.q.length < 2 then x.q ++ [(ps, fa, fp)] else x.q, sl := sl, ll := ll } := ⟨_, rfl⟩
    have Ty : Twin x y := by subst hy; exact ⟨rfl, rfl, rfl, rfl, rfl⟩
    have oky : SkOk prog w y := by
      subst hy
      refine ⟨ok.p7, ok.p9, ?_, ok.rx, h1, h2⟩
      have := ok.ql
      dsimp only
      split <;> simp <;> omega
    have e1 : y.rl = x.rl := by rw [hy]
    have e2 : y.sl = sl := by rw [hy]
    have e3 : y.ll = ll := by rw [hy]
    refine ⟨pre ++ y :: post, _, rfl, ⟨g, f, fx, fixed_upd F Ty, good_upd G Ty oky, f1, f2, rfl⟩, ?_, ?_⟩
    · rw [flat_mid, hR, e1, e2, e3]; exact Tr.sb [] [] [_,_,_,_,_,_,_] (.a (.s 0) (.a (.s 1) (.a (.s 2) (.a (.s 3) (.a (.s 4) (.a (.s 5) (.s 6))))))) (.a (.s 2) (.a (.s 3) (.a (.s 4) (.a (.a (.s 5) (.a (.s 1) (.s 0))) (.s 6))))) rfl
    · rw [flat_mid, e1, e2, e3]; rw [hR] at D2; exact Tr.nd [] [] [_,_,_,_,_,_,_] (.a (.s 0) (.a (.s 1) (.a (.s 2) (.a (.s 3) (.a (.s 4) (.a (.s 5) (.s 6))))))) (.a (.s 2) (.a (.s 3) (.a (.s 4) (.a (.a (.s 5) (.a (.s 1) (.s 0))) (.s 6))))) rfl D2
theorem mid {fx : Led} {pre post : List Sk} {x : Sk} (D : ((A ++ (fx ++ (pre ++ x :: post).flatMap skLed)).map (·.1)).Nodup) :
    ∃ R : Led, (∀ q ∈ A ++ (fx ++ (pre ++ x :: post).flatMap skLed), q ∈ x.ll ++ (x.sl ++ R)) ∧ (∀ q ∈ x.ll ++ (x.sl ++ R), q ∈ A ++ (fx ++ (pre ++ x :: post).flatMap skLed)) ∧ ((x.ll ++ (x.sl ++ R)).map (·.1)).Nodup ∧ (∀ q ∈ fx, q ∈ R) ∧ (∀ q ∈ A, q ∈ R) ∧ (∀ y ∈ pre ++ x :: post, ∀ q ∈ y.rl, q ∈ R) ∧ (∀ y ∈ pre ++ post, ∀ q ∈ skLed y, q ∈ R) ∧
      ∀ y : Sk, y.rl = x.rl → (∀ q ∈ A ++ (fx ++ (pre ++ y :: post).flatMap skLed), q ∈ y.ll ++ (y.sl ++ R)) ∧ (((y.ll ++ (y.sl ++ R)).map (·.1)).Nodup → ((A ++ (fx ++ (pre ++ y :: post).flatMap skLed)).map (·.1)).Nodup) := by
  refine ⟨A ++ (fx ++ (pre.flatMap skLed ++ (x.rl ++ post.flatMap skLed))), ?_, ?_, ?_, fun q h => List.mem_append_right _ (List.mem_append_left _ h), fun q h => List.mem_append_left _ h, fun y hy q hq => ?_, fun y hy q hq => ?_, fun y e => ⟨?_, fun D2 => ?_⟩⟩
  · rw [flat_mid]; exact Tr.sb [] [] [_,_,_,_,_,_,_] (.a (.s 0) (.a (.s 1) (.a (.s 2) (.a (.s 3) (.a (.s 4) (.a (.s 5) (.s 6))))))) (.a (.s 2) (.a (.s 3) (.a (.s 4) (.a (.a (.s 5) (.a (.s 1) (.s 0))) (.s 6))))) rfl
  · rw [flat_mid]; exact Tr.sb [] [] [_,_,_,_,_,_,_] (.a (.s 0) (.a (.s 1) (.a (.s 2) (.a (.a (.s 3) (.a (.s 4) (.s 5))) (.s 6))))) (.a (.s 5) (.a (.s 4) (.a (.s 0) (.a (.s 1) (.a (.s 2) (.a (.s 3) (.s 6))))))) rfl
  · rw [flat_mid] at D; exact Tr.nd [] [] [_,_,_,_,_,_,_] (.a (.s 0) (.a (.s 1) (.a (.s 2) (.a (.a (.s 3) (.a (.s 4) (.s 5))) (.s 6))))) (.a (.s 5) (.a (.s 4) (.a (.s 0) (.a (.s 1) (.a (.s 2) (.a (.s 3) (.s 6))))))) rfl D
  · rcases List.mem_append.mp hy with hy | hy
    · simp only [List.mem_append]; exact .inr (.inr (.inl (led_sub hy q (List.mem_append_left _ hq))))
    rcases List.mem_cons.mp hy with rfl | hy
    · simp only [List.mem_append]; exact .inr (.inr (.inr (.inl hq)))
    · simp only [List.mem_append]; exact .inr (.inr (.inr (.inr (led_sub hy q (List.mem_append_left _ hq)))))
  · rcases List.mem_append.mp hy with hy | hy
    · simp only [List.mem_append]; exact .inr (.inr (.inl (led_sub hy q hq)))
    · simp only [List.mem_append]; exact .inr (.inr (.inr (.inr (led_sub hy q hq))))
  · rw [flat_mid, e]; exact Tr.sb [] [] [_,_,_,_,_,_,_] (.a (.s 0) (.a (.s 1) (.a (.s 2) (.a (.s 3) (.a (.s 4) (.a (.s 5) (.s 6))))))) (.a (.s 2) (.a (.s 3) (.a (.s 4) (.a (.a (.s 5) (.a (.s 1) (.s 0))) (.s 6))))) rfl
  · rw [flat_mid, e]; exact Tr.nd [] [] [_,_,_,_,_,_,_] (.a (.s 0) (.a (.s 1) (.a (.s 2) (.a (.s 3) (.a (.s 4) (.a (.s 5) (.s 6))))))) (.a (.s 2) (.a (.s 3) (.a (.s 4) (.a (.a (.s 5) (.a (.s 1) (.s 0))) (.s 6))))) rfl D2
theorem after_put {fx : Led} {pre post : List Sk} {x y : Sk} {g f : Int} {l : Led} (F : Fixed prog w us rw_ st (pre ++ x :: post) g f fx) (G : Good prog w g (pre ++ x :: post)) (f1 : 7 ≤ f) (f2 : f ≤ 9) (T : Twin x y) (ok : SkOk prog w y) (h1 : ∀ q ∈ A ++ (fx ++ (pre ++ y :: post).flatMap skLed), q ∈ l) (h2 : ((A ++ (fx ++ (pre ++ y :: post).flatMap skLed)).map (·.1)).Nodup) :
    After prog w us rw_ st A (.bool true) l := ⟨pre ++ y :: post, _, rfl, ⟨g, f, fx, fixed_upd F T, good_upd G T ok, f1, f2, rfl⟩, h1, h2⟩
theorem read_way {x : Sk} {t1 : Tok} (hW : Wld prog w us rw_ st xs W) (D : ((A ++ W).map (·.1)).Nodup) (hx : x ∈ xs) : Spec prog w 501 15 [.ref us, .ref x.lD, .int x.num t1] (A ++ W) (After prog w us rw_ st A) := by
  obtain ⟨g, f, fx, F, G, f1, f2, rfl⟩ := hW
  obtain ⟨ud, uo, pi, ti, td, tr, o, sd, so, ro, kt, tg, tf, n2, ns, b1', b2, b3, b4, b5, b6, b7, b8, hu, hdt, lot, hds, los, hdr, lor⟩ := F.mems
  have ok := (G.2.2 x hx).2
  obtain ⟨pre, post, rfl⟩ := split_at hx
  obtain ⟨R, r1, r2, r3, r4, r5, r6, r7, r8⟩ := mid D
  refine (read_spec (rest := R) hx ok.sx ok.ql r3 (r4 _ b1') (r4 _ b2) hu (r4 _ b6) hds los G.1 ok.lx).mono r2 ?_
  rintro r l ⟨ll, sl, h1, h2, D2⟩
  obtain ⟨z1, z2⟩ := r8 { x with q := x.q.drop 1, sl := sl, ll := ll } rfl
  refine after_put F G f1 f2 (y := { x with q := x.q.drop 1, sl := sl, ll := ll }) ⟨rfl, rfl, rfl, rfl, rfl⟩ ⟨ok.p7, ok.p9, ?_, ok.rx, h1, h2⟩ z1 (z2 D2)
  have := ok.ql
  simp; omega
theorem sent_way {x : Sk} {fa fp : Int} {bs : Array UInt8} {ps : List Int} {t1 t3 t4 t5 : Tok} (hW : Wld prog w us rw_ st xs W) (hx : x ∈ xs) (hT : (T, tupObj [.int fa t3, .int fp t4]) ∈ A) (hk : KBw.bInts bs = ps) (hb : ps.length ≤ 3) (hps : ∀ c ∈ ps, 0 ≤ c ∧ c < 256) (s0 : 0 ≤ fa) (s1 : fa ≤ 200) (a0 : 0 ≤ fp) (a1 : fp < 65536) :
    Spec prog w 508 30 [.ref us, .ref x.lD, .int x.num t1, .ref T, .bytes bs t5] (A ++ W) (R0 (.bool true) (A ++ W)) := by
  obtain ⟨g, f, fx, F, G, f1, f2, rfl⟩ := hW
  obtain ⟨ud, uo, pi, ti, td, tr, o, sd, so, ro, kt, tg, tf, n2, ns, b1', b2, b3, b4, b5, b6, b7, b8, hu, hdt, lot, hds, los, hdr, lor⟩ := F.mems
  have inW : ∀ {q}, q ∈ fx → q ∈ A ++ (fx ++ xs.flatMap skLed) := fun h => List.mem_append_right _ (List.mem_append_left _ h)
  have inS : ∀ {x}, x ∈ xs → ∀ {q}, q ∈ skLed x → q ∈ A ++ (fx ++ xs.flatMap skLed) := fun hx q h => List.mem_append_right _ (List.mem_append_right _ (led_sub hx q h))
  have ok := (G.2.2 x hx).2
  exact sent_spec hx ok.sx (fun q hq => inS hx (List.mem_append_right _ (List.mem_append_left _ hq))) (inW b1') (inW b2) hu (inW b6) hds los G.1 ok.lx (fun q hq => inS hx (List.mem_append_right _ (List.mem_append_right _ hq))) (List.mem_append_left _ hT) hk hb hps s0 s1 a0 a1 (by have := ok.p7; omega) (by have := ok.p9; omega)
theorem erred_way {x : Sk} {fa fp : Int} {t3 t4 : Tok} (hW : Wld prog w us rw_ st xs W) (D : ((A ++ W).map (·.1)).Nodup) (hx : x ∈ xs) (hT : (T, tupObj [.int fa t3, .int fp t4]) ∈ A) (s0 : 0 ≤ fa) (s1 : fa ≤ 200) (a0 : 0 ≤ fp) (a1 : fp < 65536) :
    Spec prog w 515 30 [.ref us, .ref rw_, .ref x.lD, .ref T] (A ++ W) (After prog w us rw_ st A) := by
  obtain ⟨g, f, fx, F, G, f1, f2, rfl⟩ := hW
  obtain ⟨ud, uo, pi, ti, td, tr, o, sd, so, ro, kt, tg, tf, n2, ns, b1', b2, b3, b4, b5, b6, b7, b8, hu, hdt, lot, hds, los, hdr, lor⟩ := F.mems
  have ok := (G.2.2 x hx).2
  have hap := G.apart hx
  obtain ⟨pre, post, rfl⟩ := split_at hx
  obtain ⟨R, r1, r2, r3, r4, r5, r6, r7, r8⟩ := mid D
  have oth : ∀ y ∈ pre ++ x :: post, y.num ≠ x.num → y ∈ pre ++ post := fun y hy h => by
    rcases List.mem_append.mp hy with hy | hy
    · exact List.mem_append_left _ hy
    rcases List.mem_cons.mp hy with rfl | hy
    · exact absurd rfl h
    · exact List.mem_append_right _ hy
  refine (erred_spec (rest := R) hx (fun y hy => (G.2.2 y hy).2.sx) (fun y hy h q hq => r7 y (oth y hy h) q (List.mem_append_right _ (List.mem_append_left _ hq))) r3 (r4 _ b1') (r4 _ b2) hu (r4 _ b6) hds los G.1 hap (r4 _ b7) hdr lor (r5 _ hT) (fun x hx => (G.2.2 x hx).2.lx) (fun y hy h q hq => r7 y (oth y hy h) q (List.mem_append_right _ (List.mem_append_right _ hq))) s0 s1 a0 a1 (by have := ok.p7; omega) (by have := ok.p9; omega)).mono r2 ?_
  rintro r l ⟨ll, sl, h1, h2, D2⟩
  obtain ⟨z1, z2⟩ := r8 { x with err := if x.far = some (fa, fp) then some (3, 3) else x.err, sl := sl, ll := ll } rfl
  exact after_put F G f1 f2 (y := { x with err := if x.far = some (fa, fp) then some (3, 3) else x.err, sl := sl, ll := ll }) ⟨rfl, rfl, rfl, rfl, rfl⟩ ⟨ok.p7, ok.p9, ok.ql, ok.rx, h1, h2⟩ z1 (z2 D2)
end

section
variable {prog : Program} {w : World} {us rw_ st T : Addr} {xs : List Sk} {A W : Led}
theorem nxt_in {f : Int} (h : 7 ≤ f ∧ f ≤ 9) : 7 ≤ nxt f ∧ nxt f ≤ 9 := by unfold nxt; split <;> omega
theorem due_in {f p : Int} {ps : List Int} (h : 7 ≤ f ∧ f ≤ 9) (e : dueV f ps = some p) : 7 ≤ p ∧ p ≤ 9 := by
  unfold dueV at e
  have h1 := nxt_in h
  have h2 := nxt_in h1
  split at e
  · split at e
    · split at e <;> cases e
      exact h2
    · cases e; exact h1
  · cases e; exact h
theorem valueAt_ports_out {p : Int} (h : p ∉ xs.map (·.port)) : valueAt (portsOf xs) p = none := by
  have := ports_out h
  cases e : valueAt (portsOf xs) p with
  | none => rfl
  | some v => rw [e] at this; cases this
theorem opened_way {adr port : Int} {t1 t2 : Tok} (hW : Wld prog w us rw_ st xs W) (D : ((A ++ W).map (·.1)).Nodup) (hp : port = 0 ∨ port = 7 ∨ port = 8) :
    Spec prog w 480 40 [.ref us, .ref rw_, .ref st, .int adr t1, .int port t2] (A ++ W) (After prog w us rw_ st A) ∨ SpecS prog w 480 40 [.ref us, .ref rw_, .ref st, .int adr t1, .int port t2] (A ++ W) (fun r news' => r = .bool true ∧ news' = A ++ W) := by
  obtain ⟨g, f, fx, F, G, f1, f2, rfl⟩ := hW
  obtain ⟨ud, uo, pi, pd, pt, po, ti, td, tr, o, sd, so, ro, k1, k2, k3, k4, v1, v2, v3, kt, tg, tf, n, n2, ns, efx, hu, hdt, lot, hdp, lop, hds, los, hdr, lor⟩ := id F
  have hz : xs.length ≤ 100 := Nat.le_trans G.len (by omega)
  have inW : ∀ {q}, q ∈ fx → q ∈ A ++ (fx ++ xs.flatMap skLed) := fun h => List.mem_append_right _ (List.mem_append_left _ h)
  have inS : ∀ {x}, x ∈ xs → ∀ {q}, q ∈ skLed x → q ∈ A ++ (fx ++ xs.flatMap skLed) := fun hx q h => List.mem_append_right _ (List.mem_append_right _ (led_sub hx q h))
  have fail : (port = 0 ∧ dueV f (xs.map (·.port)) = none ∨ (port = 7 ∨ port = 8) ∧ port ∈ xs.map (·.port)) → SpecS prog w 480 40 [.ref us, .ref rw_, .ref st, .int adr t1, .int port t2] (A ++ (fx ++ xs.flatMap skLed)) (fun r news' => r = .bool true ∧ news' = A ++ (fx ++ xs.flatMap skLed)) := fun h =>
    opened_fail (inW (by rw [efx]; k_extra "k_deep")) (inW (by rw [efx]; k_extra "k_deep")) hu (inW (by rw [efx]; k_extra "k_deep")) (inW (by rw [efx]; k_extra "k_deep")) (inW (by rw [efx]; k_extra "k_deep")) hdp lop (inW (by rw [efx]; k_extra "k_deep")) hdr lor (fun x hx => (G.2.2 x hx).2.lx) (fun x hx q hq => inS hx (List.mem_append_right _ (List.mem_append_right _ hq))) ⟨f1, f2⟩ hz (inW (by rw [efx]; k_extra "k_deep")) h
  have okk : ∀ p, 7 ≤ p ∧ p ≤ 9 → (port = 0 ∧ dueV f (xs.map (·.port)) = some p ∨ (port = 7 ∨ port = 8) ∧ p = port ∧ port ∉ xs.map (·.port)) → Spec prog w 480 40 [.ref us, .ref rw_, .ref st, .int adr t1, .int port t2] (A ++ (fx ++ xs.flatMap skLed)) (After prog w us rw_ st A) := by
    intro p hp9 h
    have hpo : p ∉ xs.map (·.port) := by
      rcases h with ⟨_, h1⟩ | ⟨_, rfl, h2⟩
      · exact (due_some h1).2
      · exact h2
    have hnew : ∀ x ∈ xs, x.num ≠ g + 1 := fun x hx e => by have := (G.2.2 x hx).1; omega
    subst efx
    have D1 : (((us, instObj 445 ud) :: (ud, uo) :: (pi, instObj 135 pd) :: (pd, dictOf (portsEs w.params k1 k2 k3 k4 v1 v2 v3 f pt) n) :: (pt, po) :: (ti, instObj 327 td) :: (td, dictOf [ent w.params "rows" kt (.ref tr)] n2) :: (tr, o) :: (sd, so) :: (rw_, ro) :: (st, W.listOf #[.int g tg, .int f tf] ns) :: (A ++ xs.flatMap skLed)).map (·.1)).Nodup := by exact Tr.nd [_,_,_,_,_,_,_,_,_,_,_] [_,_,_,_,_,_,_,_,_,_,_] [_,_] (.a (.s 0) (.a (.c 0 0 (.c 1 1 (.c 2 2 (.c 3 3 (.c 4 4 (.c 5 5 (.c 6 6 (.c 7 7 (.c 8 8 (.c 9 9 (.c 10 10 .n))))))))))) (.s 1))) (.c 0 0 (.c 1 1 (.c 2 2 (.c 3 3 (.c 4 4 (.c 5 5 (.c 6 6 (.c 7 7 (.c 8 8 (.c 9 9 (.c 10 10 (.a (.s 0) (.s 1))))))))))))) rfl D
    refine (opened_ok (rest := A ++ xs.flatMap skLed) D1 hu hdt lot hdp lop hds los hdr lor G.1 hz (fun x hx => (G.2.2 x hx).2.rx) (fun x hx q hq => List.mem_append_right _ (led_sub hx q (List.mem_append_left _ hq))) (fun x hx => (G.2.2 x hx).2.lx) (fun x hx q hq => List.mem_append_right _ (led_sub hx q (List.mem_append_right _ (List.mem_append_right _ hq)))) hnew ⟨f1, f2⟩ hp9 h).mono (by exact Tr.sb [_,_,_,_,_,_,_,_,_,_,_] [_,_,_,_,_,_,_,_,_,_,_] [_,_] (.a (.s 0) (.a (.c 0 0 (.c 1 1 (.c 2 2 (.c 3 3 (.c 4 4 (.c 5 5 (.c 6 6 (.c 7 7 (.c 8 8 (.c 9 9 (.c 10 10 .n))))))))))) (.s 1))) (.c 0 0 (.c 1 1 (.c 2 2 (.c 3 3 (.c 4 4 (.c 5 5 (.c 6 6 (.c 7 7 (.c 8 8 (.c 9 9 (.c 10 10 (.a (.s 0) (.s 1))))))))))))) rfl) ?_
    rintro r l ⟨uo', po', o', so', ro', v3', n', tg', tf', ns', rI, sI, lD, rl, sl, ll, hu', hpo', ho', hso', hro', hrl, hsl, hll, D2⟩
    obtain ⟨y, hy⟩ : ∃ y : Sk, y = { num := g + 1, port := p, adr := adr, far := none, q := [], err := none, rI := rI, sI := sI, lD := lD, rl := rl, sl := sl, ll := ll } := ⟨_, rfl⟩
    have ef : (xs ++ [y]).flatMap skLed = xs.flatMap skLed ++ (rl ++ (sl ++ ll)) := by simp [List.flatMap_append, skLed, hy]
    have hf' : 7 ≤ (if port = 0 then nxt p else f) ∧ (if port = 0 then nxt p else f) ≤ 9 := by
      split
      · exact nxt_in hp9
      · exact ⟨f1, f2⟩
    refine ⟨xs ++ [y], _, rfl, ⟨g + 1, (if port = 0 then nxt p else f), _, ⟨ud, uo', pi, pd, pt, po', ti, td, tr, o', sd, so', ro', k1, k2, k3, k4, v1, v2, v3', kt, tg', tf', n', n2, ns', rfl, hu', ?_, lot, ?_, lop, ?_, los, ?_, lor⟩, ⟨?_, ?_, ?_⟩, hf'.1, hf'.2, rfl⟩, ?_, ?_⟩
    · have : rowsOf (xs ++ [y]) = rowsOf xs ++ [(g + 1, .ref rI)] := by simp [rowsOf, kvsBy, hy]
      rw [this]; exact ho'
    · have : portsOf (xs ++ [y]) = stored (portsOf xs) p (.bool true) := by rw [stored_absent (valueAt_ports_out hpo)]; simp [portsOf, hy]
      rw [this]; exact hpo'
    · have : kvsBy (fun x => .ref x.sI) (xs ++ [y]) = stored (kvsBy (fun x => .ref x.sI) xs) (g + 1) (.ref sI) := by rw [stored_absent (valueAt_none hnew)]; simp [kvsBy, hy]
      rw [this]; exact hso'
    · have : kvsBy (fun x => .ref x.lD) (xs ++ [y]) = stored (kvsBy (fun x => .ref x.lD) xs) (g + 1) (.ref lD) := by rw [stored_absent (valueAt_none hnew)]; simp [kvsBy, hy]
      rw [this]; exact hro'
    · rw [List.map_append, List.nodup_append]
      refine ⟨G.1, by simp, ?_⟩
      intro a ha b hb e
      obtain ⟨x, hx, rfl⟩ := List.mem_map.mp ha
      have : b = g + 1 := by simpa [hy] using hb
      exact hnew x hx (e.trans this)
    · rw [List.map_append, List.nodup_append]
      refine ⟨G.2.1, by simp, ?_⟩
      intro a ha b hb e
      have : b = p := by simpa [hy] using hb
      exact hpo (by rw [← this, ← e]; exact ha)
    · intro x hx
      rcases List.mem_append.mp hx with hx | hx
      · exact ⟨by have := (G.2.2 x hx).1; omega, (G.2.2 x hx).2⟩
      · have : x = y := by simpa using hx
        subst this
        subst hy
        exact ⟨Int.le_refl _, hp9.1, hp9.2, by simp, hrl, hsl, hll⟩
    · rw [ef]; exact Tr.sb [_,_,_,_,_,_,_,_,_,_,_] [_,_,_,_,_,_,_,_,_,_,_] [_,_,_,_,_] (.c 0 0 (.c 1 1 (.c 2 2 (.c 3 3 (.c 4 4 (.c 5 5 (.c 6 6 (.c 7 7 (.c 8 8 (.c 9 9 (.c 10 10 (.a (.s 0) (.a (.s 1) (.a (.s 2) (.a (.s 3) (.s 4)))))))))))))))) (.a (.s 3) (.a (.c 0 0 (.c 1 1 (.c 2 2 (.c 3 3 (.c 4 4 (.c 5 5 (.c 6 6 (.c 7 7 (.c 8 8 (.c 9 9 (.c 10 10 .n))))))))))) (.a (.s 4) (.a (.s 0) (.a (.s 1) (.s 2)))))) rfl
    · rw [ef]; exact Tr.nd [_,_,_,_,_,_,_,_,_,_,_] [_,_,_,_,_,_,_,_,_,_,_] [_,_,_,_,_] (.c 0 0 (.c 1 1 (.c 2 2 (.c 3 3 (.c 4 4 (.c 5 5 (.c 6 6 (.c 7 7 (.c 8 8 (.c 9 9 (.c 10 10 (.a (.s 0) (.a (.s 1) (.a (.s 2) (.a (.s 3) (.s 4)))))))))))))))) (.a (.s 3) (.a (.c 0 0 (.c 1 1 (.c 2 2 (.c 3 3 (.c 4 4 (.c 5 5 (.c 6 6 (.c 7 7 (.c 8 8 (.c 9 9 (.c 10 10 .n))))))))))) (.a (.s 4) (.a (.s 0) (.a (.s 1) (.s 2)))))) rfl D2
  rcases hp with rfl | hp
  · cases h : dueV f (xs.map (·.port)) with
    | none => exact .inr (fail (.inl ⟨rfl, h⟩))
    | some p => exact .inl (okk p (due_in ⟨f1, f2⟩ h) (.inl ⟨rfl, h⟩))
  · by_cases h : port ∈ xs.map (·.port)
    · exact .inr (fail (.inr ⟨hp, h⟩))
    · exact .inl (okk port (by omega) (.inr ⟨hp, rfl, h⟩))
end

def stmtsOf (o : Option Obj) : List Stmt := match o with
  | some ⟨_,_, .func fd, _⟩ => (match fd.body with | .stmts b => b | _ => [])
  | _ => []
def scopeOf (o : Option Obj) : Scope := match o with
  | some ⟨_,_, .func fd, _⟩ => fd.scope
  | _ => default
def codeOf (o : Option Obj) : Value := match o with
  | some ⟨_,_, .func fd, _⟩ => fd.code
  | _ => .none
section
variable {prog : Program} {w : World} {src : Addr} {o : Obj} {rest : Led}
theorem one_pick {l r : Led} {th : Addr} {vs : List Value} {nn : Nat} (P : Pick (src, o) l r) (ho : SrcObj o) (hr : ∀ p ∈ r, p.1 ≠ src) (hth : (th, W.listOf vs.toArray nn) ∈ r) (h0 : 1 ≤ vs.length) (h1 : vs.length ≤ 4) :
    Spec prog w 470 8 [.ref src, .ref th] l (Q2 (fun (v : Value) o' => v) (fun v o' => (src, o') :: r) (fun v o' => v ∈ vs ∧ SrcObj o')) := (one_spec (rest := r) ho hr h0 h1 hth).mono P.sub fun _ _ h => h
theorem take_pick {l r : Led} {top : Int} {t : Tok} (P : Pick (src, o) l r) (ho : SrcObj o) (hr : ∀ p ∈ r, p.1 ≠ src) (h0 : 1 ≤ top) (h1 : top ≤ 10) :
    Spec prog w 463 5 [.ref src, .int top t] l (Q3 (fun k t' o' => .int k t') (fun k t' o' => (src, o') :: r) (fun k t' o' => An3 (0 ≤ k) (k < top) (SrcObj o'))) := (take_spec (rest := r) ho hr h0 h1).mono P.sub fun _ _ h => h
theorem ints_rep (n : Nat) (a : Int) (t : Tok) : IntsAre (List.replicate n [Value.int a t]).flatten (List.replicate n a) := by
  induction n with
  | zero => exact .nil
  | succ n ih => rw [List.replicate_succ, List.replicate_succ, List.flatten_cons]; exact .cons _ _ ih
theorem eq_empty {A : Around} {E : Value → Shared → Prop} {s : Shared} {h₀ : Heap} {L a b : Addr} {oa ob : Obj} {news : Led} {ka : List (Int × Value)} {r : Bool} {Q : Value → Shared → Prop} (N : News h₀ L s.heap news) (pa : (a, oa) ∈ news) (pb : (b, ob) ∈ news) (da : oa.IsDictOf (intKind prog w) ka) (db : ob.IsDictOf (intKind prog w) []) (la : (a == sysModules) = false) (lb : (b == sysModules) = false) (hu : A.units < cLine)
    (hr : (ka.length == 0) = r) (h : Q (.bool r) s) : wpAny (model prog w) A (compareOp .Eq (.ref a) (.ref b)) Q E s := by
  refine keq_eq (r := true) la lb (Heap.dictOf_iff.mpr ⟨oa, (N _ pa).1, da⟩) (Heap.dictOf_iff.mpr ⟨ob, (N _ pb).1, db⟩) hu (fun e => ?_) ?_
  · have : ka = [] := List.length_eq_zero_iff.mp e
    subst this; exact .nil
  · rw [Bool.and_true]
    show Q (.bool (ka.length == 0)) s
    rw [hr]; exact h
theorem SpecS.use {f : Addr} {lvl : Nat} {vs : List Value} {news : Led} {Post : Value → Led → Prop} (S : SpecS prog w f lvl vs news Post)
    {p : Program} {loose : List Str} {mean : ExcName → Option Value} {mg mb : Str → Option Value} {dp un : Nat} {gd : Option (List Code)} {cn : Str} {cs : Scope} {a : Addr} {ccd : Value} {cl : List (Str × Addr)} {outer : List Env} {A₀ : Around} {base h₀ : Heap} {L : Addr} {m : Str → Option Value} {hh : Heap} {gs : Array GenState} {dr : Drawn} {tk : Nat} {oz : OsState} {Q E : Value → Shared → Prop} {news₀ : Led}
    (B : Below A₀ base outer h₀) (F : Fr h₀ L hh m) (X : (hp w.params).In h₀) (N : News h₀ L hh news₀) (hs : ∀ q ∈ news, q ∈ news₀) (T : Top p loose mean mg mb h₀) (XB : (hp w.params).In base) (TB : Top p loose mean mg mb base) (KD : KtsDicts (frs outer) h₀) (hk : cs.kind = .function) (hdp : dp + lvl < 500) (hu : un + 100 * lvl < 9000)
    (ret : ∀ r news' h' tk' h₁, Post r news' → KtsTurn (frs outer) h₀ h₁ → Fr h₁ L h' m → News h₁ L h' news' → Below A₀ base outer h₁ → (hp w.params).In h₁ → Top p loose mean mg mb h₁ → KtsDicts (frs outer) h₁ → Q r ⟨h', gs, dr, tk', oz⟩) :
    wpAny (model prog w) (ktrTop dp un gd cn cs L a ccd cl outer) (call (.ref f) vs) Q E ⟨hh, gs, dr, tk, oz⟩ := S _ _ _ _ _ _ _ _ _ _ _ _ _ _ _ _ _ _ _ _ _ _ _ _ _ _ B F X (fun q hq => N q (hs q hq)) T XB TB KD hk hdp hu ret
theorem ints_mem : ∀ {vs : List Value} {ns : List Int}, IntsAre vs ns → ∀ r ∈ vs, ∃ k t, r = Value.int k t ∧ k ∈ ns
  | _,_, .nil, r, h => absurd h List.not_mem_nil
  | _,_, .cons n t h', r, h => by
    rcases List.mem_cons.mp h with rfl | h
    · exact ⟨n, t, rfl, .head _⟩
    · obtain ⟨k, t', e, hk⟩ := ints_mem h' r h
      exact ⟨k, t', e, .tail _ hk⟩
theorem in3 {r : Value} {a b c : Int} {t1 t2 t3 : Tok} (h : r ∈ [Value.int a t1, .int b t2, .int c t3]) : ∃ k t, r = .int k t ∧ (k = a ∨ k = b ∨ k = c) := by
  simp only [List.mem_cons, List.not_mem_nil, or_false] at h
  rcases h with rfl | rfl | rfl
  · exact ⟨_,_, rfl, .inl rfl⟩
  · exact ⟨_,_, rfl, .inr (.inl rfl)⟩
  · exact ⟨_,_, rfl, .inr (.inr rfl)⟩
end
theorem reg62 : True := by
  (k_with "l_off" => first | assumption | (refine List.forall_mem_cons.mpr ⟨?_, ?_⟩; (show @Ne Nat _ _; omega); k_extra "l_off"))
  (k_with "l_pick" => (repeat (first | exact Pick.head | apply Pick.tail)))
  (k_with "call type:bytes" => (with_reducible refine Halt.at ?_))
  (k_with "call builtin:sorted" => (with_reducible refine Halt.at ?_))
  (k_with "call ref" => with_reducible (first | refine Halt.call (a := 470) ?_ | refine Halt.call (a := 480) ?_ | refine Halt.call (a := 494) ?_ | refine Halt.call (a := 501) ?_ | refine Halt.call (a := 508) ?_ | refine Halt.call (a := 515) ?_ | refine Halt.call (a := 522) ?_ | refine Halt.call (a := 386) ?_ | refine Halt.call (a := 393) ?_ | refine Halt.call (a := 442) ?_ | refine Halt.call (a := 428) ?_))
  trivial
def TailOk (prog : Program) (w : World) (us rw_ st src T : Addr) (os oc : Obj) (A0 W : Led) (x : Sk) (bs : Array UInt8) (way adr fa fp : Int) (tw ta tb t3 t4 tn : Tok) : Prop :=
  ∀ (p : Program) (loose : List Str) (mean : ExcName → Option Value) (mg mb : Str → Option Value) (dp un : Nat) (gd : Option (List Code)) (cn : Str) (cs : Scope) (Lc ac : Addr) (ccd : Value) (cl : List (Str × Addr)) (outer : List Env) (base g : Heap) (L : Addr) (hh : Heap) (gs : Array GenState) (dr : Drawn) (tk : Nat) (oz : OsState) (Q : Flow → Shared → Prop) (E : Value → Shared → Prop),
    Below (ktrTop dp un gd cn cs Lc ac ccd cl outer) base (envX cn cs Lc ac ccd cl :: outer) g →
    Fr g L hh (fun y => if y = Str.ofString "number" then some (.int x.num tn) else if y = Str.ofString "octets" then some (.bytes bs tb) else if y = Str.ofString "way" then some (.int way tw) else if y = Str.ofString "address" then some (.int adr ta) else if y = Str.ofString "state" then some (.ref st) else if y = Str.ofString "rows" then some (.ref rw_) else if y = Str.ofString "sockets" then some (.ref us) else if y = Str.ofString "source" then some (.ref src) else none) →
    (hp w.params).In g → News g L hh ((T, tupObj [.int fa t3, .int fp t4]) :: (src, os) :: (L + 1, oc) :: W) → Top p loose mean mg mb g → (hp w.params).In base → Top p loose mean mg mb base → KtsDicts (frs (envX cn cs Lc ac ccd cl :: outer)) g → dp + 60 < 500 → un + 100 * 60 < 9000 →
    (((T, tupObj [.int fa t3, .int fp t4]) :: (src, os) :: (L + 1, oc) :: W).map (·.1)).Nodup →
    (∀ r n h' tk' m' g1, (∃ os', SrcObj os' ∧ After prog w us rw_ st ((src, os') :: A0) r n) → KtsTurn (frs (envX cn cs Lc ac ccd cl :: outer)) g g1 → Fr g1 L h' m' → News g1 L h' n → Q (.ret r) ⟨h', gs, dr, tk', oz⟩) →
    wpAny (model prog w) ((ktrTop dp un gd cn cs Lc ac ccd cl outer).deeper (envOfC (Str.ofString "_law_deed_right") (scopeOf ((hp w.params).lookup 527)) L 527 (codeOf ((hp w.params).lookup 527)))) (execs ((stmtsOf ((hp w.params).lookup 527)).drop 4) (envOfC (Str.ofString "_law_deed_right") (scopeOf ((hp w.params).lookup 527)) L 527 (codeOf ((hp w.params).lookup 527)))) Q E ⟨hh, gs, dr, tk, oz⟩

theorem reg63 : True := by
  (k_with "l_tail" => (generalize hzw : (hp _).lookup 527 = zw; have ew := hzw.symm.trans (by k_is); subst ew; clear hzw; dsimp only [stmtsOf, scopeOf, codeOf, List.drop]))
  trivial
section
variable {prog : Program} {w : World} {us rw_ st src T : Addr} {xs : List Sk} {os oc : Obj} {A0 W : Led} {x : Sk} {bs : Array UInt8} {ps : List Int} {way adr fa fp : Int} {tw ta tb t3 t4 tn : Tok}
theorem tail_read (hW : Wld prog w us rw_ st xs W) (hs : SrcObj os) (dc : oc.data = Data.cell (some (.ref T))) (hx : x ∈ xs) : TailOk prog w us rw_ st src T os oc A0 (A0 ++ W) x bs 5 adr fa fp tw ta tb t3 t4 tn := by
  intro p loose mean mg mb dp un gd cn cs Lc ac ccd cl outer base g L hh gs dr tk oz Q E B F X N TP XB TB KD hdp hun D ret
  k_extra "l_tail"
  have DS : (((src, os) :: (A0 ++ W)).map (·.1)).Nodup := by exact Tr.nd [_,_,_] [_,_,_] [_,_] (.c 0 0 (.c 1 1 (.c 2 2 (.a (.s 0) (.s 1))))) (.c 1 1 (.a (.s 0) (.s 1))) rfl D
  obtain ⟨g0, f, fx, FX, G, f1, f2, eW⟩ := id hW
  obtain ⟨ud, uo, pi, ti, td, tr, o_, sd, so, ro, kt, tg, tf, n2_, ns, m1, m2, m3, m4, m5, m6, m7, m8, hu0, hdt, lot, hds, los, hdr, lor⟩ := FX.mems
  have m7' : (rw_, ro) ∈ A0 ++ W := List.mem_append_right _ (by rw [eW]; exact List.mem_append_left _ m7)
  have hv := valueAt_kvs (f := fun x => .ref x.lD) G.1 hx
  clear m1 m2 m3 m4 m5 m6 m7 m8 hu0 hdt hds eW FX G
  k_steps
  refine Halt.go ?_
  refine Spec.use (read_way (A := (src, os) :: A0) hW DS hx) (by k_asm) (by k_asm) (by k_asm) (by k_asm) (by exact Tr.sb [_,_,_] [_,_,_] [_,_] (.c 0 0 (.c 1 1 (.c 2 2 (.a (.s 0) (.s 1))))) (.a (.c 1 1 (.s 0)) (.s 1)) rfl) (by k_asm) (by first | exact rfl | assumption) (by k_extra "bud") (by k_extra "bud") ?_
  rintro r9 n9 h9 tk9 hA F9 N9
  try dsimp only
  k_steps
  exact ret _ _ _ _ _ _ ⟨_, hs, hA⟩ KtsTurn.refl F9 N9
theorem tail_came (hW : Wld prog w us rw_ st xs W) (hs : SrcObj os) (dc : oc.data = Data.cell (some (.ref T))) (hx : x ∈ xs) (hbk : KBw.bInts bs = ps) (hlen : ps.length ≤ 3) (hps : ∀ c ∈ ps, 0 ≤ c ∧ c < 256) (hfa : 0 ≤ fa ∧ fa ≤ 200) (hfp : 0 ≤ fp ∧ fp < 65536) (had : 0 ≤ adr ∧ adr ≤ 200) (hw1 : 2 ≤ way) (hw2 : way < 5) : TailOk prog w us rw_ st src T os oc A0 (A0 ++ W) x bs way adr fa fp tw ta tb t3 t4 tn := by
  intro p loose mean mg mb dp un gd cn cs Lc ac ccd cl outer base g L hh gs dr tk oz Q E B F X N TP XB TB KD hdp hun D ret
  k_extra "l_tail"
  have DS : (((src, os) :: (A0 ++ W)).map (·.1)).Nodup := by exact Tr.nd [_,_,_] [_,_,_] [_,_] (.c 0 0 (.c 1 1 (.c 2 2 (.a (.s 0) (.s 1))))) (.c 1 1 (.a (.s 0) (.s 1))) rfl D
  obtain ⟨g0, f, fx, FX, G, f1, f2, eW⟩ := id hW
  obtain ⟨ud, uo, pi, ti, td, tr, o_, sd, so, ro, kt, tg, tf, n2_, ns, m1, m2, m3, m4, m5, m6, m7, m8, hu0, hdt, lot, hds, los, hdr, lor⟩ := FX.mems
  have m7' : (rw_, ro) ∈ A0 ++ W := List.mem_append_right _ (by rw [eW]; exact List.mem_append_left _ m7)
  have hv := valueAt_kvs (f := fun x => .ref x.lD) G.1 hx
  have okx := (G.2.2 x hx).2
  obtain ⟨lo_, vf, ve, qD, vs, cap, i1, i2, ⟨u1, u2, i3⟩, i4, i5⟩ := okx.lx.mem
  have i1' : (x.lD, lo_) ∈ A0 ++ W := List.mem_append_right _ (by rw [eW]; exact List.mem_append_right _ (led_sub hx _ (List.mem_append_right _ (List.mem_append_right _ i1))))
  have hpx := okx.p7
  have hpy := okx.p9
  clear m1 m2 m3 m4 m5 m6 m7 m8 hu0 hdt hds eW FX G
  have hoff : ∀ p ∈ (T, tupObj [.int fa t3, .int fp t4]) :: (L + 1, oc) :: (A0 ++ W), p.1 ≠ src := ne_of_nodup (x := (src, os)) (by exact Tr.nd [_,_,_] [_,_,_] [_,_] (.c 0 0 (.c 1 1 (.c 2 2 (.a (.s 0) (.s 1))))) (.c 1 1 (.c 0 0 (.c 2 2 (.a (.s 0) (.s 1))))) rfl D)
  obtain ⟨z1, z2⟩ := List.forall_mem_cons.mp hoff
  obtain ⟨z3, z4⟩ := List.forall_mem_cons.mp z2
  have z1' : @Ne Nat T src := z1
  have z3' : @Ne Nat (L + 1) src := z3
  clear hoff z1 z2 z3
  k_steps
  refine Halt.go ?_
  refine Spec.gq2 (C := one_pick (by k_extra "l_pick") hs (by k_extra "l_off") (by k_mem) (by simp) (by simp)) (ret := ?_)
  rintro r8 os8 h8 tk8 ⟨hr8, hs8⟩ F8 N8
  obtain ⟨tp, ttp, rfl, htp⟩ := in3 hr8
  have htp' : 0 ≤ tp ∧ tp < 65536 := by omega
  clear htp hr8
  replace N8 : News _ _ _ (((T, tupObj [.int fa t3, .int fp t4]) :: (src, os8) :: (L + 1, oc) :: A0) ++ W) := cb_drop N8 (by k_extra "l_memx")
  have D8 : ((((T, tupObj [.int fa t3, .int fp t4]) :: (src, os8) :: (L + 1, oc) :: A0) ++ W).map (·.1)).Nodup := D
  try dsimp only
  k_steps
  all_goals (
    refine Halt.go ?_
    refine Spec.use (came_way (A := (T, tupObj [.int fa t3, .int fp t4]) :: (src, os8) :: (L + 1, oc) :: A0) (fa := fa) (fp := fp) (t3 := t3) (t4 := t4) hW D8 (.head _) hbk hlen hps hfa.1 hfa.2 (by omega) (by omega) hfp.1 hfp.2 htp'.1 htp'.2) (by k_asm) (by k_asm) (by k_asm) (by k_asm) (by exact ro_sub) (by k_asm) (by first | exact rfl | assumption) (by k_extra "bud") (by k_extra "bud") ?_
    rintro r9 n9 h9 tk9 ⟨xs', W', rfl, hW', hsub, D9⟩ F9 N9
    try dsimp only
    k_steps
    exact ret _ _ _ _ _ _ ⟨_, hs8, xs', W', rfl, hW', fun q hq => (List.mem_cons.mp hq).elim (fun e => e ▸ hsub _ (.tail _ (.head _))) (fun h => hsub q (.tail _ (.tail _ (.tail _ h)))), by exact Tr.nd [_,_,_] [_,_,_] [_,_] (.a (.c 0 0 (.c 1 1 (.c 2 2 (.s 0)))) (.s 1)) (.a (.c 1 1 (.s 0)) (.s 1)) rfl D9⟩ KtsTurn.refl F9 N9)
theorem tail_sent (hW : Wld prog w us rw_ st xs W) (hs : SrcObj os) (dc : oc.data = Data.cell (some (.ref T))) (hx : x ∈ xs) (hbk : KBw.bInts bs = ps) (hlen : ps.length ≤ 3) (hps : ∀ c ∈ ps, 0 ≤ c ∧ c < 256) (hfa : 0 ≤ fa ∧ fa ≤ 200) (hfp : 0 ≤ fp ∧ fp < 65536) : TailOk prog w us rw_ st src T os oc A0 (A0 ++ W) x bs 7 adr fa fp tw ta tb t3 t4 tn := by
  intro p loose mean mg mb dp un gd cn cs Lc ac ccd cl outer base g L hh gs dr tk oz Q E B F X N TP XB TB KD hdp hun D ret
  k_extra "l_tail"
  have DS : (((src, os) :: (A0 ++ W)).map (·.1)).Nodup := by exact Tr.nd [_,_,_] [_,_,_] [_,_] (.c 0 0 (.c 1 1 (.c 2 2 (.a (.s 0) (.s 1))))) (.c 1 1 (.a (.s 0) (.s 1))) rfl D
  obtain ⟨g0, f, fx, FX, G, f1, f2, eW⟩ := id hW
  obtain ⟨ud, uo, pi, ti, td, tr, o_, sd, so, ro, kt, tg, tf, n2_, ns, m1, m2, m3, m4, m5, m6, m7, m8, hu0, hdt, lot, hds, los, hdr, lor⟩ := FX.mems
  have m7' : (rw_, ro) ∈ A0 ++ W := List.mem_append_right _ (by rw [eW]; exact List.mem_append_left _ m7)
  have hv := valueAt_kvs (f := fun x => .ref x.lD) G.1 hx
  clear m1 m2 m3 m4 m5 m6 m7 m8 hu0 hdt hds eW FX G
  have D8 : ((((T, tupObj [.int fa t3, .int fp t4]) :: (src, os) :: (L + 1, oc) :: A0) ++ W).map (·.1)).Nodup := D
  k_steps
  refine Halt.go ?_
  refine Spec.ur0 (sent_way (A := (T, tupObj [.int fa t3, .int fp t4]) :: (src, os) :: (L + 1, oc) :: A0) (fa := fa) (fp := fp) (t3 := t3) (t4 := t4) hW hx (.head _) hbk hlen hps hfa.1 hfa.2 hfp.1 hfp.2) (hs := by exact Tr.sb [_,_,_] [_,_,_] [_,_] (.c 0 0 (.c 1 1 (.c 2 2 (.a (.s 0) (.s 1))))) (.a (.c 0 0 (.c 1 1 (.c 2 2 (.s 0)))) (.s 1)) rfl) (ret := ?_)
  rintro h8 tk8 F8 N8
  try dsimp only
  k_steps
  refine Halt.go ?_
  refine Spec.use (erred_way (A := (T, tupObj [.int fa t3, .int fp t4]) :: (src, os) :: (L + 1, oc) :: A0) (fa := fa) (fp := fp) (t3 := t3) (t4 := t4) hW D8 hx (.head _) hfa.1 hfa.2 hfp.1 hfp.2) (by k_asm) (by k_asm) (by k_asm) (by k_asm) (by exact ro_sub) (by k_asm) (by first | exact rfl | assumption) (by k_extra "bud") (by k_extra "bud") ?_
  rintro r9 n9 h9 tk9 ⟨xs', W', rfl, hW', hsub, D9⟩ F9 N9
  try dsimp only
  k_steps
  exact ret _ _ _ _ _ _ ⟨_, hs, xs', W', rfl, hW', fun q hq => (List.mem_cons.mp hq).elim (fun e => e ▸ hsub _ (.tail _ (.head _))) (fun h => hsub q (.tail _ (.tail _ (.tail _ h)))), by exact Tr.nd [_,_,_] [_,_,_] [_,_] (.a (.c 0 0 (.c 1 1 (.c 2 2 (.s 0)))) (.s 1)) (.a (.c 1 1 (.s 0)) (.s 1)) rfl D9⟩ KtsTurn.refl F9 N9
end

theorem reg64 : True := by
  (k_with "subscriptTail Name Slice ref ref" => (with_reducible refine Halt.at ?_))
  (k_with "eval ListComp" => ((with_reducible show wpAny _ _ (eval (Expr.ListComp _ [⟨_,_, [_], _⟩] _ _) _) _ _ _); with_reducible refine Halt.at ?_))
  trivial
section
variable {prog : Program} {w : World} {us rw_ st src T : Addr} {xs : List Sk} {os oc : Obj} {A0 W : Led} {x : Sk} {bs : Array UInt8} {ps : List Int} {way adr fa fp : Int} {tw ta tb t3 t4 tn : Tok}
theorem qKeep_len {q : List (List Int × Int × Int)} {a p : Int} (h : q.length ≤ 2) : (qKeep q a p).length ≤ 2 := Nat.le_trans (selL_sub (f := qSel q a p) (l := q) (i := 0)).length_le h
theorem conn6_close {h₀ h' : Heap} {L lD qD T src c D' : Addr} {tup tup1 tup2 oI oI1 oI2 oQ oQ1 oQ2 os os1 os2 oc oc1 oc2 oL : Obj} {f : Nat → Bool} {lf le lq R : Led}
    (N : News h₀ L h' ((D', oL) :: (lD, oI) :: (qD, oQ) :: (T, tup) :: (src, os) :: (c, oc) :: (lf ++ le ++ lq ++ R)))
    (D : (((lD, oI1) :: (qD, oQ1) :: (T, tup1) :: (src, os1) :: (c, oc1) :: (lf ++ le ++ lq ++ R)).map (·.1)).Nodup) (o : ∀ p ∈ (lD, oI2) :: (qD, oQ2) :: (T, tup2) :: (src, os2) :: (c, oc2) :: (lf ++ le ++ lq ++ R), p.1 ≠ D') :
    (∀ p ∈ (src, os) :: (((lD, oI) :: (D', oL) :: ([(T, tup)] ++ le ++ selL f 0 lq)) ++ R), p ∈ (D', oL) :: (lD, oI) :: (qD, oQ) :: (T, tup) :: (src, os) :: (c, oc) :: (lf ++ le ++ lq ++ R)) ∧ (((src, os) :: (((lD, oI) :: (D', oL) :: ([(T, tup)] ++ le ++ selL f 0 lq)) ++ R)).map (·.1)).Nodup := by
  have hs := selL_sub (f := f) (l := lq) (i := 0)
  refine ⟨?_, ?_⟩
  · have hsub := (((((hs.append_left ([(T, tup)] ++ le)).cons_cons (D', oL)).cons_cons (lD, oI)).append_right R).cons_cons (src, os)).subset
    intro p hp
    have hp' := hsub hp
    clear hp
    revert p
    exact Tr.sb [_,_,_,_,_,_] [_,_,_,_,_,_] [_,_,_,_] (.c 0 0 (.c 1 1 (.c 2 2 (.c 3 3 (.c 4 4 (.c 5 5 (.a (.a (.a (.s 0) (.s 1)) (.s 2)) (.s 3)))))))) (.c 4 4 (.a (.c 1 1 (.c 0 0 (.a (.a (.c 3 3 .n) (.s 1)) (.s 2)))) (.s 3))) rfl
  · have D2 := nodup_new (o := oL) (l := (lD, oI1) :: (qD, oQ1) :: (T, tup1) :: (src, os1) :: (c, oc1) :: (lf ++ le ++ lq ++ R)) (ne_map o (by rfl)) D
    refine nodup_by_count D2 (fun a ha => ?_)
    have hc := (hs.map (·.1)).count_le a
    simp only [List.map_append, List.map_cons, List.map_nil, List.count_append, List.count_cons, List.count_nil] at ha ⊢
    omega
theorem conn_after {pre post : List Sk} {fx LL l l' R led : Led} {g f : Int} {far err : Option (Int × Int)} {q : List (List Int × Int × Int)} (hR : R = A0 ++ (fx ++ (pre.flatMap skLed ++ post.flatMap skLed)))
    (FX : Fixed prog w us rw_ st (pre ++ x :: post) g f fx) (G : Good prog w g (pre ++ x :: post)) (f1 : 7 ≤ f) (f2 : f ≤ 9) (hRow : RowLed w.params x.num x.adr x.port far x.rI l) (hS : SockLed w.params x.adr x.port far q err x.sI l') (hL : LawLed prog w x.adr x.port far q err x.lD LL) (hq : q.length ≤ 2)
    (h1 : ∀ p ∈ (src, os) :: (LL ++ (l' ++ (l ++ R))), p ∈ led) (h2 : (((src, os) :: (LL ++ (l' ++ (l ++ R)))).map (·.1)).Nodup) : After prog w us rw_ st ((src, os) :: A0) (.bool true) led := by
  have ok := (G.2.2 x (by simp)).2
  have key : ∀ p ∈ ((src, os) :: A0) ++ (fx ++ (pre ++ { x with far := far, q := q, err := err, rl := l, sl := l', ll := LL } :: post).flatMap skLed), p ∈ (src, os) :: (LL ++ (l' ++ (l ++ R))) := by
    rw [flat_mid, hR]; exact Tr.sb [_] [_] [_,_,_,_,_,_,_] (.c 0 0 (.a (.s 0) (.a (.s 1) (.a (.s 2) (.a (.s 3) (.a (.s 4) (.a (.s 5) (.s 6)))))))) (.a (.c 0 0 (.s 3)) (.a (.s 4) (.a (.s 5) (.a (.a (.s 2) (.a (.s 1) (.s 0))) (.s 6))))) rfl
  refine after_put FX G f1 f2 (y := { x with far := far, q := q, err := err, rl := l, sl := l', ll := LL }) ⟨rfl, rfl, rfl, rfl, rfl⟩ ⟨ok.p7, ok.p9, hq, hRow, hS, hL⟩ (fun p hp => h1 p (key p hp)) ?_
  rw [flat_mid]
  rw [hR] at h2
  exact Tr.nd [_] [_] [_,_,_,_,_,_,_] (.c 0 0 (.a (.s 0) (.a (.s 1) (.a (.s 2) (.a (.s 3) (.a (.s 4) (.a (.s 5) (.s 6)))))))) (.a (.c 0 0 (.s 3)) (.a (.s 4) (.a (.s 5) (.a (.a (.s 2) (.a (.s 1) (.s 0))) (.s 6))))) rfl h2
theorem tail_conn (hW : Wld prog w us rw_ st xs W) (hs : SrcObj os) (dc : oc.data = Data.cell (some (.ref T))) (hx : x ∈ xs) : TailOk prog w us rw_ st src T os oc A0 (A0 ++ W) x bs 6 adr fa fp tw ta tb t3 t4 tn := by
  intro p loose mean mg mb dp un gd cn cs Lc ac ccd cl outer base g L hh gs dr tk oz Q E B F X N TP XB TB KD hdp hun D ret
  k_extra "l_tail"
  obtain ⟨g0, f, fx, FX, G, f1, f2, eW⟩ := id hW
  obtain ⟨ud, uo, pi, ti, td, tr, o_, sd, so, ro, kt, tg, tf, n2_, ns, m1, m2, m3, m4, m5, m6, m7, m8, hu0, hdt, lot, hds, los, hdr, lor⟩ := FX.mems
  have hv := valueAt_kvs (f := fun x => .ref x.lD) G.1 hx
  have hvs := valueAt_kvs (f := fun x => .ref x.sI) G.1 hx
  have ok := (G.2.2 x hx).2
  have hap := G.apart hx
  have hrr : ∀ y ∈ xs, RowLed w.params y.num y.adr y.port y.far y.rI y.rl := fun y hy => (G.2.2 y hy).2.rx
  obtain ⟨lo_, vf, ve, qD, vs, cap, lf, le, lq, ell, ⟨u1, u2, i3⟩, i4, q1, q2, q3⟩ := ok.lx
  have hq3 := q3.length
  have hq2 := ok.ql
  obtain ⟨pre, post, exs⟩ := split_at hx
  have eW2 : W = fx ++ (pre.flatMap skLed ++ (x.rl ++ (x.sl ++ x.ll) ++ post.flatMap skLed)) := by rw [eW, exs, flat_mid]
  obtain ⟨R, hR⟩ : ∃ R, R = A0 ++ (fx ++ (pre.flatMap skLed ++ post.flatMap skLed)) := ⟨_, rfl⟩
  have fxR : ∀ q ∈ fx, q ∈ R := fun q h => by rw [hR]; exact List.mem_append_right _ (List.mem_append_left _ h)
  have fxW : ∀ q ∈ fx, q ∈ A0 ++ W := fun q h => List.mem_append_right _ (by rw [eW]; exact List.mem_append_left _ h)
  have m7' := fxW _ m7
  have m1' := fxW _ m1
  have m2' := fxW _ m2
  have m1R := fxR _ m1
  have m2R := fxR _ m2
  have D1 : ((x.sl ++ (x.rl ++ ((T, tupObj [.int fa t3, .int fp t4]) :: (src, os) :: (L + 1, oc) :: (x.ll ++ R)))).map (·.1)).Nodup := by rw [eW2] at D; rw [hR]; exact Tr.nd [_,_,_] [_,_,_] [_,_,_,_,_,_,_] (.c 0 0 (.c 1 1 (.c 2 2 (.a (.s 0) (.a (.s 1) (.a (.s 2) (.a (.a (.s 3) (.a (.s 4) (.s 5))) (.s 6)))))))) (.a (.s 4) (.a (.s 3) (.c 0 0 (.c 1 1 (.c 2 2 (.a (.s 5) (.a (.s 0) (.a (.s 1) (.a (.s 2) (.s 6)))))))))) rfl D
  have S1 : ∀ q ∈ x.sl ++ (x.rl ++ ((T, tupObj [.int fa t3, .int fp t4]) :: (src, os) :: (L + 1, oc) :: (x.ll ++ R))), q ∈ (T, tupObj [.int fa t3, .int fp t4]) :: (src, os) :: (L + 1, oc) :: (A0 ++ W) := by rw [eW2, hR]; exact Tr.sb [_,_,_] [_,_,_] [_,_,_,_,_,_,_] (.c 0 0 (.c 1 1 (.c 2 2 (.a (.s 0) (.a (.s 1) (.a (.s 2) (.a (.a (.s 3) (.a (.s 4) (.s 5))) (.s 6)))))))) (.a (.s 4) (.a (.s 3) (.c 0 0 (.c 1 1 (.c 2 2 (.a (.s 5) (.a (.s 0) (.a (.s 1) (.a (.s 2) (.s 6)))))))))) rfl
  have rlR : ∀ y ∈ xs, ∀ q ∈ y.rl, q ∈ x.rl ++ ((T, tupObj [.int fa t3, .int fp t4]) :: (src, os) :: (L + 1, oc) :: (x.ll ++ R)) := fun y hy q hq => by
    rw [hR]
    rw [exs] at hy
    rcases List.mem_append.mp hy with hy | hy
    · simp only [List.mem_append, List.mem_cons]; exact .inr (.inr (.inr (.inr (.inr (.inr (.inr (.inl (led_sub hy q (List.mem_append_left _ hq)))))))))
    rcases List.mem_cons.mp hy with rfl | hy
    · simp only [List.mem_append]; exact .inl hq
    · simp only [List.mem_append, List.mem_cons]; exact .inr (.inr (.inr (.inr (.inr (.inr (.inr (.inr (led_sub hy q (List.mem_append_left _ hq)))))))))
  have inR : ∀ {q}, q ∈ fx → q ∈ (T, tupObj [.int fa t3, .int fp t4]) :: (src, os) :: (L + 1, oc) :: (x.ll ++ R) := fun h => .tail _ (.tail _ (.tail _ (List.mem_append_right _ (fxR _ h))))
  have C := conn_spec (prog := prog) (w := w) (t1 := tn) (t2 := t3) (t3 := t4) (a := fa) (p := fp) (rest := (T, tupObj [.int fa t3, .int fp t4]) :: (src, os) :: (L + 1, oc) :: (x.ll ++ R)) hx ok.sx hq2 D1 (inR m1) (inR m2) hu0 (inR m6) hds los (inR m3) (inR m4) (inR m5) hdt lot G.1 hrr rlR hap
  have hu2 := hu0
  have m6R := fxR _ m6
  obtain ⟨y1, y2, y3, y4, y5, y6, y7, y8, e⟩ := hu0
  subst e
  clear m1 m2 m3 m4 m5 m6 m7 m8 hdt inR fxW rlR D1 hrr hap
  k_steps
  refine Halt.go ?_
  refine Spec.uq2 C (hs := S1) (ret := ?_)
  rintro l l' h2 tk2 ⟨hRl, hSl, D2⟩ F2 N2
  clear C S1 m7' m1' m2'
  replace N2 : News _ _ _ ((x.lD, lo_) :: (qD, PySem.W.listOf vs.toArray cap) :: (T, tupObj [.int fa t3, .int fp t4]) :: (src, os) :: (L + 1, oc) :: (lf ++ le ++ lq ++ (l' ++ (l ++ R)))) := cb_drop N2 (by rw [ell]; exact Tr.sb [_,_,_,_,_] [_,_,_,_,_] [_,_,_,_,_,_] (.a (.s 0) (.a (.s 1) (.c 0 0 (.c 1 1 (.c 2 2 (.a (.c 3 3 (.c 4 4 (.a (.a (.s 2) (.s 3)) (.s 4)))) (.s 5))))))) (.c 3 3 (.c 4 4 (.c 0 0 (.c 1 1 (.c 2 2 (.a (.a (.a (.s 2) (.s 3)) (.s 4)) (.a (.s 0) (.a (.s 1) (.s 5))))))))) rfl)
  have D3 : (((x.lD, lo_) :: (qD, PySem.W.listOf vs.toArray cap) :: (T, tupObj [.int fa t3, .int fp t4]) :: (src, os) :: (L + 1, oc) :: (lf ++ le ++ lq ++ (l' ++ (l ++ R)))).map (·.1)).Nodup := by rw [ell] at D2; exact Tr.nd [_,_,_,_,_] [_,_,_,_,_] [_,_,_,_,_,_] (.a (.s 0) (.a (.s 1) (.c 0 0 (.c 1 1 (.c 2 2 (.a (.c 3 3 (.c 4 4 (.a (.a (.s 2) (.s 3)) (.s 4)))) (.s 5))))))) (.c 3 3 (.c 4 4 (.c 0 0 (.c 1 1 (.c 2 2 (.a (.a (.a (.s 2) (.s 3)) (.s 4)) (.a (.s 0) (.a (.s 1) (.s 5))))))))) rfl D2
  obtain ⟨e1, e2, e3, e4, e5, e6, e7, e8, e9, e10, z1, z2, z3, z4, z5⟩ := nd5 D3
  have e1' := Ne.symm e1
  have e2' := Ne.symm e2
  have e3' := Ne.symm e3
  have e4' := Ne.symm e4
  try dsimp only
  k_steps
  refine Halt.go ?_
  refine LCt.ListComp_T (F₀ := by k_asm) (by with_unfolding_all rfl) (by decide) (by rfl) (by decide) (by rfl) ?_
  k_steps
  refine Halt.go ?_
  refine LCt.CompSrcT.ledger (by rfl) (by k_asm) (by k_asm) (by k_mem) (by rw [List.size_toArray, hq3, sizeLine_eq]; omega) ?_
  intro g'
  refine rest_sel (qSel x.q fa fp) ?_ ?_
  · unfold LCg.FinE
    intro D4 h3 tk3 F3 N3 o3
    have oRaw := off1_mem o3
    simp only [LCg.Off1, and_true] at o3
    have q3' := q3.sel (qSel x.q fa fp) 0
    have hl1 : (selL (qSel x.q fa fp) 0 vs).length = (qKeep x.q fa fp).length := q3'.length
    have hl2 := qKeep_len (a := fa) (p := fp) hq2
    have hSlm : ∀ q ∈ l', q ∈ l' ++ (l ++ R) := fun q h => List.mem_append_left _ h
    try dsimp only
    k_steps
    refine Halt.go ?_
    (with_reducible rename News _ _ _ _ => N9)
    obtain ⟨w1, w2⟩ := conn6_close (f := qSel x.q fa fp) (cb_drop N9 (sub_cons ro_sub)) D3 oRaw
    (with_reducible rename Obj.IsDictOf (PySem.strKind _ _) _ _ => hd9)
    rw [exs] at FX G
    have hAft := conn_after (os := os) hR FX G f1 f2 hRl hSl ⟨_,_,_,_,_,_,_,_,_, rfl, ⟨_,_, hd9⟩, i4, .yes, q2, q3'⟩ hl2 w1 w2
    refine Spec.gr1 B (by k_asm) X (by k_asm) ro_sub (waiting_spec (by k_mem) (by k_mem) hu2 (by k_mem) hds los hvs hSl (by k_extra "l_sub") (by omega)) (by k_asm) (by first | exact rfl | assumption) (by k_extra "bud") (by k_extra "bud") ?_
    rintro t5 h5 tk5 F5 N5
    try dsimp only
    k_steps
    have eb : (((qKeep x.q fa fp).length : Int) == ((qKeep x.q fa fp).length : Int)) = true := beq_self_eq_true _
    rw [eb]
    exact ret _ _ _ _ _ _ ⟨_, hs, hAft⟩ KtsTurn.refl (by k_asm) (cb_drop (by k_asm) (sub_cons ro_sub))
  · intro i ys v I oI C oC D m₂ h tk E' R' hv' hC hx' F3 N3 off ne Ry Rn
    have offRaw := off
    simp only [LCg.Off3, and_true] at off
    obtain ⟨T9, ps9, a9, p9, b9, s1, s2, s3, rfl, hq9, hb9, hm9⟩ := q3.at hv'
    have hsel : qSel x.q fa fp i = (a9 == fa && p9 == fp) := by unfold qSel; rw [hq9]; rfl
    k_steps
    refine Halt.go ?_
    refine slice_tuple_from (s := ⟨_,_,_,_,_⟩) (a := 1) (items := #[.bytes b9 s1, .int a9 s2, .int p9 s3]) F3 N3 (News.isTup N3 (by k_mem)) (Nat.le_refl 1) (by simp) ?_ (hsz := by rw [sizeLine_eq]; simp)
    intro h5 F5 N5
    replace N5 : News _ _ _ ((_, tupObj [.int a9 s2, .int p9 s3]) :: _) := N5
    try dsimp only
    k_steps
    refine Halt.go ?_
    refine eq_pairs (News.isTup (by k_asm) (by k_mem)) (News.isTup (by k_asm) (by k_mem)) (by k_units) ?_
    try dsimp only
    k_steps
    · exact LCg.CompEnd.intro (by k_asm) (by k_asm) _ (by k_extra "l_sub") offRaw (Or.inr ⟨_, by k_mem, rfl, _, rfl⟩) (Ry (hsel.trans (by assumption)))
    · exact LCg.CompEnd.intro (by k_asm) (by k_asm) _ (by k_extra "l_sub") offRaw (Or.inr ⟨_, by k_mem, rfl, _, rfl⟩) (Rn (hsel.trans (by assumption)))
end

section
variable {pre post : List Sk} {x : Sk} {f : Sk → Value}
theorem num_other (hn : ((pre ++ x :: post).map (·.num)).Nodup) : ∀ y ∈ pre ++ post, y.num ≠ x.num := by
  have h := ((List.perm_middle (l₁ := pre) (l₂ := post) (a := x)).map (·.num)).nodup_iff.mp hn
  rw [List.map_cons, List.nodup_cons] at h
  exact fun y hy e => h.1 (List.mem_map.mpr ⟨y, hy, e⟩)
theorem port_other (hn : ((pre ++ x :: post).map (·.port)).Nodup) : ∀ y ∈ pre ++ post, y.port ≠ x.port := by
  have h := ((List.perm_middle (l₁ := pre) (l₂ := post) (a := x)).map (·.port)).nodup_iff.mp hn
  rw [List.map_cons, List.nodup_cons] at h
  exact fun y hy e => h.1 (List.mem_map.mpr ⟨y, hy, e⟩)
theorem without_kvs (hn : ((pre ++ x :: post).map (·.num)).Nodup) : without (kvsBy f (pre ++ x :: post)) x.num = kvsBy f (pre ++ post) := by
  have hp := num_other hn
  unfold without kvsBy
  rw [List.map_append, List.filter_append, List.map_cons, List.filter_cons, if_neg (by simp), List.map_append]
  congr 1
  · rw [List.filter_eq_self]
    intro a ha
    obtain ⟨y, hy, rfl⟩ := List.mem_map.mp ha
    simpa using hp y (by simp [hy])
  · rw [List.filter_eq_self]
    intro a ha
    obtain ⟨y, hy, rfl⟩ := List.mem_map.mp ha
    simpa using hp y (by simp [hy])
theorem without_ports (hn : ((pre ++ x :: post).map (·.port)).Nodup) : without (portsOf (pre ++ x :: post)) x.port = portsOf (pre ++ post) := by
  have hp := port_other hn
  unfold without portsOf
  rw [List.map_append, List.filter_append, List.map_cons, List.filter_cons, if_neg (by simp), List.map_append]
  congr 1
  · rw [List.filter_eq_self]
    intro a ha
    obtain ⟨y, hy, rfl⟩ := List.mem_map.mp ha
    simpa using hp y (by simp [hy])
  · rw [List.filter_eq_self]
    intro a ha
    obtain ⟨y, hy, rfl⟩ := List.mem_map.mp ha
    simpa using hp y (by simp [hy])
theorem good_less {prog : Program} {w : World} {g : Int} (G : Good prog w g (pre ++ x :: post)) : Good prog w g (pre ++ post) := by
  obtain ⟨a, b, c⟩ := G
  have hs : (pre ++ post).Sublist (pre ++ x :: post) := (List.sublist_cons_self x post).append_left pre
  exact ⟨a.sublist (hs.map _), b.sublist (hs.map _), fun y hy => c y (hs.subset hy)⟩
end
section
variable {prog : Program} {w : World} {us rw_ st src T : Addr} {xs : List Sk} {os oc : Obj} {A0 W : Led} {x : Sk} {bs : Array UInt8} {ps : List Int} {way adr fa fp : Int} {tw ta tb t3 t4 tn : Tok}
theorem eq_same {A : Around} {E : Value → Shared → Prop} {s : Shared} {T T2 : Addr} {Q : Value → Shared → Prop} {a b : Int} {t1 t2 t3 t4 : Tok} (hT : s.heap.IsTuple T #[.int a t1, .int b t2]) (hT2 : s.heap.IsTuple T2 #[.int a t3, .int b t4]) (hu : A.units < cLine) (h : Q (.bool true) s) :
    wpAny (model prog w) A (compareOp .Eq (.ref T) (.ref T2)) Q E s := by
  refine eq_pairs hT hT2 hu ?_
  have e : (a == a && b == b) = true := by simp
  rw [e]; exact h
theorem wld_less {pre post : List Sk} {ud pi pd pt ti td tr sd : Addr} {uo po o so ro : Obj} {g f : Int} {k1 k2 k3 k4 v1 v2 v3 kt tg tf : Tok} {n n2 ns : Nat} (G : Good prog w g (pre ++ x :: post)) (hu : UsObj w.params pi ti sd g uo) (ho : o.IsDictOf (intKind prog w) (without (rowsOf (pre ++ x :: post)) x.num)) (lot : (tr == sysModules) = false)
    (hpo : po.IsDictOf (intKind prog w) (without (portsOf (pre ++ x :: post)) x.port)) (lop : (pt == sysModules) = false) (hso : so.IsDictOf (intKind prog w) (without (kvsBy (fun x => .ref x.sI) (pre ++ x :: post)) x.num)) (los : (sd == sysModules) = false)
    (hro : ro.IsDictOf (intKind prog w) (without (kvsBy (fun x => .ref x.lD) (pre ++ x :: post)) x.num)) (lor : (rw_ == sysModules) = false) (f1 : 7 ≤ f) (f2 : f ≤ 9) :
    Wld prog w us rw_ st (pre ++ post) (((us, instObj 445 ud) :: (ud, uo) :: (pi, instObj 135 pd) :: (pd, dictOf (portsEs w.params k1 k2 k3 k4 v1 v2 v3 f pt) n) :: (pt, po) :: (ti, instObj 327 td) :: (td, dictOf [ent w.params "rows" kt (.ref tr)] n2) :: (tr, o) :: (sd, so) :: (rw_, ro) :: [(st, PySem.W.listOf #[.int g tg, .int f tf] ns)]) ++ (pre ++ post).flatMap skLed) := by
  rw [without_kvs G.1] at ho hso hro
  rw [without_ports G.2.1] at hpo
  exact ⟨g, f, _, ⟨ud, uo, pi, pd, pt, po, ti, td, tr, o, sd, so, ro, k1, k2, k3, k4, v1, v2, v3, kt, tg, tf, n, n2, ns, rfl, hu, ho, lot, hpo, lop, hso, los, hro, lor⟩, good_less G, f1, f2, rfl⟩
theorem tail_eight (hW : Wld prog w us rw_ st xs W) (hs : SrcObj os) (dc : oc.data = Data.cell (some (.ref T))) (hx : x ∈ xs) : TailOk prog w us rw_ st src T os oc A0 (A0 ++ W) x bs 8 adr fa fp tw ta tb t3 t4 tn := by
  intro p loose mean mg mb dp un gd cn cs Lc ac ccd cl outer base g L hh gs dr tk oz Q E B F X N TP XB TB KD hdp hun D ret
  k_extra "l_tail"
  obtain ⟨g0, f, fx, FX, G, f1, f2, eW⟩ := id hW
  obtain ⟨ud, uo, pi, pd, pt, po, ti, td, tr, o_, sd, so, ro, k1, k2, k3, k4, v1, v2, v3, kt, tg, tf, n, n2, ns, efx, hu0, hdt, lot, hdp', lop, hds, los, hdr, lor⟩ := id FX
  have hv := valueAt_kvs (f := fun x => .ref x.lD) G.1 hx
  have hvs := valueAt_kvs (f := fun x => .ref x.sI) G.1 hx
  have hz : xs.length ≤ 100 := Nat.le_trans G.len (by omega)
  have ok := (G.2.2 x hx).2
  obtain ⟨lo_, vf, ve, qD, vs, cap, lf, le, lq, ell, ⟨u1, u2, i3⟩, i4, q1, q2, q3⟩ := ok.lx
  obtain ⟨pre, post, exs⟩ := split_at hx
  have fxW : ∀ q ∈ fx, q ∈ A0 ++ W := fun q h => List.mem_append_right _ (by rw [eW]; exact List.mem_append_left _ h)
  have m7' : (rw_, ro) ∈ A0 ++ W := fxW _ (by rw [efx]; k_extra "k_deep")
  have m1' : (us, instObj 445 ud) ∈ A0 ++ W := fxW _ (by rw [efx]; k_extra "k_deep")
  have m2' : (ud, uo) ∈ A0 ++ W := fxW _ (by rw [efx]; k_extra "k_deep")
  have i1' : (x.lD, lo_) ∈ A0 ++ W := List.mem_append_right _ (by rw [eW]; exact List.mem_append_right _ (led_sub hx _ (List.mem_append_right _ (List.mem_append_right _ (by rw [ell]; exact .head _)))))
  have hoff : ∀ p ∈ (T, tupObj [.int fa t3, .int fp t4]) :: (L + 1, oc) :: (A0 ++ W), p.1 ≠ src := ne_of_nodup (x := (src, os)) (by exact Tr.nd [_,_,_] [_,_,_] [_,_] (.c 0 0 (.c 1 1 (.c 2 2 (.a (.s 0) (.s 1))))) (.c 1 1 (.c 0 0 (.c 2 2 (.a (.s 0) (.s 1))))) rfl D)
  obtain ⟨z1, z2⟩ := List.forall_mem_cons.mp hoff
  obtain ⟨z3, z4⟩ := List.forall_mem_cons.mp z2
  have z1' : @Ne Nat T src := z1
  have z3' : @Ne Nat (L + 1) src := z3
  clear hoff z1 z2 z3
  have hu2 := hu0
  obtain ⟨y1, y2, y3, y4, y5, y6, y7, y8, e⟩ := hu0
  subst e
  k_steps
  refine Halt.go ?_
  refine Spec.gq3 (C := take_pick (by k_extra "l_pick") hs (by k_extra "l_off") (by decide) (by decide)) (ret := ?_)
  rintro k8 t8 os8 h8 tk8 ⟨k80, k81, hs8⟩ F8 N8
  have DZ : (((T, tupObj [.int fa t3, .int fp t4]) :: (src, os8) :: (L + 1, oc) :: (A0 ++ W)).map (·.1)).Nodup := D
  clear D
  by_cases hk8 : k8 = 0
  · subst hk8
    try dsimp only
    k_steps
    refine Halt.go ?_
    have E1 : (us, instObj 445 ud) :: (ud, dictOf [ent w.params "ports" y1 (.ref pi), ent w.params "table" y2 (.ref ti), ent w.params "most_waiting" y3 (.int 2 y6), ent w.params "sockets" y4 (.ref sd), ent w.params "given" y5 (.int g0 y7)] y8) :: (pi, instObj 135 pd) :: (pd, dictOf (portsEs w.params k1 k2 k3 k4 v1 v2 v3 f pt) n) :: (pt, po) :: (ti, instObj 327 td) :: (td, dictOf [ent w.params "rows" kt (.ref tr)] n2) :: (tr, o_) :: (sd, so) :: (rw_, ro) :: (st, PySem.W.listOf #[.int g0 tg, .int f tf] ns) :: xs.flatMap skLed = W := by rw [eW, efx]; rfl
    generalize huo : dictOf [ent w.params "ports" y1 (.ref pi), ent w.params "table" y2 (.ref ti), ent w.params "most_waiting" y3 (.int 2 y6), ent w.params "sockets" y4 (.ref sd), ent w.params "given" y5 (.int g0 y7)] y8 = uo at *
    obtain ⟨R, hR⟩ : ∃ R, R = (us, instObj 445 ud) :: (ud, uo) :: (st, PySem.W.listOf #[.int g0 tg, .int f tf] ns) :: (T, tupObj [.int fa t3, .int fp t4]) :: (src, os8) :: (L + 1, oc) :: (A0 ++ xs.flatMap skLed) := ⟨_, rfl⟩
    have D1 : (((ti, instObj 327 td) :: (td, dictOf [ent w.params "rows" kt (.ref tr)] n2) :: (tr, o_) :: (pi, instObj 135 pd) :: (pd, dictOf (portsEs w.params k1 k2 k3 k4 v1 v2 v3 f pt) n) :: (pt, po) :: (sd, so) :: (rw_, ro) :: R).map (·.1)).Nodup := by rw [← E1] at DZ; rw [hR]; exact Tr.nd [_,_,_,_,_,_,_,_,_,_,_,_,_,_] [_,_,_,_,_,_,_,_,_,_,_,_,_,_] [_,_] (.c 0 0 (.c 1 1 (.c 2 2 (.a (.s 0) (.c 3 3 (.c 4 4 (.c 5 5 (.c 6 6 (.c 7 7 (.c 8 8 (.c 9 9 (.c 10 10 (.c 11 11 (.c 12 12 (.c 13 13 (.s 1)))))))))))))))) (.c 8 8 (.c 9 9 (.c 10 10 (.c 5 5 (.c 6 6 (.c 7 7 (.c 11 11 (.c 12 12 (.c 3 3 (.c 4 4 (.c 13 13 (.c 0 0 (.c 1 1 (.c 2 2 (.a (.s 0) (.s 1)))))))))))))))) rfl DZ
    have S1 : ∀ q ∈ (ti, instObj 327 td) :: (td, dictOf [ent w.params "rows" kt (.ref tr)] n2) :: (tr, o_) :: (pi, instObj 135 pd) :: (pd, dictOf (portsEs w.params k1 k2 k3 k4 v1 v2 v3 f pt) n) :: (pt, po) :: (sd, so) :: (rw_, ro) :: R, q ∈ (src, os8) :: (T, tupObj [.int fa t3, .int fp t4]) :: (L + 1, oc) :: (A0 ++ W) := by rw [← E1, hR]; exact Tr.sb [_,_,_,_,_,_,_,_,_,_,_,_,_,_] [_,_,_,_,_,_,_,_,_,_,_,_,_,_] [_,_] (.c 0 0 (.c 1 1 (.c 2 2 (.a (.s 0) (.c 3 3 (.c 4 4 (.c 5 5 (.c 6 6 (.c 7 7 (.c 8 8 (.c 9 9 (.c 10 10 (.c 11 11 (.c 12 12 (.c 13 13 (.s 1)))))))))))))))) (.c 8 8 (.c 9 9 (.c 10 10 (.c 5 5 (.c 6 6 (.c 7 7 (.c 11 11 (.c 12 12 (.c 3 3 (.c 4 4 (.c 13 13 (.c 1 1 (.c 0 0 (.c 2 2 (.a (.s 0) (.s 1)))))))))))))))) rfl
    have M1 : (us, instObj 445 ud) ∈ R := by rw [hR]; k_extra "k_deep"
    have M2 : (ud, uo) ∈ R := by rw [hR]; k_extra "k_deep"
    have SL : ∀ q ∈ x.sl, q ∈ (rw_, ro) :: R := fun q hq => by
      rw [hR]
      exact .tail _ (.tail _ (.tail _ (.tail _ (.tail _ (.tail _ (.tail _ (List.mem_append_right _ (led_sub hx q (List.mem_append_right _ (List.mem_append_left _ hq))))))))))
    refine Spec.uq3 (close_spec (rest := (rw_, ro) :: R) hx ok.sx SL D1 (.tail _ M1) (.tail _ M2) hu2 hdt lot hdp' lop hds los G.1 hz) (hs := S1) (ret := ?_)
    rintro o' po' so' h9 tk9 ⟨ho', hpo', hso'⟩ F9 N9
    obtain ⟨R9, hR9⟩ : ∃ R9, R9 = (ti, instObj 327 td) :: (td, dictOf [ent w.params "rows" kt (.ref tr)] n2) :: (tr, o') :: (pi, instObj 135 pd) :: (pd, dictOf (portsEs w.params k1 k2 k3 k4 v1 v2 v3 f pt) n) :: (pt, po') :: (sd, so') :: R := ⟨_, rfl⟩
    replace N9 : News _ _ _ ((rw_, ro) :: R9) := cb_drop N9 (by rw [hR9]; exact Tr.sb [_,_,_,_,_,_,_,_] [_,_,_,_,_,_,_,_] [_] (.c 0 0 (.c 1 1 (.c 2 2 (.c 3 3 (.c 4 4 (.c 5 5 (.c 6 6 (.c 7 7 (.s 0))))))))) (.c 7 7 (.c 0 0 (.c 1 1 (.c 2 2 (.c 3 3 (.c 4 4 (.c 5 5 (.c 6 6 (.s 0))))))))) rfl)
    have D9 : (((rw_, ro) :: R9).map (·.1)).Nodup := by rw [hR9]; exact Tr.nd [_,_,_,_,_,_,_,_] [_,_,_,_,_,_,_,_,_,_,_] [_] (.c 0 0 (.c 1 1 (.c 2 2 (.c 3 3 (.c 4 4 (.c 5 5 (.c 6 6 (.c 7 7 (.s 0))))))))) (.c 7 7 (.c 0 0 (.c 1 1 (.c 2 8 (.c 3 3 (.c 4 4 (.c 5 9 (.c 6 10 (.s 0))))))))) rfl D1
    have hne9 : ∀ p ∈ R9, p.1 ≠ rw_ := ne_of_nodup D9
    have M1' : (us, instObj 445 ud) ∈ R9 := by rw [hR9]; exact .tail _ (.tail _ (.tail _ (.tail _ (.tail _ (.tail _ (.tail _ M1))))))
    have M2' : (ud, uo) ∈ R9 := by rw [hR9]; exact .tail _ (.tail _ (.tail _ (.tail _ (.tail _ (.tail _ (.tail _ M2))))))
    have M3' : (sd, so') ∈ R9 := by rw [hR9]; k_extra "k_deep"
    have hz9 : (kvsBy (fun x => Value.ref x.lD) xs).length ≤ 100 := by rw [kvsBy, List.length_map]; exact hz
    have hgone : (valueAt (without (kvsBy (fun x => Value.ref x.sI) xs) x.num) x.num).isSome = false := by
      rw [exs, without_kvs (by rw [← exs]; exact G.1), valueAt_none (num_other (by rw [← exs]; exact G.1))]; rfl
    try dsimp only
    k_steps
    refine Halt.go ?_
    (with_reducible rename Obj.IsDictOf (intKind _ _) _ (without (kvsBy (fun x => Value.ref x.lD) _) _) => hro')
    refine SpecS.use (gone_spec (.tail _ M1') (.tail _ M2') hu2 (.tail _ M3') hso' los hgone) B (by k_asm) X (by k_asm) ro_sub TP XB TB KD (by first | exact rfl | assumption) (by k_extra "bud") (by k_extra "bud") ?_
    rintro r10 n10 h10 tk10 g10 ⟨rfl, rfl⟩ T10 F10 N10 B10 X10 P10 D10
    try dsimp only
    k_steps
    rw [exs] at G ho' hpo' hso' hro'
    refine ret _ _ _ _ _ _ ⟨_, hs8, pre ++ post, _, rfl, wld_less (ud := ud) (pd := pd) (td := td) (k1 := k1) (k2 := k2) (k3 := k3) (k4 := k4) (v1 := v1) (v2 := v2) (v3 := v3) (kt := kt) (tg := tg) (tf := tf) (n := n) (n2 := n2) (ns := ns) G hu2 ho' lot hpo' lop hso' los hro' lor f1 f2, ?_, ?_⟩ T10 F10 N10
    · rw [hR9, hR, exs, flat_mid, List.flatMap_append]; exact Tr.sb [_,_,_,_,_,_,_,_,_,_,_,_,_,_] [_,_,_,_,_,_,_,_,_,_,_,_,_,_] [_,_,_,_,_,_] (.c 0 0 (.c 1 1 (.c 2 2 (.c 3 3 (.c 4 4 (.c 5 5 (.c 6 6 (.c 7 7 (.c 8 8 (.c 9 9 (.c 10 10 (.c 11 11 (.c 12 12 (.c 13 13 (.a (.s 0) (.a (.s 1) (.a (.a (.s 2) (.a (.s 3) (.s 4))) (.s 5)))))))))))))))))) (.a (.c 12 12 (.s 0)) (.a (.c 8 8 (.c 9 9 (.c 4 4 (.c 5 5 (.c 6 6 (.c 1 1 (.c 2 2 (.c 3 3 (.c 7 7 (.c 0 0 (.c 10 10 .n))))))))))) (.a (.s 1) (.s 5)))) rfl
    · rw [hR9, hR, exs, flat_mid] at D9
      rw [List.flatMap_append]; exact Tr.nd [_,_,_,_,_,_,_,_,_,_,_,_,_,_] [_,_,_,_,_,_,_,_,_,_,_,_,_,_,_] [_,_,_,_,_,_] (.c 0 0 (.c 1 1 (.c 2 2 (.c 3 3 (.c 4 4 (.c 5 5 (.c 6 6 (.c 7 7 (.c 8 8 (.c 9 9 (.c 10 10 (.c 11 11 (.c 12 12 (.c 13 13 (.a (.s 0) (.a (.s 1) (.a (.a (.s 2) (.a (.s 3) (.s 4))) (.s 5)))))))))))))))))) (.a (.c 12 12 (.s 0)) (.a (.c 8 8 (.c 9 9 (.c 4 4 (.c 5 5 (.c 6 6 (.c 1 1 (.c 2 2 (.c 3 3 (.c 7 7 (.c 0 14 (.c 10 10 .n))))))))))) (.a (.s 1) (.s 5)))) rfl D9
  · have eW2 : W = fx ++ (pre.flatMap skLed ++ (x.rl ++ (x.sl ++ x.ll) ++ post.flatMap skLed)) := by rw [eW, exs, flat_mid]
    obtain ⟨R, hR⟩ : ∃ R, R = A0 ++ (fx ++ (pre.flatMap skLed ++ post.flatMap skLed)) := ⟨_, rfl⟩
    obtain ⟨RR, hRR⟩ : ∃ RR, RR = (qD, PySem.W.listOf vs.toArray cap) :: (lf ++ le ++ lq ++ (x.sl ++ (x.rl ++ R))) := ⟨_, rfl⟩
    have hq2 := ok.ql
    replace N8 : News _ _ _ ((x.lD, lo_) :: (src, os8) :: RR) := cb_drop N8 (by rw [hRR, hR, eW2, ell]; exact Tr.sb [_,_,_,_,_] [_,_,_,_,_] [_,_,_,_,_,_,_,_,_] (.c 0 0 (.c 1 1 (.c 2 2 (.a (.s 0) (.a (.s 1) (.a (.s 2) (.a (.a (.s 3) (.a (.s 4) (.c 3 3 (.c 4 4 (.a (.a (.s 5) (.s 6)) (.s 7)))))) (.s 8)))))))) (.c 3 3 (.c 0 0 (.c 4 4 (.a (.a (.a (.s 5) (.s 6)) (.s 7)) (.a (.s 4) (.a (.s 3) (.a (.s 0) (.a (.s 1) (.a (.s 2) (.s 8)))))))))) rfl)
    have D8 : (((x.lD, lo_) :: (src, os8) :: RR).map (·.1)).Nodup := by
      rw [eW2, ell] at DZ
      rw [hRR, hR]
      exact Tr.nd [_,_,_,_,_] [_,_,_,_,_] [_,_,_,_,_,_,_,_,_] (.c 0 0 (.c 1 1 (.c 2 2 (.a (.s 0) (.a (.s 1) (.a (.s 2) (.a (.a (.s 3) (.a (.s 4) (.c 3 3 (.c 4 4 (.a (.a (.s 5) (.s 6)) (.s 7)))))) (.s 8)))))))) (.c 3 3 (.c 1 1 (.c 4 4 (.a (.a (.a (.s 5) (.s 6)) (.s 7)) (.a (.s 4) (.a (.s 3) (.a (.s 0) (.a (.s 1) (.a (.s 2) (.s 8)))))))))) rfl DZ
    obtain ⟨e1, e2, e3⟩ := nd2 D8
    have e1' := Ne.symm e1
    have fxR : ∀ q ∈ fx, q ∈ R := fun q h => by rw [hR]; exact List.mem_append_right _ (List.mem_append_left _ h)
    have M1 : (us, instObj 445 ud) ∈ R := fxR _ (by rw [efx]; k_extra "k_deep")
    have M2 : (ud, dictOf [ent w.params "ports" y1 (.ref pi), ent w.params "table" y2 (.ref ti), ent w.params "most_waiting" y3 (.int 2 y6), ent w.params "sockets" y4 (.ref sd), ent w.params "given" y5 (.int g0 y7)] y8) ∈ R := fxR _ (by rw [efx]; k_extra "k_deep")
    have M6 : (sd, so) ∈ R := fxR _ (by rw [efx]; k_extra "k_deep")
    have M1r : (us, instObj 445 ud) ∈ RR := by rw [hRR]; exact .tail _ (List.mem_append_right _ (List.mem_append_right _ (List.mem_append_right _ M1)))
    have M2r : (ud, dictOf [ent w.params "ports" y1 (.ref pi), ent w.params "table" y2 (.ref ti), ent w.params "most_waiting" y3 (.int 2 y6), ent w.params "sockets" y4 (.ref sd), ent w.params "given" y5 (.int g0 y7)] y8) ∈ RR := by rw [hRR]; exact .tail _ (List.mem_append_right _ (List.mem_append_right _ (List.mem_append_right _ M2)))
    have FX' := FX
    have G' := G
    rw [exs] at FX' G'
    clear fxR fxW m7' m1' m2' i1' eW efx eW2 DZ z1' z3' z4
    generalize hxe : x.err = xe at q2
    have inQ : ∀ {q}, q ∈ R → ∀ {a b c : Addr × Obj} {A B : Led}, q ∈ a :: b :: c :: (A ++ (B ++ R)) := fun h => .tail _ (.tail _ (.tail _ (List.mem_append_right _ (List.mem_append_right _ h))))
    try dsimp only
    cases q2 with
    | no =>
      k_steps
      refine Halt.go ?_
      (with_reducible rename News _ _ _ _ => N9)
      (with_reducible rename Obj.IsDictOf (PySem.strKind _ _) _ _ => hd9)
      obtain ⟨o9, hd9', N9'⟩ : ∃ o9 : Obj, o9.IsDictOf (PySem.strKind prog w) [("port", .int x.port u1), ("address", .int x.adr u2), ("far", vf), ("queue", .ref qD), ("error", .none)] ∧ News _ _ _ (x.sl ++ ((x.lD, o9) :: (src, os8) :: (qD, PySem.W.listOf vs.toArray cap) :: (lf ++ [] ++ lq ++ (x.rl ++ R)))) := ⟨_, hd9, cb_drop N9 (by rw [hRR]; exact Tr.sb [_,_,_,_] [_,_,_,_] [_,_,_,_,_] (.c 0 0 (.c 1 1 (.c 2 2 (.c 3 3 (.a (.a (.a (.s 0) .n) (.s 1)) (.a (.s 2) (.a (.s 3) (.s 4)))))))) (.a (.s 2) (.c 1 1 (.c 2 2 (.c 3 3 (.a (.a (.a (.s 0) .n) (.s 1)) (.a (.s 3) (.s 4))))))) rfl)⟩
      have D9 : ((x.sl ++ ((x.lD, o9) :: (src, os8) :: (qD, PySem.W.listOf vs.toArray cap) :: (lf ++ [] ++ lq ++ (x.rl ++ R)))).map (·.1)).Nodup := by rw [hRR] at D8; exact Tr.nd [_,_,_] [_,_,_,_] [_,_,_,_,_] (.c 0 0 (.c 1 1 (.c 2 2 (.a (.a (.a (.s 0) .n) (.s 1)) (.a (.s 2) (.a (.s 3) (.s 4))))))) (.a (.s 2) (.c 0 3 (.c 1 1 (.c 2 2 (.a (.a (.a (.s 0) .n) (.s 1)) (.a (.s 3) (.s 4))))))) rfl D8
      refine Spec.uq3 (error_of_spec ok.sx D9 (inQ M1) (inQ M2) hu2 (inQ M6) hds los hvs) (by k_asm) (by k_asm) (by k_asm) N9' ro_sub (by k_asm) (by first | exact rfl | assumption) (by k_extra "bud") (by k_extra "bud") ?_
      rintro r10 l' lr h10 tk10 ⟨hF, hS', D10⟩ F10 N10
      rw [hxe] at hF
      cases hF
      try dsimp only
      k_steps
      refine Halt.go ?_
      have D11 : ((l' ++ ((x.lD, o9) :: (src, os8) :: (qD, PySem.W.listOf vs.toArray cap) :: (lf ++ [] ++ lq ++ (x.rl ++ R)))).map (·.1)).Nodup := by exact Tr.nd [_,_,_] [_,_,_] [_,_,_,_,_] (.a .n (.a (.s 0) (.c 0 0 (.c 1 1 (.c 2 2 (.a (.a (.a (.s 1) .n) (.s 2)) (.a (.s 3) (.s 4)))))))) (.a (.s 0) (.c 0 0 (.c 1 1 (.c 2 2 (.a (.a (.a (.s 1) .n) (.s 2)) (.a (.s 3) (.s 4))))))) rfl D10
      refine Spec.uq3 (error_of_spec hS' D11 (inQ M1) (inQ M2) hu2 (inQ M6) hds los hvs) (hs := by exact Tr.sb [_,_,_] [_,_,_] [_,_,_,_,_] (.a .n (.a (.s 0) (.c 0 0 (.c 1 1 (.c 2 2 (.a (.a (.a (.s 1) .n) (.s 2)) (.a (.s 3) (.s 4)))))))) (.a (.s 0) (.c 0 0 (.c 1 1 (.c 2 2 (.a (.a (.a (.s 1) .n) (.s 2)) (.a (.s 3) (.s 4))))))) rfl) (ret := ?_)
      rintro r12 l2 lr2 h12 tk12 ⟨hF2, hS2, D12⟩ F12 N12
      cases hF2
      try dsimp only
      k_steps
      have hLL : LawLed prog w x.adr x.port x.far x.q none x.lD ((x.lD, o9) :: (qD, PySem.W.listOf vs.toArray cap) :: (lf ++ [] ++ lq)) := ⟨_,_,_,_,_,_,_,_,_, rfl, ⟨_,_, hd9'⟩, i4, q1, .no, q3⟩
      have hA := conn_after (src := src) (led := [] ++ (l2 ++ ((x.lD, o9) :: (src, os8) :: (qD, PySem.W.listOf vs.toArray cap) :: (lf ++ [] ++ lq ++ (x.rl ++ R))))) (os := os8) hR FX' G' f1 f2 ok.rx hS2 hLL hq2 (by exact Tr.sb [_,_,_] [_,_,_] [_,_,_,_,_] (.a .n (.a (.s 0) (.c 0 0 (.c 1 1 (.c 2 2 (.a (.a (.a (.s 1) .n) (.s 2)) (.a (.s 3) (.s 4)))))))) (.c 1 1 (.a (.c 0 0 (.c 2 2 (.a (.a (.s 1) .n) (.s 2)))) (.a (.s 0) (.a (.s 3) (.s 4))))) rfl) (by exact Tr.nd [_,_,_] [_,_,_] [_,_,_,_,_] (.a .n (.a (.s 0) (.c 0 0 (.c 1 1 (.c 2 2 (.a (.a (.a (.s 1) .n) (.s 2)) (.a (.s 3) (.s 4)))))))) (.c 1 1 (.a (.c 0 0 (.c 2 2 (.a (.a (.s 1) .n) (.s 2)))) (.a (.s 0) (.a (.s 3) (.s 4))))) rfl D12)
      exact ret _ _ _ _ _ _ ⟨_, hs8, hA⟩ KtsTurn.refl (by k_asm) (by k_asm)
    | @yes a5 p5 T5 c5 d5 =>
      k_steps
      refine Halt.go ?_
      (with_reducible rename News _ _ _ _ => N9)
      (with_reducible rename Obj.IsDictOf (PySem.strKind _ _) _ _ => hd9)
      obtain ⟨o9, hd9', N9'⟩ : ∃ o9 : Obj, o9.IsDictOf (PySem.strKind prog w) [("port", .int x.port u1), ("address", .int x.adr u2), ("far", vf), ("queue", .ref qD), ("error", .none)] ∧ News _ _ _ (x.sl ++ ((x.lD, o9) :: (src, os8) :: (qD, PySem.W.listOf vs.toArray cap) :: (lf ++ [(T5, tupObj [.int a5 c5, .int p5 d5])] ++ lq ++ (x.rl ++ R)))) := ⟨_, hd9, cb_drop N9 (by rw [hRR]; exact Tr.sb [_,_,_,_,_] [_,_,_,_,_] [_,_,_,_,_] (.c 0 0 (.c 1 1 (.c 2 2 (.c 3 3 (.a (.a (.a (.s 0) (.c 4 4 .n)) (.s 1)) (.a (.s 2) (.a (.s 3) (.s 4)))))))) (.a (.s 2) (.c 1 1 (.c 2 2 (.c 3 3 (.a (.a (.a (.s 0) (.c 4 4 .n)) (.s 1)) (.a (.s 3) (.s 4))))))) rfl)⟩
      have D9 : ((x.sl ++ ((x.lD, o9) :: (src, os8) :: (qD, PySem.W.listOf vs.toArray cap) :: (lf ++ [(T5, tupObj [.int a5 c5, .int p5 d5])] ++ lq ++ (x.rl ++ R)))).map (·.1)).Nodup := by rw [hRR] at D8; exact Tr.nd [_,_,_,_] [_,_,_,_,_] [_,_,_,_,_] (.c 0 0 (.c 1 1 (.c 2 2 (.a (.a (.a (.s 0) (.c 3 3 .n)) (.s 1)) (.a (.s 2) (.a (.s 3) (.s 4))))))) (.a (.s 2) (.c 0 4 (.c 1 1 (.c 2 2 (.a (.a (.a (.s 0) (.c 3 3 .n)) (.s 1)) (.a (.s 3) (.s 4))))))) rfl D8
      refine Spec.uq3 (error_of_spec ok.sx D9 (inQ M1) (inQ M2) hu2 (inQ M6) hds los hvs) (by k_asm) (by k_asm) (by k_asm) N9' ro_sub (by k_asm) (by first | exact rfl | assumption) (by k_extra "bud") (by k_extra "bud") ?_
      rintro r10 l' lr h10 tk10 ⟨hF, hS', D10⟩ F10 N10
      rw [hxe] at hF
      cases hF
      try dsimp only
      k_steps
      refine Halt.go ?_
      refine eq_same (News.isTup (by k_asm) (by k_mem)) (News.isTup (by k_asm) (by k_mem)) (by k_units) ?_
      try dsimp only
      k_steps
      refine Halt.go ?_
      have D11 : ((l' ++ ((x.lD, o9) :: (src, os8) :: (qD, PySem.W.listOf vs.toArray cap) :: (lf ++ [(T5, tupObj [.int a5 c5, .int p5 d5])] ++ lq ++ (x.rl ++ R)))).map (·.1)).Nodup := by exact Tr.nd [_,_,_,_,_] [_,_,_,_,_] [_,_,_,_,_] (.a (.c 0 0 .n) (.a (.s 0) (.c 1 1 (.c 2 2 (.c 3 3 (.a (.a (.a (.s 1) (.c 4 4 .n)) (.s 2)) (.a (.s 3) (.s 4)))))))) (.a (.s 0) (.c 1 1 (.c 2 2 (.c 3 3 (.a (.a (.a (.s 1) (.c 4 4 .n)) (.s 2)) (.a (.s 3) (.s 4))))))) rfl D10
      refine Spec.uq3 (error_of_spec hS' D11 (inQ M1) (inQ M2) hu2 (inQ M6) hds los hvs) (hs := by exact Tr.sb [_,_,_,_,_] [_,_,_,_,_] [_,_,_,_,_] (.a (.c 0 0 .n) (.a (.s 0) (.c 1 1 (.c 2 2 (.c 3 3 (.a (.a (.a (.s 1) (.c 4 4 .n)) (.s 2)) (.a (.s 3) (.s 4)))))))) (.a (.s 0) (.c 1 1 (.c 2 2 (.c 3 3 (.a (.a (.a (.s 1) (.c 4 4 .n)) (.s 2)) (.a (.s 3) (.s 4))))))) rfl) (ret := ?_)
      rintro r12 l2 lr2 h12 tk12 ⟨hF2, hS2, D12⟩ F12 N12
      cases hF2
      try dsimp only
      k_steps
      have hLL : LawLed prog w x.adr x.port x.far x.q none x.lD ((x.lD, o9) :: (qD, PySem.W.listOf vs.toArray cap) :: (lf ++ [] ++ lq)) := ⟨_,_,_,_,_,_,_,_,_, rfl, ⟨_,_, hd9'⟩, i4, q1, .no, q3⟩
      have hA := conn_after (src := src) (led := [] ++ (l2 ++ ((x.lD, o9) :: (src, os8) :: (qD, PySem.W.listOf vs.toArray cap) :: (lf ++ [(T5, tupObj [.int a5 c5, .int p5 d5])] ++ lq ++ (x.rl ++ R))))) (os := os8) hR FX' G' f1 f2 ok.rx hS2 hLL hq2 (by exact Tr.sb [_,_,_,_] [_,_,_,_] [_,_,_,_,_] (.a .n (.a (.s 0) (.c 0 0 (.c 1 1 (.c 2 2 (.a (.a (.a (.s 1) (.c 3 3 .n)) (.s 2)) (.a (.s 3) (.s 4)))))))) (.c 1 1 (.a (.c 0 0 (.c 2 2 (.a (.a (.s 1) .n) (.s 2)))) (.a (.s 0) (.a (.s 3) (.s 4))))) rfl) (by exact Tr.nd [_,_,_,_] [_,_,_,_] [_,_,_,_,_] (.a .n (.a (.s 0) (.c 0 0 (.c 1 1 (.c 2 2 (.a (.a (.a (.s 1) (.c 3 3 .n)) (.s 2)) (.a (.s 3) (.s 4)))))))) (.c 1 1 (.a (.c 0 0 (.c 2 2 (.a (.a (.s 1) .n) (.s 2)))) (.a (.s 0) (.a (.s 3) (.s 4))))) rfl D12)
      exact ret _ _ _ _ _ _ ⟨_, hs8, hA⟩ KtsTurn.refl (by k_asm) (by k_asm)
end

theorem RowHalt.at {M : Model} {A : Around} {env : Env} {Q : Flow → Shared → Prop} {E : Value → Shared → Prop} {s : Shared} {p1 p2 : Pos} {v1 : PySem.Expr} {r1 : List Stmt} (h : Halt (wpAny M A (execs (Stmt.Assign [Expr.Name (Str.ofString "row") p1] v1 p2 :: r1) env) Q E s)) : wpAny M A (execs (Stmt.Assign [Expr.Name (Str.ofString "row") p1] v1 p2 :: r1) env) Q E s := h
theorem reg65 : True := by
  (k_with "execs cons" => with_reducible refine RowHalt.at ?_)
  (k_with "execs cons Assign cons" => with_reducible refine RowHalt.at ?_)
  (k_with "execs cons Assign cons" => ((with_reducible show wpAny _ _ (execs (Stmt.Assign [Expr.Name (Str.ofString "row") _] _ _ :: _) _) _ _ _); with_reducible refine Halt.at ?_))
  trivial
theorem WayHalt.at {M : Model} {A : Around} {env : Env} {op : BoolOp} {p1 p2 p3 : Pos} {o1 : List CmpOp} {c1 r1 : List PySem.Expr} {t : Sem Value} {Q : Bool → Shared → Prop} {E : Value → Shared → Prop} {s : Shared} (h : Halt (wpAny M A (isTrue (Expr.BoolOp op (Expr.Compare (Expr.Name (Str.ofString "way") p1) o1 c1 p2 :: r1) p3) env t) Q E s)) : wpAny M A (isTrue (Expr.BoolOp op (Expr.Compare (Expr.Name (Str.ofString "way") p1) o1 c1 p2 :: r1) p3) env t) Q E s := h
theorem reg66 : True := by
  (k_with "isTrue BoolOp" => with_reducible refine WayHalt.at ?_)
  trivial
inductive BoolAt (g : Heap) (L : Addr) (m : Str → Option Value) (led : Led) (gs : Array GenState) (dr : Drawn) (oz : OsState) (P0 : Prop) : Bool → Shared → Prop
  | yes (h' : Heap) (tk' : Nat) (F : Fr g L h' m) (N : News g L h' led) : BoolAt g L m led gs dr oz P0 true ⟨h', gs, dr, tk', oz⟩
  | no (h' : Heap) (tk' : Nat) (h : P0) (F : Fr g L h' m) (N : News g L h' led) : BoolAt g L m led gs dr oz P0 false ⟨h', gs, dr, tk', oz⟩
theorem bool_join {M : Model} {A : Around} {t : Sem Bool} {Q : Bool → Shared → Prop} {E : Value → Shared → Prop} {g : Heap} {L : Addr} {h0 hh : Heap} {m : Str → Option Value} {gs : Array GenState} {dr : Drawn} {tk : Nat} {oz : OsState} {P0 : Prop} (_ : Fr g L h0 m) (led : Led)
    (h1 : wpAny M A t (BoolAt g L m led gs dr oz P0) E ⟨hh, gs, dr, tk, oz⟩) (h2 : ∀ h' tk', Fr g L h' m → News g L h' led → Q true ⟨h', gs, dr, tk', oz⟩) (h3 : ∀ h' tk', P0 → Fr g L h' m → News g L h' led → Q false ⟨h', gs, dr, tk', oz⟩) : wpAny M A t Q E ⟨hh, gs, dr, tk, oz⟩ :=
  wpAny_mono h1 (fun _ _ j => by cases j with | yes h' tk' F N => exact h2 h' tk' F N | no h' tk' h F N => exact h3 h' tk' h F N) fun _ _ e => e
theorem adr_ok {adr : Int} (h : adr = 0 ∨ adr = 11 ∨ adr = 12) : 0 ≤ adr ∧ adr ≤ 200 := by omega
section
variable {prog : Program} {w : World} {us rw_ st src : Addr} {xs : List Sk} {os : Obj} {A0 W0 W : Led}
inductive DeedPost (prog : Program) (w : World) (us rw_ st src : Addr) (A0 : Led) (r : Value) (news' : Led) : Prop
  | mk (os' : Obj) (xs' : List Sk) (W' : Led) (e : r = .bool true) (h1 : SrcObj os') (h2 : Wld prog w us rw_ st xs' W') (h3 : ∀ q ∈ (src, os') :: (A0 ++ W'), q ∈ news') (h4 : (((src, os') :: (A0 ++ W')).map (·.1)).Nodup)
theorem deed_aux (hW : Wld prog w us rw_ st xs W0) (eA : W = A0 ++ W0) (hsrc : SrcObj os) (D : (((src, os) :: W).map (·.1)).Nodup) :
    SpecS prog w 527 60 [.ref src, .ref us, .ref rw_, .ref st] ((src, os) :: W) (DeedPost prog w us rw_ st src A0) := by
  intro pp loose mean mg mb dp un gd cn cs a' ccd cl outer A₀ base h₀ L m hh gs dr tk oz Q E B F X N TP XB TB KD hkk hdp hu hret
  refine wpAny_call ?_
  k_dflt (refine' code_defSC ?k1 ?k2 ?k3 ?k4 ?k5 ?XB ?TB ?D ?T0 ?kA ?kF ?cK ?k6 ?k7 ?k8 ?k9 ?kB ?kD ?_ ?c2 ?c3 ?c4; (case kA => exact rfl); (case kF => exact rfl); (case k2 => exact F); (case k1 => exact B); (case XB => exact XB); (case TB => exact TB); (case D => exact KD); (case T0 => exact KtsTurn.refl); (case k3 => exact X); (case k4 => exact N); (case k5 => exact TP); (case k6 => k_is); (case k7 => k_is); (case k8 => k_room); (case k9 => first | exact binds_K (by k_in) rfl (by k_is) rfl rfl rfl | exact BindsTo.of_eq rfl); (case kB => exact rfl); (case kD => decide +kernel); (case cK => exact hkk); (case c2 => exact rfl); (case c3 => exact rfl); (case c4 => exact rfl); k_whole; intro g' L' h' tk' cells' FG' F' N' Y' B' X' T' D' l1; (have hUp := lt_up l1); k_lt l1; k_cells Y'; (try dsimp only [List.cons_append, List.nil_append] at N'); (try dsimp only); (try k_fold))
  have hW0 : ∀ p ∈ W, p.1 ≠ src := nd1 D
  have F0 : Fr g' L' h' (fun y => if y = Str.ofString "state" then some (.ref st) else if y = Str.ofString "rows" then some (.ref rw_) else if y = Str.ofString "sockets" then some (.ref us) else if y = Str.ofString "source" then some (.ref src) else none) := by
    exact F'
  clear F'
  obtain ⟨oc, dc, N'⟩ : ∃ oc : Obj, (oc.data = Data.cell none) ∧ News _ _ _ ((L' + 1, oc) :: (src, os) :: W) := ⟨_, by assumption, N'⟩
  have hc0 : @Ne Nat (L' + 1) src := by have := l1.1; omega
  have hr0 : ∀ p ∈ (L' + 1, oc) :: W, p.1 ≠ src := List.forall_mem_cons.mpr ⟨hc0, hW0⟩
  have DC : (((L' + 1, oc) :: (src, os) :: W).map (·.1)).Nodup := (fresh1 hUp).nodup D
  k_steps
  refine Halt.go ?_
  refine Spec.gq3 (C := take_pick (by k_extra "l_pick") hsrc (by k_extra "l_off") (by decide) (by decide)) (ret := ?_)
  rintro way tw os1 h1 tk1 ⟨wy0, wy1, hs1⟩ F1 N1
  try dsimp only
  k_steps
  refine Halt.go ?_
  refine Spec.gq2 (C := one_pick (by k_extra "l_pick") hs1 (by k_extra "l_off") (by k_mem) (by simp) (by simp)) (ret := ?_)
  rintro r2 os2 h2 tk2 ⟨hr2, hs2⟩ F2 N2
  obtain ⟨adr, tadr, rfl, had⟩ := in3 hr2
  replace N2 : News _ _ _ ((src, os2) :: (L' + 1, oc) :: W) := cb_drop N2 (by k_extra "l_memx")
  try dsimp only
  k_steps
  refine Halt.go ?_
  refine Spec.gq2 (C := one_pick (by k_extra "l_pick") hs2 (by k_extra "l_off") (by k_mem) (by simp) (by simp)) (ret := ?_)
  rintro r3 os3 h3 tk3 ⟨hr3, hs3⟩ F3 N3
  obtain ⟨T, fa, fp, t3, t4, rfl, hff, hTm, hTl⟩ : ∃ T fa fp t3 t4, r3 = .ref T ∧ (fa = 90 ∧ fp = 1 ∨ fa = 91 ∧ fp = 2) ∧ News g' L' h3 ((T, tupObj [.int fa t3, .int fp t4]) :: (src, os3) :: (L' + 1, oc) :: W) ∧ ∀ p ∈ (src, os3) :: (L' + 1, oc) :: W, p.1 < T := by
    simp only [List.mem_cons, List.not_mem_nil, or_false] at hr3
    rcases hr3 with rfl | rfl
    · exact ⟨_, 90, 1, _,_, rfl, .inl ⟨rfl, rfl⟩, cb_drop N3 (by k_extra "l_memx"), lt_map (fun p hp => (by assumption : ∀ p ∈ _ :: (src, os2) :: (L' + 1, oc) :: W, p.1 < _) p (.tail _ hp)) rfl⟩
    · exact ⟨_, 91, 2, _,_, rfl, .inr ⟨rfl, rfl⟩, cb_drop N3 (by k_extra "l_memx"), lt_map (fun p hp => (by assumption : ∀ p ∈ _ :: _ :: (src, os2) :: (L' + 1, oc) :: W, p.1 < _) p (.tail _ (.tail _ hp))) rfl⟩
  clear N3
  try dsimp only
  k_steps
  refine Halt.go ?_
  have hTc : @Ne Nat T (L' + 1) := Nat.ne_of_gt (hTl _ (.tail _ (.head _)))
  have hc1 : @Ne Nat src (L' + 1) := fun q => hc0 q.symm
  have hWc : ∀ p ∈ W, p.1 ≠ L' + 1 := fun p hp => Nat.ne_of_lt (hUp p (.tail _ hp))
  have hTs : @Ne Nat T src := Nat.ne_of_gt (hTl _ (.head _))
  refine Spec.gq3 (C := take_pick (by k_extra "l_pick") hs3 (by k_extra "l_off") (by decide) (by decide)) (ret := ?_)
  rintro c5 t5 os4 h4 tk4 ⟨c50, c51, hs4⟩ F4 N4
  try dsimp only
  k_steps
  refine Halt.go ?_
  refine Spec.gq3 (C := take_pick (by k_extra "l_pick") hs4 (by k_extra "l_off") (by decide) (by decide)) (ret := ?_)
  rintro c4 t6 os5 h5 tk5 ⟨c40, c41, hs5⟩ F5 N5
  try dsimp only
  k_steps
  refine Halt.go ?_
  refine KBa.make_K (by k_asm) (by k_asm) (by rfl) (News.isList (by k_asm) (.head _)) (ints_rep _ _ _) (fun a ha => by have := List.eq_of_mem_replicate ha; omega) (by rw [List.length_replicate]; omega) ?_
  intro h6 tb k6 F6 N6 hin6
  have hbk := KBa.ints_make hin6
  have hps : ∀ c ∈ List.replicate c4.toNat (65 + c5), 0 ≤ c ∧ c < 256 := hin6
  have hlen : (List.replicate c4.toNat (65 + c5)).length ≤ 3 := by rw [List.length_replicate]; omega
  generalize List.replicate c4.toNat (65 + c5) = ps at *
  generalize byteArr ps = bs at *
  replace N6 : News g' L' h6 ((T, tupObj [.int fa t3, .int fp t4]) :: (src, os5) :: (L' + 1, oc) :: W) := cb_drop N6 (by k_extra "l_memx")
  clear hin6
  try dsimp only
  k_steps
  refine Halt.go ?_
  (with_reducible rename Fr _ _ _ _ => FX0)
  obtain ⟨g, f, fx, FX, G, f1, f2, eW⟩ := id hW
  obtain ⟨ud, uo, pi, ti, td, tr, o_, sd, so, ro, kt, tg, tf, n2_, ns, m1, m2, m3, m4, m5, m6, m7, m8, hu0, hdt, lot, hds, los, hdr, lor⟩ := FX.mems
  have m7' : (rw_, ro) ∈ W := by rw [eA, eW]; exact List.mem_append_right _ (List.mem_append_left _ m7)
  have hz : (kvsBy (fun x => Value.ref x.lD) xs).length = xs.length := by rw [kvsBy, List.length_map]
  (with_reducible rename News _ _ _ _ => NW)
  obtain ⟨oc2, dc2, NB0⟩ : ∃ oc2 : Obj, (oc2.data = Data.cell (some (.ref T))) ∧ News _ _ _ ((T, tupObj [.int fa t3, .int fp t4]) :: (src, os5) :: (L' + 1, oc2) :: W) := ⟨_, by assumption, cb_drop NW (by k_extra "l_memx")⟩
  refine bool_join FX0 ((T, tupObj [.int fa t3, .int fp t4]) :: (src, os5) :: (L' + 1, oc2) :: W) (P0 := 2 ≤ way ∧ xs ≠ []) ?_ ?_ ?_
  · refine isTrue_or ?_
    k_steps
    · exact .yes _ _ (by k_asm) (by k_asm)
    · refine Halt.go ?_
      by_cases hxs : xs = []
      · refine eq_empty (r := true) (by k_asm) (by k_mem) (.head _) hdr (by k_asm) lor (by k_asm) (by k_units) (by rw [hz, hxs]; rfl) ?_
        try dsimp only
        k_steps
        exact .yes _ _ (by k_asm) (cb_drop (by k_asm) (by k_extra "l_sub"))
      · refine eq_empty (r := false) (by k_asm) (by k_mem) (.head _) hdr (by k_asm) lor (by k_asm) (by k_units) (by rw [hz]; cases xs with | nil => exact absurd rfl hxs | cons => rfl) ?_
        try dsimp only
        k_steps
        exact .no _ _ ⟨by omega, hxs⟩ (by k_asm) (cb_drop (by k_asm) (by k_extra "l_sub"))
  · intro h' tk' FB NB
    clear FX0 NW NB0
    try dsimp only
    k_steps
    refine Halt.go ?_
    refine Spec.gq2 (C := one_pick (by k_extra "l_pick") hs5 (by k_extra "l_off") (by k_mem) (by simp) (by simp)) (ret := ?_)
    rintro r7 os7 h7 tk7 ⟨hr7, hs7⟩ F7 N7
    obtain ⟨port, tpo, rfl, hpo⟩ : ∃ k t, r7 = .int k t ∧ (k = 0 ∨ k = 7 ∨ k = 8) := by
      simp only [List.mem_cons, List.not_mem_nil, or_false] at hr7
      rcases hr7 with rfl | rfl | rfl | rfl
      · exact ⟨_,_, rfl, .inl rfl⟩
      · exact ⟨_,_, rfl, .inl rfl⟩
      · exact ⟨_,_, rfl, .inr (.inr rfl)⟩
      · exact ⟨_,_, rfl, .inr (.inl rfl)⟩
    replace N7 : News _ _ _ ([(src, os7)] ++ W) := cb_drop N7 (by k_extra "l_memx")
    have D7 : ((((src, os7) :: A0) ++ W0).map (·.1)).Nodup := by rw [eA] at D; exact D
    try dsimp only
    k_steps
    refine Halt.go ?_
    have S0 := opened_way (adr := adr) (t1 := tadr) (t2 := tpo) hW D7 hpo
    rw [show ((src, os7) :: A0) ++ W0 = [(src, os7)] ++ W from by rw [eA]; rfl] at S0
    rcases S0 with S | S
    · refine Spec.use S (by k_asm) (by k_asm) (by k_asm) N7 ro_sub (by k_asm) (by first | exact rfl | assumption) (by k_extra "bud") (by k_extra "bud") ?_
      rintro r8 n8 h8 tk8 ⟨xs', W', rfl, hW', hsub, D8⟩ F8 N8
      try dsimp only
      k_steps
      refine Halt.go ?_
      refine leaveS_l F8 N8 ?_
      intro F9 N9
      exact hret _ _ _ _ _ ⟨os7, xs', W', rfl, hs7, hW', hsub, D8⟩ KtsTurn.refl F9 N9 B X TP KD
    · refine SpecS.use S B' F7 X' N7 ro_sub T' XB TB D' (by first | exact rfl | assumption) (by k_extra "bud") (by k_extra "bud") ?_
      rintro r8 n8 h8 tk8 g8 ⟨rfl, rfl⟩ T8 F8 N8 B8 X8 P8 D8
      try dsimp only
      k_steps
      refine Halt.go ?_
      refine leaveS_r F8 N8 T8 ?_
      intro h9 T9 F9 N9 B9 X9 P9 D9
      exact hret _ _ _ _ _ ⟨os7, xs, W0, rfl, hs7, hW, by rw [eA]; exact ro_sub, D7⟩ T9 F9 N9 B9 X9 P9 D9
  · rintro h' tk' ⟨hw2, hxs⟩ FB NB
    clear FX0 NW NB0
    try dsimp only
    k_steps
    refine Halt.go ?_
    refine src_keys (by rfl) (by k_asm) (by k_asm) (by k_mem) hdr lor (by rw [hz, sizeLine_eq]; have := G.len; omega) ?_
    intro g9
    refine rest_map (fun i y => ∃ x t, xs[i]? = some x ∧ y = .int x.num t) ?_ ?_
    · intro ys hlenY hys
      unfold LCg.FinE
      intro D3 h3 tk3 F3 N3 o3
      dsimp only [LCg.Off1] at o3
      have hns : IntsAre ys (xs.map (·.num)) := ints_of (by rw [hlenY, hz, List.length_map]) fun i y hy => by
        obtain ⟨x, t, e1, e2⟩ := hys i y hy
        exact ⟨x.num, t, by rw [List.getElem?_map, e1]; rfl, e2⟩
      try dsimp only
      k_steps
      refine Halt.go ?_
      have hx3 := G.len
      have hx0 : 0 < xs.length := List.length_pos_iff.mpr hxs
      refine kso_sorted F3 N3 (News.isList N3 (.head _)) hns (by rw [List.length_map]; omega) ?_
      intro D4 vs' ns' c4_ h4_ F4_ N4_ l4 hI' hlen' hperm _ _
      have hvl := IntsAre.length hI'
      rw [List.length_map] at hlen'
      obtain ⟨oc2, dc2, N4_⟩ : ∃ oc2 : Obj, (oc2.data = Data.cell _) ∧ News _ _ _ ((D4, PySem.W.listOf vs'.toArray c4_) :: (T, tupObj [.int fa t3, .int fp t4]) :: (src, os5) :: (L' + 1, oc2) :: W) := ⟨_, by assumption, cb_drop N4_ (by k_extra "l_memx")⟩
      have hD4s : @Ne Nat D4 src := Nat.ne_of_gt (l4 (src, os5) (by simp))
      try dsimp only
      k_steps
      refine Halt.go ?_
      refine Spec.gq2 (C := one_pick (by k_extra "l_pick") hs5 (by k_extra "l_off") (by k_mem) (by omega) (by omega)) (ret := ?_)
      rintro r7 os7 h7 tk7 ⟨hr7, hs7⟩ F7 N7
      obtain ⟨num, tnum, rfl, hnum⟩ := ints_mem hI' r7 hr7
      obtain ⟨x, hx, rfl⟩ : ∃ x ∈ xs, x.num = num := by simpa using hperm.mem_iff.mp hnum
      replace N7 : News _ _ _ ((T, tupObj [.int fa t3, .int fp t4]) :: (src, os7) :: (L' + 1, oc2) :: W) := cb_drop N7 (by k_extra "l_memx")
      have hv := valueAt_kvs (f := fun x => .ref x.lD) G.1 hx
      have hfa : 0 ≤ fa ∧ fa ≤ 200 := by rcases hff with ⟨e, -⟩ | ⟨e, -⟩ <;> rw [e] <;> decide
      have hfp : 0 ≤ fp ∧ fp < 65536 := by rcases hff with ⟨-, e⟩ | ⟨-, e⟩ <;> rw [e] <;> decide
      have hTs3 : ∀ p ∈ (src, os) :: W, p.1 < T := lt_map (l := (src, os3) :: W) (fun p hp => hTl p (by rcases List.mem_cons.mp hp with rfl | hp; exact .head _; exact .tail _ (.tail _ hp))) rfl
      (try clear N3); (try clear N4_); (try clear F3); (try clear F4_); (try clear F1); (try clear F2); (try clear F4); (try clear F5); (try clear F6); (try clear N6); (try clear hr2); (try clear hr3); (try clear hys); (try clear hns); (try clear hI'); (try clear hperm); (try clear hTm); (try clear dc); (try clear l4); (try clear hlen'); (try clear hvl); (try clear hr7); (try clear hnum)
      have DT : (((T, tupObj [.int fa t3, .int fp t4]) :: (src, os7) :: (L' + 1, oc2) :: W).map (·.1)).Nodup := by
        have D9 := (fresh1 (x := tupObj [.int fa t3, .int fp t4]) hTl).nodup (by exact Tr.nd [_,_] [_,_,_] [_] (.c 0 0 (.c 1 1 (.s 0))) (.c 1 2 (.c 0 0 (.s 0))) rfl DC)
        exact Tr.nd [_,_,_] [_,_,_,_,_] [_] (.a (.c 0 0 .n) (.c 1 1 (.c 2 2 (.s 0)))) (.c 0 0 (.c 1 3 (.c 2 4 (.s 0)))) rfl D9
      have TK : TailOk prog w us rw_ st src T os7 oc2 A0 (A0 ++ W0) x bs way adr fa fp tw tadr tb t3 t4 tnum := by
        have hway : (2 ≤ way ∧ way < 5) ∨ way = 5 ∨ way = 6 ∨ way = 7 ∨ way = 8 := by clear hff had hfa hfp hlen; omega
        rcases hway with ⟨v1, v2⟩ | rfl | rfl | rfl | rfl
        · exact tail_came hW hs7 dc2 hx hbk hlen hps hfa hfp (adr_ok had) v1 v2
        · exact tail_read hW hs7 dc2 hx
        · exact tail_conn hW hs7 dc2 hx
        · exact tail_sent hW hs7 dc2 hx hbk hlen hps hfa hfp
        · exact tail_eight hW hs7 dc2 hx
      rw [← eA] at TK
      have hlk := (Eq.refl ((hp w.params).lookup 527)).trans (by k_is)
      unfold TailOk at TK
      rw [hlk] at TK
      dsimp only [stmtsOf, scopeOf, codeOf, List.drop] at TK
      try dsimp only
      k_steps
      refine Halt.go ?_
      refine TK pp loose mean mg mb dp un gd cn cs L a' ccd cl outer base g' L' _ _ _ _ _ _ _ B' (by k_asm) X' (by k_asm) T' XB TB D' hdp hu DT ?_
      rintro r9 n9 h9 tk9 m9 g9 ⟨os', hs', xs', W', rfl, hW', hsub, D8⟩ T9 F9 N9
      k_steps
      refine Halt.go ?_
      refine leaveS_r F9 N9 T9 ?_
      intro h10 T10 F10 N10 B10 X10 P10 D10
      exact hret _ _ _ _ _ ⟨os', xs', W', rfl, hs', hW', hsub, D8⟩ T10 F10 N10 B10 X10 P10 D10
    · intro i ys v I oI C oC D m₂ h9 tk E' G9 hi hv hC hx F3 N3 off ne Gy
      obtain ⟨k, x_, hk, hkv⟩ := hv
      obtain ⟨x, hx1, hx2, rfl, rfl⟩ := kvs_at hk
      obtain ⟨tv, rfl⟩ := intKind_val hkv
      have offRaw := off
      dsimp only [LCg.Off3] at off
      k_steps
      exact LCg.CompEnd.intro (by k_asm) (by k_asm) _ ro_sub offRaw (by k_mem) (Gy _ ⟨x, _, hx1, rfl⟩)
theorem deed_spec {W : Led} (hW : Wld prog w us rw_ st xs W) (hsrc : SrcObj os) (D : (((src, os) :: (A0 ++ W)).map (·.1)).Nodup) :
    SpecS prog w 527 60 [.ref src, .ref us, .ref rw_, .ref st] ((src, os) :: (A0 ++ W)) (DeedPost prog w us rw_ st src A0) := deed_aux hW rfl hsrc D
end

theorem reg67 : True := by
  (k_with "call ref" => with_reducible (first | refine Halt.call (a := 445) ?_ | refine Halt.call (a := 527) ?_))
  (k_with "execs cons Assign cons" => ((with_reducible show wpAny _ _ (execs (Stmt.Assign [Expr.Tuple [Expr.Name (Str.ofString "sockets") _,_,_] _ _] _ _ :: _) _) _ _ _); with_reducible refine Halt.at ?_))
  trivial
theorem TripHalt.at {M : Model} {A : Around} {env : Env} {Q : Flow → Shared → Prop} {E : Value → Shared → Prop} {s : Shared} {n1 : Nat} {p0 p1 p2 : Pos} {e1 e2 v1 : PySem.Expr} {r1 : List Stmt} (h : Halt (wpAny M A (execs (Stmt.Assign [Expr.Tuple [Expr.Name (Str.ofString "sockets") p0, e1, e2] n1 p1] v1 p2 :: r1) env) Q E s)) : wpAny M A (execs (Stmt.Assign [Expr.Tuple [Expr.Name (Str.ofString "sockets") p0, e1, e2] n1 p1] v1 p2 :: r1) env) Q E s := h
theorem reg68 : True := by
  (k_with "execs cons" => with_reducible refine TripHalt.at ?_)
  trivial
theorem src_pool {b y : Int} {c : Bool} {t1 t2 : Tok} {n : Nat} (hb : 0 ≤ b) : SrcObj (W.listOf #[.int (b * if c = true then 1 else 0) t1, .int (y.fmod 2147483647) t2] n) :=
  ⟨_,_,_,_,_, rfl, by split <;> omega, (fmod_in _ (by decide)).1, (fmod_in _ (by decide)).2⟩
theorem SpecS.top {prog : Program} {w : World} {f : Addr} {lvl : Nat} {vs : List Value} {news : Led} {Post : Value → Led → Prop} (S : SpecS prog w f lvl vs news Post)
    {p : Program} {loose : List Str} {mean : ExcName → Option Value} {mg mb : Str → Option Value} {dp un : Nat} {gd : Option (List Code)} {cn : Str} {cs : Scope} {a : Addr} {ccd : Value} {cl : List (Str × Addr)} {A₀ : Around} {h₀ : Heap} {L : Addr} {m : Str → Option Value} {hh : Heap} {gs : Array GenState} {dr : Drawn} {tk : Nat} {oz : OsState} {Q E : Value → Shared → Prop} {news₀ : Led}
    (B : Below A₀ h₀ [] h₀) (F : Fr h₀ L hh m) (X : (hp w.params).In h₀) (N : News h₀ L hh news₀) (hs : ∀ q ∈ news, q ∈ news₀) (T : Top p loose mean mg mb h₀) (hk : cs.kind = .function) (hdp : dp + lvl < 500) (hu : un + 100 * lvl < 9000)
    (ret : ∀ r news' h' tk', Post r news' → Fr h₀ L h' m → News h₀ L h' news' → Q r ⟨h', gs, dr, tk', oz⟩) :
    wpAny (model prog w) (ktrTop dp un gd cn cs L a ccd cl []) (call (.ref f) vs) Q E ⟨hh, gs, dr, tk, oz⟩ := by
  refine S.use B F X N hs T X T (fun b hb => absurd hb List.not_mem_nil) hk hdp hu ?_
  intro r news' h' tk' h₁ hP hT F' N' _ _ _ _
  have hst : h₀.StaysIn h₁ := fun b o e => hT.other b o e List.not_mem_nil
  refine ret r news' h' tk' hP ⟨F'.ns, fun b o e => F'.keep b o (hst b o e), hT.size ▸ F'.above⟩ fun p hp => ⟨(N' p hp).1, (N' p hp).2.1, ?_⟩
  cases e : h₀.get? p.1 with
  | none => rfl
  | some o =>
    have := (N' p hp).2.2
    rw [hst _ _ e] at this
    cases this
theorem reg69 : True := by
  (k_with "execs cons For cons" => ((with_reducible show wpAny _ _ (execs (Stmt.For (Expr.Name (Str.ofString "turn") _) _ _ _ _ :: _) _) _ _ _); with_reducible refine Halt.at ?_))
  trivial
theorem TurnHalt.at {M : Model} {A : Around} {env : Env} {Q : Flow → Shared → Prop} {E : Value → Shared → Prop} {s : Shared} {p0 p1 : Pos} {i1 : PySem.Expr} {b1 o1 r1 : List Stmt} (h : Halt (wpAny M A (execs (Stmt.For (Expr.Name (Str.ofString "turn") p0) i1 b1 o1 p1 :: r1) env) Q E s)) : wpAny M A (execs (Stmt.For (Expr.Name (Str.ofString "turn") p0) i1 b1 o1 p1 :: r1) env) Q E s := h
theorem reg70 : True := by
  (k_with "execs cons" => with_reducible refine TurnHalt.at ?_)
  trivial
theorem wld_start {prog : Program} {w : World} {us ud pi pd pt ti td tr sd rw_ st : Addr} {uo po o so ro : Obj} {k1 k2 k3 k4 v1 v2 v3 kt tg tf : Tok} {n n2 ns : Nat} (hu : UsObj w.params pi ti sd 0 uo) (ho : o.IsDictOf (intKind prog w) []) (lot : (tr == sysModules) = false) (hpo : po.IsDictOf (intKind prog w) []) (lop : (pt == sysModules) = false)
    (hso : so.IsDictOf (intKind prog w) []) (los : (sd == sysModules) = false) (hro : ro.IsDictOf (intKind prog w) []) (lor : (rw_ == sysModules) = false) :
    Wld prog w us rw_ st [] ((us, instObj 445 ud) :: (ud, uo) :: (pi, instObj 135 pd) :: (pd, dictOf (portsEs w.params k1 k2 k3 k4 v1 v2 v3 7 pt) n) :: (pt, po) :: (ti, instObj 327 td) :: (td, dictOf [ent w.params "rows" kt (.ref tr)] n2) :: (tr, o) :: (sd, so) :: (rw_, ro) :: [(st, W.listOf #[.int 0 tg, .int 7 tf] ns)]) :=
  ⟨0, 7, _, ⟨ud, uo, pi, pd, pt, po, ti, td, tr, o, sd, so, ro, k1, k2, k3, k4, v1, v2, v3, kt, tg, tf, n, n2, ns, rfl, hu, ho, lot, hpo, lop, hso, los, hro, lor⟩, ⟨List.nodup_nil, List.nodup_nil, fun x hx => absurd hx List.not_mem_nil⟩, by decide, by decide, rfl⟩
theorem nodup_two {a b : Addr} {oa ob : Obj} {l : Led} (h1 : ∀ p ∈ l, p.1 < a) (h2 : ∀ p ∈ (a, oa) :: l, p.1 < b) (D : (l.map (·.1)).Nodup) : (((b, ob) :: (a, oa) :: l).map (·.1)).Nodup := (fresh1 h2).nodup ((fresh1 h1).nodup D)
section
variable {prog : Program} {w : World} {fa L src : Addr} {cd : Value} {m₀ : Str → Option Value} {p : Program} {loose : List Str} {mean : ExcName → Option Value} {mg mb : Str → Option Value} {base : Heap} {os : Obj} {s : Shared} {Q : Flow → Shared → Prop} {E : Value → Shared → Prop}
inductive LawJ (prog : Program) (w : World) (us rw_ st src : Addr) (m₀ : Str → Option Value) (_i : Nat) (m : Str → Option Value) (l : Led) : Prop
  | mk (os : Obj) (xs : List Sk) (W : Led) (h1 : SrcObj os) (h2 : Wld prog w us rw_ st xs W) (h3 : l = (src, os) :: W) (h4 : (((src, os) :: W).map (·.1)).Nodup) (h5 : ∀ y, y ≠ Str.ofString "turn" → m y = m₀ y)
def Keep1 (a : Str) (m₀ : Str → Option Value) (l₀ : Led) (_i : Nat) (m : Str → Option Value) (l : Led) : Prop := l = l₀ ∧ ∀ y, y ≠ a → m y = m₀ y
theorem law_loop {us rw_ st : Addr} {W : Led} (B : Below callerA base [] base)
    (F : Fr base L s.heap (fun y => if y = Str.ofString "sockets" then some (.ref us) else if y = Str.ofString "rows" then some (.ref rw_) else if y = Str.ofString "state" then some (.ref st) else if y = Str.ofString "source" then some (.ref src) else m₀ y))
    (X : (hp w.params).In base) (N : News base L s.heap ((src, os) :: W)) (TP : Top p loose mean mg mb base) (hs : SrcObj os) (hW : Wld prog w us rw_ st [] W) (D : (((src, os) :: W).map (·.1)).Nodup)
    (hE : PassesOwn (model prog w) (callerA.deeper (envOf (Str.ofString "law") (scopeOf ((hp w.params).lookup 534)) L fa cd)) (envOf (Str.ofString "law") (scopeOf ((hp w.params).lookup 534)) L fa cd) E)
    (ret : ∀ h' tk' m' n, Fr base L h' m' → News base L h' n → Q (.ret (.bool true)) { s with heap := h', toks := tk' }) :
    wpAny (model prog w) (callerA.deeper (envOf (Str.ofString "law") (scopeOf ((hp w.params).lookup 534)) L fa cd)) (execs ((stmtsOf ((hp w.params).lookup 534)).drop 2) (envOf (Str.ofString "law") (scopeOf ((hp w.params).lookup 534)) L fa cd)) Q E s := by
  generalize hz : (hp w.params).lookup 534 = z at hE ⊢
  have e := hz.symm.trans (by k_is)
  subst e
  clear hz
  dsimp only [stmtsOf, scopeOf, List.drop] at hE ⊢
  refine wpAny_execs_cons ?_
  (with_unfolding_all refine' For_invVF F ?k1 ?k2 ?_ (hE := hE))
  · exact rfl
  · exact rfl
  k_steps
  refine Halt.go ?_
  refine loop_range (n := 12) (LawJ prog w us rw_ st src _) rfl (by assumption) (by decide) (by decide) (by k_asm) (cb_drop (by k_asm) (by k_extra "l_sub")) ⟨os, [], W, hs, hW, rfl, D, fun _ _ => rfl⟩ ?_ ?_
  · rintro I i t m₁ news₁ h tk own hI hi ⟨os', xs, W', hs', hW', rfl, D', hm⟩ ⟨ho, oI, hoI⟩ hnI F₁ N₁
    rw [frame1 hm] at F₁
    have hown : ∀ q ∈ own, q = (I, oI) := fun q hq => by
      have e1 := (N₁ q (List.mem_append_left _ hq)).1
      have e2 := (N₁ _ (List.mem_append_left _ hoI)).1
      rw [ho q hq, e2] at e1
      exact Prod.ext (ho q hq) (Option.some.inj e1).symm
    have N2 : News base L h ((src, os') :: ([(I, oI)] ++ W')) := fun q hq => by
      rcases List.mem_cons.mp hq with rfl | hq
      · exact N₁ _ (List.mem_append_right _ (.head _))
      rcases List.mem_cons.mp hq with rfl | hq
      · exact N₁ _ (List.mem_append_left _ hoI)
      · exact N₁ _ (List.mem_append_right _ (.tail _ hq))
    have D2 : (((src, os') :: ([(I, oI)] ++ W')).map (·.1)).Nodup := by
      have D9 := nodup_new (o := oI) hnI D'
      exact Tr.nd [_,_] [_,_] [_] (.c 0 0 (.c 1 1 (.s 0))) (.c 1 1 (.a (.c 0 0 .n) (.s 0))) rfl D9
    clear N₁
    k_steps
    refine Halt.go ?_
    refine SpecS.top (deed_spec (A0 := [(I, oI)]) hW' hs' D2) B (by k_asm) X N2 ro_sub TP (by first | exact rfl | assumption) (by decide) (by decide) ?_
    rintro r n' h' tk' ⟨os2, xs2, W2, rfl, hs2, hW2, hsub, D3⟩ F3 N3
    try dsimp only
    k_steps
    refine TurnEnd.intro F3 N3 (nx := (src, os2) :: W2) (fun q hq => ?_) (fun q hq => ?_) ⟨os2, xs2, W2, hs2, hW2, rfl, by exact Tr.nd [_,_] [_,_] [_] (.c 0 0 (.a (.c 1 1 .n) (.s 0))) (.c 0 0 (.s 0)) rfl D3, fun z z1 => by simp only [if_neg z1]⟩
    · rcases List.mem_append.mp hq with hq | hq
      · rw [hown q hq]; exact hsub _ (.tail _ (.head _))
      rcases List.mem_cons.mp hq with rfl | hq
      · exact hsub _ (.head _)
      · exact hsub _ (.tail _ (.tail _ hq))
    · have D4 : (((I, oI) :: ((src, os2) :: W2)).map (·.1)).Nodup := by exact Tr.nd [_,_] [_,_] [_] (.c 0 0 (.a (.c 1 1 .n) (.s 0))) (.c 1 1 (.c 0 0 (.s 0))) rfl D3
      exact ne_of_nodup D4 q hq
  · rintro m₁ news₁ h tk ⟨os', xs, W', hs', hW', rfl, D', hm⟩ F₁ N₁
    rw [frame1 hm] at F₁
    obtain ⟨g0, f, fx, FX, G, f1, f2, eW⟩ := id hW'
    obtain ⟨ud, uo, pi, ti, td, tr, o_, sd, so, ro, kt, tg, tf, n2_, ns, m1, m2, m3, m4, m5, m6, m7, m8, hu0, hdt, lot, hds, los, hdr, lor⟩ := FX.mems
    have fxW : ∀ q ∈ fx, q ∈ W' := fun q h => by rw [eW]; exact List.mem_append_left _ h
    have m7' : (rw_, ro) ∈ W' := fxW _ m7
    have m1' : (us, instObj 445 ud) ∈ W' := fxW _ m1
    have m2' : (ud, uo) ∈ W' := fxW _ m2
    have m6' : (sd, so) ∈ W' := fxW _ m6
    have hu2 := hu0
    obtain ⟨y1, y2, y3, y4, y5, y6, y7, y8, e⟩ := hu0
    subst e
    clear m1 m2 m3 m4 m5 m6 m7 m8 fxW
    k_steps
    refine Halt.go ?_
    refine loop_keys (Keep1 (Str.ofString "number") _ _) rfl (by k_asm) (by k_asm) (by k_mem) hdr lor ⟨rfl, fun _ _ => rfl⟩ ?_ ?_
    · rintro I i k v t' m₂ news₂ h tk own hI hi ⟨rfl, hm2⟩ ho hnI F₂ N₂
      obtain ⟨x, hx, hxm, rfl, rfl⟩ := kvs_at hi
      rw [frame1 hm2] at F₂
      have ok := (G.2.2 x hxm).2
      have hv := valueAt_kvs (f := fun x => .ref x.lD) G.1 hxm
      have hvs := valueAt_kvs (f := fun x => .ref x.sI) G.1 hxm
      have hq2 := ok.ql
      have hsk := ok.sx
      obtain ⟨lo_, vf, ve, qD, vs, cap, i1, i2, ⟨u1, u2, i3⟩, i4, i5⟩ := ok.lx.mem
      have i1' : (x.lD, lo_) ∈ W' := by rw [eW]; exact List.mem_append_right _ (led_sub hxm _ (List.mem_append_right _ (List.mem_append_right _ i1)))
      have i2' : (qD, PySem.W.listOf vs.toArray cap) ∈ W' := by rw [eW]; exact List.mem_append_right _ (led_sub hxm _ (List.mem_append_right _ (List.mem_append_right _ i2)))
      have SL : ∀ q ∈ x.sl, q ∈ own ++ ((src, os') :: W') := fun q hq => List.mem_append_right _ (.tail _ (by rw [eW]; exact List.mem_append_right _ (led_sub hxm _ (List.mem_append_right _ (List.mem_append_left _ hq)))))
      clear eW FX G ok
      k_steps
      refine Halt.go ?_
      refine Spec.ur1 (waiting_spec (news := own ++ ((src, os') :: W')) (List.mem_append_right _ (.tail _ m1')) (List.mem_append_right _ (.tail _ m2')) hu2 (List.mem_append_right _ (.tail _ m6')) hds los hvs hsk SL (by omega)) B (by k_asm) (by k_asm) (by k_asm) ro_sub (by k_asm) (by first | exact rfl | assumption) (by decide) (by decide) ?_
      rintro t3 h3 tk3 F3 N3
      try dsimp only
      k_steps
      · exfalso; omega
      refine Halt.go ?_
      refine Spec.ur1 (port_of_spec (news := own ++ ((src, os') :: W')) (List.mem_append_right _ (.tail _ m1')) (List.mem_append_right _ (.tail _ m2')) hu2 (List.mem_append_right _ (.tail _ m6')) hds los hvs hsk SL) B (by k_asm) (by k_asm) (by k_asm) ro_sub (by k_asm) (by first | exact rfl | assumption) (by decide) (by decide) ?_
      rintro t4 h4 tk4 F4 N4
      try dsimp only
      k_steps
      · exfalso; omega
      · exact TurnEnd.intro (by k_asm) (by k_asm) ro_sub hnI ⟨rfl, fun z z1 => by simp only [if_neg z1]⟩
    · rintro m₂ news₂ h tk ⟨rfl, hm2⟩ F₂ N₂
      rw [frame1 hm2] at F₂
      k_steps
      exact ret _ _ _ _ (by k_asm) (by k_asm)
theorem law_rest (B : Below callerA base [] base) (F : Fr base L s.heap (fun y => if y = Str.ofString "source" then some (.ref src) else m₀ y)) (X : (hp w.params).In base) (N : News base L s.heap [(src, os)]) (TP : Top p loose mean mg mb base) (hs : SrcObj os)
    (hE : PassesOwn (model prog w) (callerA.deeper (envOf (Str.ofString "law") (scopeOf ((hp w.params).lookup 534)) L fa cd)) (envOf (Str.ofString "law") (scopeOf ((hp w.params).lookup 534)) L fa cd) E)
    (ret : ∀ h' tk' m' n, Fr base L h' m' → News base L h' n → Q (.ret (.bool true)) { s with heap := h', toks := tk' }) :
    wpAny (model prog w) (callerA.deeper (envOf (Str.ofString "law") (scopeOf ((hp w.params).lookup 534)) L fa cd)) (execs ((stmtsOf ((hp w.params).lookup 534)).drop 1) (envOf (Str.ofString "law") (scopeOf ((hp w.params).lookup 534)) L fa cd)) Q E s := by
  generalize hz : (hp w.params).lookup 534 = z at hE ⊢
  have e := hz.symm.trans (by k_is)
  subst e
  clear hz
  dsimp only [stmtsOf, scopeOf, List.drop] at hE ⊢
  refine wpAny_execs_cons ?_
  k_steps
  refine Halt.go ?_
  refine Spec.uq23 (new_spec (news := [(src, os)]) (by simp)) B (by k_asm) (by k_asm) (by k_asm) ro_sub (by k_asm) (by first | exact rfl | assumption) (by decide) (by decide) ?_
  rintro us ud uo pi pd pt po ti td tr o sd so k1 k2 k3 k4 v1 v2 v3 n n2 kt h1 tk1 ⟨hu, ho, lot, hpo, lop, hso, los, D1⟩ F1 N1
  try dsimp only
  k_steps
  refine Halt.go ?_
  have hlk := (Eq.refl ((hp w.params).lookup 534)).trans (by k_is)
  have TK := @law_loop prog w fa L src cd m₀ p loose mean mg mb base os
  rw [hlk] at TK
  dsimp only [stmtsOf, scopeOf, List.drop] at TK
  refine' TK B ?cF X (cb_drop ?cN ?cS) TP hs (wld_start hu ho lot hpo lop hso los ?cr ?cl) ?cD hE ?_
  case cF => k_asm
  case cN => k_asm
  case cS => k_extra "l_memx"
  case cr => assumption
  case cl => assumption
  case cD =>
    have DD := nodup_two (ob := os) (by assumption) (by assumption) D1
    exact Tr.nd [_,_,_,_,_,_,_,_,_,_,_,_] [_,_,_,_,_,_,_,_,_,_,_,_] [] (.c 0 0 (.c 1 1 (.a (.c 2 2 (.c 3 3 (.c 4 4 (.c 5 5 (.c 6 6 (.c 7 7 (.c 8 8 (.c 9 9 (.c 10 10 .n))))))))) (.c 11 0 .n)))) (.c 11 0 (.c 2 2 (.c 3 3 (.c 4 4 (.c 5 5 (.c 6 6 (.c 7 7 (.c 8 8 (.c 9 9 (.c 10 10 (.c 1 1 (.c 0 11 .n)))))))))))) rfl DD
  intro h' tk' m' n' F' N'
  exact ret _ _ _ _ F' N'
end
theorem PoolHalt.at {M : Model} {A : Around} {env : Env} {p1 p2 p3 : Pos} {o1 : List CmpOp} {c1 : List PySem.Expr} {b1 b2 : List Stmt} {Q : Flow → Shared → Prop} {E : Value → Shared → Prop} {s : Shared} (h : Halt (wpAny M A (exec (Stmt.If (Expr.Compare (Expr.Name (Str.ofString "k") p1) o1 c1 p2) b1 b2 p3) env) Q E s)) : wpAny M A (exec (Stmt.If (Expr.Compare (Expr.Name (Str.ofString "k") p1) o1 c1 p2) b1 b2 p3) env) Q E s := h
theorem reg71 : True := by
  (k_with "exec If" => with_reducible refine PoolHalt.at ?_)
  trivial
inductive CellAt (g : Heap) (L : Addr) (m : Str → Option Value) (gs : Array GenState) (dr : Drawn) (oz : OsState) : Flow → Shared → Prop
  | mk (c : Int) (tc : Tok) (h' : Heap) (tk' : Nat) (F : Fr g L h' (fun y => if y = Str.ofString "cell" then some (.int c tc) else m y)) (N : News g L h' []) : CellAt g L m gs dr oz .next ⟨h', gs, dr, tk', oz⟩
theorem cell_join {M : Model} {A : Around} {t : Sem Flow} {Q : Flow → Shared → Prop} {E : Value → Shared → Prop} {g : Heap} {L : Addr} {h0 hh : Heap} {m : Str → Option Value} {c0 : Int} {t0 : Tok} {gs : Array GenState} {dr : Drawn} {tk : Nat} {oz : OsState} (_ : Fr g L h0 (fun y => if y = Str.ofString "cell" then some (.int c0 t0) else m y))
    (h1 : wpAny M A t (CellAt g L m gs dr oz) E ⟨hh, gs, dr, tk, oz⟩) (h2 : ∀ c tc h' tk', Fr g L h' (fun y => if y = Str.ofString "cell" then some (.int c tc) else m y) → News g L h' [] → Q .next ⟨h', gs, dr, tk', oz⟩) : wpAny M A t Q E ⟨hh, gs, dr, tk, oz⟩ :=
  wpAny_mono h1 (fun _ _ j => by cases j with | mk c tc h' tk' F N => exact h2 c tc h' tk' F N) fun _ _ e => e
theorem cell_twice {m : Str → Option Value} {a b : Value} : (fun y => if y = Str.ofString "cell" then some a else if y = Str.ofString "cell" then some b else m y) = fun y => if y = Str.ofString "cell" then some a else m y := by
  funext y
  split <;> rfl
theorem reg72 : True := by
  (k_with "k_qdec" => decide +kernel)
  trivial
theorem law_holds : PySem.Challenge.rw_nu0134_01.Holds := by
  w_on
  refine holds_law headSaid fun said => ?_
  refine holds_open (q := vw) (loose := looseT) (Xt := seesT) (XP := XL vw []) (Yf := hookT.obs) (Ya := hookT.val) (YP := hookT.says) (N := 8370) headLeft (Hook.of hookT) (Hook.keeps hookT) (fun s e => xl_of s (Bool.and_eq_true_iff.mp e).1) XL.keeps (by rfl) (by rfl) (by rfl) (fun s e => recFacts_of (Bool.and_eq_true_iff.mp e).2) (by rfl) (by first | assumption | decide +kernel) headOk ⟨rfl, rfl, rfl, rfl, rfl, by decide +kernel⟩ ?hw ?hc
  case hw => w_witness2
  w_top off
  k_go0
  all_goals try k_fold
  k_steps
  refine Halt.go ?_
  with_reducible rename Fr _ _ _ _ => FP
  refine cell_join FP ?_ ?_
  · refine wpAny_If ?_
    k_steps
    · (with_reducible rename Fr _ _ _ _ => FQ)
      rw [cell_twice] at FQ
      exact .mk _ _ _ _ FQ (by k_asm)
    · exact .mk _ _ _ _ (by k_asm) (by k_asm)
  intro c tc h8 tk8 F8 N8
  clear FP
  try dsimp only
  k_steps
  all_goals (
    refine Halt.go ?_
    rename World => w0
    have hlk := (Eq.refl ((hp w0.params).lookup 534)).trans (by k_is)
    have TK := @law_rest PySem.Challenge.rw_nu0134_01.row.prog w0
    rw [hlk] at TK
    dsimp only [stmtsOf, scopeOf, List.drop] at TK
    refine' TK ?cB ?cF ?cX ?cN ?cT ?cs ?cE ?_
    case cB => k_asm
    case cF => k_asm
    case cX => k_asm
    case cN => k_asm
    case cT => k_asm
    case cs => exact src_pool (by split <;> omega)
    case cE => passes_own
    intro h9 tk9 m9 n9 F9 N9
    k_steps)

end Mine
theorem PySem.Challenge.cw_nu0134_01_holds : PySem.Challenge.rw_nu0134_01.Holds :=
  Mine.law_holds
