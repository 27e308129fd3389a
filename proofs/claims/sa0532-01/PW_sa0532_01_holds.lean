import PyProof.Rows.All
import Wide.FinOn
import OpenK.AllK
import Wide.All
import Lean
import PySem.Challenge.RW_sa0532_01
set_option Elab.async false
set_option maxRecDepth 100000
set_option maxHeartbeats 4000000
set_option linter.unusedVariables false
open PySem PySem.W PyProof.Rows
namespace Mine
local macro_rules | `(tactic| walk_at $s:str) => `(tactic| k_extra $s)
local macro_rules | `(tactic| k_mem) => `(tactic| first | assumption | exact List.Mem.tail _ (by assumption) | exact List.Mem.tail _ (List.Mem.tail _ (by assumption)))
local macro_rules | `(tactic| k_all) => `(tactic| assumption)
section
open PySem PySem.W PyProof.Rows
set_option maxRecDepth 100000
namespace Mine
theorem m_said : OpenLaw.wellSaid PySem.Challenge.rw_sa0532_01 = true := by
  rw [PySem.W.Fast.te9446332074065402090]; kernel_rfl
end Mine
end
section
open PySem PySem.W PyProof.Rows
set_option Elab.async false
set_option maxRecDepth 100000
set_option maxHeartbeats 0
namespace Mine
namespace Cut
noncomputable def nth : List Stmt → Nat → Stmt
  | [], _ => .Pass ⟨0, 0, 0, 0⟩
  | s :: _, 0 => s
  | _ :: r, n + 1 => nth r n
noncomputable def st (i : Nat) : Stmt := nth PySem.Challenge.pw_sa0532_01.main.body i
noncomputable def sc (i j : Nat) : Stmt := match st i with
  | .ClassDef _ _ _ b _ _ _ _ _ _ _ => nth b j
  | s => s
noncomputable def fa : Stmt → Arguments
  | .FunctionDef _ a _ _ _ _ _ _ _ _ => a
  | _ => default
noncomputable def fb : Stmt → FuncBody
  | .FunctionDef _ _ b _ _ _ _ _ _ _ => .stmts b
  | _ => default
noncomputable def fs : Stmt → Scope
  | .FunctionDef _ _ _ _ _ _ c _ _ _ => c
  | _ => default
noncomputable def a28 : Arguments := (by exact fun k _ => k : ∀ k : Arguments, fa (sc 1 0) = k → Arguments) _ (by conv => lhs; whnf)
noncomputable def b28 : FuncBody := (by exact fun k _ => k : ∀ k : FuncBody, fb (sc 1 0) = k → FuncBody) _ (by conv => lhs; whnf)
noncomputable def s28 : Scope := (by exact fun k _ => k : ∀ k : Scope, fs (sc 1 0) = k → Scope) _ (by conv => lhs; whnf)
noncomputable def a48 : Arguments := (by exact fun k _ => k : ∀ k : Arguments, fa (sc 2 0) = k → Arguments) _ (by conv => lhs; whnf)
noncomputable def b48 : FuncBody := (by exact fun k _ => k : ∀ k : FuncBody, fb (sc 2 0) = k → FuncBody) _ (by conv => lhs; whnf)
noncomputable def s48 : Scope := (by exact fun k _ => k : ∀ k : Scope, fs (sc 2 0) = k → Scope) _ (by conv => lhs; whnf)
noncomputable def a60 : Arguments := (by exact fun k _ => k : ∀ k : Arguments, fa (st 6) = k → Arguments) _ (by conv => lhs; whnf)
noncomputable def b60 : FuncBody := (by exact fun k _ => k : ∀ k : FuncBody, fb (st 6) = k → FuncBody) _ (by conv => lhs; whnf)
noncomputable def s60 : Scope := (by exact fun k _ => k : ∀ k : Scope, fs (st 6) = k → Scope) _ (by conv => lhs; whnf)
noncomputable def a67 : Arguments := (by exact fun k _ => k : ∀ k : Arguments, fa (st 7) = k → Arguments) _ (by conv => lhs; whnf)
noncomputable def b67 : FuncBody := (by exact fun k _ => k : ∀ k : FuncBody, fb (st 7) = k → FuncBody) _ (by conv => lhs; whnf)
noncomputable def s67 : Scope := (by exact fun k _ => k : ∀ k : Scope, fs (st 7) = k → Scope) _ (by conv => lhs; whnf)
noncomputable def a74 : Arguments := (by exact fun k _ => k : ∀ k : Arguments, fa (st 8) = k → Arguments) _ (by conv => lhs; whnf)
noncomputable def b74 : FuncBody := (by exact fun k _ => k : ∀ k : FuncBody, fb (st 8) = k → FuncBody) _ (by conv => lhs; whnf)
noncomputable def s74 : Scope := (by exact fun k _ => k : ∀ k : Scope, fs (st 8) = k → Scope) _ (by conv => lhs; whnf)
noncomputable def a81 : Arguments := (by exact fun k _ => k : ∀ k : Arguments, fa (st 9) = k → Arguments) _ (by conv => lhs; whnf)
noncomputable def b81 : FuncBody := (by exact fun k _ => k : ∀ k : FuncBody, fb (st 9) = k → FuncBody) _ (by conv => lhs; whnf)
noncomputable def s81 : Scope := (by exact fun k _ => k : ∀ k : Scope, fs (st 9) = k → Scope) _ (by conv => lhs; whnf)
noncomputable def a88 : Arguments := (by exact fun k _ => k : ∀ k : Arguments, fa (st 10) = k → Arguments) _ (by conv => lhs; whnf)
noncomputable def b88 : FuncBody := (by exact fun k _ => k : ∀ k : FuncBody, fb (st 10) = k → FuncBody) _ (by conv => lhs; whnf)
noncomputable def s88 : Scope := (by exact fun k _ => k : ∀ k : Scope, fs (st 10) = k → Scope) _ (by conv => lhs; whnf)
noncomputable def a95 : Arguments := (by exact fun k _ => k : ∀ k : Arguments, fa (st 11) = k → Arguments) _ (by conv => lhs; whnf)
noncomputable def b95 : FuncBody := (by exact fun k _ => k : ∀ k : FuncBody, fb (st 11) = k → FuncBody) _ (by conv => lhs; whnf)
noncomputable def s95 : Scope := (by exact fun k _ => k : ∀ k : Scope, fs (st 11) = k → Scope) _ (by conv => lhs; whnf)
noncomputable def a102 : Arguments := (by exact fun k _ => k : ∀ k : Arguments, fa (st 12) = k → Arguments) _ (by conv => lhs; whnf)
noncomputable def b102 : FuncBody := (by exact fun k _ => k : ∀ k : FuncBody, fb (st 12) = k → FuncBody) _ (by conv => lhs; whnf)
noncomputable def s102 : Scope := (by exact fun k _ => k : ∀ k : Scope, fs (st 12) = k → Scope) _ (by conv => lhs; whnf)
noncomputable def a109 : Arguments := (by exact fun k _ => k : ∀ k : Arguments, fa (st 13) = k → Arguments) _ (by conv => lhs; whnf)
noncomputable def b109 : FuncBody := (by exact fun k _ => k : ∀ k : FuncBody, fb (st 13) = k → FuncBody) _ (by conv => lhs; whnf)
noncomputable def s109 : Scope := (by exact fun k _ => k : ∀ k : Scope, fs (st 13) = k → Scope) _ (by conv => lhs; whnf)
noncomputable def a116 : Arguments := (by exact fun k _ => k : ∀ k : Arguments, fa (st 14) = k → Arguments) _ (by conv => lhs; whnf)
noncomputable def b116 : FuncBody := (by exact fun k _ => k : ∀ k : FuncBody, fb (st 14) = k → FuncBody) _ (by conv => lhs; whnf)
noncomputable def s116 : Scope := (by exact fun k _ => k : ∀ k : Scope, fs (st 14) = k → Scope) _ (by conv => lhs; whnf)
noncomputable def a123 : Arguments := (by exact fun k _ => k : ∀ k : Arguments, fa (st 15) = k → Arguments) _ (by conv => lhs; whnf)
noncomputable def b123 : FuncBody := (by exact fun k _ => k : ∀ k : FuncBody, fb (st 15) = k → FuncBody) _ (by conv => lhs; whnf)
noncomputable def s123 : Scope := (by exact fun k _ => k : ∀ k : Scope, fs (st 15) = k → Scope) _ (by conv => lhs; whnf)
noncomputable def a130 : Arguments := (by exact fun k _ => k : ∀ k : Arguments, fa (st 16) = k → Arguments) _ (by conv => lhs; whnf)
noncomputable def b130 : FuncBody := (by exact fun k _ => k : ∀ k : FuncBody, fb (st 16) = k → FuncBody) _ (by conv => lhs; whnf)
noncomputable def s130 : Scope := (by exact fun k _ => k : ∀ k : Scope, fs (st 16) = k → Scope) _ (by conv => lhs; whnf)
noncomputable def a137 : Arguments := (by exact fun k _ => k : ∀ k : Arguments, fa (st 17) = k → Arguments) _ (by conv => lhs; whnf)
noncomputable def b137 : FuncBody := (by exact fun k _ => k : ∀ k : FuncBody, fb (st 17) = k → FuncBody) _ (by conv => lhs; whnf)
noncomputable def s137 : Scope := (by exact fun k _ => k : ∀ k : Scope, fs (st 17) = k → Scope) _ (by conv => lhs; whnf)
noncomputable def a151 : Arguments := (by exact fun k _ => k : ∀ k : Arguments, fa (sc 20 0) = k → Arguments) _ (by conv => lhs; whnf)
noncomputable def b151 : FuncBody := (by exact fun k _ => k : ∀ k : FuncBody, fb (sc 20 0) = k → FuncBody) _ (by conv => lhs; whnf)
noncomputable def s151 : Scope := (by exact fun k _ => k : ∀ k : Scope, fs (sc 20 0) = k → Scope) _ (by conv => lhs; whnf)
noncomputable def a172 : Arguments := (by exact fun k _ => k : ∀ k : Arguments, fa (sc 21 0) = k → Arguments) _ (by conv => lhs; whnf)
noncomputable def b172 : FuncBody := (by exact fun k _ => k : ∀ k : FuncBody, fb (sc 21 0) = k → FuncBody) _ (by conv => lhs; whnf)
noncomputable def s172 : Scope := (by exact fun k _ => k : ∀ k : Scope, fs (sc 21 0) = k → Scope) _ (by conv => lhs; whnf)
noncomputable def a191 : Arguments := (by exact fun k _ => k : ∀ k : Arguments, fa (sc 22 0) = k → Arguments) _ (by conv => lhs; whnf)
noncomputable def b191 : FuncBody := (by exact fun k _ => k : ∀ k : FuncBody, fb (sc 22 0) = k → FuncBody) _ (by conv => lhs; whnf)
noncomputable def s191 : Scope := (by exact fun k _ => k : ∀ k : Scope, fs (sc 22 0) = k → Scope) _ (by conv => lhs; whnf)
noncomputable def a210 : Arguments := (by exact fun k _ => k : ∀ k : Arguments, fa (sc 23 0) = k → Arguments) _ (by conv => lhs; whnf)
noncomputable def b210 : FuncBody := (by exact fun k _ => k : ∀ k : FuncBody, fb (sc 23 0) = k → FuncBody) _ (by conv => lhs; whnf)
noncomputable def s210 : Scope := (by exact fun k _ => k : ∀ k : Scope, fs (sc 23 0) = k → Scope) _ (by conv => lhs; whnf)
noncomputable def a229 : Arguments := (by exact fun k _ => k : ∀ k : Arguments, fa (sc 24 0) = k → Arguments) _ (by conv => lhs; whnf)
noncomputable def b229 : FuncBody := (by exact fun k _ => k : ∀ k : FuncBody, fb (sc 24 0) = k → FuncBody) _ (by conv => lhs; whnf)
noncomputable def s229 : Scope := (by exact fun k _ => k : ∀ k : Scope, fs (sc 24 0) = k → Scope) _ (by conv => lhs; whnf)
noncomputable def a249 : Arguments := (by exact fun k _ => k : ∀ k : Arguments, fa (sc 25 0) = k → Arguments) _ (by conv => lhs; whnf)
noncomputable def b249 : FuncBody := (by exact fun k _ => k : ∀ k : FuncBody, fb (sc 25 0) = k → FuncBody) _ (by conv => lhs; whnf)
noncomputable def s249 : Scope := (by exact fun k _ => k : ∀ k : Scope, fs (sc 25 0) = k → Scope) _ (by conv => lhs; whnf)
noncomputable def a263 : Arguments := (by exact fun k _ => k : ∀ k : Arguments, fa (st 26) = k → Arguments) _ (by conv => lhs; whnf)
noncomputable def b263 : FuncBody := (by exact fun k _ => k : ∀ k : FuncBody, fb (st 26) = k → FuncBody) _ (by conv => lhs; whnf)
noncomputable def s263 : Scope := (by exact fun k _ => k : ∀ k : Scope, fs (st 26) = k → Scope) _ (by conv => lhs; whnf)
noncomputable def a270 : Arguments := (by exact fun k _ => k : ∀ k : Arguments, fa (st 27) = k → Arguments) _ (by conv => lhs; whnf)
noncomputable def b270 : FuncBody := (by exact fun k _ => k : ∀ k : FuncBody, fb (st 27) = k → FuncBody) _ (by conv => lhs; whnf)
noncomputable def s270 : Scope := (by exact fun k _ => k : ∀ k : Scope, fs (st 27) = k → Scope) _ (by conv => lhs; whnf)
noncomputable def a277 : Arguments := (by exact fun k _ => k : ∀ k : Arguments, fa (st 28) = k → Arguments) _ (by conv => lhs; whnf)
noncomputable def b277 : FuncBody := (by exact fun k _ => k : ∀ k : FuncBody, fb (st 28) = k → FuncBody) _ (by conv => lhs; whnf)
noncomputable def s277 : Scope := (by exact fun k _ => k : ∀ k : Scope, fs (st 28) = k → Scope) _ (by conv => lhs; whnf)
noncomputable def a284 : Arguments := (by exact fun k _ => k : ∀ k : Arguments, fa (st 33) = k → Arguments) _ (by conv => lhs; whnf)
noncomputable def b284 : FuncBody := (by exact fun k _ => k : ∀ k : FuncBody, fb (st 33) = k → FuncBody) _ (by conv => lhs; whnf)
noncomputable def s284 : Scope := (by exact fun k _ => k : ∀ k : Scope, fs (st 33) = k → Scope) _ (by conv => lhs; whnf)
noncomputable def a291 : Arguments := (by exact fun k _ => k : ∀ k : Arguments, fa (st 34) = k → Arguments) _ (by conv => lhs; whnf)
noncomputable def b291 : FuncBody := (by exact fun k _ => k : ∀ k : FuncBody, fb (st 34) = k → FuncBody) _ (by conv => lhs; whnf)
noncomputable def s291 : Scope := (by exact fun k _ => k : ∀ k : Scope, fs (st 34) = k → Scope) _ (by conv => lhs; whnf)
noncomputable def a298 : Arguments := (by exact fun k _ => k : ∀ k : Arguments, fa (st 35) = k → Arguments) _ (by conv => lhs; whnf)
noncomputable def b298 : FuncBody := (by exact fun k _ => k : ∀ k : FuncBody, fb (st 35) = k → FuncBody) _ (by conv => lhs; whnf)
noncomputable def s298 : Scope := (by exact fun k _ => k : ∀ k : Scope, fs (st 35) = k → Scope) _ (by conv => lhs; whnf)
noncomputable def a305 : Arguments := (by exact fun k _ => k : ∀ k : Arguments, fa (st 36) = k → Arguments) _ (by conv => lhs; whnf)
noncomputable def b305 : FuncBody := (by exact fun k _ => k : ∀ k : FuncBody, fb (st 36) = k → FuncBody) _ (by conv => lhs; whnf)
noncomputable def s305 : Scope := (by exact fun k _ => k : ∀ k : Scope, fs (st 36) = k → Scope) _ (by conv => lhs; whnf)
noncomputable def a312 : Arguments := (by exact fun k _ => k : ∀ k : Arguments, fa (st 37) = k → Arguments) _ (by conv => lhs; whnf)
noncomputable def b312 : FuncBody := (by exact fun k _ => k : ∀ k : FuncBody, fb (st 37) = k → FuncBody) _ (by conv => lhs; whnf)
noncomputable def s312 : Scope := (by exact fun k _ => k : ∀ k : Scope, fs (st 37) = k → Scope) _ (by conv => lhs; whnf)
noncomputable def a319 : Arguments := (by exact fun k _ => k : ∀ k : Arguments, fa (st 38) = k → Arguments) _ (by conv => lhs; whnf)
noncomputable def b319 : FuncBody := (by exact fun k _ => k : ∀ k : FuncBody, fb (st 38) = k → FuncBody) _ (by conv => lhs; whnf)
noncomputable def s319 : Scope := (by exact fun k _ => k : ∀ k : Scope, fs (st 38) = k → Scope) _ (by conv => lhs; whnf)
noncomputable def a326 : Arguments := (by exact fun k _ => k : ∀ k : Arguments, fa (st 39) = k → Arguments) _ (by conv => lhs; whnf)
noncomputable def b326 : FuncBody := (by exact fun k _ => k : ∀ k : FuncBody, fb (st 39) = k → FuncBody) _ (by conv => lhs; whnf)
noncomputable def s326 : Scope := (by exact fun k _ => k : ∀ k : Scope, fs (st 39) = k → Scope) _ (by conv => lhs; whnf)
noncomputable def a333 : Arguments := (by exact fun k _ => k : ∀ k : Arguments, fa (st 40) = k → Arguments) _ (by conv => lhs; whnf)
noncomputable def b333 : FuncBody := (by exact fun k _ => k : ∀ k : FuncBody, fb (st 40) = k → FuncBody) _ (by conv => lhs; whnf)
noncomputable def s333 : Scope := (by exact fun k _ => k : ∀ k : Scope, fs (st 40) = k → Scope) _ (by conv => lhs; whnf)
noncomputable def a340 : Arguments := (by exact fun k _ => k : ∀ k : Arguments, fa (st 41) = k → Arguments) _ (by conv => lhs; whnf)
noncomputable def b340 : FuncBody := (by exact fun k _ => k : ∀ k : FuncBody, fb (st 41) = k → FuncBody) _ (by conv => lhs; whnf)
noncomputable def s340 : Scope := (by exact fun k _ => k : ∀ k : Scope, fs (st 41) = k → Scope) _ (by conv => lhs; whnf)
noncomputable def a347 : Arguments := (by exact fun k _ => k : ∀ k : Arguments, fa (st 42) = k → Arguments) _ (by conv => lhs; whnf)
noncomputable def b347 : FuncBody := (by exact fun k _ => k : ∀ k : FuncBody, fb (st 42) = k → FuncBody) _ (by conv => lhs; whnf)
noncomputable def s347 : Scope := (by exact fun k _ => k : ∀ k : Scope, fs (st 42) = k → Scope) _ (by conv => lhs; whnf)
noncomputable def a354 : Arguments := (by exact fun k _ => k : ∀ k : Arguments, fa (st 43) = k → Arguments) _ (by conv => lhs; whnf)
noncomputable def b354 : FuncBody := (by exact fun k _ => k : ∀ k : FuncBody, fb (st 43) = k → FuncBody) _ (by conv => lhs; whnf)
noncomputable def s354 : Scope := (by exact fun k _ => k : ∀ k : Scope, fs (st 43) = k → Scope) _ (by conv => lhs; whnf)
noncomputable def a361 : Arguments := (by exact fun k _ => k : ∀ k : Arguments, fa (st 44) = k → Arguments) _ (by conv => lhs; whnf)
noncomputable def b361 : FuncBody := (by exact fun k _ => k : ∀ k : FuncBody, fb (st 44) = k → FuncBody) _ (by conv => lhs; whnf)
noncomputable def s361 : Scope := (by exact fun k _ => k : ∀ k : Scope, fs (st 44) = k → Scope) _ (by conv => lhs; whnf)
noncomputable def a368 : Arguments := (by exact fun k _ => k : ∀ k : Arguments, fa (st 45) = k → Arguments) _ (by conv => lhs; whnf)
noncomputable def b368 : FuncBody := (by exact fun k _ => k : ∀ k : FuncBody, fb (st 45) = k → FuncBody) _ (by conv => lhs; whnf)
noncomputable def s368 : Scope := (by exact fun k _ => k : ∀ k : Scope, fs (st 45) = k → Scope) _ (by conv => lhs; whnf)
noncomputable def a375 : Arguments := (by exact fun k _ => k : ∀ k : Arguments, fa (st 46) = k → Arguments) _ (by conv => lhs; whnf)
noncomputable def b375 : FuncBody := (by exact fun k _ => k : ∀ k : FuncBody, fb (st 46) = k → FuncBody) _ (by conv => lhs; whnf)
noncomputable def s375 : Scope := (by exact fun k _ => k : ∀ k : Scope, fs (st 46) = k → Scope) _ (by conv => lhs; whnf)
noncomputable def a382 : Arguments := (by exact fun k _ => k : ∀ k : Arguments, fa (st 47) = k → Arguments) _ (by conv => lhs; whnf)
noncomputable def b382 : FuncBody := (by exact fun k _ => k : ∀ k : FuncBody, fb (st 47) = k → FuncBody) _ (by conv => lhs; whnf)
noncomputable def s382 : Scope := (by exact fun k _ => k : ∀ k : Scope, fs (st 47) = k → Scope) _ (by conv => lhs; whnf)
noncomputable def a389 : Arguments := (by exact fun k _ => k : ∀ k : Arguments, fa (st 48) = k → Arguments) _ (by conv => lhs; whnf)
noncomputable def b389 : FuncBody := (by exact fun k _ => k : ∀ k : FuncBody, fb (st 48) = k → FuncBody) _ (by conv => lhs; whnf)
noncomputable def s389 : Scope := (by exact fun k _ => k : ∀ k : Scope, fs (st 48) = k → Scope) _ (by conv => lhs; whnf)
noncomputable def a396 : Arguments := (by exact fun k _ => k : ∀ k : Arguments, fa (st 49) = k → Arguments) _ (by conv => lhs; whnf)
noncomputable def b396 : FuncBody := (by exact fun k _ => k : ∀ k : FuncBody, fb (st 49) = k → FuncBody) _ (by conv => lhs; whnf)
noncomputable def s396 : Scope := (by exact fun k _ => k : ∀ k : Scope, fs (st 49) = k → Scope) _ (by conv => lhs; whnf)
noncomputable def a403 : Arguments := (by exact fun k _ => k : ∀ k : Arguments, fa (st 50) = k → Arguments) _ (by conv => lhs; whnf)
noncomputable def b403 : FuncBody := (by exact fun k _ => k : ∀ k : FuncBody, fb (st 50) = k → FuncBody) _ (by conv => lhs; whnf)
noncomputable def s403 : Scope := (by exact fun k _ => k : ∀ k : Scope, fs (st 50) = k → Scope) _ (by conv => lhs; whnf)
noncomputable def a410 : Arguments := (by exact fun k _ => k : ∀ k : Arguments, fa (st 51) = k → Arguments) _ (by conv => lhs; whnf)
noncomputable def b410 : FuncBody := (by exact fun k _ => k : ∀ k : FuncBody, fb (st 51) = k → FuncBody) _ (by conv => lhs; whnf)
noncomputable def s410 : Scope := (by exact fun k _ => k : ∀ k : Scope, fs (st 51) = k → Scope) _ (by conv => lhs; whnf)
noncomputable def a417 : Arguments := (by exact fun k _ => k : ∀ k : Arguments, fa (st 52) = k → Arguments) _ (by conv => lhs; whnf)
noncomputable def b417 : FuncBody := (by exact fun k _ => k : ∀ k : FuncBody, fb (st 52) = k → FuncBody) _ (by conv => lhs; whnf)
noncomputable def s417 : Scope := (by exact fun k _ => k : ∀ k : Scope, fs (st 52) = k → Scope) _ (by conv => lhs; whnf)
noncomputable def a424 : Arguments := (by exact fun k _ => k : ∀ k : Arguments, fa (st 53) = k → Arguments) _ (by conv => lhs; whnf)
noncomputable def b424 : FuncBody := (by exact fun k _ => k : ∀ k : FuncBody, fb (st 53) = k → FuncBody) _ (by conv => lhs; whnf)
noncomputable def s424 : Scope := (by exact fun k _ => k : ∀ k : Scope, fs (st 53) = k → Scope) _ (by conv => lhs; whnf)
noncomputable def a431 : Arguments := (by exact fun k _ => k : ∀ k : Arguments, fa (st 54) = k → Arguments) _ (by conv => lhs; whnf)
noncomputable def b431 : FuncBody := (by exact fun k _ => k : ∀ k : FuncBody, fb (st 54) = k → FuncBody) _ (by conv => lhs; whnf)
noncomputable def s431 : Scope := (by exact fun k _ => k : ∀ k : Scope, fs (st 54) = k → Scope) _ (by conv => lhs; whnf)
noncomputable def a446 : Arguments := (by exact fun k _ => k : ∀ k : Arguments, fa (sc 56 0) = k → Arguments) _ (by conv => lhs; whnf)
noncomputable def b446 : FuncBody := (by exact fun k _ => k : ∀ k : FuncBody, fb (sc 56 0) = k → FuncBody) _ (by conv => lhs; whnf)
noncomputable def s446 : Scope := (by exact fun k _ => k : ∀ k : Scope, fs (sc 56 0) = k → Scope) _ (by conv => lhs; whnf)
noncomputable def a463 : Arguments := (by exact fun k _ => k : ∀ k : Arguments, fa (st 61) = k → Arguments) _ (by conv => lhs; whnf)
noncomputable def b463 : FuncBody := (by exact fun k _ => k : ∀ k : FuncBody, fb (st 61) = k → FuncBody) _ (by conv => lhs; whnf)
noncomputable def s463 : Scope := (by exact fun k _ => k : ∀ k : Scope, fs (st 61) = k → Scope) _ (by conv => lhs; whnf)
noncomputable def a470 : Arguments := (by exact fun k _ => k : ∀ k : Arguments, fa (st 62) = k → Arguments) _ (by conv => lhs; whnf)
noncomputable def b470 : FuncBody := (by exact fun k _ => k : ∀ k : FuncBody, fb (st 62) = k → FuncBody) _ (by conv => lhs; whnf)
noncomputable def s470 : Scope := (by exact fun k _ => k : ∀ k : Scope, fs (st 62) = k → Scope) _ (by conv => lhs; whnf)
noncomputable def a477 : Arguments := (by exact fun k _ => k : ∀ k : Arguments, fa (st 63) = k → Arguments) _ (by conv => lhs; whnf)
noncomputable def b477 : FuncBody := (by exact fun k _ => k : ∀ k : FuncBody, fb (st 63) = k → FuncBody) _ (by conv => lhs; whnf)
noncomputable def s477 : Scope := (by exact fun k _ => k : ∀ k : Scope, fs (st 63) = k → Scope) _ (by conv => lhs; whnf)
noncomputable def a484 : Arguments := (by exact fun k _ => k : ∀ k : Arguments, fa (st 64) = k → Arguments) _ (by conv => lhs; whnf)
noncomputable def b484 : FuncBody := (by exact fun k _ => k : ∀ k : FuncBody, fb (st 64) = k → FuncBody) _ (by conv => lhs; whnf)
noncomputable def s484 : Scope := (by exact fun k _ => k : ∀ k : Scope, fs (st 64) = k → Scope) _ (by conv => lhs; whnf)
noncomputable def a491 : Arguments := (by exact fun k _ => k : ∀ k : Arguments, fa (st 65) = k → Arguments) _ (by conv => lhs; whnf)
noncomputable def b491 : FuncBody := (by exact fun k _ => k : ∀ k : FuncBody, fb (st 65) = k → FuncBody) _ (by conv => lhs; whnf)
noncomputable def s491 : Scope := (by exact fun k _ => k : ∀ k : Scope, fs (st 65) = k → Scope) _ (by conv => lhs; whnf)
noncomputable def a498 : Arguments := (by exact fun k _ => k : ∀ k : Arguments, fa (st 66) = k → Arguments) _ (by conv => lhs; whnf)
noncomputable def b498 : FuncBody := (by exact fun k _ => k : ∀ k : FuncBody, fb (st 66) = k → FuncBody) _ (by conv => lhs; whnf)
noncomputable def s498 : Scope := (by exact fun k _ => k : ∀ k : Scope, fs (st 66) = k → Scope) _ (by conv => lhs; whnf)
noncomputable def a505 : Arguments := (by exact fun k _ => k : ∀ k : Arguments, fa (st 67) = k → Arguments) _ (by conv => lhs; whnf)
noncomputable def b505 : FuncBody := (by exact fun k _ => k : ∀ k : FuncBody, fb (st 67) = k → FuncBody) _ (by conv => lhs; whnf)
noncomputable def s505 : Scope := (by exact fun k _ => k : ∀ k : Scope, fs (st 67) = k → Scope) _ (by conv => lhs; whnf)
noncomputable def a510 : Arguments := (by exact fun k _ => k : ∀ k : Arguments, fa (st 68) = k → Arguments) _ (by conv => lhs; whnf)
noncomputable def b510 : FuncBody := (by exact fun k _ => k : ∀ k : FuncBody, fb (st 68) = k → FuncBody) _ (by conv => lhs; whnf)
noncomputable def s510 : Scope := (by exact fun k _ => k : ∀ k : Scope, fs (st 68) = k → Scope) _ (by conv => lhs; whnf)
noncomputable def K0 : Params → Frag := fun P =>
(((nat_lit 2), (⟨.none, none, (.dict #[⟨(PyData.keyHash P "type.__subclasses__.Exception.0"), (.str "type.__subclasses__.Exception.0" 214), (.int 31 0)⟩, ⟨(PyData.keyHash P "type.__subclasses__.Exception.n"), (.str "type.__subclasses__.Exception.n" 215), (.int 1 0)⟩] 2), #[]⟩)) : Nat × Obj) ::
(((nat_lit 3), (⟨(.type "dict"), none, (.dict (List.toArray (⟨(PyData.keyHash P "__name__"), (.str "__name__" 165), (.str "law_sa0532_01" 814)⟩ :: ⟨(PyData.keyHash P "__doc__"), (.str "__doc__" 166), .none⟩ :: ⟨(PyData.keyHash P "__package__"), (.str "__package__" 167), .none⟩ :: ⟨(PyData.keyHash P "__loader__"), (.str "__loader__" 168), (.builtin "__main__.__loader__#opaque")⟩ :: ⟨(PyData.keyHash P "__spec__"), (.str "__spec__" 169), .none⟩ :: ⟨(PyData.keyHash P "__annotations__"), (.str "__annotations__" 170), (.ref 6)⟩ :: ⟨(PyData.keyHash P "__builtins__"), (.str "__builtins__" 171), (.ref 4)⟩ :: ⟨(PyData.keyHash P "__file__"), (.str "__file__" 173), (.str "/claim/cut.py" 172)⟩ :: ⟨(PyData.keyHash P "__cached__"), (.str "__cached__" 174), .none⟩ :: ⟨(PyData.keyHash P "PerlError"), (.str "PerlError" 217), (.ref 31)⟩ :: ⟨(PyData.keyHash P "Die"), (.str "Die" 242), (.ref 51)⟩ :: ⟨(PyData.keyHash P "FIGURES"), (.str "FIGURES" 246), (.str "0123456789" 245)⟩ :: ⟨(PyData.keyHash P "SPACES"), (.str "SPACES" 248), (.str " \t\n\r\x0c\x0b" 247)⟩ :: ⟨(PyData.keyHash P "wrap_number"), (.str "wrap_number" 256), (.ref 60)⟩ :: ⟨(PyData.keyHash P "add_numbers"), (.str "add_numbers" 265), (.ref 67)⟩ :: ⟨(PyData.keyHash P "sub_numbers"), (.str "sub_numbers" 274), (.ref 74)⟩ :: ⟨(PyData.keyHash P "mul_numbers"), (.str "mul_numbers" 283), (.ref 81)⟩ :: ⟨(PyData.keyHash P "cut_quotient"), (.str "cut_quotient" 292), (.ref 88)⟩ :: ⟨(PyData.keyHash P "div_numbers"), (.str "div_numbers" 301), (.ref 95)⟩ :: ⟨(PyData.keyHash P "mod_numbers"), (.str "mod_numbers" 310), (.ref 102)⟩ :: ⟨(PyData.keyHash P "power_numbers"), (.str "power_numbers" 320), (.ref 109)⟩ :: ⟨(PyData.keyHash P "number_head"), (.str "number_head" 330), (.ref 116)⟩ :: ⟨(PyData.keyHash P "numeric_text"), (.str "numeric_text" 342), (.ref 123)⟩ :: ⟨(PyData.keyHash P "looks_numeric"), (.str "looks_numeric" 351), (.ref 130)⟩ :: ⟨(PyData.keyHash P "number_text"), (.str "number_text" 359), (.ref 137)⟩ :: ⟨(PyData.keyHash P "HEX_FIGURES"), (.str "HEX_FIGURES" 363), (.str "0123456789abcdef" 362)⟩ :: ⟨(PyData.keyHash P "Thing"), (.str "Thing" 397), (.ref 154)⟩ :: ⟨(PyData.keyHash P "Array"), (.str "Array" 423), (.ref 175)⟩ :: ⟨(PyData.keyHash P "Hash"), (.str "Hash" 450), (.ref 194)⟩ :: ⟨(PyData.keyHash P "Code"), (.str "Code" 480), (.ref 213)⟩ :: ⟨(PyData.keyHash P "Glob"), (.str "Glob" 510), (.ref 232)⟩ :: ⟨(PyData.keyHash P "Ref"), (.str "Ref" 541), (.ref 252)⟩ :: ⟨(PyData.keyHash P "thing_word"), (.str "thing_word" 548), (.ref 263)⟩ :: ⟨(PyData.keyHash P "hex_of"), (.str "hex_of" 556), (.ref 270)⟩ :: ⟨(PyData.keyHash P "ref_text"), (.str "ref_text" 564), (.ref 277)⟩ :: ⟨(PyData.keyHash P "SMALL"), (.str "SMALL" 568), (.str "abcdefghijklmnopqrstuvwxyz" 567)⟩ :: ⟨(PyData.keyHash P "GREAT"), (.str "GREAT" 570), (.str "ABCDEFGHIJKLMNOPQRSTUVWXYZ" 569)⟩ :: ⟨(PyData.keyHash P "DIGITS"), (.str "DIGITS" 572), (.str "0123456789" 571)⟩ :: ⟨(PyData.keyHash P "to_text"), (.str "to_text" 579), (.ref 284)⟩ :: ⟨(PyData.keyHash P "to_number"), (.str "to_number" 587), (.ref 291)⟩ :: ⟨(PyData.keyHash P "truth"), (.str "truth" 594), (.ref 298)⟩ :: ⟨(PyData.keyHash P "truth_value"), (.str "truth_value" 601), (.ref 305)⟩ :: ⟨(PyData.keyHash P "is_magic_text"), (.str "is_magic_text" 610), (.ref 312)⟩ :: ⟨(PyData.keyHash P "row_of_sign"), (.str "row_of_sign" 617), (.ref 319)⟩ :: ⟨(PyData.keyHash P "magic_increment"), (.str "magic_increment" 628), (.ref 326)⟩ :: ⟨(PyData.keyHash P "increment_value"), (.str "increment_value" 636), (.ref 333)⟩ :: ⟨(PyData.keyHash P "decrement_value"), (.str "decrement_value" 644), (.ref 340)⟩ :: ⟨(PyData.keyHash P "compare_num"), (.str "compare_num" 655), (.ref 347)⟩ :: ⟨(PyData.keyHash P "compare_text"), (.str "compare_text" 665), (.ref 354)⟩ :: ⟨(PyData.keyHash P "concat_values"), (.str "concat_values" 675), (.ref 361)⟩ :: ⟨(PyData.keyHash P "by_numbers"), (.str "by_numbers" 685), (.ref 368)⟩ :: ⟨(PyData.keyHash P "op_add"), (.str "op_add" 694), (.ref 375)⟩ :: ⟨(PyData.keyHash P "op_sub"), (.str "op_sub" 703), (.ref 382)⟩ :: ⟨(PyData.keyHash P "op_mul"), (.str "op_mul" 712), (.ref 389)⟩ :: ⟨(PyData.keyHash P "op_div"), (.str "op_div" 721), (.ref 396)⟩ :: ⟨(PyData.keyHash P "op_mod"), (.str "op_mod" 730), (.ref 403)⟩ :: ⟨(PyData.keyHash P "op_power"), (.str "op_power" 739), (.ref 410)⟩ :: ⟨(PyData.keyHash P "arithmetic_ops"), (.str "arithmetic_ops" 745), (.ref 417)⟩ :: ⟨(PyData.keyHash P "holds_order"), (.str "holds_order" 753), (.ref 424)⟩ :: ⟨(PyData.keyHash P "compare_values"), (.str "compare_values" 763), (.ref 431)⟩ :: ⟨(PyData.keyHash P "Limits"), (.str "Limits" 813), (.ref 449)⟩ :: ⟨(PyData.keyHash P "_law_words"), (.str "_law_words" 822), (.ref 454)⟩ :: ⟨(PyData.keyHash P "_law_ahead"), (.str "_law_ahead" 827), (.ref 455)⟩ :: ⟨(PyData.keyHash P "_law_behind"), (.str "_law_behind" 833), (.ref 456)⟩ :: ⟨(PyData.keyHash P "_law_stir"), (.str "_law_stir" 842), (.ref 463)⟩ :: ⟨(PyData.keyHash P "_law_amount"), (.str "_law_amount" 853), (.ref 470)⟩ :: ⟨(PyData.keyHash P "_law_dressed"), (.str "_law_dressed" 863), (.ref 477)⟩ :: ⟨(PyData.keyHash P "_law_reckoned"), (.str "_law_reckoned" 873), (.ref 484)⟩ :: ⟨(PyData.keyHash P "_law_is_read"), (.str "_law_is_read" 885), (.ref 491)⟩ :: ⟨(PyData.keyHash P "_law_is_ordered"), (.str "_law_is_ordered" 902), (.ref 498)⟩ :: ⟨(PyData.keyHash P "_law_is_joined"), (.str "_law_is_joined" 914), (.ref 505)⟩ :: ⟨(PyData.keyHash P "law"), (.str "law" 920), (.ref 510)⟩ :: [])) 72), #[]⟩)) : Nat × Obj) ::
(((nat_lit 15), (⟨(.type "tuple"), none, (.seq #[(.type "Exception")] 0), #[]⟩)) : Nat × Obj) ::
(((nat_lit 22), (⟨(.type "tuple"), none, (.seq #[] 0), #[]⟩)) : Nat × Obj) ::
(((nat_lit 24), (⟨(.type "tuple"), none, (.seq #[(.str "self" 204), (.str "text" 205)] 0), #[]⟩)) : Nat × Obj) ::
(((nat_lit 25), (⟨(.type "tuple"), none, (.seq #[] 0), #[]⟩)) : Nat × Obj) ::
(((nat_lit 27), (⟨(.type "code"), none, (.fields #[(.str "__init__" 201), (.str "PerlError.__init__" 202), (.str "/claim/cut.py" 203), (.int 4 0), (.int 2 0), (.int 0 0), (.int 0 0), (.int 3 0), (.ref 22), (.bool true), (.int 181 0), (.ref 23), .none, (.ref 24), (.ref 25), (.ref 26), (.int 206 0), (.int 4 0), (.str "/claim/cut.py" 207)]), #[]⟩)) : Nat × Obj) ::
(((nat_lit 28), (⟨(.type "function"), none, (.func ⟨"__init__", "PerlError.__init__", a28, b28, s28, 3, [], .none, .none, .none, (.str "perlcore.errors" 187), none, (.ref 27), .none, 0⟩), #[]⟩)) : Nat × Obj) ::
(((nat_lit 29), (⟨(.type "tuple"), none, (.seq #[(.str "text" 209)] 0), #[]⟩)) : Nat × Obj) ::
(((nat_lit 30), (⟨(.type "dict"), none, (.dict #[⟨(PyData.keyHash P "__module__"), (.str "__module__" 196), (.str "perlcore.errors" 187)⟩, ⟨(PyData.keyHash P "__firstlineno__"), (.str "__firstlineno__" 200), (.int 2 199)⟩, ⟨(PyData.keyHash P "__init__"), (.str "__init__" 208), (.ref 28)⟩, ⟨(PyData.keyHash P "__static_attributes__"), (.str "__static_attributes__" 210), (.ref 29)⟩, ⟨(PyData.keyHash P "__weakref__"), (.str "__weakref__" 212), (.ref 32)⟩, ⟨(PyData.keyHash P "__doc__"), (.str "__doc__" 213), .none⟩] 3), #[]⟩)) : Nat × Obj) ::
(((nat_lit 31), (⟨(.type "type"), none, (.cls ⟨"PerlError", [(.type "Exception")], [(.ref 31), (.type "Exception"), (.type "BaseException"), (.type "object")], 30, "PerlError", true, [], [(.ref 51)], false, none, false⟩), #[(some (.ref 15)), none, (some (.str "PerlError" 189)), (some (.str "PerlError" 197)), (some (.builtin "Exception.__new__")), (some (.bool true))]⟩)) : Nat × Obj) ::
(((nat_lit 32), (⟨(.type "getset_descriptor"), none, (.fields #[(.str "__weakref__" 211), (.ref 31), (.builtin "ExceptionGroup.__weakref__"), .none]), #[]⟩)) : Nat × Obj) ::
(((nat_lit 35), (⟨(.type "tuple"), none, (.seq #[(.ref 31)] 0), #[]⟩)) : Nat × Obj) ::
(((nat_lit 42), (⟨(.type "tuple"), none, (.seq #[] 0), #[]⟩)) : Nat × Obj) ::
(((nat_lit 44), (⟨(.type "tuple"), none, (.seq #[(.str "self" 233), (.str "value" 234)] 0), #[]⟩)) : Nat × Obj) ::
(((nat_lit 45), (⟨(.type "tuple"), none, (.seq #[] 0), #[]⟩)) : Nat × Obj) ::
(((nat_lit 47), (⟨(.type "code"), none, (.fields #[(.str "__init__" 230), (.str "Die.__init__" 231), (.str "/claim/cut.py" 232), (.int 9 0), (.int 2 0), (.int 0 0), (.int 0 0), (.int 3 0), (.ref 42), (.bool true), (.int 181 0), (.ref 43), .none, (.ref 44), (.ref 45), (.ref 46), (.int 235 0), (.int 9 0), (.str "/claim/cut.py" 236)]), #[]⟩)) : Nat × Obj) ::
(((nat_lit 48), (⟨(.type "function"), none, (.func ⟨"__init__", "Die.__init__", a48, b48, s48, 3, [], .none, .none, .none, (.str "perlcore.errors" 187), none, (.ref 47), .none, 0⟩), #[]⟩)) : Nat × Obj) ::
(((nat_lit 49), (⟨(.type "tuple"), none, (.seq #[(.str "value" 238)] 0), #[]⟩)) : Nat × Obj) ::
(((nat_lit 50), (⟨(.type "dict"), none, (.dict #[⟨(PyData.keyHash P "__module__"), (.str "__module__" 225), (.str "perlcore.errors" 187)⟩, ⟨(PyData.keyHash P "__firstlineno__"), (.str "__firstlineno__" 229), (.int 7 228)⟩, ⟨(PyData.keyHash P "__init__"), (.str "__init__" 237), (.ref 48)⟩, ⟨(PyData.keyHash P "__static_attributes__"), (.str "__static_attributes__" 239), (.ref 49)⟩, ⟨(PyData.keyHash P "__doc__"), (.str "__doc__" 240), .none⟩] 2), #[]⟩)) : Nat × Obj) ::
(((nat_lit 51), (⟨(.type "type"), none, (.cls ⟨"Die", [(.ref 31)], [(.ref 51), (.ref 31), (.type "Exception"), (.type "BaseException"), (.type "object")], 50, "Die", true, [], [], false, none, false⟩), #[(some (.ref 35)), none, (some (.str "Die" 218)), (some (.str "Die" 226)), (some (.builtin "Exception.__new__")), (some (.bool true))]⟩)) : Nat × Obj) ::
(((nat_lit 54), (⟨(.type "tuple"), none, (.seq #[] 0), #[]⟩)) : Nat × Obj) ::
(((nat_lit 56), (⟨(.type "tuple"), none, (.seq #[(.str "n" 252), (.str "width" 253)] 0), #[]⟩)) : Nat × Obj) ::
(((nat_lit 57), (⟨(.type "tuple"), none, (.seq #[] 0), #[]⟩)) : Nat × Obj) ::
(((nat_lit 59), (⟨(.type "code"), none, (.fields #[(.str "wrap_number" 249), (.str "wrap_number" 250), (.str "/claim/cut.py" 251), (.int 15 0), (.int 2 0), (.int 0 0), (.int 0 0), (.int 3 0), (.ref 54), (.bool true), (.int 181 0), (.ref 55), .none, (.ref 56), (.ref 57), (.ref 58), (.int 254 0), (.int 15 0), (.str "/claim/cut.py" 255)]), #[]⟩)) : Nat × Obj) ::
(((nat_lit 60), (⟨(.type "function"), none, (.func ⟨"wrap_number", "wrap_number", a60, b60, s60, 3, [], .none, .none, .none, (.str "perlcore.numbers" 243), none, (.ref 59), .none, 0⟩), #[]⟩)) : Nat × Obj) ::
(((nat_lit 61), (⟨(.type "tuple"), none, (.seq #[] 0), #[]⟩)) : Nat × Obj) ::
(((nat_lit 63), (⟨(.type "tuple"), none, (.seq #[(.str "x" 260), (.str "y" 261), (.str "width" 262)] 0), #[]⟩)) : Nat × Obj) ::
(((nat_lit 64), (⟨(.type "tuple"), none, (.seq #[] 0), #[]⟩)) : Nat × Obj) ::
(((nat_lit 66), (⟨(.type "code"), none, (.fields #[(.str "add_numbers" 257), (.str "add_numbers" 258), (.str "/claim/cut.py" 259), (.int 20 0), (.int 3 0), (.int 0 0), (.int 0 0), (.int 3 0), (.ref 61), (.bool true), (.int 181 0), (.ref 62), .none, (.ref 63), (.ref 64), (.ref 65), (.int 263 0), (.int 20 0), (.str "/claim/cut.py" 264)]), #[]⟩)) : Nat × Obj) ::
(((nat_lit 67), (⟨(.type "function"), none, (.func ⟨"add_numbers", "add_numbers", a67, b67, s67, 3, [], .none, .none, .none, (.str "perlcore.numbers" 243), none, (.ref 66), .none, 0⟩), #[]⟩)) : Nat × Obj) ::
(((nat_lit 68), (⟨(.type "tuple"), none, (.seq #[] 0), #[]⟩)) : Nat × Obj) ::
(((nat_lit 70), (⟨(.type "tuple"), none, (.seq #[(.str "x" 269), (.str "y" 270), (.str "width" 271)] 0), #[]⟩)) : Nat × Obj) ::
(((nat_lit 71), (⟨(.type "tuple"), none, (.seq #[] 0), #[]⟩)) : Nat × Obj) ::
(((nat_lit 73), (⟨(.type "code"), none, (.fields #[(.str "sub_numbers" 266), (.str "sub_numbers" 267), (.str "/claim/cut.py" 268), (.int 22 0), (.int 3 0), (.int 0 0), (.int 0 0), (.int 3 0), (.ref 68), (.bool true), (.int 181 0), (.ref 69), .none, (.ref 70), (.ref 71), (.ref 72), (.int 272 0), (.int 22 0), (.str "/claim/cut.py" 273)]), #[]⟩)) : Nat × Obj) ::
(((nat_lit 74), (⟨(.type "function"), none, (.func ⟨"sub_numbers", "sub_numbers", a74, b74, s74, 3, [], .none, .none, .none, (.str "perlcore.numbers" 243), none, (.ref 73), .none, 0⟩), #[]⟩)) : Nat × Obj) ::
(((nat_lit 75), (⟨(.type "tuple"), none, (.seq #[] 0), #[]⟩)) : Nat × Obj) ::
(((nat_lit 77), (⟨(.type "tuple"), none, (.seq #[(.str "x" 278), (.str "y" 279), (.str "width" 280)] 0), #[]⟩)) : Nat × Obj) ::
(((nat_lit 78), (⟨(.type "tuple"), none, (.seq #[] 0), #[]⟩)) : Nat × Obj) ::
(((nat_lit 80), (⟨(.type "code"), none, (.fields #[(.str "mul_numbers" 275), (.str "mul_numbers" 276), (.str "/claim/cut.py" 277), (.int 24 0), (.int 3 0), (.int 0 0), (.int 0 0), (.int 3 0), (.ref 75), (.bool true), (.int 181 0), (.ref 76), .none, (.ref 77), (.ref 78), (.ref 79), (.int 281 0), (.int 24 0), (.str "/claim/cut.py" 282)]), #[]⟩)) : Nat × Obj) ::
(((nat_lit 81), (⟨(.type "function"), none, (.func ⟨"mul_numbers", "mul_numbers", a81, b81, s81, 3, [], .none, .none, .none, (.str "perlcore.numbers" 243), none, (.ref 80), .none, 0⟩), #[]⟩)) : Nat × Obj) ::
(((nat_lit 82), (⟨(.type "tuple"), none, (.seq #[] 0), #[]⟩)) : Nat × Obj) ::
(((nat_lit 84), (⟨(.type "tuple"), none, (.seq #[(.str "x" 287), (.str "y" 288), (.str "q" 289)] 0), #[]⟩)) : Nat × Obj) ::
(((nat_lit 85), (⟨(.type "tuple"), none, (.seq #[] 0), #[]⟩)) : Nat × Obj) ::
(((nat_lit 87), (⟨(.type "code"), none, (.fields #[(.str "cut_quotient" 284), (.str "cut_quotient" 285), (.str "/claim/cut.py" 286), (.int 26 0), (.int 2 0), (.int 0 0), (.int 0 0), (.int 3 0), (.ref 82), (.bool true), (.int 181 0), (.ref 83), .none, (.ref 84), (.ref 85), (.ref 86), (.int 290 0), (.int 26 0), (.str "/claim/cut.py" 291)]), #[]⟩)) : Nat × Obj) ::
(((nat_lit 88), (⟨(.type "function"), none, (.func ⟨"cut_quotient", "cut_quotient", a88, b88, s88, 3, [], .none, .none, .none, (.str "perlcore.numbers" 243), none, (.ref 87), .none, 0⟩), #[]⟩)) : Nat × Obj) ::
(((nat_lit 89), (⟨(.type "tuple"), none, (.seq #[] 0), #[]⟩)) : Nat × Obj) ::
(((nat_lit 91), (⟨(.type "tuple"), none, (.seq #[(.str "x" 296), (.str "y" 297), (.str "width" 298)] 0), #[]⟩)) : Nat × Obj) ::
(((nat_lit 92), (⟨(.type "tuple"), none, (.seq #[] 0), #[]⟩)) : Nat × Obj) ::
(((nat_lit 94), (⟨(.type "code"), none, (.fields #[(.str "div_numbers" 293), (.str "div_numbers" 294), (.str "/claim/cut.py" 295), (.int 31 0), (.int 3 0), (.int 0 0), (.int 0 0), (.int 3 0), (.ref 89), (.bool true), (.int 181 0), (.ref 90), .none, (.ref 91), (.ref 92), (.ref 93), (.int 299 0), (.int 31 0), (.str "/claim/cut.py" 300)]), #[]⟩)) : Nat × Obj) ::
(((nat_lit 95), (⟨(.type "function"), none, (.func ⟨"div_numbers", "div_numbers", a95, b95, s95, 3, [], .none, .none, .none, (.str "perlcore.numbers" 243), none, (.ref 94), .none, 0⟩), #[]⟩)) : Nat × Obj) ::
(((nat_lit 96), (⟨(.type "tuple"), none, (.seq #[] 0), #[]⟩)) : Nat × Obj) ::
(((nat_lit 98), (⟨(.type "tuple"), none, (.seq #[(.str "x" 305), (.str "y" 306), (.str "width" 307)] 0), #[]⟩)) : Nat × Obj) ::
(((nat_lit 99), (⟨(.type "tuple"), none, (.seq #[] 0), #[]⟩)) : Nat × Obj) ::
(((nat_lit 101), (⟨(.type "code"), none, (.fields #[(.str "mod_numbers" 302), (.str "mod_numbers" 303), (.str "/claim/cut.py" 304), (.int 35 0), (.int 3 0), (.int 0 0), (.int 0 0), (.int 3 0), (.ref 96), (.bool true), (.int 181 0), (.ref 97), .none, (.ref 98), (.ref 99), (.ref 100), (.int 308 0), (.int 35 0), (.str "/claim/cut.py" 309)]), #[]⟩)) : Nat × Obj) ::
(((nat_lit 102), (⟨(.type "function"), none, (.func ⟨"mod_numbers", "mod_numbers", a102, b102, s102, 3, [], .none, .none, .none, (.str "perlcore.numbers" 243), none, (.ref 101), .none, 0⟩), #[]⟩)) : Nat × Obj) ::
(((nat_lit 103), (⟨(.type "tuple"), none, (.seq #[] 0), #[]⟩)) : Nat × Obj) ::
(((nat_lit 105), (⟨(.type "tuple"), none, (.seq #[(.str "x" 314), (.str "n" 315), (.str "width" 316), (.str "result" 317)] 0), #[]⟩)) : Nat × Obj) ::
(((nat_lit 106), (⟨(.type "tuple"), none, (.seq #[] 0), #[]⟩)) : Nat × Obj) ::
(((nat_lit 108), (⟨(.type "code"), none, (.fields #[(.str "power_numbers" 311), (.str "power_numbers" 312), (.str "/claim/cut.py" 313), (.int 39 0), (.int 3 0), (.int 0 0), (.int 0 0), (.int 3 0), (.ref 103), (.bool true), (.int 181 0), (.ref 104), .none, (.ref 105), (.ref 106), (.ref 107), (.int 318 0), (.int 39 0), (.str "/claim/cut.py" 319)]), #[]⟩)) : Nat × Obj) ::
(((nat_lit 109), (⟨(.type "function"), none, (.func ⟨"power_numbers", "power_numbers", a109, b109, s109, 3, [], .none, .none, .none, (.str "perlcore.numbers" 243), none, (.ref 108), .none, 0⟩), #[]⟩)) : Nat × Obj) ::
(((nat_lit 110), (⟨(.type "tuple"), none, (.seq #[] 0), #[]⟩)) : Nat × Obj) ::
(((nat_lit 112), (⟨(.type "tuple"), none, (.seq #[(.str "text" 324), (.str "at" 325), (.str "end" 326), (.str "first" 327)] 0), #[]⟩)) : Nat × Obj) ::
(((nat_lit 113), (⟨(.type "tuple"), none, (.seq #[] 0), #[]⟩)) : Nat × Obj) ::
(((nat_lit 115), (⟨(.type "code"), none, (.fields #[(.str "number_head" 321), (.str "number_head" 322), (.str "/claim/cut.py" 323), (.int 51 0), (.int 1 0), (.int 0 0), (.int 0 0), (.int 3 0), (.ref 110), (.bool true), (.int 181 0), (.ref 111), .none, (.ref 112), (.ref 113), (.ref 114), (.int 328 0), (.int 51 0), (.str "/claim/cut.py" 329)]), #[]⟩)) : Nat × Obj) ::
(((nat_lit 116), (⟨(.type "function"), none, (.func ⟨"number_head", "number_head", a116, b116, s116, 3, [], .none, .none, .none, (.str "perlcore.numbers" 243), none, (.ref 115), .none, 0⟩), #[]⟩)) : Nat × Obj) ::
(((nat_lit 117), (⟨(.type "tuple"), none, (.seq #[] 0), #[]⟩)) : Nat × Obj) ::
(((nat_lit 119), (⟨(.type "tuple"), none, (.seq #[(.str "text" 334), (.str "width" 335), (.str "at" 336), (.str "end" 337), (.str "n" 338), (.str "sign" 339)] 0), #[]⟩)) : Nat × Obj) ::
(((nat_lit 120), (⟨(.type "tuple"), none, (.seq #[] 0), #[]⟩)) : Nat × Obj) ::
(((nat_lit 122), (⟨(.type "code"), none, (.fields #[(.str "numeric_text" 331), (.str "numeric_text" 332), (.str "/claim/cut.py" 333), (.int 64 0), (.int 2 0), (.int 0 0), (.int 0 0), (.int 3 0), (.ref 117), (.bool true), (.int 181 0), (.ref 118), .none, (.ref 119), (.ref 120), (.ref 121), (.int 340 0), (.int 64 0), (.str "/claim/cut.py" 341)]), #[]⟩)) : Nat × Obj) ::
(((nat_lit 123), (⟨(.type "function"), none, (.func ⟨"numeric_text", "numeric_text", a123, b123, s123, 3, [], .none, .none, .none, (.str "perlcore.numbers" 243), none, (.ref 122), .none, 0⟩), #[]⟩)) : Nat × Obj) ::
(((nat_lit 124), (⟨(.type "tuple"), none, (.seq #[] 0), #[]⟩)) : Nat × Obj) ::
(((nat_lit 126), (⟨(.type "tuple"), none, (.seq #[(.str "text" 346), (.str "at" 347), (.str "end" 348)] 0), #[]⟩)) : Nat × Obj) ::
(((nat_lit 127), (⟨(.type "tuple"), none, (.seq #[] 0), #[]⟩)) : Nat × Obj) ::
(((nat_lit 129), (⟨(.type "code"), none, (.fields #[(.str "looks_numeric" 343), (.str "looks_numeric" 344), (.str "/claim/cut.py" 345), (.int 73 0), (.int 1 0), (.int 0 0), (.int 0 0), (.int 3 0), (.ref 124), (.bool true), (.int 181 0), (.ref 125), .none, (.ref 126), (.ref 127), (.ref 128), (.int 349 0), (.int 73 0), (.str "/claim/cut.py" 350)]), #[]⟩)) : Nat × Obj) ::
(((nat_lit 130), (⟨(.type "function"), none, (.func ⟨"looks_numeric", "looks_numeric", a130, b130, s130, 3, [], .none, .none, .none, (.str "perlcore.numbers" 243), none, (.ref 129), .none, 0⟩), #[]⟩)) : Nat × Obj) ::
(((nat_lit 131), (⟨(.type "tuple"), none, (.seq #[] 0), #[]⟩)) : Nat × Obj) ::
(((nat_lit 133), (⟨(.type "tuple"), none, (.seq #[(.str "n" 355), (.str "text" 356)] 0), #[]⟩)) : Nat × Obj) ::
(((nat_lit 134), (⟨(.type "tuple"), none, (.seq #[] 0), #[]⟩)) : Nat × Obj) ::
(((nat_lit 136), (⟨(.type "code"), none, (.fields #[(.str "number_text" 352), (.str "number_text" 353), (.str "/claim/cut.py" 354), (.int 80 0), (.int 1 0), (.int 0 0), (.int 0 0), (.int 3 0), (.ref 131), (.bool true), (.int 181 0), (.ref 132), .none, (.ref 133), (.ref 134), (.ref 135), (.int 357 0), (.int 80 0), (.str "/claim/cut.py" 358)]), #[]⟩)) : Nat × Obj) ::
(((nat_lit 137), (⟨(.type "function"), none, (.func ⟨"number_text", "number_text", a137, b137, s137, 3, [], .none, .none, .none, (.str "perlcore.numbers" 243), none, (.ref 136), .none, 0⟩), #[]⟩)) : Nat × Obj) ::
(((nat_lit 145), (⟨(.type "tuple"), none, (.seq #[] 0), #[]⟩)) : Nat × Obj) ::
(((nat_lit 147), (⟨(.type "tuple"), none, (.seq #[(.str "self" 379), (.str "number" 380)] 0), #[]⟩)) : Nat × Obj) ::
(((nat_lit 148), (⟨(.type "tuple"), none, (.seq #[] 0), #[]⟩)) : Nat × Obj) ::
(((nat_lit 150), (⟨(.type "code"), none, (.fields #[(.str "__init__" 376), (.str "Thing.__init__" 377), (.str "/claim/cut.py" 378), (.int 92 0), (.int 2 0), (.int 0 0), (.int 0 0), (.int 3 0), (.ref 145), (.bool true), (.int 181 0), (.ref 146), .none, (.ref 147), (.ref 148), (.ref 149), (.int 381 0), (.int 92 0), (.str "/claim/cut.py" 382)]), #[]⟩)) : Nat × Obj) ::
(((nat_lit 151), (⟨(.type "function"), none, (.func ⟨"__init__", "Thing.__init__", a151, b151, s151, 3, [], .none, .none, .none, (.str "perlcore.values" 360), none, (.ref 150), .none, 0⟩), #[]⟩)) : Nat × Obj) ::
(((nat_lit 152), (⟨(.type "tuple"), none, (.seq #[(.str "blessed" 384), (.str "count" 385), (.str "is_destroyed" 386), (.str "is_freed" 387), (.str "number" 388), (.str "weak" 389)] 0), #[]⟩)) : Nat × Obj) ::
(((nat_lit 153), (⟨(.type "dict"), none, (.dict #[⟨(PyData.keyHash P "__module__"), (.str "__module__" 371), (.str "perlcore.values" 360)⟩, ⟨(PyData.keyHash P "__firstlineno__"), (.str "__firstlineno__" 375), (.int 90 374)⟩, ⟨(PyData.keyHash P "__init__"), (.str "__init__" 383), (.ref 151)⟩, ⟨(PyData.keyHash P "__static_attributes__"), (.str "__static_attributes__" 390), (.ref 152)⟩, ⟨(PyData.keyHash P "__dict__"), (.str "__dict__" 392), (.ref 155)⟩, ⟨(PyData.keyHash P "__weakref__"), (.str "__weakref__" 394), (.ref 156)⟩, ⟨(PyData.keyHash P "__doc__"), (.str "__doc__" 395), .none⟩] 4), #[]⟩)) : Nat × Obj) ::
(((nat_lit 154), (⟨(.type "type"), none, (.cls ⟨"Thing", [(.type "object")], [(.ref 154), (.type "object")], 153, "Thing", true, [], [(.ref 175), (.ref 194), (.ref 213), (.ref 232)], false, none, false⟩), #[none, none, (some (.str "Thing" 364)), (some (.str "Thing" 372)), (some (.builtin "object.__new__")), (some (.bool true))]⟩)) : Nat × Obj) ::
(((nat_lit 155), (⟨(.type "getset_descriptor"), none, (.fields #[(.str "__dict__" 391), (.ref 154), (.builtin "function.__dict__"), (.builtin "function.__dict__#set")]), #[]⟩)) : Nat × Obj) ::
(((nat_lit 156), (⟨(.type "getset_descriptor"), none, (.fields #[(.str "__weakref__" 393), (.ref 154), (.builtin "ExceptionGroup.__weakref__"), .none]), #[]⟩)) : Nat × Obj) ::
(((nat_lit 159), (⟨(.type "tuple"), none, (.seq #[(.ref 154)] 0), #[]⟩)) : Nat × Obj) ::
(((nat_lit 166), (⟨(.type "tuple"), none, (.seq #[] 0), #[]⟩)) : Nat × Obj) ::
(((nat_lit 168), (⟨(.type "tuple"), none, (.seq #[(.str "self" 413), (.str "number" 414)] 0), #[]⟩)) : Nat × Obj) ::
(((nat_lit 169), (⟨(.type "tuple"), none, (.seq #[] 0), #[]⟩)) : Nat × Obj) ::
(((nat_lit 171), (⟨(.type "code"), none, (.fields #[(.str "__init__" 410), (.str "Array.__init__" 411), (.str "/claim/cut.py" 412), (.int 101 0), (.int 2 0), (.int 0 0), (.int 0 0), (.int 3 0), (.ref 166), (.bool true), (.int 181 0), (.ref 167), .none, (.ref 168), (.ref 169), (.ref 170), (.int 415 0), (.int 101 0), (.str "/claim/cut.py" 416)]), #[]⟩)) : Nat × Obj) ::
(((nat_lit 172), (⟨(.type "function"), none, (.func ⟨"__init__", "Array.__init__", a172, b172, s172, 3, [], .none, .none, .none, (.str "perlcore.values" 360), none, (.ref 171), .none, 0⟩), #[]⟩)) : Nat × Obj) ::
(((nat_lit 173), (⟨(.type "tuple"), none, (.seq #[(.str "items" 418), (.str "tied" 419)] 0), #[]⟩)) : Nat × Obj) ::
(((nat_lit 174), (⟨(.type "dict"), none, (.dict #[⟨(PyData.keyHash P "__module__"), (.str "__module__" 405), (.str "perlcore.values" 360)⟩, ⟨(PyData.keyHash P "__firstlineno__"), (.str "__firstlineno__" 409), (.int 99 408)⟩, ⟨(PyData.keyHash P "__init__"), (.str "__init__" 417), (.ref 172)⟩, ⟨(PyData.keyHash P "__static_attributes__"), (.str "__static_attributes__" 420), (.ref 173)⟩, ⟨(PyData.keyHash P "__doc__"), (.str "__doc__" 421), .none⟩] 2), #[]⟩)) : Nat × Obj) ::
(((nat_lit 175), (⟨(.type "type"), none, (.cls ⟨"Array", [(.ref 154)], [(.ref 175), (.ref 154), (.type "object")], 174, "Array", true, [], [], false, none, false⟩), #[(some (.ref 159)), none, (some (.str "Array" 398)), (some (.str "Array" 406)), (some (.builtin "object.__new__")), (some (.bool true))]⟩)) : Nat × Obj) ::
(((nat_lit 178), (⟨(.type "tuple"), none, (.seq #[(.ref 154)] 0), #[]⟩)) : Nat × Obj) ::
(((nat_lit 185), (⟨(.type "tuple"), none, (.seq #[] 0), #[]⟩)) : Nat × Obj) ::
(((nat_lit 187), (⟨(.type "tuple"), none, (.seq #[(.str "self" 439), (.str "number" 440)] 0), #[]⟩)) : Nat × Obj) ::
(((nat_lit 188), (⟨(.type "tuple"), none, (.seq #[] 0), #[]⟩)) : Nat × Obj) ::
(((nat_lit 190), (⟨(.type "code"), none, (.fields #[(.str "__init__" 436), (.str "Hash.__init__" 437), (.str "/claim/cut.py" 438), (.int 107 0), (.int 2 0), (.int 0 0), (.int 0 0), (.int 3 0), (.ref 185), (.bool true), (.int 181 0), (.ref 186), .none, (.ref 187), (.ref 188), (.ref 189), (.int 441 0), (.int 107 0), (.str "/claim/cut.py" 442)]), #[]⟩)) : Nat × Obj) ::
(((nat_lit 191), (⟨(.type "function"), none, (.func ⟨"__init__", "Hash.__init__", a191, b191, s191, 3, [], .none, .none, .none, (.str "perlcore.values" 360), none, (.ref 190), .none, 0⟩), #[]⟩)) : Nat × Obj) ::
(((nat_lit 192), (⟨(.type "tuple"), none, (.seq #[(.str "at" 444), (.str "table" 445), (.str "tied" 446)] 0), #[]⟩)) : Nat × Obj) ::
(((nat_lit 193), (⟨(.type "dict"), none, (.dict #[⟨(PyData.keyHash P "__module__"), (.str "__module__" 431), (.str "perlcore.values" 360)⟩, ⟨(PyData.keyHash P "__firstlineno__"), (.str "__firstlineno__" 435), (.int 105 434)⟩, ⟨(PyData.keyHash P "__init__"), (.str "__init__" 443), (.ref 191)⟩, ⟨(PyData.keyHash P "__static_attributes__"), (.str "__static_attributes__" 447), (.ref 192)⟩, ⟨(PyData.keyHash P "__doc__"), (.str "__doc__" 448), .none⟩] 2), #[]⟩)) : Nat × Obj) ::
(((nat_lit 194), (⟨(.type "type"), none, (.cls ⟨"Hash", [(.ref 154)], [(.ref 194), (.ref 154), (.type "object")], 193, "Hash", true, [], [], false, none, false⟩), #[(some (.ref 178)), none, (some (.str "Hash" 424)), (some (.str "Hash" 432)), (some (.builtin "object.__new__")), (some (.bool true))]⟩)) : Nat × Obj) ::
(((nat_lit 197), (⟨(.type "tuple"), none, (.seq #[(.ref 154)] 0), #[]⟩)) : Nat × Obj) ::
(((nat_lit 204), (⟨(.type "tuple"), none, (.seq #[] 0), #[]⟩)) : Nat × Obj) ::
(((nat_lit 206), (⟨(.type "tuple"), none, (.seq #[(.str "self" 466), (.str "number" 467), (.str "sub" 468), (.str "captures" 469)] 0), #[]⟩)) : Nat × Obj) ::
(((nat_lit 207), (⟨(.type "tuple"), none, (.seq #[] 0), #[]⟩)) : Nat × Obj) ::
(((nat_lit 209), (⟨(.type "code"), none, (.fields #[(.str "__init__" 463), (.str "Code.__init__" 464), (.str "/claim/cut.py" 465), (.int 114 0), (.int 4 0), (.int 0 0), (.int 0 0), (.int 3 0), (.ref 204), (.bool true), (.int 181 0), (.ref 205), .none, (.ref 206), (.ref 207), (.ref 208), (.int 470 0), (.int 114 0), (.str "/claim/cut.py" 471)]), #[]⟩)) : Nat × Obj) ::
(((nat_lit 210), (⟨(.type "function"), none, (.func ⟨"__init__", "Code.__init__", a210, b210, s210, 3, [], .none, .none, .none, (.str "perlcore.values" 360), none, (.ref 209), .none, 0⟩), #[]⟩)) : Nat × Obj) ::
(((nat_lit 211), (⟨(.type "tuple"), none, (.seq #[(.str "builtin" 473), (.str "captures" 474), (.str "package" 475), (.str "sub" 476)] 0), #[]⟩)) : Nat × Obj) ::
(((nat_lit 212), (⟨(.type "dict"), none, (.dict #[⟨(PyData.keyHash P "__module__"), (.str "__module__" 458), (.str "perlcore.values" 360)⟩, ⟨(PyData.keyHash P "__firstlineno__"), (.str "__firstlineno__" 462), (.int 112 461)⟩, ⟨(PyData.keyHash P "__init__"), (.str "__init__" 472), (.ref 210)⟩, ⟨(PyData.keyHash P "__static_attributes__"), (.str "__static_attributes__" 477), (.ref 211)⟩, ⟨(PyData.keyHash P "__doc__"), (.str "__doc__" 478), .none⟩] 2), #[]⟩)) : Nat × Obj) ::
(((nat_lit 213), (⟨(.type "type"), none, (.cls ⟨"Code", [(.ref 154)], [(.ref 213), (.ref 154), (.type "object")], 212, "Code", true, [], [], false, none, false⟩), #[(some (.ref 197)), none, (some (.str "Code" 451)), (some (.str "Code" 459)), (some (.builtin "object.__new__")), (some (.bool true))]⟩)) : Nat × Obj) ::
(((nat_lit 216), (⟨(.type "tuple"), none, (.seq #[(.ref 154)] 0), #[]⟩)) : Nat × Obj) ::
(((nat_lit 223), (⟨(.type "tuple"), none, (.seq #[] 0), #[]⟩)) : Nat × Obj) ::
(((nat_lit 225), (⟨(.type "tuple"), none, (.seq #[(.str "self" 496), (.str "number" 497), (.str "name" 498)] 0), #[]⟩)) : Nat × Obj) ::
(((nat_lit 226), (⟨(.type "tuple"), none, (.seq #[] 0), #[]⟩)) : Nat × Obj) ::
(((nat_lit 228), (⟨(.type "code"), none, (.fields #[(.str "__init__" 493), (.str "Glob.__init__" 494), (.str "/claim/cut.py" 495), (.int 122 0), (.int 3 0), (.int 0 0), (.int 0 0), (.int 3 0), (.ref 223), (.bool true), (.int 181 0), (.ref 224), .none, (.ref 225), (.ref 226), (.ref 227), (.int 499 0), (.int 122 0), (.str "/claim/cut.py" 500)]), #[]⟩)) : Nat × Obj) ::
(((nat_lit 229), (⟨(.type "function"), none, (.func ⟨"__init__", "Glob.__init__", a229, b229, s229, 3, [], .none, .none, .none, (.str "perlcore.values" 360), none, (.ref 228), .none, 0⟩), #[]⟩)) : Nat × Obj) ::
(((nat_lit 230), (⟨(.type "tuple"), none, (.seq #[(.str "array" 502), (.str "code" 503), (.str "hash" 504), (.str "name" 505), (.str "scalar" 506)] 0), #[]⟩)) : Nat × Obj) ::
(((nat_lit 231), (⟨(.type "dict"), none, (.dict #[⟨(PyData.keyHash P "__module__"), (.str "__module__" 488), (.str "perlcore.values" 360)⟩, ⟨(PyData.keyHash P "__firstlineno__"), (.str "__firstlineno__" 492), (.int 120 491)⟩, ⟨(PyData.keyHash P "__init__"), (.str "__init__" 501), (.ref 229)⟩, ⟨(PyData.keyHash P "__static_attributes__"), (.str "__static_attributes__" 507), (.ref 230)⟩, ⟨(PyData.keyHash P "__doc__"), (.str "__doc__" 508), .none⟩] 2), #[]⟩)) : Nat × Obj) ::
(((nat_lit 232), (⟨(.type "type"), none, (.cls ⟨"Glob", [(.ref 154)], [(.ref 232), (.ref 154), (.type "object")], 231, "Glob", true, [], [], false, none, false⟩), #[(some (.ref 216)), none, (some (.str "Glob" 481)), (some (.str "Glob" 489)), (some (.builtin "object.__new__")), (some (.bool true))]⟩)) : Nat × Obj) ::
(((nat_lit 242), (⟨(.type "tuple"), none, (.seq #[(.bool false)] 0), #[]⟩)) : Nat × Obj) ::
(((nat_lit 243), (⟨(.type "tuple"), none, (.seq #[] 0), #[]⟩)) : Nat × Obj) ::
(((nat_lit 245), (⟨(.type "tuple"), none, (.seq #[(.str "self" 526), (.str "target" 527), (.str "is_weak" 528)] 0), #[]⟩)) : Nat × Obj) ::
(((nat_lit 246), (⟨(.type "tuple"), none, (.seq #[] 0), #[]⟩)) : Nat × Obj) ::
(((nat_lit 248), (⟨(.type "code"), none, (.fields #[(.str "__init__" 523), (.str "Ref.__init__" 524), (.str "/claim/cut.py" 525), (.int 131 0), (.int 3 0), (.int 0 0), (.int 0 0), (.int 3 0), (.ref 243), (.bool true), (.int 181 0), (.ref 244), .none, (.ref 245), (.ref 246), (.ref 247), (.int 529 0), (.int 131 0), (.str "/claim/cut.py" 530)]), #[]⟩)) : Nat × Obj) ::
(((nat_lit 249), (⟨(.type "function"), none, (.func ⟨"__init__", "Ref.__init__", a249, b249, s249, 3, [], (.ref 242), .none, .none, (.str "perlcore.values" 360), none, (.ref 248), .none, 0⟩), #[]⟩)) : Nat × Obj) ::
(((nat_lit 250), (⟨(.type "tuple"), none, (.seq #[(.str "is_weak" 532), (.str "target" 533)] 0), #[]⟩)) : Nat × Obj) ::
(((nat_lit 251), (⟨(.type "dict"), none, (.dict #[⟨(PyData.keyHash P "__module__"), (.str "__module__" 518), (.str "perlcore.values" 360)⟩, ⟨(PyData.keyHash P "__firstlineno__"), (.str "__firstlineno__" 522), (.int 129 521)⟩, ⟨(PyData.keyHash P "__init__"), (.str "__init__" 531), (.ref 249)⟩, ⟨(PyData.keyHash P "__static_attributes__"), (.str "__static_attributes__" 534), (.ref 250)⟩, ⟨(PyData.keyHash P "__dict__"), (.str "__dict__" 536), (.ref 253)⟩, ⟨(PyData.keyHash P "__weakref__"), (.str "__weakref__" 538), (.ref 254)⟩, ⟨(PyData.keyHash P "__doc__"), (.str "__doc__" 539), .none⟩] 4), #[]⟩)) : Nat × Obj) ::
(((nat_lit 252), (⟨(.type "type"), none, (.cls ⟨"Ref", [(.type "object")], [(.ref 252), (.type "object")], 251, "Ref", true, [], [], false, none, false⟩), #[none, none, (some (.str "Ref" 511)), (some (.str "Ref" 519)), (some (.builtin "object.__new__")), (some (.bool true))]⟩)) : Nat × Obj) ::
(((nat_lit 253), (⟨(.type "getset_descriptor"), none, (.fields #[(.str "__dict__" 535), (.ref 252), (.builtin "function.__dict__"), (.builtin "function.__dict__#set")]), #[]⟩)) : Nat × Obj) ::
(((nat_lit 254), (⟨(.type "getset_descriptor"), none, (.fields #[(.str "__weakref__" 537), (.ref 252), (.builtin "ExceptionGroup.__weakref__"), .none]), #[]⟩)) : Nat × Obj) ::
(((nat_lit 257), (⟨(.type "tuple"), none, (.seq #[] 0), #[]⟩)) : Nat × Obj) ::
(((nat_lit 259), (⟨(.type "tuple"), none, (.seq #[(.str "thing" 545)] 0), #[]⟩)) : Nat × Obj) ::
(((nat_lit 260), (⟨(.type "tuple"), none, (.seq #[] 0), #[]⟩)) : Nat × Obj) ::
(((nat_lit 262), (⟨(.type "code"), none, (.fields #[(.str "thing_word" 542), (.str "thing_word" 543), (.str "/claim/cut.py" 544), (.int 134 0), (.int 1 0), (.int 0 0), (.int 0 0), (.int 3 0), (.ref 257), (.bool true), (.int 181 0), (.ref 258), .none, (.ref 259), (.ref 260), (.ref 261), (.int 546 0), (.int 134 0), (.str "/claim/cut.py" 547)]), #[]⟩)) : Nat × Obj) ::
(((nat_lit 263), (⟨(.type "function"), none, (.func ⟨"thing_word", "thing_word", a263, b263, s263, 3, [], .none, .none, .none, (.str "perlcore.values" 360), none, (.ref 262), .none, 0⟩), #[]⟩)) : Nat × Obj) ::
(((nat_lit 264), (⟨(.type "tuple"), none, (.seq #[] 0), #[]⟩)) : Nat × Obj) ::
(((nat_lit 266), (⟨(.type "tuple"), none, (.seq #[(.str "number" 552), (.str "text" 553)] 0), #[]⟩)) : Nat × Obj) ::
(((nat_lit 267), (⟨(.type "tuple"), none, (.seq #[] 0), #[]⟩)) : Nat × Obj) ::
(((nat_lit 269), (⟨(.type "code"), none, (.fields #[(.str "hex_of" 549), (.str "hex_of" 550), (.str "/claim/cut.py" 551), (.int 146 0), (.int 1 0), (.int 0 0), (.int 0 0), (.int 3 0), (.ref 264), (.bool true), (.int 181 0), (.ref 265), .none, (.ref 266), (.ref 267), (.ref 268), (.int 554 0), (.int 146 0), (.str "/claim/cut.py" 555)]), #[]⟩)) : Nat × Obj) ::
(((nat_lit 270), (⟨(.type "function"), none, (.func ⟨"hex_of", "hex_of", a270, b270, s270, 3, [], .none, .none, .none, (.str "perlcore.values" 360), none, (.ref 269), .none, 0⟩), #[]⟩)) : Nat × Obj) ::
(((nat_lit 271), (⟨(.type "tuple"), none, (.seq #[] 0), #[]⟩)) : Nat × Obj) ::
(((nat_lit 273), (⟨(.type "tuple"), none, (.seq #[(.str "ref" 560), (.str "text" 561)] 0), #[]⟩)) : Nat × Obj) ::
(((nat_lit 274), (⟨(.type "tuple"), none, (.seq #[] 0), #[]⟩)) : Nat × Obj) ::
(((nat_lit 276), (⟨(.type "code"), none, (.fields #[(.str "ref_text" 557), (.str "ref_text" 558), (.str "/claim/cut.py" 559), (.int 152 0), (.int 1 0), (.int 0 0), (.int 0 0), (.int 3 0), (.ref 271), (.bool true), (.int 181 0), (.ref 272), .none, (.ref 273), (.ref 274), (.ref 275), (.int 562 0), (.int 152 0), (.str "/claim/cut.py" 563)]), #[]⟩)) : Nat × Obj) ::
(((nat_lit 277), (⟨(.type "function"), none, (.func ⟨"ref_text", "ref_text", a277, b277, s277, 3, [], .none, .none, .none, (.str "perlcore.values" 360), none, (.ref 276), .none, 0⟩), #[]⟩)) : Nat × Obj) ::
(((nat_lit 278), (⟨(.type "tuple"), none, (.seq #[] 0), #[]⟩)) : Nat × Obj) ::
(((nat_lit 280), (⟨(.type "tuple"), none, (.seq #[(.str "value" 576)] 0), #[]⟩)) : Nat × Obj) ::
(((nat_lit 281), (⟨(.type "tuple"), none, (.seq #[] 0), #[]⟩)) : Nat × Obj) ::
(((nat_lit 283), (⟨(.type "code"), none, (.fields #[(.str "to_text" 573), (.str "to_text" 574), (.str "/claim/cut.py" 575), (.int 161 0), (.int 1 0), (.int 0 0), (.int 0 0), (.int 3 0), (.ref 278), (.bool true), (.int 181 0), (.ref 279), .none, (.ref 280), (.ref 281), (.ref 282), (.int 577 0), (.int 161 0), (.str "/claim/cut.py" 578)]), #[]⟩)) : Nat × Obj) ::
(((nat_lit 284), (⟨(.type "function"), none, (.func ⟨"to_text", "to_text", a284, b284, s284, 3, [], .none, .none, .none, (.str "perlcore.convert" 565), none, (.ref 283), .none, 0⟩), #[]⟩)) : Nat × Obj) ::
(((nat_lit 285), (⟨(.type "tuple"), none, (.seq #[] 0), #[]⟩)) : Nat × Obj) ::
(((nat_lit 287), (⟨(.type "tuple"), none, (.seq #[(.str "value" 583), (.str "limits" 584)] 0), #[]⟩)) : Nat × Obj) ::
(((nat_lit 288), (⟨(.type "tuple"), none, (.seq #[] 0), #[]⟩)) : Nat × Obj) ::
(((nat_lit 290), (⟨(.type "code"), none, (.fields #[(.str "to_number" 580), (.str "to_number" 581), (.str "/claim/cut.py" 582), (.int 169 0), (.int 2 0), (.int 0 0), (.int 0 0), (.int 3 0), (.ref 285), (.bool true), (.int 181 0), (.ref 286), .none, (.ref 287), (.ref 288), (.ref 289), (.int 585 0), (.int 169 0), (.str "/claim/cut.py" 586)]), #[]⟩)) : Nat × Obj) ::
(((nat_lit 291), (⟨(.type "function"), none, (.func ⟨"to_number", "to_number", a291, b291, s291, 3, [], .none, .none, .none, (.str "perlcore.convert" 565), none, (.ref 290), .none, 0⟩), #[]⟩)) : Nat × Obj) ::
(((nat_lit 292), (⟨(.type "tuple"), none, (.seq #[] 0), #[]⟩)) : Nat × Obj) ::
(((nat_lit 294), (⟨(.type "tuple"), none, (.seq #[(.str "value" 591)] 0), #[]⟩)) : Nat × Obj) ::
(((nat_lit 295), (⟨(.type "tuple"), none, (.seq #[] 0), #[]⟩)) : Nat × Obj) ::
(((nat_lit 297), (⟨(.type "code"), none, (.fields #[(.str "truth" 588), (.str "truth" 589), (.str "/claim/cut.py" 590), (.int 177 0), (.int 1 0), (.int 0 0), (.int 0 0), (.int 3 0), (.ref 292), (.bool true), (.int 181 0), (.ref 293), .none, (.ref 294), (.ref 295), (.ref 296), (.int 592 0), (.int 177 0), (.str "/claim/cut.py" 593)]), #[]⟩)) : Nat × Obj) ::
(((nat_lit 298), (⟨(.type "function"), none, (.func ⟨"truth", "truth", a298, b298, s298, 3, [], .none, .none, .none, (.str "perlcore.convert" 565), none, (.ref 297), .none, 0⟩), #[]⟩)) : Nat × Obj) ::
(((nat_lit 299), (⟨(.type "tuple"), none, (.seq #[] 0), #[]⟩)) : Nat × Obj) ::
(((nat_lit 301), (⟨(.type "tuple"), none, (.seq #[(.str "flag" 598)] 0), #[]⟩)) : Nat × Obj) ::
(((nat_lit 302), (⟨(.type "tuple"), none, (.seq #[] 0), #[]⟩)) : Nat × Obj) ::
(((nat_lit 304), (⟨(.type "code"), none, (.fields #[(.str "truth_value" 595), (.str "truth_value" 596), (.str "/claim/cut.py" 597), (.int 179 0), (.int 1 0), (.int 0 0), (.int 0 0), (.int 3 0), (.ref 299), (.bool true), (.int 181 0), (.ref 300), .none, (.ref 301), (.ref 302), (.ref 303), (.int 599 0), (.int 179 0), (.str "/claim/cut.py" 600)]), #[]⟩)) : Nat × Obj) ::
(((nat_lit 305), (⟨(.type "function"), none, (.func ⟨"truth_value", "truth_value", a305, b305, s305, 3, [], .none, .none, .none, (.str "perlcore.convert" 565), none, (.ref 304), .none, 0⟩), #[]⟩)) : Nat × Obj) ::
(((nat_lit 306), (⟨(.type "tuple"), none, (.seq #[] 0), #[]⟩)) : Nat × Obj) ::
(((nat_lit 308), (⟨(.type "tuple"), none, (.seq #[(.str "text" 605), (.str "at" 606), (.str "letters" 607)] 0), #[]⟩)) : Nat × Obj) ::
(((nat_lit 309), (⟨(.type "tuple"), none, (.seq #[] 0), #[]⟩)) : Nat × Obj) ::
(((nat_lit 311), (⟨(.type "code"), none, (.fields #[(.str "is_magic_text" 602), (.str "is_magic_text" 603), (.str "/claim/cut.py" 604), (.int 183 0), (.int 1 0), (.int 0 0), (.int 0 0), (.int 3 0), (.ref 306), (.bool true), (.int 181 0), (.ref 307), .none, (.ref 308), (.ref 309), (.ref 310), (.int 608 0), (.int 183 0), (.str "/claim/cut.py" 609)]), #[]⟩)) : Nat × Obj) ::
(((nat_lit 312), (⟨(.type "function"), none, (.func ⟨"is_magic_text", "is_magic_text", a312, b312, s312, 3, [], .none, .none, .none, (.str "perlcore.convert" 565), none, (.ref 311), .none, 0⟩), #[]⟩)) : Nat × Obj) ::
(((nat_lit 313), (⟨(.type "tuple"), none, (.seq #[] 0), #[]⟩)) : Nat × Obj) ::
(((nat_lit 315), (⟨(.type "tuple"), none, (.seq #[(.str "sign" 614)] 0), #[]⟩)) : Nat × Obj) ::
(((nat_lit 316), (⟨(.type "tuple"), none, (.seq #[] 0), #[]⟩)) : Nat × Obj) ::
(((nat_lit 318), (⟨(.type "code"), none, (.fields #[(.str "row_of_sign" 611), (.str "row_of_sign" 612), (.str "/claim/cut.py" 613), (.int 191 0), (.int 1 0), (.int 0 0), (.int 0 0), (.int 3 0), (.ref 313), (.bool true), (.int 181 0), (.ref 314), .none, (.ref 315), (.ref 316), (.ref 317), (.int 615 0), (.int 191 0), (.str "/claim/cut.py" 616)]), #[]⟩)) : Nat × Obj) ::
(((nat_lit 319), (⟨(.type "function"), none, (.func ⟨"row_of_sign", "row_of_sign", a319, b319, s319, 3, [], .none, .none, .none, (.str "perlcore.convert" 565), none, (.ref 318), .none, 0⟩), #[]⟩)) : Nat × Obj) ::
(((nat_lit 320), (⟨(.type "tuple"), none, (.seq #[] 0), #[]⟩)) : Nat × Obj) ::
(((nat_lit 322), (⟨(.type "tuple"), none, (.seq #[(.str "text" 621), (.str "at" 622), (.str "behind" 623), (.str "row" 624), (.str "place" 625)] 0), #[]⟩)) : Nat × Obj) ::
(((nat_lit 323), (⟨(.type "tuple"), none, (.seq #[] 0), #[]⟩)) : Nat × Obj) ::
(((nat_lit 325), (⟨(.type "code"), none, (.fields #[(.str "magic_increment" 618), (.str "magic_increment" 619), (.str "/claim/cut.py" 620), (.int 197 0), (.int 1 0), (.int 0 0), (.int 0 0), (.int 3 0), (.ref 320), (.bool true), (.int 181 0), (.ref 321), .none, (.ref 322), (.ref 323), (.ref 324), (.int 626 0), (.int 197 0), (.str "/claim/cut.py" 627)]), #[]⟩)) : Nat × Obj) ::
(((nat_lit 326), (⟨(.type "function"), none, (.func ⟨"magic_increment", "magic_increment", a326, b326, s326, 3, [], .none, .none, .none, (.str "perlcore.convert" 565), none, (.ref 325), .none, 0⟩), #[]⟩)) : Nat × Obj) ::
(((nat_lit 327), (⟨(.type "tuple"), none, (.seq #[] 0), #[]⟩)) : Nat × Obj) ::
(((nat_lit 329), (⟨(.type "tuple"), none, (.seq #[(.str "value" 632), (.str "limits" 633)] 0), #[]⟩)) : Nat × Obj) ::
(((nat_lit 330), (⟨(.type "tuple"), none, (.seq #[] 0), #[]⟩)) : Nat × Obj) ::
(((nat_lit 332), (⟨(.type "code"), none, (.fields #[(.str "increment_value" 629), (.str "increment_value" 630), (.str "/claim/cut.py" 631), (.int 210 0), (.int 2 0), (.int 0 0), (.int 0 0), (.int 3 0), (.ref 327), (.bool true), (.int 181 0), (.ref 328), .none, (.ref 329), (.ref 330), (.ref 331), (.int 634 0), (.int 210 0), (.str "/claim/cut.py" 635)]), #[]⟩)) : Nat × Obj) ::
(((nat_lit 333), (⟨(.type "function"), none, (.func ⟨"increment_value", "increment_value", a333, b333, s333, 3, [], .none, .none, .none, (.str "perlcore.convert" 565), none, (.ref 332), .none, 0⟩), #[]⟩)) : Nat × Obj) ::
(((nat_lit 334), (⟨(.type "tuple"), none, (.seq #[] 0), #[]⟩)) : Nat × Obj) ::
(((nat_lit 336), (⟨(.type "tuple"), none, (.seq #[(.str "value" 640), (.str "limits" 641)] 0), #[]⟩)) : Nat × Obj) ::
(((nat_lit 337), (⟨(.type "tuple"), none, (.seq #[] 0), #[]⟩)) : Nat × Obj) ::
(((nat_lit 339), (⟨(.type "code"), none, (.fields #[(.str "decrement_value" 637), (.str "decrement_value" 638), (.str "/claim/cut.py" 639), (.int 214 0), (.int 2 0), (.int 0 0), (.int 0 0), (.int 3 0), (.ref 334), (.bool true), (.int 181 0), (.ref 335), .none, (.ref 336), (.ref 337), (.ref 338), (.int 642 0), (.int 214 0), (.str "/claim/cut.py" 643)]), #[]⟩)) : Nat × Obj) ::
(((nat_lit 340), (⟨(.type "function"), none, (.func ⟨"decrement_value", "decrement_value", a340, b340, s340, 3, [], .none, .none, .none, (.str "perlcore.convert" 565), none, (.ref 339), .none, 0⟩), #[]⟩)) : Nat × Obj) ::
(((nat_lit 341), (⟨(.type "tuple"), none, (.seq #[] 0), #[]⟩)) : Nat × Obj) ::
(((nat_lit 343), (⟨(.type "tuple"), none, (.seq #[(.str "x" 648), (.str "y" 649), (.str "limits" 650), (.str "a" 651), (.str "b" 652)] 0), #[]⟩)) : Nat × Obj) ::
(((nat_lit 344), (⟨(.type "tuple"), none, (.seq #[] 0), #[]⟩)) : Nat × Obj) ::
(((nat_lit 346), (⟨(.type "code"), none, (.fields #[(.str "compare_num" 645), (.str "compare_num" 646), (.str "/claim/cut.py" 647), (.int 216 0), (.int 3 0), (.int 0 0), (.int 0 0), (.int 3 0), (.ref 341), (.bool true), (.int 181 0), (.ref 342), .none, (.ref 343), (.ref 344), (.ref 345), (.int 653 0), (.int 216 0), (.str "/claim/cut.py" 654)]), #[]⟩)) : Nat × Obj) ::
(((nat_lit 347), (⟨(.type "function"), none, (.func ⟨"compare_num", "compare_num", a347, b347, s347, 3, [], .none, .none, .none, (.str "perlcore.convert" 565), none, (.ref 346), .none, 0⟩), #[]⟩)) : Nat × Obj) ::
(((nat_lit 348), (⟨(.type "tuple"), none, (.seq #[] 0), #[]⟩)) : Nat × Obj) ::
(((nat_lit 350), (⟨(.type "tuple"), none, (.seq #[(.str "x" 659), (.str "y" 660), (.str "a" 661), (.str "b" 662)] 0), #[]⟩)) : Nat × Obj) ::
(((nat_lit 351), (⟨(.type "tuple"), none, (.seq #[] 0), #[]⟩)) : Nat × Obj) ::
(((nat_lit 353), (⟨(.type "code"), none, (.fields #[(.str "compare_text" 656), (.str "compare_text" 657), (.str "/claim/cut.py" 658), (.int 222 0), (.int 2 0), (.int 0 0), (.int 0 0), (.int 3 0), (.ref 348), (.bool true), (.int 181 0), (.ref 349), .none, (.ref 350), (.ref 351), (.ref 352), (.int 663 0), (.int 222 0), (.str "/claim/cut.py" 664)]), #[]⟩)) : Nat × Obj) ::
(((nat_lit 354), (⟨(.type "function"), none, (.func ⟨"compare_text", "compare_text", a354, b354, s354, 3, [], .none, .none, .none, (.str "perlcore.convert" 565), none, (.ref 353), .none, 0⟩), #[]⟩)) : Nat × Obj) ::
(((nat_lit 355), (⟨(.type "tuple"), none, (.seq #[] 0), #[]⟩)) : Nat × Obj) ::
(((nat_lit 357), (⟨(.type "tuple"), none, (.seq #[(.str "x" 669), (.str "y" 670), (.str "limits" 671), (.str "text" 672)] 0), #[]⟩)) : Nat × Obj) ::
(((nat_lit 358), (⟨(.type "tuple"), none, (.seq #[] 0), #[]⟩)) : Nat × Obj) ::
(((nat_lit 360), (⟨(.type "code"), none, (.fields #[(.str "concat_values" 666), (.str "concat_values" 667), (.str "/claim/cut.py" 668), (.int 228 0), (.int 3 0), (.int 0 0), (.int 0 0), (.int 3 0), (.ref 355), (.bool true), (.int 181 0), (.ref 356), .none, (.ref 357), (.ref 358), (.ref 359), (.int 673 0), (.int 228 0), (.str "/claim/cut.py" 674)]), #[]⟩)) : Nat × Obj) ::
(((nat_lit 361), (⟨(.type "function"), none, (.func ⟨"concat_values", "concat_values", a361, b361, s361, 3, [], .none, .none, .none, (.str "perlcore.convert" 565), none, (.ref 360), .none, 0⟩), #[]⟩)) : Nat × Obj) ::
(((nat_lit 362), (⟨(.type "tuple"), none, (.seq #[] 0), #[]⟩)) : Nat × Obj) ::
(((nat_lit 364), (⟨(.type "tuple"), none, (.seq #[(.str "reckon" 679), (.str "x" 680), (.str "y" 681), (.str "limits" 682)] 0), #[]⟩)) : Nat × Obj) ::
(((nat_lit 365), (⟨(.type "tuple"), none, (.seq #[] 0), #[]⟩)) : Nat × Obj) ::
(((nat_lit 367), (⟨(.type "code"), none, (.fields #[(.str "by_numbers" 676), (.str "by_numbers" 677), (.str "/claim/cut.py" 678), (.int 233 0), (.int 4 0), (.int 0 0), (.int 0 0), (.int 3 0), (.ref 362), (.bool true), (.int 181 0), (.ref 363), .none, (.ref 364), (.ref 365), (.ref 366), (.int 683 0), (.int 233 0), (.str "/claim/cut.py" 684)]), #[]⟩)) : Nat × Obj) ::
(((nat_lit 368), (⟨(.type "function"), none, (.func ⟨"by_numbers", "by_numbers", a368, b368, s368, 3, [], .none, .none, .none, (.str "perlcore.convert" 565), none, (.ref 367), .none, 0⟩), #[]⟩)) : Nat × Obj) ::
(((nat_lit 369), (⟨(.type "tuple"), none, (.seq #[] 0), #[]⟩)) : Nat × Obj) ::
(((nat_lit 371), (⟨(.type "tuple"), none, (.seq #[(.str "x" 689), (.str "y" 690), (.str "limits" 691)] 0), #[]⟩)) : Nat × Obj) ::
(((nat_lit 372), (⟨(.type "tuple"), none, (.seq #[] 0), #[]⟩)) : Nat × Obj) ::
(((nat_lit 374), (⟨(.type "code"), none, (.fields #[(.str "op_add" 686), (.str "op_add" 687), (.str "/claim/cut.py" 688), (.int 235 0), (.int 3 0), (.int 0 0), (.int 0 0), (.int 3 0), (.ref 369), (.bool true), (.int 181 0), (.ref 370), .none, (.ref 371), (.ref 372), (.ref 373), (.int 692 0), (.int 235 0), (.str "/claim/cut.py" 693)]), #[]⟩)) : Nat × Obj) ::
(((nat_lit 375), (⟨(.type "function"), none, (.func ⟨"op_add", "op_add", a375, b375, s375, 3, [], .none, .none, .none, (.str "perlcore.convert" 565), none, (.ref 374), .none, 0⟩), #[]⟩)) : Nat × Obj) ::
(((nat_lit 376), (⟨(.type "tuple"), none, (.seq #[] 0), #[]⟩)) : Nat × Obj) ::
(((nat_lit 378), (⟨(.type "tuple"), none, (.seq #[(.str "x" 698), (.str "y" 699), (.str "limits" 700)] 0), #[]⟩)) : Nat × Obj) ::
(((nat_lit 379), (⟨(.type "tuple"), none, (.seq #[] 0), #[]⟩)) : Nat × Obj) ::
(((nat_lit 381), (⟨(.type "code"), none, (.fields #[(.str "op_sub" 695), (.str "op_sub" 696), (.str "/claim/cut.py" 697), (.int 237 0), (.int 3 0), (.int 0 0), (.int 0 0), (.int 3 0), (.ref 376), (.bool true), (.int 181 0), (.ref 377), .none, (.ref 378), (.ref 379), (.ref 380), (.int 701 0), (.int 237 0), (.str "/claim/cut.py" 702)]), #[]⟩)) : Nat × Obj) ::
(((nat_lit 382), (⟨(.type "function"), none, (.func ⟨"op_sub", "op_sub", a382, b382, s382, 3, [], .none, .none, .none, (.str "perlcore.convert" 565), none, (.ref 381), .none, 0⟩), #[]⟩)) : Nat × Obj) ::
(((nat_lit 383), (⟨(.type "tuple"), none, (.seq #[] 0), #[]⟩)) : Nat × Obj) ::
(((nat_lit 385), (⟨(.type "tuple"), none, (.seq #[(.str "x" 707), (.str "y" 708), (.str "limits" 709)] 0), #[]⟩)) : Nat × Obj) ::
(((nat_lit 386), (⟨(.type "tuple"), none, (.seq #[] 0), #[]⟩)) : Nat × Obj) ::
(((nat_lit 388), (⟨(.type "code"), none, (.fields #[(.str "op_mul" 704), (.str "op_mul" 705), (.str "/claim/cut.py" 706), (.int 239 0), (.int 3 0), (.int 0 0), (.int 0 0), (.int 3 0), (.ref 383), (.bool true), (.int 181 0), (.ref 384), .none, (.ref 385), (.ref 386), (.ref 387), (.int 710 0), (.int 239 0), (.str "/claim/cut.py" 711)]), #[]⟩)) : Nat × Obj) ::
(((nat_lit 389), (⟨(.type "function"), none, (.func ⟨"op_mul", "op_mul", a389, b389, s389, 3, [], .none, .none, .none, (.str "perlcore.convert" 565), none, (.ref 388), .none, 0⟩), #[]⟩)) : Nat × Obj) ::
(((nat_lit 390), (⟨(.type "tuple"), none, (.seq #[] 0), #[]⟩)) : Nat × Obj) ::
(((nat_lit 392), (⟨(.type "tuple"), none, (.seq #[(.str "x" 716), (.str "y" 717), (.str "limits" 718)] 0), #[]⟩)) : Nat × Obj) ::
(((nat_lit 393), (⟨(.type "tuple"), none, (.seq #[] 0), #[]⟩)) : Nat × Obj) ::
(((nat_lit 395), (⟨(.type "code"), none, (.fields #[(.str "op_div" 713), (.str "op_div" 714), (.str "/claim/cut.py" 715), (.int 241 0), (.int 3 0), (.int 0 0), (.int 0 0), (.int 3 0), (.ref 390), (.bool true), (.int 181 0), (.ref 391), .none, (.ref 392), (.ref 393), (.ref 394), (.int 719 0), (.int 241 0), (.str "/claim/cut.py" 720)]), #[]⟩)) : Nat × Obj) ::
(((nat_lit 396), (⟨(.type "function"), none, (.func ⟨"op_div", "op_div", a396, b396, s396, 3, [], .none, .none, .none, (.str "perlcore.convert" 565), none, (.ref 395), .none, 0⟩), #[]⟩)) : Nat × Obj) ::
(((nat_lit 397), (⟨(.type "tuple"), none, (.seq #[] 0), #[]⟩)) : Nat × Obj) ::
(((nat_lit 399), (⟨(.type "tuple"), none, (.seq #[(.str "x" 725), (.str "y" 726), (.str "limits" 727)] 0), #[]⟩)) : Nat × Obj) ::
(((nat_lit 400), (⟨(.type "tuple"), none, (.seq #[] 0), #[]⟩)) : Nat × Obj) ::
(((nat_lit 402), (⟨(.type "code"), none, (.fields #[(.str "op_mod" 722), (.str "op_mod" 723), (.str "/claim/cut.py" 724), (.int 243 0), (.int 3 0), (.int 0 0), (.int 0 0), (.int 3 0), (.ref 397), (.bool true), (.int 181 0), (.ref 398), .none, (.ref 399), (.ref 400), (.ref 401), (.int 728 0), (.int 243 0), (.str "/claim/cut.py" 729)]), #[]⟩)) : Nat × Obj) ::
(((nat_lit 403), (⟨(.type "function"), none, (.func ⟨"op_mod", "op_mod", a403, b403, s403, 3, [], .none, .none, .none, (.str "perlcore.convert" 565), none, (.ref 402), .none, 0⟩), #[]⟩)) : Nat × Obj) ::
(((nat_lit 404), (⟨(.type "tuple"), none, (.seq #[] 0), #[]⟩)) : Nat × Obj) ::
(((nat_lit 406), (⟨(.type "tuple"), none, (.seq #[(.str "x" 734), (.str "y" 735), (.str "limits" 736)] 0), #[]⟩)) : Nat × Obj) ::
(((nat_lit 407), (⟨(.type "tuple"), none, (.seq #[] 0), #[]⟩)) : Nat × Obj) ::
(((nat_lit 409), (⟨(.type "code"), none, (.fields #[(.str "op_power" 731), (.str "op_power" 732), (.str "/claim/cut.py" 733), (.int 245 0), (.int 3 0), (.int 0 0), (.int 0 0), (.int 3 0), (.ref 404), (.bool true), (.int 181 0), (.ref 405), .none, (.ref 406), (.ref 407), (.ref 408), (.int 737 0), (.int 245 0), (.str "/claim/cut.py" 738)]), #[]⟩)) : Nat × Obj) ::
(((nat_lit 410), (⟨(.type "function"), none, (.func ⟨"op_power", "op_power", a410, b410, s410, 3, [], .none, .none, .none, (.str "perlcore.convert" 565), none, (.ref 409), .none, 0⟩), #[]⟩)) : Nat × Obj) ::
(((nat_lit 411), (⟨(.type "tuple"), none, (.seq #[] 0), #[]⟩)) : Nat × Obj) ::
(((nat_lit 413), (⟨(.type "tuple"), none, (.seq #[] 0), #[]⟩)) : Nat × Obj) ::
(((nat_lit 414), (⟨(.type "tuple"), none, (.seq #[] 0), #[]⟩)) : Nat × Obj) ::
(((nat_lit 416), (⟨(.type "code"), none, (.fields #[(.str "arithmetic_ops" 740), (.str "arithmetic_ops" 741), (.str "/claim/cut.py" 742), (.int 247 0), (.int 0 0), (.int 0 0), (.int 0 0), (.int 3 0), (.ref 411), (.bool true), (.int 181 0), (.ref 412), .none, (.ref 413), (.ref 414), (.ref 415), (.int 743 0), (.int 247 0), (.str "/claim/cut.py" 744)]), #[]⟩)) : Nat × Obj) ::
(((nat_lit 417), (⟨(.type "function"), none, (.func ⟨"arithmetic_ops", "arithmetic_ops", a417, b417, s417, 3, [], .none, .none, .none, (.str "perlcore.convert" 565), none, (.ref 416), .none, 0⟩), #[]⟩)) : Nat × Obj) ::
(((nat_lit 418), (⟨(.type "tuple"), none, (.seq #[] 0), #[]⟩)) : Nat × Obj) ::
(((nat_lit 420), (⟨(.type "tuple"), none, (.seq #[(.str "op" 749), (.str "order" 750)] 0), #[]⟩)) : Nat × Obj) ::
(((nat_lit 421), (⟨(.type "tuple"), none, (.seq #[] 0), #[]⟩)) : Nat × Obj) ::
(((nat_lit 423), (⟨(.type "code"), none, (.fields #[(.str "holds_order" 746), (.str "holds_order" 747), (.str "/claim/cut.py" 748), (.int 249 0), (.int 2 0), (.int 0 0), (.int 0 0), (.int 3 0), (.ref 418), (.bool true), (.int 181 0), (.ref 419), .none, (.ref 420), (.ref 421), (.ref 422), (.int 751 0), (.int 249 0), (.str "/claim/cut.py" 752)]), #[]⟩)) : Nat × Obj) ::
(((nat_lit 424), (⟨(.type "function"), none, (.func ⟨"holds_order", "holds_order", a424, b424, s424, 3, [], .none, .none, .none, (.str "perlcore.convert" 565), none, (.ref 423), .none, 0⟩), #[]⟩)) : Nat × Obj) ::
(((nat_lit 425), (⟨(.type "tuple"), none, (.seq #[] 0), #[]⟩)) : Nat × Obj) ::
(((nat_lit 427), (⟨(.type "tuple"), none, (.seq #[(.str "op" 757), (.str "x" 758), (.str "y" 759), (.str "limits" 760)] 0), #[]⟩)) : Nat × Obj) ::
(((nat_lit 428), (⟨(.type "tuple"), none, (.seq #[] 0), #[]⟩)) : Nat × Obj) ::
(((nat_lit 430), (⟨(.type "code"), none, (.fields #[(.str "compare_values" 754), (.str "compare_values" 755), (.str "/claim/cut.py" 756), (.int 263 0), (.int 4 0), (.int 0 0), (.int 0 0), (.int 3 0), (.ref 425), (.bool true), (.int 181 0), (.ref 426), .none, (.ref 427), (.ref 428), (.ref 429), (.int 761 0), (.int 263 0), (.str "/claim/cut.py" 762)]), #[]⟩)) : Nat × Obj) ::
(((nat_lit 431), (⟨(.type "function"), none, (.func ⟨"compare_values", "compare_values", a431, b431, s431, 3, [], .none, .none, .none, (.str "perlcore.convert" 565), none, (.ref 430), .none, 0⟩), #[]⟩)) : Nat × Obj) ::
(((nat_lit 439), (⟨(.type "tuple"), none, (.seq #[(.int 64 778), (.int 50 779), (.int 1000000 782), (.int 100000 785), (.int 10000 788)] 0), #[]⟩)) : Nat × Obj) ::
(((nat_lit 440), (⟨(.type "tuple"), none, (.seq #[] 0), #[]⟩)) : Nat × Obj) ::
(((nat_lit 442), (⟨(.type "tuple"), none, (.seq #[(.str "self" 792), (.str "width" 793), (.str "depth" 794), (.str "steps" 795), (.str "text" 796), (.str "items" 797)] 0), #[]⟩)) : Nat × Obj) ::
(((nat_lit 443), (⟨(.type "tuple"), none, (.seq #[] 0), #[]⟩)) : Nat × Obj) ::
(((nat_lit 445), (⟨(.type "code"), none, (.fields #[(.str "__init__" 789), (.str "Limits.__init__" 790), (.str "/claim/cut.py" 791), (.int 270 0), (.int 6 0), (.int 0 0), (.int 0 0), (.int 3 0), (.ref 440), (.bool true), (.int 181 0), (.ref 441), .none, (.ref 442), (.ref 443), (.ref 444), (.int 798 0), (.int 270 0), (.str "/claim/cut.py" 799)]), #[]⟩)) : Nat × Obj) ::
(((nat_lit 446), (⟨(.type "function"), none, (.func ⟨"__init__", "Limits.__init__", a446, b446, s446, 3, [], (.ref 439), .none, .none, (.str "perlcore.limits" 764), none, (.ref 445), .none, 0⟩), #[]⟩)) : Nat × Obj) ::
(((nat_lit 447), (⟨(.type "tuple"), none, (.seq #[(.str "depth" 801), (.str "items" 802), (.str "steps" 803), (.str "text" 804), (.str "width" 805)] 0), #[]⟩)) : Nat × Obj) ::
(((nat_lit 448), (⟨(.type "dict"), none, (.dict #[⟨(PyData.keyHash P "__module__"), (.str "__module__" 773), (.str "perlcore.limits" 764)⟩, ⟨(PyData.keyHash P "__firstlineno__"), (.str "__firstlineno__" 777), (.int 268 776)⟩, ⟨(PyData.keyHash P "__init__"), (.str "__init__" 800), (.ref 446)⟩, ⟨(PyData.keyHash P "__static_attributes__"), (.str "__static_attributes__" 806), (.ref 447)⟩, ⟨(PyData.keyHash P "__dict__"), (.str "__dict__" 808), (.ref 450)⟩, ⟨(PyData.keyHash P "__weakref__"), (.str "__weakref__" 810), (.ref 451)⟩, ⟨(PyData.keyHash P "__doc__"), (.str "__doc__" 811), .none⟩] 4), #[]⟩)) : Nat × Obj) ::
(((nat_lit 449), (⟨(.type "type"), none, (.cls ⟨"Limits", [(.type "object")], [(.ref 449), (.type "object")], 448, "Limits", true, [], [], false, none, false⟩), #[none, none, (some (.str "Limits" 766)), (some (.str "Limits" 774)), (some (.builtin "object.__new__")), (some (.bool true))]⟩)) : Nat × Obj) ::
(((nat_lit 450), (⟨(.type "getset_descriptor"), none, (.fields #[(.str "__dict__" 807), (.ref 449), (.builtin "function.__dict__"), (.builtin "function.__dict__#set")]), #[]⟩)) : Nat × Obj) ::
(((nat_lit 451), (⟨(.type "getset_descriptor"), none, (.fields #[(.str "__weakref__" 809), (.ref 449), (.builtin "ExceptionGroup.__weakref__"), .none]), #[]⟩)) : Nat × Obj) ::
(((nat_lit 454), (⟨(.type "tuple"), none, (.seq #[(.str "" 816), (.str "abc" 817), (.str "-" 818), (.str "+x" 819), (.str " " 820), (.str ".5" 821)] 0), #[]⟩)) : Nat × Obj) ::
(((nat_lit 455), (⟨(.type "tuple"), none, (.seq #[(.str "" 823), (.str " " 824), (.str "\t\n " 825), (.str "  " 826)] 0), #[]⟩)) : Nat × Obj) ::
(((nat_lit 456), (⟨(.type "tuple"), none, (.seq #[(.str "" 828), (.str "x" 829), (.str " 7" 830), (.str ".9" 831), (.str "e3" 832)] 0), #[]⟩)) : Nat × Obj) ::
(((nat_lit 457), (⟨(.type "tuple"), none, (.seq #[] 0), #[]⟩)) : Nat × Obj) ::
(((nat_lit 459), (⟨(.type "tuple"), none, (.seq #[(.str "kettle" 837), (.str "many" 838), (.str "spot" 839)] 0), #[]⟩)) : Nat × Obj) ::
(((nat_lit 460), (⟨(.type "tuple"), none, (.seq #[] 0), #[]⟩)) : Nat × Obj) ::
(((nat_lit 462), (⟨(.type "code"), none, (.fields #[(.str "_law_stir" 834), (.str "_law_stir" 835), (.str "/claim/cut.py" 836), (.int 280 0), (.int 2 0), (.int 0 0), (.int 0 0), (.int 3 0), (.ref 457), (.bool true), (.int 181 0), (.ref 458), .none, (.ref 459), (.ref 460), (.ref 461), (.int 840 0), (.int 280 0), (.str "/claim/cut.py" 841)]), #[]⟩)) : Nat × Obj) ::
(((nat_lit 463), (⟨(.type "function"), none, (.func ⟨"_law_stir", "_law_stir", a463, b463, s463, 3, [], .none, .none, .none, (.str "law_sa0532_01" 814), none, (.ref 462), .none, 0⟩), #[]⟩)) : Nat × Obj) ::
(((nat_lit 464), (⟨(.type "tuple"), none, (.seq #[] 0), #[]⟩)) : Nat × Obj) ::
(((nat_lit 466), (⟨(.type "tuple"), none, (.seq #[(.str "kettle" 846), (.str "width" 847), (.str "way" 848), (.str "number" 849), (.str "half" 850)] 0), #[]⟩)) : Nat × Obj) ::
(((nat_lit 467), (⟨(.type "tuple"), none, (.seq #[] 0), #[]⟩)) : Nat × Obj) ::
(((nat_lit 469), (⟨(.type "code"), none, (.fields #[(.str "_law_amount" 843), (.str "_law_amount" 844), (.str "/claim/cut.py" 845), (.int 284 0), (.int 2 0), (.int 0 0), (.int 0 0), (.int 3 0), (.ref 464), (.bool true), (.int 181 0), (.ref 465), .none, (.ref 466), (.ref 467), (.ref 468), (.int 851 0), (.int 284 0), (.str "/claim/cut.py" 852)]), #[]⟩)) : Nat × Obj) ::
(((nat_lit 470), (⟨(.type "function"), none, (.func ⟨"_law_amount", "_law_amount", a470, b470, s470, 3, [], .none, .none, .none, (.str "law_sa0532_01" 814), none, (.ref 469), .none, 0⟩), #[]⟩)) : Nat × Obj) ::
(((nat_lit 471), (⟨(.type "tuple"), none, (.seq #[] 0), #[]⟩)) : Nat × Obj) ::
(((nat_lit 473), (⟨(.type "tuple"), none, (.seq #[(.str "kettle" 857), (.str "number" 858), (.str "sign" 859), (.str "figures" 860)] 0), #[]⟩)) : Nat × Obj) ::
(((nat_lit 474), (⟨(.type "tuple"), none, (.seq #[] 0), #[]⟩)) : Nat × Obj) ::
(((nat_lit 476), (⟨(.type "code"), none, (.fields #[(.str "_law_dressed" 854), (.str "_law_dressed" 855), (.str "/claim/cut.py" 856), (.int 289 0), (.int 2 0), (.int 0 0), (.int 0 0), (.int 3 0), (.ref 471), (.bool true), (.int 181 0), (.ref 472), .none, (.ref 473), (.ref 474), (.ref 475), (.int 861 0), (.int 289 0), (.str "/claim/cut.py" 862)]), #[]⟩)) : Nat × Obj) ::
(((nat_lit 477), (⟨(.type "function"), none, (.func ⟨"_law_dressed", "_law_dressed", a477, b477, s477, 3, [], .none, .none, .none, (.str "law_sa0532_01" 814), none, (.ref 476), .none, 0⟩), #[]⟩)) : Nat × Obj) ::
(((nat_lit 478), (⟨(.type "tuple"), none, (.seq #[] 0), #[]⟩)) : Nat × Obj) ::
(((nat_lit 480), (⟨(.type "tuple"), none, (.seq #[(.str "sign" 867), (.str "x" 868), (.str "y" 869), (.str "limits" 870)] 0), #[]⟩)) : Nat × Obj) ::
(((nat_lit 481), (⟨(.type "tuple"), none, (.seq #[] 0), #[]⟩)) : Nat × Obj) ::
(((nat_lit 483), (⟨(.type "code"), none, (.fields #[(.str "_law_reckoned" 864), (.str "_law_reckoned" 865), (.str "/claim/cut.py" 866), (.int 293 0), (.int 4 0), (.int 0 0), (.int 0 0), (.int 3 0), (.ref 478), (.bool true), (.int 181 0), (.ref 479), .none, (.ref 480), (.ref 481), (.ref 482), (.int 871 0), (.int 293 0), (.str "/claim/cut.py" 872)]), #[]⟩)) : Nat × Obj) ::
(((nat_lit 484), (⟨(.type "function"), none, (.func ⟨"_law_reckoned", "_law_reckoned", a484, b484, s484, 3, [], .none, .none, .none, (.str "law_sa0532_01" 814), none, (.ref 483), .none, 0⟩), #[]⟩)) : Nat × Obj) ::
(((nat_lit 485), (⟨(.type "tuple"), none, (.seq #[] 0), #[]⟩)) : Nat × Obj) ::
(((nat_lit 487), (⟨(.type "tuple"), none, (.seq #[(.str "kettle" 877), (.str "a" 878), (.str "limits" 879), (.str "text" 880), (.str "head" 881), (.str "tail" 882)] 0), #[]⟩)) : Nat × Obj) ::
(((nat_lit 488), (⟨(.type "tuple"), none, (.seq #[] 0), #[]⟩)) : Nat × Obj) ::
(((nat_lit 490), (⟨(.type "code"), none, (.fields #[(.str "_law_is_read" 874), (.str "_law_is_read" 875), (.str "/claim/cut.py" 876), (.int 298 0), (.int 3 0), (.int 0 0), (.int 0 0), (.int 3 0), (.ref 485), (.bool true), (.int 181 0), (.ref 486), .none, (.ref 487), (.ref 488), (.ref 489), (.int 883 0), (.int 298 0), (.str "/claim/cut.py" 884)]), #[]⟩)) : Nat × Obj) ::
(((nat_lit 491), (⟨(.type "function"), none, (.func ⟨"_law_is_read", "_law_is_read", a491, b491, s491, 3, [], .none, .none, .none, (.str "law_sa0532_01" 814), none, (.ref 490), .none, 0⟩), #[]⟩)) : Nat × Obj) ::
(((nat_lit 492), (⟨(.type "tuple"), none, (.seq #[] 0), #[]⟩)) : Nat × Obj) ::
(((nat_lit 494), (⟨(.type "tuple"), none, (.seq #[(.str "a" 889), (.str "b" 890), (.str "c" 891), (.str "limits" 892), (.str "x" 893), (.str "y" 894), (.str "z" 895), (.str "way" 896), (.str "order" 897), (.str "first" 898), (.str "second" 899)] 0), #[]⟩)) : Nat × Obj) ::
(((nat_lit 495), (⟨(.type "tuple"), none, (.seq #[] 0), #[]⟩)) : Nat × Obj) ::
(((nat_lit 497), (⟨(.type "code"), none, (.fields #[(.str "_law_is_ordered" 886), (.str "_law_is_ordered" 887), (.str "/claim/cut.py" 888), (.int 308 0), (.int 4 0), (.int 0 0), (.int 0 0), (.int 3 0), (.ref 492), (.bool true), (.int 181 0), (.ref 493), .none, (.ref 494), (.ref 495), (.ref 496), (.int 900 0), (.int 308 0), (.str "/claim/cut.py" 901)]), #[]⟩)) : Nat × Obj) ::
(((nat_lit 498), (⟨(.type "function"), none, (.func ⟨"_law_is_ordered", "_law_is_ordered", a498, b498, s498, 3, [], .none, .none, .none, (.str "law_sa0532_01" 814), none, (.ref 497), .none, 0⟩), #[]⟩)) : Nat × Obj) ::
(((nat_lit 499), (⟨(.type "tuple"), none, (.seq #[] 0), #[]⟩)) : Nat × Obj) ::
(((nat_lit 501), (⟨(.type "tuple"), none, (.seq #[(.str "a" 906), (.str "b" 907), (.str "limits" 908), (.str "one" 909), (.str "two" 910), (.str "due" 911)] 0), #[]⟩)) : Nat × Obj) ::
(((nat_lit 502), (⟨(.type "tuple"), none, (.seq #[] 0), #[]⟩)) : Nat × Obj) ::
(((nat_lit 504), (⟨(.type "code"), none, (.fields #[(.str "_law_is_joined" 903), (.str "_law_is_joined" 904), (.str "/claim/cut.py" 905), (.int 323 0), (.int 3 0), (.int 0 0), (.int 0 0), (.int 3 0), (.ref 499), (.bool true), (.int 181 0), (.ref 500), .none, (.ref 501), (.ref 502), (.ref 503), (.int 912 0), (.int 323 0), (.str "/claim/cut.py" 913)]), #[]⟩)) : Nat × Obj) ::
(((nat_lit 505), (⟨(.type "function"), none, (.func ⟨"_law_is_joined", "_law_is_joined", a505, b505, s505, 3, [], .none, .none, .none, (.str "law_sa0532_01" 814), none, (.ref 504), .none, 0⟩), #[]⟩)) : Nat × Obj) ::
(((nat_lit 506), (⟨(.type "tuple"), none, (.seq #[] 0), #[]⟩)) : Nat × Obj) ::
(((nat_lit 509), (⟨(.type "code"), none, (.fields #[(.str "law" 915), (.str "law" 916), (.str "/claim/cut.py" 917), (.int 327 0), (.int 1 0), (.int 0 0), (.int 0 0), (.int 3 0), (.ref 506), (.bool true), (.int 181 0), (.ref 507), .none, .none, .none, (.ref 508), (.int 918 0), (.int 327 0), (.str "/claim/cut.py" 919)]), #[]⟩)) : Nat × Obj) ::
(((nat_lit 510), (⟨(.type "function"), none, (.func ⟨"law", "law", a510, b510, s510, 3, [], .none, .none, .none, (.str "law_sa0532_01" 814), none, (.ref 509), .none, 0⟩), #[]⟩)) : Nat × Obj) :: []
end Cut
noncomputable def K : Params → Frag := (by exact fun k _ => k : ∀ k : Params → Frag, Cut.K0 = k → Params → Frag) _ (by delta Cut.K0 Cut.a28 Cut.b28 Cut.s28 Cut.a48 Cut.b48 Cut.s48 Cut.a60 Cut.b60 Cut.s60 Cut.a67 Cut.b67 Cut.s67 Cut.a74 Cut.b74 Cut.s74 Cut.a81 Cut.b81 Cut.s81 Cut.a88 Cut.b88 Cut.s88 Cut.a95 Cut.b95 Cut.s95 Cut.a102 Cut.b102 Cut.s102 Cut.a109 Cut.b109 Cut.s109 Cut.a116 Cut.b116 Cut.s116 Cut.a123 Cut.b123 Cut.s123 Cut.a130 Cut.b130 Cut.s130 Cut.a137 Cut.b137 Cut.s137 Cut.a151 Cut.b151 Cut.s151 Cut.a172 Cut.b172 Cut.s172 Cut.a191 Cut.b191 Cut.s191 Cut.a210 Cut.b210 Cut.s210 Cut.a229 Cut.b229 Cut.s229 Cut.a249 Cut.b249 Cut.s249 Cut.a263 Cut.b263 Cut.s263 Cut.a270 Cut.b270 Cut.s270 Cut.a277 Cut.b277 Cut.s277 Cut.a284 Cut.b284 Cut.s284 Cut.a291 Cut.b291 Cut.s291 Cut.a298 Cut.b298 Cut.s298 Cut.a305 Cut.b305 Cut.s305 Cut.a312 Cut.b312 Cut.s312 Cut.a319 Cut.b319 Cut.s319 Cut.a326 Cut.b326 Cut.s326 Cut.a333 Cut.b333 Cut.s333 Cut.a340 Cut.b340 Cut.s340 Cut.a347 Cut.b347 Cut.s347 Cut.a354 Cut.b354 Cut.s354 Cut.a361 Cut.b361 Cut.s361 Cut.a368 Cut.b368 Cut.s368 Cut.a375 Cut.b375 Cut.s375 Cut.a382 Cut.b382 Cut.s382 Cut.a389 Cut.b389 Cut.s389 Cut.a396 Cut.b396 Cut.s396 Cut.a403 Cut.b403 Cut.s403 Cut.a410 Cut.b410 Cut.s410 Cut.a417 Cut.b417 Cut.s417 Cut.a424 Cut.b424 Cut.s424 Cut.a431 Cut.b431 Cut.s431 Cut.a446 Cut.b446 Cut.s446 Cut.a463 Cut.b463 Cut.s463 Cut.a470 Cut.b470 Cut.s470 Cut.a477 Cut.b477 Cut.s477 Cut.a484 Cut.b484 Cut.s484 Cut.a491 Cut.b491 Cut.s491 Cut.a498 Cut.b498 Cut.s498 Cut.a505 Cut.b505 Cut.s505 Cut.a510 Cut.b510 Cut.s510; exact rfl)
abbrev PR : Program := PySem.Challenge.rw_sa0532_01.prog
end Mine
end
section
open PySem PySem.W PyProof.Rows
set_option Elab.async false
set_option maxRecDepth 100000
set_option maxHeartbeats 0
set_option linter.unusedVariables false
namespace Mine
namespace Hd
noncomputable def k (P : Params) (a : Nat) : Obj := ((K P).lookup a).getD default
noncomputable def tm (P : Params) (a : Nat) : Obj := match (K P).lookup a with
  | some ⟨_, _, .func f, _⟩ => ⟨.none, none, .func { f with globals := 0, code := .none, pyModule := .none, defaults := .none, kwdefaults := .none }, #[]⟩
  | _ => default
noncomputable def x11_a (P : Params) : Obj := ⟨(.type "tuple"), none, (.seq #[] 0), #[]⟩
noncomputable def x12_a (P : Params) : Obj := ⟨.none, none, (.fields #[]), #[]⟩
noncomputable def x13_a (P : Params) : Obj := ⟨(.type "code"), none, (.fields #[(.str "<module>" 182), (.str "<module>" 183), (.str "/claim/cut.py" 184), (.int 1 0), (.int 0 0), (.int 0 0), (.int 0 0), (.int 0 0), (.ref 11), (.bool false), (.int 181 0), (.ref 12), .none, .none, .none, .none, (.int 185 0), (.int 1 0), (.str "/claim/cut.py" 186)]), #[]⟩
noncomputable def x14_a (P : Params) : Obj := ⟨(.type "frame"), none, .plain, #[(some (.ref 13)), (some (.ref 3)), (some (.ref 3)), none, (some (.str "__main__" 164)), none, (some (.ref 0))]⟩
noncomputable def x3_c0 (P : Params) : Obj := ⟨(.type "dict"), none, (.dict #[⟨(PyData.keyHash P "__name__"), (.str "__name__" 165), (.str "perlcore.values" 360)⟩, ⟨(PyData.keyHash P "__doc__"), (.str "__doc__" 166), .none⟩, ⟨(PyData.keyHash P "__package__"), (.str "__package__" 167), .none⟩, ⟨(PyData.keyHash P "__loader__"), (.str "__loader__" 168), (.builtin "__main__.__loader__#opaque")⟩, ⟨(PyData.keyHash P "__spec__"), (.str "__spec__" 169), .none⟩, ⟨(PyData.keyHash P "__annotations__"), (.str "__annotations__" 170), (.ref 6)⟩, ⟨(PyData.keyHash P "__builtins__"), (.str "__builtins__" 171), (.ref 4)⟩, ⟨(PyData.keyHash P "__file__"), (.str "__file__" 173), (.str "/claim/cut.py" 172)⟩, ⟨(PyData.keyHash P "__cached__"), (.str "__cached__" 174), .none⟩, ⟨(PyData.keyHash P "PerlError"), (.str "PerlError" 217), (.ref 31)⟩, ⟨(PyData.keyHash P "Die"), (.str "Die" 242), (.ref 51)⟩, ⟨(PyData.keyHash P "FIGURES"), (.str "FIGURES" 246), (.str "0123456789" 245)⟩, ⟨(PyData.keyHash P "SPACES"), (.str "SPACES" 248), (.str " \t\n\r\x0c\x0b" 247)⟩, ⟨(PyData.keyHash P "wrap_number"), (.str "wrap_number" 256), (.ref 60)⟩, ⟨(PyData.keyHash P "add_numbers"), (.str "add_numbers" 265), (.ref 67)⟩, ⟨(PyData.keyHash P "sub_numbers"), (.str "sub_numbers" 274), (.ref 74)⟩, ⟨(PyData.keyHash P "mul_numbers"), (.str "mul_numbers" 283), (.ref 81)⟩, ⟨(PyData.keyHash P "cut_quotient"), (.str "cut_quotient" 292), (.ref 88)⟩, ⟨(PyData.keyHash P "div_numbers"), (.str "div_numbers" 301), (.ref 95)⟩, ⟨(PyData.keyHash P "mod_numbers"), (.str "mod_numbers" 310), (.ref 102)⟩, ⟨(PyData.keyHash P "power_numbers"), (.str "power_numbers" 320), (.ref 109)⟩, ⟨(PyData.keyHash P "number_head"), (.str "number_head" 330), (.ref 116)⟩, ⟨(PyData.keyHash P "numeric_text"), (.str "numeric_text" 342), (.ref 123)⟩, ⟨(PyData.keyHash P "looks_numeric"), (.str "looks_numeric" 351), (.ref 130)⟩, ⟨(PyData.keyHash P "number_text"), (.str "number_text" 359), (.ref 137)⟩, ⟨(PyData.keyHash P "HEX_FIGURES"), (.str "HEX_FIGURES" 363), (.str "0123456789abcdef" 362)⟩, ⟨(PyData.keyHash P "Thing"), (.str "Thing" 397), (.ref 154)⟩] 27), #[]⟩
noncomputable def x12_c0 (P : Params) : Obj := ⟨.none, none, (.fields (List.toArray ((.int 2 0) :: (.int 0 0) :: (.ref 20) :: (.int 7 0) :: (.int 0 0) :: (.ref 40) :: (.int 15 0) :: (.int 0 0) :: (.ref 59) :: (.int 20 0) :: (.int 0 0) :: (.ref 66) :: (.int 22 0) :: (.int 0 0) :: (.ref 73) :: (.int 24 0) :: (.int 0 0) :: (.ref 80) :: (.int 26 0) :: (.int 0 0) :: (.ref 87) :: (.int 31 0) :: (.int 0 0) :: (.ref 94) :: (.int 35 0) :: (.int 0 0) :: (.ref 101) :: (.int 39 0) :: (.int 0 0) :: (.ref 108) :: (.int 51 0) :: (.int 0 0) :: (.ref 115) :: (.int 64 0) :: (.int 0 0) :: (.ref 122) :: (.int 73 0) :: (.int 0 0) :: (.ref 129) :: (.int 80 0) :: (.int 0 0) :: (.ref 136) :: (.int 90 0) :: (.int 0 0) :: (.ref 143) :: []))), #[]⟩
noncomputable def x16_c0 (P : Params) : Obj := ⟨(.type "builtin_function_or_method"), none, (.fields #[(.builtin "type.__prepare__"), (.type "type")]), #[]⟩
noncomputable def x17_c0 (P : Params) : Obj := ⟨(.type "dict"), none, (.dict #[⟨(PyData.keyHash P "__module__"), (.str "__module__" 196), (.str "perlcore.errors" 187)⟩, ⟨(PyData.keyHash P "__qualname__"), (.str "__qualname__" 198), (.str "PerlError" 197)⟩, ⟨(PyData.keyHash P "__firstlineno__"), (.str "__firstlineno__" 200), (.int 2 199)⟩, ⟨(PyData.keyHash P "__init__"), (.str "__init__" 208), (.ref 28)⟩, ⟨(PyData.keyHash P "__static_attributes__"), (.str "__static_attributes__" 210), (.ref 29)⟩] 5), #[]⟩
noncomputable def x18_c0 (P : Params) : Obj := ⟨(.type "tuple"), none, (.seq #[] 0), #[]⟩
noncomputable def x19_c0 (P : Params) : Obj := ⟨.none, none, (.fields #[(.int 4 0), (.int 4 0), (.ref 27)]), #[]⟩
noncomputable def x20_c0 (P : Params) : Obj := ⟨(.type "code"), none, (.fields #[(.str "PerlError" 191), (.str "PerlError" 192), (.str "/claim/cut.py" 193), (.int 2 0), (.int 0 0), (.int 0 0), (.int 0 0), (.int 0 0), (.ref 18), (.bool false), (.int 181 0), (.ref 19), .none, .none, .none, .none, (.int 194 0), (.int 2 0), (.str "/claim/cut.py" 195)]), #[]⟩
noncomputable def x21_c0 (P : Params) : Obj := ⟨(.type "frame"), none, .plain, #[(some (.ref 20)), (some (.ref 3)), (some (.ref 17)), none, (some (.str "perlcore.errors" 187)), none, (some (.ref 0))]⟩
noncomputable def x23_c0 (P : Params) : Obj := ⟨.none, none, (.fields #[]), #[]⟩
noncomputable def x33_c0 (P : Params) : Obj := ⟨(.type "super"), none, (.fields #[(.ref 31), (.ref 31), (.ref 31)]), #[]⟩
noncomputable def x34_c0 (P : Params) : Obj := ⟨(.type "builtin_function_or_method"), none, (.fields #[(.builtin "object.__init_subclass__"), (.ref 31)]), #[]⟩
noncomputable def x36_c0 (P : Params) : Obj := ⟨(.type "builtin_function_or_method"), none, (.fields #[(.builtin "type.__prepare__"), (.type "type")]), #[]⟩
noncomputable def x37_c0 (P : Params) : Obj := ⟨(.type "dict"), none, (.dict #[⟨(PyData.keyHash P "__module__"), (.str "__module__" 225), (.str "perlcore.errors" 187)⟩, ⟨(PyData.keyHash P "__qualname__"), (.str "__qualname__" 227), (.str "Die" 226)⟩, ⟨(PyData.keyHash P "__firstlineno__"), (.str "__firstlineno__" 229), (.int 7 228)⟩, ⟨(PyData.keyHash P "__init__"), (.str "__init__" 237), (.ref 48)⟩, ⟨(PyData.keyHash P "__static_attributes__"), (.str "__static_attributes__" 239), (.ref 49)⟩] 5), #[]⟩
noncomputable def x38_c0 (P : Params) : Obj := ⟨(.type "tuple"), none, (.seq #[] 0), #[]⟩
noncomputable def x39_c0 (P : Params) : Obj := ⟨.none, none, (.fields #[(.int 9 0), (.int 4 0), (.ref 47)]), #[]⟩
noncomputable def x40_c0 (P : Params) : Obj := ⟨(.type "code"), none, (.fields #[(.str "Die" 220), (.str "Die" 221), (.str "/claim/cut.py" 222), (.int 7 0), (.int 0 0), (.int 0 0), (.int 0 0), (.int 0 0), (.ref 38), (.bool false), (.int 181 0), (.ref 39), .none, .none, .none, .none, (.int 223 0), (.int 7 0), (.str "/claim/cut.py" 224)]), #[]⟩
noncomputable def x41_c0 (P : Params) : Obj := ⟨(.type "frame"), none, .plain, #[(some (.ref 40)), (some (.ref 3)), (some (.ref 37)), none, (some (.str "perlcore.errors" 187)), none, (some (.ref 0))]⟩
noncomputable def x43_c0 (P : Params) : Obj := ⟨.none, none, (.fields #[]), #[]⟩
noncomputable def x52_c0 (P : Params) : Obj := ⟨(.type "super"), none, (.fields #[(.ref 51), (.ref 51), (.ref 51)]), #[]⟩
noncomputable def x53_c0 (P : Params) : Obj := ⟨(.type "builtin_function_or_method"), none, (.fields #[(.builtin "object.__init_subclass__"), (.ref 51)]), #[]⟩
noncomputable def x55_c0 (P : Params) : Obj := ⟨.none, none, (.fields #[]), #[]⟩
noncomputable def x62_c0 (P : Params) : Obj := ⟨.none, none, (.fields #[]), #[]⟩
noncomputable def x69_c0 (P : Params) : Obj := ⟨.none, none, (.fields #[]), #[]⟩
noncomputable def x76_c0 (P : Params) : Obj := ⟨.none, none, (.fields #[]), #[]⟩
noncomputable def x83_c0 (P : Params) : Obj := ⟨.none, none, (.fields #[]), #[]⟩
noncomputable def x90_c0 (P : Params) : Obj := ⟨.none, none, (.fields #[]), #[]⟩
noncomputable def x97_c0 (P : Params) : Obj := ⟨.none, none, (.fields #[]), #[]⟩
noncomputable def x104_c0 (P : Params) : Obj := ⟨.none, none, (.fields #[]), #[]⟩
noncomputable def x111_c0 (P : Params) : Obj := ⟨.none, none, (.fields #[]), #[]⟩
noncomputable def x118_c0 (P : Params) : Obj := ⟨.none, none, (.fields #[]), #[]⟩
noncomputable def x125_c0 (P : Params) : Obj := ⟨.none, none, (.fields #[]), #[]⟩
noncomputable def x132_c0 (P : Params) : Obj := ⟨.none, none, (.fields #[]), #[]⟩
noncomputable def x138_c0 (P : Params) : Obj := ⟨(.type "tuple"), none, (.seq #[] 0), #[]⟩
noncomputable def x139_c0 (P : Params) : Obj := ⟨(.type "builtin_function_or_method"), none, (.fields #[(.builtin "type.__prepare__"), (.type "type")]), #[]⟩
noncomputable def x140_c0 (P : Params) : Obj := ⟨(.type "dict"), none, (.dict #[⟨(PyData.keyHash P "__module__"), (.str "__module__" 371), (.str "perlcore.values" 360)⟩, ⟨(PyData.keyHash P "__qualname__"), (.str "__qualname__" 373), (.str "Thing" 372)⟩, ⟨(PyData.keyHash P "__firstlineno__"), (.str "__firstlineno__" 375), (.int 90 374)⟩, ⟨(PyData.keyHash P "__init__"), (.str "__init__" 383), (.ref 151)⟩, ⟨(PyData.keyHash P "__static_attributes__"), (.str "__static_attributes__" 390), (.ref 152)⟩] 5), #[]⟩
noncomputable def x141_c0 (P : Params) : Obj := ⟨(.type "tuple"), none, (.seq #[] 0), #[]⟩
noncomputable def x142_c0 (P : Params) : Obj := ⟨.none, none, (.fields #[(.int 92 0), (.int 4 0), (.ref 150)]), #[]⟩
noncomputable def x143_c0 (P : Params) : Obj := ⟨(.type "code"), none, (.fields #[(.str "Thing" 366), (.str "Thing" 367), (.str "/claim/cut.py" 368), (.int 90 0), (.int 0 0), (.int 0 0), (.int 0 0), (.int 0 0), (.ref 141), (.bool false), (.int 181 0), (.ref 142), .none, .none, .none, .none, (.int 369 0), (.int 90 0), (.str "/claim/cut.py" 370)]), #[]⟩
noncomputable def x144_c0 (P : Params) : Obj := ⟨(.type "frame"), none, .plain, #[(some (.ref 143)), (some (.ref 3)), (some (.ref 140)), none, (some (.str "perlcore.values" 360)), none, (some (.ref 0))]⟩
noncomputable def x146_c0 (P : Params) : Obj := ⟨.none, none, (.fields #[]), #[]⟩
noncomputable def x154_c0 (P : Params) : Obj := ⟨(.type "type"), none, (.cls ⟨"Thing", [(.type "object")], [(.ref 154), (.type "object")], 153, "Thing", true, [], [], false, none, false⟩), #[none, none, (some (.str "Thing" 364)), (some (.str "Thing" 372)), (some (.builtin "object.__new__")), (some (.bool true))]⟩
noncomputable def x157_c0 (P : Params) : Obj := ⟨(.type "super"), none, (.fields #[(.ref 154), (.ref 154), (.ref 154)]), #[]⟩
noncomputable def x158_c0 (P : Params) : Obj := ⟨(.type "builtin_function_or_method"), none, (.fields #[(.builtin "object.__init_subclass__"), (.ref 154)]), #[]⟩
noncomputable def x3_c1 (P : Params) : Obj := ⟨(.type "dict"), none, (.dict (List.toArray (⟨(PyData.keyHash P "__name__"), (.str "__name__" 165), (.str "perlcore.values" 360)⟩ :: ⟨(PyData.keyHash P "__doc__"), (.str "__doc__" 166), .none⟩ :: ⟨(PyData.keyHash P "__package__"), (.str "__package__" 167), .none⟩ :: ⟨(PyData.keyHash P "__loader__"), (.str "__loader__" 168), (.builtin "__main__.__loader__#opaque")⟩ :: ⟨(PyData.keyHash P "__spec__"), (.str "__spec__" 169), .none⟩ :: ⟨(PyData.keyHash P "__annotations__"), (.str "__annotations__" 170), (.ref 6)⟩ :: ⟨(PyData.keyHash P "__builtins__"), (.str "__builtins__" 171), (.ref 4)⟩ :: ⟨(PyData.keyHash P "__file__"), (.str "__file__" 173), (.str "/claim/cut.py" 172)⟩ :: ⟨(PyData.keyHash P "__cached__"), (.str "__cached__" 174), .none⟩ :: ⟨(PyData.keyHash P "PerlError"), (.str "PerlError" 217), (.ref 31)⟩ :: ⟨(PyData.keyHash P "Die"), (.str "Die" 242), (.ref 51)⟩ :: ⟨(PyData.keyHash P "FIGURES"), (.str "FIGURES" 246), (.str "0123456789" 245)⟩ :: ⟨(PyData.keyHash P "SPACES"), (.str "SPACES" 248), (.str " \t\n\r\x0c\x0b" 247)⟩ :: ⟨(PyData.keyHash P "wrap_number"), (.str "wrap_number" 256), (.ref 60)⟩ :: ⟨(PyData.keyHash P "add_numbers"), (.str "add_numbers" 265), (.ref 67)⟩ :: ⟨(PyData.keyHash P "sub_numbers"), (.str "sub_numbers" 274), (.ref 74)⟩ :: ⟨(PyData.keyHash P "mul_numbers"), (.str "mul_numbers" 283), (.ref 81)⟩ :: ⟨(PyData.keyHash P "cut_quotient"), (.str "cut_quotient" 292), (.ref 88)⟩ :: ⟨(PyData.keyHash P "div_numbers"), (.str "div_numbers" 301), (.ref 95)⟩ :: ⟨(PyData.keyHash P "mod_numbers"), (.str "mod_numbers" 310), (.ref 102)⟩ :: ⟨(PyData.keyHash P "power_numbers"), (.str "power_numbers" 320), (.ref 109)⟩ :: ⟨(PyData.keyHash P "number_head"), (.str "number_head" 330), (.ref 116)⟩ :: ⟨(PyData.keyHash P "numeric_text"), (.str "numeric_text" 342), (.ref 123)⟩ :: ⟨(PyData.keyHash P "looks_numeric"), (.str "looks_numeric" 351), (.ref 130)⟩ :: ⟨(PyData.keyHash P "number_text"), (.str "number_text" 359), (.ref 137)⟩ :: ⟨(PyData.keyHash P "HEX_FIGURES"), (.str "HEX_FIGURES" 363), (.str "0123456789abcdef" 362)⟩ :: ⟨(PyData.keyHash P "Thing"), (.str "Thing" 397), (.ref 154)⟩ :: ⟨(PyData.keyHash P "Array"), (.str "Array" 423), (.ref 175)⟩ :: ⟨(PyData.keyHash P "Hash"), (.str "Hash" 450), (.ref 194)⟩ :: ⟨(PyData.keyHash P "Code"), (.str "Code" 480), (.ref 213)⟩ :: ⟨(PyData.keyHash P "Glob"), (.str "Glob" 510), (.ref 232)⟩ :: [])) 31), #[]⟩
noncomputable def x12_c1 (P : Params) : Obj := ⟨.none, none, (.fields (List.toArray ((.int 2 0) :: (.int 0 0) :: (.ref 20) :: (.int 7 0) :: (.int 0 0) :: (.ref 40) :: (.int 15 0) :: (.int 0 0) :: (.ref 59) :: (.int 20 0) :: (.int 0 0) :: (.ref 66) :: (.int 22 0) :: (.int 0 0) :: (.ref 73) :: (.int 24 0) :: (.int 0 0) :: (.ref 80) :: (.int 26 0) :: (.int 0 0) :: (.ref 87) :: (.int 31 0) :: (.int 0 0) :: (.ref 94) :: (.int 35 0) :: (.int 0 0) :: (.ref 101) :: (.int 39 0) :: (.int 0 0) :: (.ref 108) :: (.int 51 0) :: (.int 0 0) :: (.ref 115) :: (.int 64 0) :: (.int 0 0) :: (.ref 122) :: (.int 73 0) :: (.int 0 0) :: (.ref 129) :: (.int 80 0) :: (.int 0 0) :: (.ref 136) :: (.int 90 0) :: (.int 0 0) :: (.ref 143) :: (.int 99 0) :: (.int 0 0) :: (.ref 164) :: (.int 105 0) :: (.int 0 0) :: (.ref 183) :: (.int 112 0) :: (.int 0 0) :: (.ref 202) :: (.int 120 0) :: (.int 0 0) :: (.ref 221) :: []))), #[]⟩
noncomputable def x160_c1 (P : Params) : Obj := ⟨(.type "builtin_function_or_method"), none, (.fields #[(.builtin "type.__prepare__"), (.type "type")]), #[]⟩
noncomputable def x161_c1 (P : Params) : Obj := ⟨(.type "dict"), none, (.dict #[⟨(PyData.keyHash P "__module__"), (.str "__module__" 405), (.str "perlcore.values" 360)⟩, ⟨(PyData.keyHash P "__qualname__"), (.str "__qualname__" 407), (.str "Array" 406)⟩, ⟨(PyData.keyHash P "__firstlineno__"), (.str "__firstlineno__" 409), (.int 99 408)⟩, ⟨(PyData.keyHash P "__init__"), (.str "__init__" 417), (.ref 172)⟩, ⟨(PyData.keyHash P "__static_attributes__"), (.str "__static_attributes__" 420), (.ref 173)⟩] 5), #[]⟩
noncomputable def x162_c1 (P : Params) : Obj := ⟨(.type "tuple"), none, (.seq #[] 0), #[]⟩
noncomputable def x163_c1 (P : Params) : Obj := ⟨.none, none, (.fields #[(.int 101 0), (.int 4 0), (.ref 171)]), #[]⟩
noncomputable def x164_c1 (P : Params) : Obj := ⟨(.type "code"), none, (.fields #[(.str "Array" 400), (.str "Array" 401), (.str "/claim/cut.py" 402), (.int 99 0), (.int 0 0), (.int 0 0), (.int 0 0), (.int 0 0), (.ref 162), (.bool false), (.int 181 0), (.ref 163), .none, .none, .none, .none, (.int 403 0), (.int 99 0), (.str "/claim/cut.py" 404)]), #[]⟩
noncomputable def x165_c1 (P : Params) : Obj := ⟨(.type "frame"), none, .plain, #[(some (.ref 164)), (some (.ref 3)), (some (.ref 161)), none, (some (.str "perlcore.values" 360)), none, (some (.ref 0))]⟩
noncomputable def x167_c1 (P : Params) : Obj := ⟨.none, none, (.fields #[]), #[]⟩
noncomputable def x176_c1 (P : Params) : Obj := ⟨(.type "super"), none, (.fields #[(.ref 175), (.ref 175), (.ref 175)]), #[]⟩
noncomputable def x177_c1 (P : Params) : Obj := ⟨(.type "builtin_function_or_method"), none, (.fields #[(.builtin "object.__init_subclass__"), (.ref 175)]), #[]⟩
noncomputable def x179_c1 (P : Params) : Obj := ⟨(.type "builtin_function_or_method"), none, (.fields #[(.builtin "type.__prepare__"), (.type "type")]), #[]⟩
noncomputable def x180_c1 (P : Params) : Obj := ⟨(.type "dict"), none, (.dict #[⟨(PyData.keyHash P "__module__"), (.str "__module__" 431), (.str "perlcore.values" 360)⟩, ⟨(PyData.keyHash P "__qualname__"), (.str "__qualname__" 433), (.str "Hash" 432)⟩, ⟨(PyData.keyHash P "__firstlineno__"), (.str "__firstlineno__" 435), (.int 105 434)⟩, ⟨(PyData.keyHash P "__init__"), (.str "__init__" 443), (.ref 191)⟩, ⟨(PyData.keyHash P "__static_attributes__"), (.str "__static_attributes__" 447), (.ref 192)⟩] 5), #[]⟩
noncomputable def x181_c1 (P : Params) : Obj := ⟨(.type "tuple"), none, (.seq #[] 0), #[]⟩
noncomputable def x182_c1 (P : Params) : Obj := ⟨.none, none, (.fields #[(.int 107 0), (.int 4 0), (.ref 190)]), #[]⟩
noncomputable def x183_c1 (P : Params) : Obj := ⟨(.type "code"), none, (.fields #[(.str "Hash" 426), (.str "Hash" 427), (.str "/claim/cut.py" 428), (.int 105 0), (.int 0 0), (.int 0 0), (.int 0 0), (.int 0 0), (.ref 181), (.bool false), (.int 181 0), (.ref 182), .none, .none, .none, .none, (.int 429 0), (.int 105 0), (.str "/claim/cut.py" 430)]), #[]⟩
noncomputable def x184_c1 (P : Params) : Obj := ⟨(.type "frame"), none, .plain, #[(some (.ref 183)), (some (.ref 3)), (some (.ref 180)), none, (some (.str "perlcore.values" 360)), none, (some (.ref 0))]⟩
noncomputable def x186_c1 (P : Params) : Obj := ⟨.none, none, (.fields #[]), #[]⟩
noncomputable def x195_c1 (P : Params) : Obj := ⟨(.type "super"), none, (.fields #[(.ref 194), (.ref 194), (.ref 194)]), #[]⟩
noncomputable def x196_c1 (P : Params) : Obj := ⟨(.type "builtin_function_or_method"), none, (.fields #[(.builtin "object.__init_subclass__"), (.ref 194)]), #[]⟩
noncomputable def x198_c1 (P : Params) : Obj := ⟨(.type "builtin_function_or_method"), none, (.fields #[(.builtin "type.__prepare__"), (.type "type")]), #[]⟩
noncomputable def x199_c1 (P : Params) : Obj := ⟨(.type "dict"), none, (.dict #[⟨(PyData.keyHash P "__module__"), (.str "__module__" 458), (.str "perlcore.values" 360)⟩, ⟨(PyData.keyHash P "__qualname__"), (.str "__qualname__" 460), (.str "Code" 459)⟩, ⟨(PyData.keyHash P "__firstlineno__"), (.str "__firstlineno__" 462), (.int 112 461)⟩, ⟨(PyData.keyHash P "__init__"), (.str "__init__" 472), (.ref 210)⟩, ⟨(PyData.keyHash P "__static_attributes__"), (.str "__static_attributes__" 477), (.ref 211)⟩] 5), #[]⟩
noncomputable def x200_c1 (P : Params) : Obj := ⟨(.type "tuple"), none, (.seq #[] 0), #[]⟩
noncomputable def x201_c1 (P : Params) : Obj := ⟨.none, none, (.fields #[(.int 114 0), (.int 4 0), (.ref 209)]), #[]⟩
noncomputable def x202_c1 (P : Params) : Obj := ⟨(.type "code"), none, (.fields #[(.str "Code" 453), (.str "Code" 454), (.str "/claim/cut.py" 455), (.int 112 0), (.int 0 0), (.int 0 0), (.int 0 0), (.int 0 0), (.ref 200), (.bool false), (.int 181 0), (.ref 201), .none, .none, .none, .none, (.int 456 0), (.int 112 0), (.str "/claim/cut.py" 457)]), #[]⟩
noncomputable def x203_c1 (P : Params) : Obj := ⟨(.type "frame"), none, .plain, #[(some (.ref 202)), (some (.ref 3)), (some (.ref 199)), none, (some (.str "perlcore.values" 360)), none, (some (.ref 0))]⟩
noncomputable def x205_c1 (P : Params) : Obj := ⟨.none, none, (.fields #[]), #[]⟩
noncomputable def x214_c1 (P : Params) : Obj := ⟨(.type "super"), none, (.fields #[(.ref 213), (.ref 213), (.ref 213)]), #[]⟩
noncomputable def x215_c1 (P : Params) : Obj := ⟨(.type "builtin_function_or_method"), none, (.fields #[(.builtin "object.__init_subclass__"), (.ref 213)]), #[]⟩
noncomputable def x217_c1 (P : Params) : Obj := ⟨(.type "builtin_function_or_method"), none, (.fields #[(.builtin "type.__prepare__"), (.type "type")]), #[]⟩
noncomputable def x218_c1 (P : Params) : Obj := ⟨(.type "dict"), none, (.dict #[⟨(PyData.keyHash P "__module__"), (.str "__module__" 488), (.str "perlcore.values" 360)⟩, ⟨(PyData.keyHash P "__qualname__"), (.str "__qualname__" 490), (.str "Glob" 489)⟩, ⟨(PyData.keyHash P "__firstlineno__"), (.str "__firstlineno__" 492), (.int 120 491)⟩, ⟨(PyData.keyHash P "__init__"), (.str "__init__" 501), (.ref 229)⟩, ⟨(PyData.keyHash P "__static_attributes__"), (.str "__static_attributes__" 507), (.ref 230)⟩] 5), #[]⟩
noncomputable def x219_c1 (P : Params) : Obj := ⟨(.type "tuple"), none, (.seq #[] 0), #[]⟩
noncomputable def x220_c1 (P : Params) : Obj := ⟨.none, none, (.fields #[(.int 122 0), (.int 4 0), (.ref 228)]), #[]⟩
noncomputable def x221_c1 (P : Params) : Obj := ⟨(.type "code"), none, (.fields #[(.str "Glob" 483), (.str "Glob" 484), (.str "/claim/cut.py" 485), (.int 120 0), (.int 0 0), (.int 0 0), (.int 0 0), (.int 0 0), (.ref 219), (.bool false), (.int 181 0), (.ref 220), .none, .none, .none, .none, (.int 486 0), (.int 120 0), (.str "/claim/cut.py" 487)]), #[]⟩
noncomputable def x222_c1 (P : Params) : Obj := ⟨(.type "frame"), none, .plain, #[(some (.ref 221)), (some (.ref 3)), (some (.ref 218)), none, (some (.str "perlcore.values" 360)), none, (some (.ref 0))]⟩
noncomputable def x224_c1 (P : Params) : Obj := ⟨.none, none, (.fields #[]), #[]⟩
noncomputable def x233_c1 (P : Params) : Obj := ⟨(.type "super"), none, (.fields #[(.ref 232), (.ref 232), (.ref 232)]), #[]⟩
noncomputable def x234_c1 (P : Params) : Obj := ⟨(.type "builtin_function_or_method"), none, (.fields #[(.builtin "object.__init_subclass__"), (.ref 232)]), #[]⟩
noncomputable def x3_c2 (P : Params) : Obj := ⟨(.type "dict"), none, (.dict (List.toArray (⟨(PyData.keyHash P "__name__"), (.str "__name__" 165), (.str "perlcore.convert" 565)⟩ :: ⟨(PyData.keyHash P "__doc__"), (.str "__doc__" 166), .none⟩ :: ⟨(PyData.keyHash P "__package__"), (.str "__package__" 167), .none⟩ :: ⟨(PyData.keyHash P "__loader__"), (.str "__loader__" 168), (.builtin "__main__.__loader__#opaque")⟩ :: ⟨(PyData.keyHash P "__spec__"), (.str "__spec__" 169), .none⟩ :: ⟨(PyData.keyHash P "__annotations__"), (.str "__annotations__" 170), (.ref 6)⟩ :: ⟨(PyData.keyHash P "__builtins__"), (.str "__builtins__" 171), (.ref 4)⟩ :: ⟨(PyData.keyHash P "__file__"), (.str "__file__" 173), (.str "/claim/cut.py" 172)⟩ :: ⟨(PyData.keyHash P "__cached__"), (.str "__cached__" 174), .none⟩ :: ⟨(PyData.keyHash P "PerlError"), (.str "PerlError" 217), (.ref 31)⟩ :: ⟨(PyData.keyHash P "Die"), (.str "Die" 242), (.ref 51)⟩ :: ⟨(PyData.keyHash P "FIGURES"), (.str "FIGURES" 246), (.str "0123456789" 245)⟩ :: ⟨(PyData.keyHash P "SPACES"), (.str "SPACES" 248), (.str " \t\n\r\x0c\x0b" 247)⟩ :: ⟨(PyData.keyHash P "wrap_number"), (.str "wrap_number" 256), (.ref 60)⟩ :: ⟨(PyData.keyHash P "add_numbers"), (.str "add_numbers" 265), (.ref 67)⟩ :: ⟨(PyData.keyHash P "sub_numbers"), (.str "sub_numbers" 274), (.ref 74)⟩ :: ⟨(PyData.keyHash P "mul_numbers"), (.str "mul_numbers" 283), (.ref 81)⟩ :: ⟨(PyData.keyHash P "cut_quotient"), (.str "cut_quotient" 292), (.ref 88)⟩ :: ⟨(PyData.keyHash P "div_numbers"), (.str "div_numbers" 301), (.ref 95)⟩ :: ⟨(PyData.keyHash P "mod_numbers"), (.str "mod_numbers" 310), (.ref 102)⟩ :: ⟨(PyData.keyHash P "power_numbers"), (.str "power_numbers" 320), (.ref 109)⟩ :: ⟨(PyData.keyHash P "number_head"), (.str "number_head" 330), (.ref 116)⟩ :: ⟨(PyData.keyHash P "numeric_text"), (.str "numeric_text" 342), (.ref 123)⟩ :: ⟨(PyData.keyHash P "looks_numeric"), (.str "looks_numeric" 351), (.ref 130)⟩ :: ⟨(PyData.keyHash P "number_text"), (.str "number_text" 359), (.ref 137)⟩ :: ⟨(PyData.keyHash P "HEX_FIGURES"), (.str "HEX_FIGURES" 363), (.str "0123456789abcdef" 362)⟩ :: ⟨(PyData.keyHash P "Thing"), (.str "Thing" 397), (.ref 154)⟩ :: ⟨(PyData.keyHash P "Array"), (.str "Array" 423), (.ref 175)⟩ :: ⟨(PyData.keyHash P "Hash"), (.str "Hash" 450), (.ref 194)⟩ :: ⟨(PyData.keyHash P "Code"), (.str "Code" 480), (.ref 213)⟩ :: ⟨(PyData.keyHash P "Glob"), (.str "Glob" 510), (.ref 232)⟩ :: ⟨(PyData.keyHash P "Ref"), (.str "Ref" 541), (.ref 252)⟩ :: ⟨(PyData.keyHash P "thing_word"), (.str "thing_word" 548), (.ref 263)⟩ :: ⟨(PyData.keyHash P "hex_of"), (.str "hex_of" 556), (.ref 270)⟩ :: ⟨(PyData.keyHash P "ref_text"), (.str "ref_text" 564), (.ref 277)⟩ :: ⟨(PyData.keyHash P "SMALL"), (.str "SMALL" 568), (.str "abcdefghijklmnopqrstuvwxyz" 567)⟩ :: ⟨(PyData.keyHash P "GREAT"), (.str "GREAT" 570), (.str "ABCDEFGHIJKLMNOPQRSTUVWXYZ" 569)⟩ :: ⟨(PyData.keyHash P "DIGITS"), (.str "DIGITS" 572), (.str "0123456789" 571)⟩ :: ⟨(PyData.keyHash P "to_text"), (.str "to_text" 579), (.ref 284)⟩ :: ⟨(PyData.keyHash P "to_number"), (.str "to_number" 587), (.ref 291)⟩ :: ⟨(PyData.keyHash P "truth"), (.str "truth" 594), (.ref 298)⟩ :: ⟨(PyData.keyHash P "truth_value"), (.str "truth_value" 601), (.ref 305)⟩ :: ⟨(PyData.keyHash P "is_magic_text"), (.str "is_magic_text" 610), (.ref 312)⟩ :: ⟨(PyData.keyHash P "row_of_sign"), (.str "row_of_sign" 617), (.ref 319)⟩ :: ⟨(PyData.keyHash P "magic_increment"), (.str "magic_increment" 628), (.ref 326)⟩ :: [])) 45), #[]⟩
noncomputable def x12_c2 (P : Params) : Obj := ⟨.none, none, (.fields (List.toArray ((.int 2 0) :: (.int 0 0) :: (.ref 20) :: (.int 7 0) :: (.int 0 0) :: (.ref 40) :: (.int 15 0) :: (.int 0 0) :: (.ref 59) :: (.int 20 0) :: (.int 0 0) :: (.ref 66) :: (.int 22 0) :: (.int 0 0) :: (.ref 73) :: (.int 24 0) :: (.int 0 0) :: (.ref 80) :: (.int 26 0) :: (.int 0 0) :: (.ref 87) :: (.int 31 0) :: (.int 0 0) :: (.ref 94) :: (.int 35 0) :: (.int 0 0) :: (.ref 101) :: (.int 39 0) :: (.int 0 0) :: (.ref 108) :: (.int 51 0) :: (.int 0 0) :: (.ref 115) :: (.int 64 0) :: (.int 0 0) :: (.ref 122) :: (.int 73 0) :: (.int 0 0) :: (.ref 129) :: (.int 80 0) :: (.int 0 0) :: (.ref 136) :: (.int 90 0) :: (.int 0 0) :: (.ref 143) :: (.int 99 0) :: (.int 0 0) :: (.ref 164) :: (.int 105 0) :: (.int 0 0) :: (.ref 183) :: (.int 112 0) :: (.int 0 0) :: (.ref 202) :: (.int 120 0) :: (.int 0 0) :: (.ref 221) :: (.int 129 0) :: (.int 0 0) :: (.ref 240) :: (.int 134 0) :: (.int 0 0) :: (.ref 262) :: (.int 146 0) :: (.int 0 0) :: (.ref 269) :: (.int 152 0) :: (.int 0 0) :: (.ref 276) :: (.int 161 0) :: (.int 0 0) :: (.ref 283) :: (.int 169 0) :: (.int 0 0) :: (.ref 290) :: (.int 177 0) :: (.int 0 0) :: (.ref 297) :: (.int 179 0) :: (.int 0 0) :: (.ref 304) :: (.int 183 0) :: (.int 0 0) :: (.ref 311) :: (.int 191 0) :: (.int 0 0) :: (.ref 318) :: (.int 197 0) :: (.int 0 0) :: (.ref 325) :: []))), #[]⟩
noncomputable def x235_c2 (P : Params) : Obj := ⟨(.type "tuple"), none, (.seq #[] 0), #[]⟩
noncomputable def x236_c2 (P : Params) : Obj := ⟨(.type "builtin_function_or_method"), none, (.fields #[(.builtin "type.__prepare__"), (.type "type")]), #[]⟩
noncomputable def x237_c2 (P : Params) : Obj := ⟨(.type "dict"), none, (.dict #[⟨(PyData.keyHash P "__module__"), (.str "__module__" 518), (.str "perlcore.values" 360)⟩, ⟨(PyData.keyHash P "__qualname__"), (.str "__qualname__" 520), (.str "Ref" 519)⟩, ⟨(PyData.keyHash P "__firstlineno__"), (.str "__firstlineno__" 522), (.int 129 521)⟩, ⟨(PyData.keyHash P "__init__"), (.str "__init__" 531), (.ref 249)⟩, ⟨(PyData.keyHash P "__static_attributes__"), (.str "__static_attributes__" 534), (.ref 250)⟩] 5), #[]⟩
noncomputable def x238_c2 (P : Params) : Obj := ⟨(.type "tuple"), none, (.seq #[] 0), #[]⟩
noncomputable def x239_c2 (P : Params) : Obj := ⟨.none, none, (.fields #[(.int 131 0), (.int 4 0), (.ref 248)]), #[]⟩
noncomputable def x240_c2 (P : Params) : Obj := ⟨(.type "code"), none, (.fields #[(.str "Ref" 513), (.str "Ref" 514), (.str "/claim/cut.py" 515), (.int 129 0), (.int 0 0), (.int 0 0), (.int 0 0), (.int 0 0), (.ref 238), (.bool false), (.int 181 0), (.ref 239), .none, .none, .none, .none, (.int 516 0), (.int 129 0), (.str "/claim/cut.py" 517)]), #[]⟩
noncomputable def x241_c2 (P : Params) : Obj := ⟨(.type "frame"), none, .plain, #[(some (.ref 240)), (some (.ref 3)), (some (.ref 237)), none, (some (.str "perlcore.values" 360)), none, (some (.ref 0))]⟩
noncomputable def x244_c2 (P : Params) : Obj := ⟨.none, none, (.fields #[]), #[]⟩
noncomputable def x255_c2 (P : Params) : Obj := ⟨(.type "super"), none, (.fields #[(.ref 252), (.ref 252), (.ref 252)]), #[]⟩
noncomputable def x256_c2 (P : Params) : Obj := ⟨(.type "builtin_function_or_method"), none, (.fields #[(.builtin "object.__init_subclass__"), (.ref 252)]), #[]⟩
noncomputable def x258_c2 (P : Params) : Obj := ⟨.none, none, (.fields #[]), #[]⟩
noncomputable def x265_c2 (P : Params) : Obj := ⟨.none, none, (.fields #[]), #[]⟩
noncomputable def x272_c2 (P : Params) : Obj := ⟨.none, none, (.fields #[]), #[]⟩
noncomputable def x279_c2 (P : Params) : Obj := ⟨.none, none, (.fields #[]), #[]⟩
noncomputable def x286_c2 (P : Params) : Obj := ⟨.none, none, (.fields #[]), #[]⟩
noncomputable def x293_c2 (P : Params) : Obj := ⟨.none, none, (.fields #[]), #[]⟩
noncomputable def x300_c2 (P : Params) : Obj := ⟨.none, none, (.fields #[]), #[]⟩
noncomputable def x307_c2 (P : Params) : Obj := ⟨.none, none, (.fields #[]), #[]⟩
noncomputable def x314_c2 (P : Params) : Obj := ⟨.none, none, (.fields #[]), #[]⟩
noncomputable def x321_c2 (P : Params) : Obj := ⟨.none, none, (.fields #[]), #[]⟩
noncomputable def x3_c3 (P : Params) : Obj := ⟨(.type "dict"), none, (.dict (List.toArray (⟨(PyData.keyHash P "__name__"), (.str "__name__" 165), (.str "perlcore.limits" 764)⟩ :: ⟨(PyData.keyHash P "__doc__"), (.str "__doc__" 166), .none⟩ :: ⟨(PyData.keyHash P "__package__"), (.str "__package__" 167), .none⟩ :: ⟨(PyData.keyHash P "__loader__"), (.str "__loader__" 168), (.builtin "__main__.__loader__#opaque")⟩ :: ⟨(PyData.keyHash P "__spec__"), (.str "__spec__" 169), .none⟩ :: ⟨(PyData.keyHash P "__annotations__"), (.str "__annotations__" 170), (.ref 6)⟩ :: ⟨(PyData.keyHash P "__builtins__"), (.str "__builtins__" 171), (.ref 4)⟩ :: ⟨(PyData.keyHash P "__file__"), (.str "__file__" 173), (.str "/claim/cut.py" 172)⟩ :: ⟨(PyData.keyHash P "__cached__"), (.str "__cached__" 174), .none⟩ :: ⟨(PyData.keyHash P "PerlError"), (.str "PerlError" 217), (.ref 31)⟩ :: ⟨(PyData.keyHash P "Die"), (.str "Die" 242), (.ref 51)⟩ :: ⟨(PyData.keyHash P "FIGURES"), (.str "FIGURES" 246), (.str "0123456789" 245)⟩ :: ⟨(PyData.keyHash P "SPACES"), (.str "SPACES" 248), (.str " \t\n\r\x0c\x0b" 247)⟩ :: ⟨(PyData.keyHash P "wrap_number"), (.str "wrap_number" 256), (.ref 60)⟩ :: ⟨(PyData.keyHash P "add_numbers"), (.str "add_numbers" 265), (.ref 67)⟩ :: ⟨(PyData.keyHash P "sub_numbers"), (.str "sub_numbers" 274), (.ref 74)⟩ :: ⟨(PyData.keyHash P "mul_numbers"), (.str "mul_numbers" 283), (.ref 81)⟩ :: ⟨(PyData.keyHash P "cut_quotient"), (.str "cut_quotient" 292), (.ref 88)⟩ :: ⟨(PyData.keyHash P "div_numbers"), (.str "div_numbers" 301), (.ref 95)⟩ :: ⟨(PyData.keyHash P "mod_numbers"), (.str "mod_numbers" 310), (.ref 102)⟩ :: ⟨(PyData.keyHash P "power_numbers"), (.str "power_numbers" 320), (.ref 109)⟩ :: ⟨(PyData.keyHash P "number_head"), (.str "number_head" 330), (.ref 116)⟩ :: ⟨(PyData.keyHash P "numeric_text"), (.str "numeric_text" 342), (.ref 123)⟩ :: ⟨(PyData.keyHash P "looks_numeric"), (.str "looks_numeric" 351), (.ref 130)⟩ :: ⟨(PyData.keyHash P "number_text"), (.str "number_text" 359), (.ref 137)⟩ :: ⟨(PyData.keyHash P "HEX_FIGURES"), (.str "HEX_FIGURES" 363), (.str "0123456789abcdef" 362)⟩ :: ⟨(PyData.keyHash P "Thing"), (.str "Thing" 397), (.ref 154)⟩ :: ⟨(PyData.keyHash P "Array"), (.str "Array" 423), (.ref 175)⟩ :: ⟨(PyData.keyHash P "Hash"), (.str "Hash" 450), (.ref 194)⟩ :: ⟨(PyData.keyHash P "Code"), (.str "Code" 480), (.ref 213)⟩ :: ⟨(PyData.keyHash P "Glob"), (.str "Glob" 510), (.ref 232)⟩ :: ⟨(PyData.keyHash P "Ref"), (.str "Ref" 541), (.ref 252)⟩ :: ⟨(PyData.keyHash P "thing_word"), (.str "thing_word" 548), (.ref 263)⟩ :: ⟨(PyData.keyHash P "hex_of"), (.str "hex_of" 556), (.ref 270)⟩ :: ⟨(PyData.keyHash P "ref_text"), (.str "ref_text" 564), (.ref 277)⟩ :: ⟨(PyData.keyHash P "SMALL"), (.str "SMALL" 568), (.str "abcdefghijklmnopqrstuvwxyz" 567)⟩ :: ⟨(PyData.keyHash P "GREAT"), (.str "GREAT" 570), (.str "ABCDEFGHIJKLMNOPQRSTUVWXYZ" 569)⟩ :: ⟨(PyData.keyHash P "DIGITS"), (.str "DIGITS" 572), (.str "0123456789" 571)⟩ :: ⟨(PyData.keyHash P "to_text"), (.str "to_text" 579), (.ref 284)⟩ :: ⟨(PyData.keyHash P "to_number"), (.str "to_number" 587), (.ref 291)⟩ :: ⟨(PyData.keyHash P "truth"), (.str "truth" 594), (.ref 298)⟩ :: ⟨(PyData.keyHash P "truth_value"), (.str "truth_value" 601), (.ref 305)⟩ :: ⟨(PyData.keyHash P "is_magic_text"), (.str "is_magic_text" 610), (.ref 312)⟩ :: ⟨(PyData.keyHash P "row_of_sign"), (.str "row_of_sign" 617), (.ref 319)⟩ :: ⟨(PyData.keyHash P "magic_increment"), (.str "magic_increment" 628), (.ref 326)⟩ :: ⟨(PyData.keyHash P "increment_value"), (.str "increment_value" 636), (.ref 333)⟩ :: ⟨(PyData.keyHash P "decrement_value"), (.str "decrement_value" 644), (.ref 340)⟩ :: ⟨(PyData.keyHash P "compare_num"), (.str "compare_num" 655), (.ref 347)⟩ :: ⟨(PyData.keyHash P "compare_text"), (.str "compare_text" 665), (.ref 354)⟩ :: ⟨(PyData.keyHash P "concat_values"), (.str "concat_values" 675), (.ref 361)⟩ :: ⟨(PyData.keyHash P "by_numbers"), (.str "by_numbers" 685), (.ref 368)⟩ :: ⟨(PyData.keyHash P "op_add"), (.str "op_add" 694), (.ref 375)⟩ :: ⟨(PyData.keyHash P "op_sub"), (.str "op_sub" 703), (.ref 382)⟩ :: ⟨(PyData.keyHash P "op_mul"), (.str "op_mul" 712), (.ref 389)⟩ :: ⟨(PyData.keyHash P "op_div"), (.str "op_div" 721), (.ref 396)⟩ :: ⟨(PyData.keyHash P "op_mod"), (.str "op_mod" 730), (.ref 403)⟩ :: ⟨(PyData.keyHash P "op_power"), (.str "op_power" 739), (.ref 410)⟩ :: ⟨(PyData.keyHash P "arithmetic_ops"), (.str "arithmetic_ops" 745), (.ref 417)⟩ :: ⟨(PyData.keyHash P "holds_order"), (.str "holds_order" 753), (.ref 424)⟩ :: ⟨(PyData.keyHash P "compare_values"), (.str "compare_values" 763), (.ref 431)⟩ :: [])) 60), #[]⟩
noncomputable def x12_c3 (P : Params) : Obj := ⟨.none, none, (.fields (List.toArray ((.int 2 0) :: (.int 0 0) :: (.ref 20) :: (.int 7 0) :: (.int 0 0) :: (.ref 40) :: (.int 15 0) :: (.int 0 0) :: (.ref 59) :: (.int 20 0) :: (.int 0 0) :: (.ref 66) :: (.int 22 0) :: (.int 0 0) :: (.ref 73) :: (.int 24 0) :: (.int 0 0) :: (.ref 80) :: (.int 26 0) :: (.int 0 0) :: (.ref 87) :: (.int 31 0) :: (.int 0 0) :: (.ref 94) :: (.int 35 0) :: (.int 0 0) :: (.ref 101) :: (.int 39 0) :: (.int 0 0) :: (.ref 108) :: (.int 51 0) :: (.int 0 0) :: (.ref 115) :: (.int 64 0) :: (.int 0 0) :: (.ref 122) :: (.int 73 0) :: (.int 0 0) :: (.ref 129) :: (.int 80 0) :: (.int 0 0) :: (.ref 136) :: (.int 90 0) :: (.int 0 0) :: (.ref 143) :: (.int 99 0) :: (.int 0 0) :: (.ref 164) :: (.int 105 0) :: (.int 0 0) :: (.ref 183) :: (.int 112 0) :: (.int 0 0) :: (.ref 202) :: (.int 120 0) :: (.int 0 0) :: (.ref 221) :: (.int 129 0) :: (.int 0 0) :: (.ref 240) :: (.int 134 0) :: (.int 0 0) :: (.ref 262) :: (.int 146 0) :: (.int 0 0) :: (.ref 269) :: (.int 152 0) :: (.int 0 0) :: (.ref 276) :: (.int 161 0) :: (.int 0 0) :: (.ref 283) :: (.int 169 0) :: (.int 0 0) :: (.ref 290) :: (.int 177 0) :: (.int 0 0) :: (.ref 297) :: (.int 179 0) :: (.int 0 0) :: (.ref 304) :: (.int 183 0) :: (.int 0 0) :: (.ref 311) :: (.int 191 0) :: (.int 0 0) :: (.ref 318) :: (.int 197 0) :: (.int 0 0) :: (.ref 325) :: (.int 210 0) :: (.int 0 0) :: (.ref 332) :: (.int 214 0) :: (.int 0 0) :: (.ref 339) :: (.int 216 0) :: (.int 0 0) :: (.ref 346) :: (.int 222 0) :: (.int 0 0) :: (.ref 353) :: (.int 228 0) :: (.int 0 0) :: (.ref 360) :: (.int 233 0) :: (.int 0 0) :: (.ref 367) :: (.int 235 0) :: (.int 0 0) :: (.ref 374) :: (.int 237 0) :: (.int 0 0) :: (.ref 381) :: (.int 239 0) :: (.int 0 0) :: (.ref 388) :: (.int 241 0) :: (.int 0 0) :: (.ref 395) :: (.int 243 0) :: (.int 0 0) :: (.ref 402) :: (.int 245 0) :: (.int 0 0) :: (.ref 409) :: (.int 247 0) :: (.int 0 0) :: (.ref 416) :: (.int 249 0) :: (.int 0 0) :: (.ref 423) :: (.int 263 0) :: (.int 0 0) :: (.ref 430) :: []))), #[]⟩
noncomputable def x328_c3 (P : Params) : Obj := ⟨.none, none, (.fields #[]), #[]⟩
noncomputable def x335_c3 (P : Params) : Obj := ⟨.none, none, (.fields #[]), #[]⟩
noncomputable def x342_c3 (P : Params) : Obj := ⟨.none, none, (.fields #[]), #[]⟩
noncomputable def x349_c3 (P : Params) : Obj := ⟨.none, none, (.fields #[]), #[]⟩
noncomputable def x356_c3 (P : Params) : Obj := ⟨.none, none, (.fields #[]), #[]⟩
noncomputable def x363_c3 (P : Params) : Obj := ⟨.none, none, (.fields #[]), #[]⟩
noncomputable def x370_c3 (P : Params) : Obj := ⟨.none, none, (.fields #[]), #[]⟩
noncomputable def x377_c3 (P : Params) : Obj := ⟨.none, none, (.fields #[]), #[]⟩
noncomputable def x384_c3 (P : Params) : Obj := ⟨.none, none, (.fields #[]), #[]⟩
noncomputable def x391_c3 (P : Params) : Obj := ⟨.none, none, (.fields #[]), #[]⟩
noncomputable def x398_c3 (P : Params) : Obj := ⟨.none, none, (.fields #[]), #[]⟩
noncomputable def x405_c3 (P : Params) : Obj := ⟨.none, none, (.fields #[]), #[]⟩
noncomputable def x412_c3 (P : Params) : Obj := ⟨.none, none, (.fields #[]), #[]⟩
noncomputable def x419_c3 (P : Params) : Obj := ⟨.none, none, (.fields #[]), #[]⟩
noncomputable def x426_c3 (P : Params) : Obj := ⟨.none, none, (.fields #[]), #[]⟩
noncomputable def x12_f (P : Params) : Obj := ⟨.none, none, (.fields (List.toArray ((.int 2 0) :: (.int 0 0) :: (.ref 20) :: (.int 7 0) :: (.int 0 0) :: (.ref 40) :: (.int 15 0) :: (.int 0 0) :: (.ref 59) :: (.int 20 0) :: (.int 0 0) :: (.ref 66) :: (.int 22 0) :: (.int 0 0) :: (.ref 73) :: (.int 24 0) :: (.int 0 0) :: (.ref 80) :: (.int 26 0) :: (.int 0 0) :: (.ref 87) :: (.int 31 0) :: (.int 0 0) :: (.ref 94) :: (.int 35 0) :: (.int 0 0) :: (.ref 101) :: (.int 39 0) :: (.int 0 0) :: (.ref 108) :: (.int 51 0) :: (.int 0 0) :: (.ref 115) :: (.int 64 0) :: (.int 0 0) :: (.ref 122) :: (.int 73 0) :: (.int 0 0) :: (.ref 129) :: (.int 80 0) :: (.int 0 0) :: (.ref 136) :: (.int 90 0) :: (.int 0 0) :: (.ref 143) :: (.int 99 0) :: (.int 0 0) :: (.ref 164) :: (.int 105 0) :: (.int 0 0) :: (.ref 183) :: (.int 112 0) :: (.int 0 0) :: (.ref 202) :: (.int 120 0) :: (.int 0 0) :: (.ref 221) :: (.int 129 0) :: (.int 0 0) :: (.ref 240) :: (.int 134 0) :: (.int 0 0) :: (.ref 262) :: (.int 146 0) :: (.int 0 0) :: (.ref 269) :: (.int 152 0) :: (.int 0 0) :: (.ref 276) :: (.int 161 0) :: (.int 0 0) :: (.ref 283) :: (.int 169 0) :: (.int 0 0) :: (.ref 290) :: (.int 177 0) :: (.int 0 0) :: (.ref 297) :: (.int 179 0) :: (.int 0 0) :: (.ref 304) :: (.int 183 0) :: (.int 0 0) :: (.ref 311) :: (.int 191 0) :: (.int 0 0) :: (.ref 318) :: (.int 197 0) :: (.int 0 0) :: (.ref 325) :: (.int 210 0) :: (.int 0 0) :: (.ref 332) :: (.int 214 0) :: (.int 0 0) :: (.ref 339) :: (.int 216 0) :: (.int 0 0) :: (.ref 346) :: (.int 222 0) :: (.int 0 0) :: (.ref 353) :: (.int 228 0) :: (.int 0 0) :: (.ref 360) :: (.int 233 0) :: (.int 0 0) :: (.ref 367) :: (.int 235 0) :: (.int 0 0) :: (.ref 374) :: (.int 237 0) :: (.int 0 0) :: (.ref 381) :: (.int 239 0) :: (.int 0 0) :: (.ref 388) :: (.int 241 0) :: (.int 0 0) :: (.ref 395) :: (.int 243 0) :: (.int 0 0) :: (.ref 402) :: (.int 245 0) :: (.int 0 0) :: (.ref 409) :: (.int 247 0) :: (.int 0 0) :: (.ref 416) :: (.int 249 0) :: (.int 0 0) :: (.ref 423) :: (.int 263 0) :: (.int 0 0) :: (.ref 430) :: (.int 268 0) :: (.int 0 0) :: (.ref 437) :: (.int 280 0) :: (.int 0 0) :: (.ref 462) :: (.int 284 0) :: (.int 0 0) :: (.ref 469) :: (.int 289 0) :: (.int 0 0) :: (.ref 476) :: (.int 293 0) :: (.int 0 0) :: (.ref 483) :: (.int 298 0) :: (.int 0 0) :: (.ref 490) :: (.int 308 0) :: (.int 0 0) :: (.ref 497) :: (.int 323 0) :: (.int 0 0) :: (.ref 504) :: (.int 327 0) :: (.int 0 0) :: (.ref 509) :: []))), #[]⟩
noncomputable def x432_f (P : Params) : Obj := ⟨(.type "tuple"), none, (.seq #[] 0), #[]⟩
noncomputable def x433_f (P : Params) : Obj := ⟨(.type "builtin_function_or_method"), none, (.fields #[(.builtin "type.__prepare__"), (.type "type")]), #[]⟩
noncomputable def x434_f (P : Params) : Obj := ⟨(.type "dict"), none, (.dict #[⟨(PyData.keyHash P "__module__"), (.str "__module__" 773), (.str "perlcore.limits" 764)⟩, ⟨(PyData.keyHash P "__qualname__"), (.str "__qualname__" 775), (.str "Limits" 774)⟩, ⟨(PyData.keyHash P "__firstlineno__"), (.str "__firstlineno__" 777), (.int 268 776)⟩, ⟨(PyData.keyHash P "__init__"), (.str "__init__" 800), (.ref 446)⟩, ⟨(PyData.keyHash P "__static_attributes__"), (.str "__static_attributes__" 806), (.ref 447)⟩] 5), #[]⟩
noncomputable def x435_f (P : Params) : Obj := ⟨(.type "tuple"), none, (.seq #[] 0), #[]⟩
noncomputable def x436_f (P : Params) : Obj := ⟨.none, none, (.fields #[(.int 270 0), (.int 4 0), (.ref 445)]), #[]⟩
noncomputable def x437_f (P : Params) : Obj := ⟨(.type "code"), none, (.fields #[(.str "Limits" 768), (.str "Limits" 769), (.str "/claim/cut.py" 770), (.int 268 0), (.int 0 0), (.int 0 0), (.int 0 0), (.int 0 0), (.ref 435), (.bool false), (.int 181 0), (.ref 436), .none, .none, .none, .none, (.int 771 0), (.int 268 0), (.str "/claim/cut.py" 772)]), #[]⟩
noncomputable def x438_f (P : Params) : Obj := ⟨(.type "frame"), none, .plain, #[(some (.ref 437)), (some (.ref 3)), (some (.ref 434)), none, (some (.str "perlcore.limits" 764)), none, (some (.ref 0))]⟩
noncomputable def x441_f (P : Params) : Obj := ⟨.none, none, (.fields #[]), #[]⟩
noncomputable def x452_f (P : Params) : Obj := ⟨(.type "super"), none, (.fields #[(.ref 449), (.ref 449), (.ref 449)]), #[]⟩
noncomputable def x453_f (P : Params) : Obj := ⟨(.type "builtin_function_or_method"), none, (.fields #[(.builtin "object.__init_subclass__"), (.ref 449)]), #[]⟩
noncomputable def x458_f (P : Params) : Obj := ⟨.none, none, (.fields #[]), #[]⟩
noncomputable def x465_f (P : Params) : Obj := ⟨.none, none, (.fields #[]), #[]⟩
noncomputable def x472_f (P : Params) : Obj := ⟨.none, none, (.fields #[]), #[]⟩
noncomputable def x479_f (P : Params) : Obj := ⟨.none, none, (.fields #[]), #[]⟩
noncomputable def x486_f (P : Params) : Obj := ⟨.none, none, (.fields #[]), #[]⟩
noncomputable def x493_f (P : Params) : Obj := ⟨.none, none, (.fields #[]), #[]⟩
noncomputable def x500_f (P : Params) : Obj := ⟨.none, none, (.fields #[]), #[]⟩
noncomputable def x507_f (P : Params) : Obj := ⟨.none, none, (.fields #[]), #[]⟩
noncomputable def hp_a (P : Params) : Heap := ⟨⟨((boot_o_0 P) :: (boot_o_1 P) :: (boot_o_2 P) :: (boot_o_3 P) :: (boot_o_4 P) :: (boot_o_5 P) :: (boot_o_6 P) :: (boot_o_7 P) :: (boot_o_8 P) :: (boot_o_9 P) :: (boot_o_10 P) :: (x11_a P) :: (x12_a P) :: (x13_a P) :: (x14_a P) :: [])⟩, ⟨[], [], [], 0, [], [], false, #[], [], 0, false, false, false, 0, [2000, 10, 10], false, 0, true, [], [], 0, false⟩⟩
noncomputable def tr_b (P : Params) : BT := (.node (boot_o_0 P) (.node (boot_o_1 P) (.node (boot_o_3 P) (.node (boot_o_7 P) .nil .nil) (.node (x11_a P) .nil .nil)) (.node (boot_o_5 P) (.node (boot_o_9 P) .nil .nil) (.node (x13_a P) .nil .nil))) (.node (boot_o_2 P) (.node (boot_o_4 P) (.node (boot_o_8 P) .nil .nil) (.node (x12_a P) .nil .nil)) (.node (boot_o_6 P) (.node (boot_o_10 P) .nil .nil) (.node (x14_a P) .nil .nil))))
noncomputable def tr_c0 (P : Params) : BT := (.node (boot_o_0 P) (.node (boot_o_1 P) (.node (x3_c0 P) (.node (boot_o_7 P) (.node (k P 15) (.node (k P 31) (.node (k P 63) (.node (k P 127) .nil .nil) .nil) (.node (k P 95) .nil .nil)) (.node (k P 47) (.node (tm P 81) (.node (x143_c0 P) .nil .nil) .nil) (.node (x111_c0 P) .nil .nil))) (.node (x23_c0 P) (.node (x39_c0 P) (.node (k P 71) (.node (tm P 137) .nil .nil) .nil) (.node (k P 103) .nil .nil)) (.node (x55_c0 P) (.node (k P 87) (.node (k P 151) .nil .nil) .nil) (.node (k P 119) .nil .nil)))) (.node (x11_a P) (.node (x19_c0 P) (.node (k P 35) (.node (k P 67) (.node (k P 131) .nil .nil) .nil) (.node (k P 99) .nil .nil)) (.node (k P 51) (.node (x83_c0 P) (.node (k P 147) .nil .nil) .nil) (.node (k P 115) .nil .nil))) (.node (k P 27) (.node (x43_c0 P) (.node (k P 75) (.node (x139_c0 P) .nil .nil) .nil) (.node (tm P 109) .nil .nil)) (.node (k P 59) (.node (k P 91) (.node (k P 155) .nil .nil) .nil) (.node (k P 123) .nil .nil))))) (.node (boot_o_5 P) (.node (boot_o_9 P) (.node (x17_c0 P) (.node (x33_c0 P) (.node (tm P 67) (.node (k P 129) .nil .nil) .nil) (.node (x97_c0 P) .nil .nil)) (.node (k P 49) (.node (k P 81) (.node (k P 145) .nil .nil) .nil) (.node (k P 113) .nil .nil))) (.node (k P 25) (.node (x41_c0 P) (.node (k P 73) (.node (k P 137) .nil .nil) .nil) (.node (k P 105) .nil .nil)) (.node (k P 57) (.node (k P 89) (.node (k P 153) .nil .nil) .nil) (.node (tm P 123) .nil .nil)))) (.node (x13_a P) (.node (x21_c0 P) (.node (x37_c0 P) (.node (x69_c0 P) (.node (k P 133) .nil .nil) .nil) (.node (k P 101) .nil .nil)) (.node (x53_c0 P) (.node (k P 85) (.node (tm P 151) .nil .nil) .nil) (.node (k P 117) .nil .nil))) (.node (k P 29) (.node (k P 45) (.node (k P 77) (.node (x141_c0 P) .nil .nil) .nil) (.node (k P 109) .nil .nil)) (.node (k P 61) (.node (tm P 95) (.node (x157_c0 P) .nil .nil) .nil) (.node (x125_c0 P) .nil .nil)))))) (.node (k P 2) (.node (boot_o_4 P) (.node (boot_o_8 P) (.node (x16_c0 P) (.node (k P 32) (.node (k P 64) (.node (tm P 130) .nil .nil) .nil) (.node (k P 96) .nil .nil)) (.node (k P 48) (.node (k P 80) (.node (x144_c0 P) .nil .nil) .nil) (.node (k P 112) .nil .nil))) (.node (k P 24) (.node (x40_c0 P) (.node (tm P 74) (.node (k P 136) .nil .nil) .nil) (.node (x104_c0 P) .nil .nil)) (.node (k P 56) (.node (k P 88) (.node (k P 152) .nil .nil) .nil) (.node (k P 120) .nil .nil)))) (.node (x12_c0 P) (.node (x20_c0 P) (.node (x36_c0 P) (.node (k P 68) (.node (x132_c0 P) .nil .nil) .nil) (.node (tm P 102) .nil .nil)) (.node (x52_c0 P) (.node (k P 84) (.node (k P 148) .nil .nil) .nil) (.node (k P 116) .nil .nil))) (.node (k P 28) (.node (k P 44) (.node (x76_c0 P) (.node (x140_c0 P) .nil .nil) .nil) (.node (k P 108) .nil .nil)) (.node (k P 60) (.node (k P 92) (.node (k P 156) .nil .nil) .nil) (.node (k P 124) .nil .nil))))) (.node (boot_o_6 P) (.node (boot_o_10 P) (.node (x18_c0 P) (.node (x34_c0 P) (.node (k P 66) (.node (k P 130) .nil .nil) .nil) (.node (k P 98) .nil .nil)) (.node (k P 50) (.node (k P 82) (.node (x146_c0 P) .nil .nil) .nil) (.node (tm P 116) .nil .nil))) (.node (tm P 28) (.node (k P 42) (.node (k P 74) (.node (x138_c0 P) .nil .nil) .nil) (.node (k P 106) .nil .nil)) (.node (tm P 60) (.node (x90_c0 P) (.node (x154_c0 P) .nil .nil) .nil) (.node (k P 122) .nil .nil)))) (.node (x14_a P) (.node (k P 22) (.node (x38_c0 P) (.node (k P 70) (.node (k P 134) .nil .nil) .nil) (.node (k P 102) .nil .nil)) (.node (k P 54) (.node (tm P 88) (.node (k P 150) .nil .nil) .nil) (.node (x118_c0 P) .nil .nil))) (.node (k P 30) (.node (tm P 48) (.node (k P 78) (.node (x142_c0 P) .nil .nil) .nil) (.node (k P 110) .nil .nil)) (.node (x62_c0 P) (.node (k P 94) (.node (x158_c0 P) .nil .nil) .nil) (.node (k P 126) .nil .nil)))))))
noncomputable def tr_c1 (P : Params) : BT := (.node (boot_o_0 P) (.node (boot_o_1 P) (.node (x3_c1 P) (.node (boot_o_7 P) (.node (k P 15) (.node (k P 31) (.node (k P 63) (.node (k P 127) .nil .nil) (.node (k P 191) .nil .nil)) (.node (k P 95) (.node (k P 159) .nil .nil) (.node (k P 223) .nil .nil))) (.node (k P 47) (.node (tm P 81) (.node (x143_c0 P) .nil .nil) (.node (k P 207) .nil .nil)) (.node (x111_c0 P) (.node (k P 175) .nil .nil) .nil))) (.node (x23_c0 P) (.node (x39_c0 P) (.node (k P 71) (.node (tm P 137) .nil .nil) (.node (x199_c1 P) .nil .nil)) (.node (k P 103) (.node (x167_c1 P) .nil .nil) (.node (k P 231) .nil .nil))) (.node (x55_c0 P) (.node (k P 87) (.node (k P 151) .nil .nil) (.node (x215_c1 P) .nil .nil)) (.node (k P 119) (.node (x183_c1 P) .nil .nil) .nil)))) (.node (x11_a P) (.node (x19_c0 P) (.node (k P 35) (.node (k P 67) (.node (k P 131) .nil .nil) (.node (x195_c1 P) .nil .nil)) (.node (k P 99) (.node (x163_c1 P) .nil .nil) (.node (tm P 229) .nil .nil))) (.node (k P 51) (.node (x83_c0 P) (.node (k P 147) .nil .nil) (.node (k P 211) .nil .nil)) (.node (k P 115) (.node (x179_c1 P) .nil .nil) .nil))) (.node (k P 27) (.node (x43_c0 P) (.node (k P 75) (.node (x139_c0 P) .nil .nil) (.node (x203_c1 P) .nil .nil)) (.node (tm P 109) (.node (k P 171) .nil .nil) .nil)) (.node (k P 59) (.node (k P 91) (.node (k P 155) .nil .nil) (.node (x219_c1 P) .nil .nil)) (.node (k P 123) (.node (k P 187) .nil .nil) .nil))))) (.node (boot_o_5 P) (.node (boot_o_9 P) (.node (x17_c0 P) (.node (x33_c0 P) (.node (tm P 67) (.node (k P 129) .nil .nil) (.node (k P 193) .nil .nil)) (.node (x97_c0 P) (.node (x161_c1 P) .nil .nil) (.node (k P 225) .nil .nil))) (.node (k P 49) (.node (k P 81) (.node (k P 145) .nil .nil) (.node (k P 209) .nil .nil)) (.node (k P 113) (.node (x177_c1 P) .nil .nil) .nil))) (.node (k P 25) (.node (x41_c0 P) (.node (k P 73) (.node (k P 137) .nil .nil) (.node (x201_c1 P) .nil .nil)) (.node (k P 105) (.node (k P 169) .nil .nil) (.node (x233_c1 P) .nil .nil))) (.node (k P 57) (.node (k P 89) (.node (k P 153) .nil .nil) (.node (x217_c1 P) .nil .nil)) (.node (tm P 123) (.node (k P 185) .nil .nil) .nil)))) (.node (x13_a P) (.node (x21_c0 P) (.node (x37_c0 P) (.node (x69_c0 P) (.node (k P 133) .nil .nil) (.node (k P 197) .nil .nil)) (.node (k P 101) (.node (x165_c1 P) .nil .nil) (.node (k P 229) .nil .nil))) (.node (x53_c0 P) (.node (k P 85) (.node (tm P 151) .nil .nil) (.node (k P 213) .nil .nil)) (.node (k P 117) (.node (x181_c1 P) .nil .nil) .nil))) (.node (k P 29) (.node (k P 45) (.node (k P 77) (.node (x141_c0 P) .nil .nil) (.node (x205_c1 P) .nil .nil)) (.node (k P 109) (.node (k P 173) .nil .nil) .nil)) (.node (k P 61) (.node (tm P 95) (.node (x157_c0 P) .nil .nil) (.node (x221_c1 P) .nil .nil)) (.node (x125_c0 P) (.node (tm P 191) .nil .nil) .nil)))))) (.node (k P 2) (.node (boot_o_4 P) (.node (boot_o_8 P) (.node (x16_c0 P) (.node (k P 32) (.node (k P 64) (.node (tm P 130) .nil .nil) (.node (k P 192) .nil .nil)) (.node (k P 96) (.node (x160_c1 P) .nil .nil) (.node (x224_c1 P) .nil .nil))) (.node (k P 48) (.node (k P 80) (.node (x144_c0 P) .nil .nil) (.node (tm P 210) .nil .nil)) (.node (k P 112) (.node (x176_c1 P) .nil .nil) .nil))) (.node (k P 24) (.node (x40_c0 P) (.node (tm P 74) (.node (k P 136) .nil .nil) (.node (x200_c1 P) .nil .nil)) (.node (x104_c0 P) (.node (k P 168) .nil .nil) (.node (k P 232) .nil .nil))) (.node (k P 56) (.node (k P 88) (.node (k P 152) .nil .nil) (.node (k P 216) .nil .nil)) (.node (k P 120) (.node (x184_c1 P) .nil .nil) .nil)))) (.node (x12_c1 P) (.node (x20_c0 P) (.node (x36_c0 P) (.node (k P 68) (.node (x132_c0 P) .nil .nil) (.node (x196_c1 P) .nil .nil)) (.node (tm P 102) (.node (x164_c1 P) .nil .nil) (.node (k P 228) .nil .nil))) (.node (x52_c0 P) (.node (k P 84) (.node (k P 148) .nil .nil) (.node (k P 212) .nil .nil)) (.node (k P 116) (.node (x180_c1 P) .nil .nil) .nil))) (.node (k P 28) (.node (k P 44) (.node (x76_c0 P) (.node (x140_c0 P) .nil .nil) (.node (k P 204) .nil .nil)) (.node (k P 108) (.node (k P 172) .nil .nil) .nil)) (.node (k P 60) (.node (k P 92) (.node (k P 156) .nil .nil) (.node (x220_c1 P) .nil .nil)) (.node (k P 124) (.node (k P 188) .nil .nil) .nil))))) (.node (boot_o_6 P) (.node (boot_o_10 P) (.node (x18_c0 P) (.node (x34_c0 P) (.node (k P 66) (.node (k P 130) .nil .nil) (.node (k P 194) .nil .nil)) (.node (k P 98) (.node (x162_c1 P) .nil .nil) (.node (k P 226) .nil .nil))) (.node (k P 50) (.node (k P 82) (.node (x146_c0 P) .nil .nil) (.node (k P 210) .nil .nil)) (.node (tm P 116) (.node (k P 178) .nil .nil) .nil))) (.node (tm P 28) (.node (k P 42) (.node (k P 74) (.node (x138_c0 P) .nil .nil) (.node (x202_c1 P) .nil .nil)) (.node (k P 106) (.node (tm P 172) .nil .nil) (.node (x234_c1 P) .nil .nil))) (.node (tm P 60) (.node (x90_c0 P) (.node (k P 154) .nil .nil) (.node (x218_c1 P) .nil .nil)) (.node (k P 122) (.node (x186_c1 P) .nil .nil) .nil)))) (.node (x14_a P) (.node (k P 22) (.node (x38_c0 P) (.node (k P 70) (.node (k P 134) .nil .nil) (.node (x198_c1 P) .nil .nil)) (.node (k P 102) (.node (k P 166) .nil .nil) (.node (k P 230) .nil .nil))) (.node (k P 54) (.node (tm P 88) (.node (k P 150) .nil .nil) (.node (x214_c1 P) .nil .nil)) (.node (x118_c0 P) (.node (x182_c1 P) .nil .nil) .nil))) (.node (k P 30) (.node (tm P 48) (.node (k P 78) (.node (x142_c0 P) .nil .nil) (.node (k P 206) .nil .nil)) (.node (k P 110) (.node (k P 174) .nil .nil) .nil)) (.node (x62_c0 P) (.node (k P 94) (.node (x158_c0 P) .nil .nil) (.node (x222_c1 P) .nil .nil)) (.node (k P 126) (.node (k P 190) .nil .nil) .nil)))))))
noncomputable def tr_c2 (P : Params) : BT := (.node (boot_o_0 P) (.node (boot_o_1 P) (.node (x3_c2 P) (.node (boot_o_7 P) (.node (k P 15) (.node (k P 31) (.node (k P 63) (.node (k P 127) (.node (x255_c2 P) .nil .nil) .nil) (.node (k P 191) (.node (k P 319) .nil .nil) .nil)) (.node (k P 95) (.node (k P 159) (.node (k P 287) .nil .nil) .nil) (.node (k P 223) .nil .nil))) (.node (k P 47) (.node (tm P 81) (.node (x143_c0 P) (.node (k P 271) .nil .nil) .nil) (.node (k P 207) .nil .nil)) (.node (x111_c0 P) (.node (k P 175) (.node (tm P 305) .nil .nil) .nil) (.node (x239_c2 P) .nil .nil)))) (.node (x23_c0 P) (.node (x39_c0 P) (.node (k P 71) (.node (tm P 137) (.node (k P 263) .nil .nil) .nil) (.node (x199_c1 P) .nil .nil)) (.node (k P 103) (.node (x167_c1 P) (.node (k P 295) .nil .nil) .nil) (.node (k P 231) .nil .nil))) (.node (x55_c0 P) (.node (k P 87) (.node (k P 151) (.node (x279_c2 P) .nil .nil) .nil) (.node (x215_c1 P) .nil .nil)) (.node (k P 119) (.node (x183_c1 P) (.node (k P 311) .nil .nil) .nil) (.node (tm P 249) .nil .nil))))) (.node (x11_a P) (.node (x19_c0 P) (.node (k P 35) (.node (k P 67) (.node (k P 131) (.node (k P 259) .nil .nil) .nil) (.node (x195_c1 P) (.node (k P 323) .nil .nil) .nil)) (.node (k P 99) (.node (x163_c1 P) (.node (k P 291) .nil .nil) .nil) (.node (tm P 229) .nil .nil))) (.node (k P 51) (.node (x83_c0 P) (.node (k P 147) (.node (tm P 277) .nil .nil) .nil) (.node (k P 211) .nil .nil)) (.node (k P 115) (.node (x179_c1 P) (.node (x307_c2 P) .nil .nil) .nil) (.node (k P 243) .nil .nil)))) (.node (k P 27) (.node (x43_c0 P) (.node (k P 75) (.node (x139_c0 P) (.node (k P 267) .nil .nil) .nil) (.node (x203_c1 P) .nil .nil)) (.node (tm P 109) (.node (k P 171) (.node (k P 299) .nil .nil) .nil) (.node (x235_c2 P) .nil .nil))) (.node (k P 59) (.node (k P 91) (.node (k P 155) (.node (k P 283) .nil .nil) .nil) (.node (x219_c1 P) .nil .nil)) (.node (k P 123) (.node (k P 187) (.node (k P 315) .nil .nil) .nil) (.node (k P 251) .nil .nil)))))) (.node (boot_o_5 P) (.node (boot_o_9 P) (.node (x17_c0 P) (.node (x33_c0 P) (.node (tm P 67) (.node (k P 129) (.node (k P 257) .nil .nil) .nil) (.node (k P 193) (.node (x321_c2 P) .nil .nil) .nil)) (.node (x97_c0 P) (.node (x161_c1 P) (.node (tm P 291) .nil .nil) .nil) (.node (k P 225) .nil .nil))) (.node (k P 49) (.node (k P 81) (.node (k P 145) (.node (k P 273) .nil .nil) .nil) (.node (k P 209) .nil .nil)) (.node (k P 113) (.node (x177_c1 P) (.node (k P 305) .nil .nil) .nil) (.node (x241_c2 P) .nil .nil)))) (.node (k P 25) (.node (x41_c0 P) (.node (k P 73) (.node (k P 137) (.node (x265_c2 P) .nil .nil) .nil) (.node (x201_c1 P) .nil .nil)) (.node (k P 105) (.node (k P 169) (.node (k P 297) .nil .nil) .nil) (.node (x233_c1 P) .nil .nil))) (.node (k P 57) (.node (k P 89) (.node (k P 153) (.node (k P 281) .nil .nil) .nil) (.node (x217_c1 P) .nil .nil)) (.node (tm P 123) (.node (k P 185) (.node (k P 313) .nil .nil) .nil) (.node (k P 249) .nil .nil))))) (.node (x13_a P) (.node (x21_c0 P) (.node (x37_c0 P) (.node (x69_c0 P) (.node (k P 133) (.node (tm P 263) .nil .nil) .nil) (.node (k P 197) (.node (k P 325) .nil .nil) .nil)) (.node (k P 101) (.node (x165_c1 P) (.node (x293_c2 P) .nil .nil) .nil) (.node (k P 229) .nil .nil))) (.node (x53_c0 P) (.node (k P 85) (.node (tm P 151) (.node (k P 277) .nil .nil) .nil) (.node (k P 213) .nil .nil)) (.node (k P 117) (.node (x181_c1 P) (.node (k P 309) .nil .nil) .nil) (.node (k P 245) .nil .nil)))) (.node (k P 29) (.node (k P 45) (.node (k P 77) (.node (x141_c0 P) (.node (k P 269) .nil .nil) .nil) (.node (x205_c1 P) .nil .nil)) (.node (k P 109) (.node (k P 173) (.node (k P 301) .nil .nil) .nil) (.node (x237_c2 P) .nil .nil))) (.node (k P 61) (.node (tm P 95) (.node (x157_c0 P) (.node (k P 285) .nil .nil) .nil) (.node (x221_c1 P) .nil .nil)) (.node (x125_c0 P) (.node (tm P 191) (.node (tm P 319) .nil .nil) .nil) (.node (k P 253) .nil .nil))))))) (.node (k P 2) (.node (boot_o_4 P) (.node (boot_o_8 P) (.node (x16_c0 P) (.node (k P 32) (.node (k P 64) (.node (tm P 130) (.node (x256_c2 P) .nil .nil) .nil) (.node (k P 192) (.node (k P 320) .nil .nil) .nil)) (.node (k P 96) (.node (x160_c1 P) (.node (k P 288) .nil .nil) .nil) (.node (x224_c1 P) .nil .nil))) (.node (k P 48) (.node (k P 80) (.node (x144_c0 P) (.node (x272_c2 P) .nil .nil) .nil) (.node (tm P 210) .nil .nil)) (.node (k P 112) (.node (x176_c1 P) (.node (k P 304) .nil .nil) .nil) (.node (x240_c2 P) .nil .nil)))) (.node (k P 24) (.node (x40_c0 P) (.node (tm P 74) (.node (k P 136) (.node (k P 264) .nil .nil) .nil) (.node (x200_c1 P) .nil .nil)) (.node (x104_c0 P) (.node (k P 168) (.node (tm P 298) .nil .nil) .nil) (.node (k P 232) .nil .nil))) (.node (k P 56) (.node (k P 88) (.node (k P 152) (.node (k P 280) .nil .nil) .nil) (.node (k P 216) .nil .nil)) (.node (k P 120) (.node (x184_c1 P) (.node (k P 312) .nil .nil) .nil) (.node (k P 248) .nil .nil))))) (.node (x12_c2 P) (.node (x20_c0 P) (.node (x36_c0 P) (.node (k P 68) (.node (x132_c0 P) (.node (k P 260) .nil .nil) .nil) (.node (x196_c1 P) (.node (tm P 326) .nil .nil) .nil)) (.node (tm P 102) (.node (x164_c1 P) (.node (k P 292) .nil .nil) .nil) (.node (k P 228) .nil .nil))) (.node (x52_c0 P) (.node (k P 84) (.node (k P 148) (.node (k P 276) .nil .nil) .nil) (.node (k P 212) .nil .nil)) (.node (k P 116) (.node (x180_c1 P) (.node (k P 308) .nil .nil) .nil) (.node (x244_c2 P) .nil .nil)))) (.node (k P 28) (.node (k P 44) (.node (x76_c0 P) (.node (x140_c0 P) (.node (tm P 270) .nil .nil) .nil) (.node (k P 204) .nil .nil)) (.node (k P 108) (.node (k P 172) (.node (x300_c2 P) .nil .nil) .nil) (.node (x236_c2 P) .nil .nil))) (.node (k P 60) (.node (k P 92) (.node (k P 156) (.node (k P 284) .nil .nil) .nil) (.node (x220_c1 P) .nil .nil)) (.node (k P 124) (.node (k P 188) (.node (k P 316) .nil .nil) .nil) (.node (k P 252) .nil .nil)))))) (.node (boot_o_6 P) (.node (boot_o_10 P) (.node (x18_c0 P) (.node (x34_c0 P) (.node (k P 66) (.node (k P 130) (.node (x258_c2 P) .nil .nil) .nil) (.node (k P 194) (.node (k P 322) .nil .nil) .nil)) (.node (k P 98) (.node (x162_c1 P) (.node (k P 290) .nil .nil) .nil) (.node (k P 226) .nil .nil))) (.node (k P 50) (.node (k P 82) (.node (x146_c0 P) (.node (k P 274) .nil .nil) .nil) (.node (k P 210) .nil .nil)) (.node (tm P 116) (.node (k P 178) (.node (k P 306) .nil .nil) .nil) (.node (k P 242) .nil .nil)))) (.node (tm P 28) (.node (k P 42) (.node (k P 74) (.node (x138_c0 P) (.node (k P 266) .nil .nil) .nil) (.node (x202_c1 P) .nil .nil)) (.node (k P 106) (.node (tm P 172) (.node (k P 298) .nil .nil) .nil) (.node (x234_c1 P) .nil .nil))) (.node (tm P 60) (.node (x90_c0 P) (.node (k P 154) (.node (tm P 284) .nil .nil) .nil) (.node (x218_c1 P) .nil .nil)) (.node (k P 122) (.node (x186_c1 P) (.node (x314_c2 P) .nil .nil) .nil) (.node (k P 250) .nil .nil))))) (.node (x14_a P) (.node (k P 22) (.node (x38_c0 P) (.node (k P 70) (.node (k P 134) (.node (k P 262) .nil .nil) .nil) (.node (x198_c1 P) (.node (k P 326) .nil .nil) .nil)) (.node (k P 102) (.node (k P 166) (.node (k P 294) .nil .nil) .nil) (.node (k P 230) .nil .nil))) (.node (k P 54) (.node (tm P 88) (.node (k P 150) (.node (k P 278) .nil .nil) .nil) (.node (x214_c1 P) .nil .nil)) (.node (x118_c0 P) (.node (x182_c1 P) (.node (tm P 312) .nil .nil) .nil) (.node (k P 246) .nil .nil)))) (.node (k P 30) (.node (tm P 48) (.node (k P 78) (.node (x142_c0 P) (.node (k P 270) .nil .nil) .nil) (.node (k P 206) .nil .nil)) (.node (k P 110) (.node (k P 174) (.node (k P 302) .nil .nil) .nil) (.node (x238_c2 P) .nil .nil))) (.node (x62_c0 P) (.node (k P 94) (.node (x158_c0 P) (.node (x286_c2 P) .nil .nil) .nil) (.node (x222_c1 P) .nil .nil)) (.node (k P 126) (.node (k P 190) (.node (k P 318) .nil .nil) .nil) (.node (k P 254) .nil .nil))))))))
noncomputable def tr_c3 (P : Params) : BT := (.node (boot_o_0 P) (.node (boot_o_1 P) (.node (x3_c3 P) (.node (boot_o_7 P) (.node (k P 15) (.node (k P 31) (.node (k P 63) (.node (k P 127) (.node (x255_c2 P) .nil .nil) (.node (k P 383) .nil .nil)) (.node (k P 191) (.node (k P 319) .nil .nil) .nil)) (.node (k P 95) (.node (k P 159) (.node (k P 287) .nil .nil) (.node (tm P 417) .nil .nil)) (.node (k P 223) (.node (k P 351) .nil .nil) .nil))) (.node (k P 47) (.node (tm P 81) (.node (x143_c0 P) (.node (k P 271) .nil .nil) (.node (k P 399) .nil .nil)) (.node (k P 207) (.node (x335_c3 P) .nil .nil) .nil)) (.node (x111_c0 P) (.node (k P 175) (.node (tm P 305) .nil .nil) (.node (k P 431) .nil .nil)) (.node (x239_c2 P) (.node (k P 367) .nil .nil) .nil)))) (.node (x23_c0 P) (.node (x39_c0 P) (.node (k P 71) (.node (tm P 137) (.node (k P 263) .nil .nil) (.node (x391_c3 P) .nil .nil)) (.node (x199_c1 P) (.node (k P 327) .nil .nil) .nil)) (.node (k P 103) (.node (x167_c1 P) (.node (k P 295) .nil .nil) (.node (k P 423) .nil .nil)) (.node (k P 231) (.node (tm P 361) .nil .nil) .nil))) (.node (x55_c0 P) (.node (k P 87) (.node (k P 151) (.node (x279_c2 P) .nil .nil) (.node (k P 407) .nil .nil)) (.node (x215_c1 P) (.node (k P 343) .nil .nil) .nil)) (.node (k P 119) (.node (x183_c1 P) (.node (k P 311) .nil .nil) .nil) (.node (tm P 249) (.node (k P 375) .nil .nil) .nil))))) (.node (x11_a P) (.node (x19_c0 P) (.node (k P 35) (.node (k P 67) (.node (k P 131) (.node (k P 259) .nil .nil) (.node (tm P 389) .nil .nil)) (.node (x195_c1 P) (.node (k P 323) .nil .nil) .nil)) (.node (k P 99) (.node (x163_c1 P) (.node (k P 291) .nil .nil) (.node (x419_c3 P) .nil .nil)) (.node (tm P 229) (.node (k P 355) .nil .nil) .nil))) (.node (k P 51) (.node (x83_c0 P) (.node (k P 147) (.node (tm P 277) .nil .nil) (.node (k P 403) .nil .nil)) (.node (k P 211) (.node (k P 339) .nil .nil) .nil)) (.node (k P 115) (.node (x179_c1 P) (.node (x307_c2 P) .nil .nil) .nil) (.node (k P 243) (.node (k P 371) .nil .nil) .nil)))) (.node (k P 27) (.node (x43_c0 P) (.node (k P 75) (.node (x139_c0 P) (.node (k P 267) .nil .nil) (.node (k P 395) .nil .nil)) (.node (x203_c1 P) (.node (tm P 333) .nil .nil) .nil)) (.node (tm P 109) (.node (k P 171) (.node (k P 299) .nil .nil) (.node (k P 427) .nil .nil)) (.node (x235_c2 P) (.node (x363_c3 P) .nil .nil) .nil))) (.node (k P 59) (.node (k P 91) (.node (k P 155) (.node (k P 283) .nil .nil) (.node (k P 411) .nil .nil)) (.node (x219_c1 P) (.node (k P 347) .nil .nil) .nil)) (.node (k P 123) (.node (k P 187) (.node (k P 315) .nil .nil) .nil) (.node (k P 251) (.node (k P 379) .nil .nil) .nil)))))) (.node (boot_o_5 P) (.node (boot_o_9 P) (.node (x17_c0 P) (.node (x33_c0 P) (.node (tm P 67) (.node (k P 129) (.node (k P 257) .nil .nil) (.node (k P 385) .nil .nil)) (.node (k P 193) (.node (x321_c2 P) .nil .nil) .nil)) (.node (x97_c0 P) (.node (x161_c1 P) (.node (tm P 291) .nil .nil) (.node (k P 417) .nil .nil)) (.node (k P 225) (.node (k P 353) .nil .nil) .nil))) (.node (k P 49) (.node (k P 81) (.node (k P 145) (.node (k P 273) .nil .nil) (.node (tm P 403) .nil .nil)) (.node (k P 209) (.node (k P 337) .nil .nil) .nil)) (.node (k P 113) (.node (x177_c1 P) (.node (k P 305) .nil .nil) .nil) (.node (x241_c2 P) (.node (k P 369) .nil .nil) .nil)))) (.node (k P 25) (.node (x41_c0 P) (.node (k P 73) (.node (k P 137) (.node (x265_c2 P) .nil .nil) (.node (k P 393) .nil .nil)) (.node (x201_c1 P) (.node (k P 329) .nil .nil) .nil)) (.node (k P 105) (.node (k P 169) (.node (k P 297) .nil .nil) (.node (k P 425) .nil .nil)) (.node (x233_c1 P) (.node (k P 361) .nil .nil) .nil))) (.node (k P 57) (.node (k P 89) (.node (k P 153) (.node (k P 281) .nil .nil) (.node (k P 409) .nil .nil)) (.node (x217_c1 P) (.node (tm P 347) .nil .nil) .nil)) (.node (tm P 123) (.node (k P 185) (.node (k P 313) .nil .nil) .nil) (.node (k P 249) (.node (x377_c3 P) .nil .nil) .nil))))) (.node (x13_a P) (.node (x21_c0 P) (.node (x37_c0 P) (.node (x69_c0 P) (.node (k P 133) (.node (tm P 263) .nil .nil) (.node (k P 389) .nil .nil)) (.node (k P 197) (.node (k P 325) .nil .nil) .nil)) (.node (k P 101) (.node (x165_c1 P) (.node (x293_c2 P) .nil .nil) (.node (k P 421) .nil .nil)) (.node (k P 229) (.node (k P 357) .nil .nil) .nil))) (.node (x53_c0 P) (.node (k P 85) (.node (tm P 151) (.node (k P 277) .nil .nil) (.node (x405_c3 P) .nil .nil)) (.node (k P 213) (.node (k P 341) .nil .nil) .nil)) (.node (k P 117) (.node (x181_c1 P) (.node (k P 309) .nil .nil) .nil) (.node (k P 245) (.node (tm P 375) .nil .nil) .nil)))) (.node (k P 29) (.node (k P 45) (.node (k P 77) (.node (x141_c0 P) (.node (k P 269) .nil .nil) (.node (k P 397) .nil .nil)) (.node (x205_c1 P) (.node (k P 333) .nil .nil) .nil)) (.node (k P 109) (.node (k P 173) (.node (k P 301) .nil .nil) (.node (tm P 431) .nil .nil)) (.node (x237_c2 P) (.node (k P 365) .nil .nil) .nil))) (.node (k P 61) (.node (tm P 95) (.node (x157_c0 P) (.node (k P 285) .nil .nil) (.node (k P 413) .nil .nil)) (.node (x221_c1 P) (.node (x349_c3 P) .nil .nil) .nil)) (.node (x125_c0 P) (.node (tm P 191) (.node (tm P 319) .nil .nil) .nil) (.node (k P 253) (.node (k P 381) .nil .nil) .nil))))))) (.node (k P 2) (.node (boot_o_4 P) (.node (boot_o_8 P) (.node (x16_c0 P) (.node (k P 32) (.node (k P 64) (.node (tm P 130) (.node (x256_c2 P) .nil .nil) (.node (x384_c3 P) .nil .nil)) (.node (k P 192) (.node (k P 320) .nil .nil) .nil)) (.node (k P 96) (.node (x160_c1 P) (.node (k P 288) .nil .nil) (.node (k P 416) .nil .nil)) (.node (x224_c1 P) (.node (tm P 354) .nil .nil) .nil))) (.node (k P 48) (.node (k P 80) (.node (x144_c0 P) (.node (x272_c2 P) .nil .nil) (.node (k P 400) .nil .nil)) (.node (tm P 210) (.node (k P 336) .nil .nil) .nil)) (.node (k P 112) (.node (x176_c1 P) (.node (k P 304) .nil .nil) .nil) (.node (x240_c2 P) (.node (k P 368) .nil .nil) .nil)))) (.node (k P 24) (.node (x40_c0 P) (.node (tm P 74) (.node (k P 136) (.node (k P 264) .nil .nil) (.node (k P 392) .nil .nil)) (.node (x200_c1 P) (.node (x328_c3 P) .nil .nil) .nil)) (.node (x104_c0 P) (.node (k P 168) (.node (tm P 298) .nil .nil) (.node (k P 424) .nil .nil)) (.node (k P 232) (.node (k P 360) .nil .nil) .nil))) (.node (k P 56) (.node (k P 88) (.node (k P 152) (.node (k P 280) .nil .nil) (.node (tm P 410) .nil .nil)) (.node (k P 216) (.node (k P 344) .nil .nil) .nil)) (.node (k P 120) (.node (x184_c1 P) (.node (k P 312) .nil .nil) .nil) (.node (k P 248) (.node (k P 376) .nil .nil) .nil))))) (.node (x12_c3 P) (.node (x20_c0 P) (.node (x36_c0 P) (.node (k P 68) (.node (x132_c0 P) (.node (k P 260) .nil .nil) (.node (k P 388) .nil .nil)) (.node (x196_c1 P) (.node (tm P 326) .nil .nil) .nil)) (.node (tm P 102) (.node (x164_c1 P) (.node (k P 292) .nil .nil) (.node (k P 420) .nil .nil)) (.node (k P 228) (.node (x356_c3 P) .nil .nil) .nil))) (.node (x52_c0 P) (.node (k P 84) (.node (k P 148) (.node (k P 276) .nil .nil) (.node (k P 404) .nil .nil)) (.node (k P 212) (.node (k P 340) .nil .nil) .nil)) (.node (k P 116) (.node (x180_c1 P) (.node (k P 308) .nil .nil) .nil) (.node (x244_c2 P) (.node (k P 372) .nil .nil) .nil)))) (.node (k P 28) (.node (k P 44) (.node (x76_c0 P) (.node (x140_c0 P) (.node (tm P 270) .nil .nil) (.node (k P 396) .nil .nil)) (.node (k P 204) (.node (k P 332) .nil .nil) .nil)) (.node (k P 108) (.node (k P 172) (.node (x300_c2 P) .nil .nil) (.node (k P 428) .nil .nil)) (.node (x236_c2 P) (.node (k P 364) .nil .nil) .nil))) (.node (k P 60) (.node (k P 92) (.node (k P 156) (.node (k P 284) .nil .nil) (.node (x412_c3 P) .nil .nil)) (.node (x220_c1 P) (.node (k P 348) .nil .nil) .nil)) (.node (k P 124) (.node (k P 188) (.node (k P 316) .nil .nil) .nil) (.node (k P 252) (.node (tm P 382) .nil .nil) .nil)))))) (.node (boot_o_6 P) (.node (boot_o_10 P) (.node (x18_c0 P) (.node (x34_c0 P) (.node (k P 66) (.node (k P 130) (.node (x258_c2 P) .nil .nil) (.node (k P 386) .nil .nil)) (.node (k P 194) (.node (k P 322) .nil .nil) .nil)) (.node (k P 98) (.node (x162_c1 P) (.node (k P 290) .nil .nil) (.node (k P 418) .nil .nil)) (.node (k P 226) (.node (k P 354) .nil .nil) .nil))) (.node (k P 50) (.node (k P 82) (.node (x146_c0 P) (.node (k P 274) .nil .nil) (.node (k P 402) .nil .nil)) (.node (k P 210) (.node (tm P 340) .nil .nil) .nil)) (.node (tm P 116) (.node (k P 178) (.node (k P 306) .nil .nil) .nil) (.node (k P 242) (.node (x370_c3 P) .nil .nil) .nil)))) (.node (tm P 28) (.node (k P 42) (.node (k P 74) (.node (x138_c0 P) (.node (k P 266) .nil .nil) (.node (tm P 396) .nil .nil)) (.node (x202_c1 P) (.node (k P 330) .nil .nil) .nil)) (.node (k P 106) (.node (tm P 172) (.node (k P 298) .nil .nil) (.node (x426_c3 P) .nil .nil)) (.node (x234_c1 P) (.node (k P 362) .nil .nil) .nil))) (.node (tm P 60) (.node (x90_c0 P) (.node (k P 154) (.node (tm P 284) .nil .nil) (.node (k P 410) .nil .nil)) (.node (x218_c1 P) (.node (k P 346) .nil .nil) .nil)) (.node (k P 122) (.node (x186_c1 P) (.node (x314_c2 P) .nil .nil) .nil) (.node (k P 250) (.node (k P 378) .nil .nil) .nil))))) (.node (x14_a P) (.node (k P 22) (.node (x38_c0 P) (.node (k P 70) (.node (k P 134) (.node (k P 262) .nil .nil) (.node (k P 390) .nil .nil)) (.node (x198_c1 P) (.node (k P 326) .nil .nil) .nil)) (.node (k P 102) (.node (k P 166) (.node (k P 294) .nil .nil) (.node (tm P 424) .nil .nil)) (.node (k P 230) (.node (k P 358) .nil .nil) .nil))) (.node (k P 54) (.node (tm P 88) (.node (k P 150) (.node (k P 278) .nil .nil) (.node (k P 406) .nil .nil)) (.node (x214_c1 P) (.node (x342_c3 P) .nil .nil) .nil)) (.node (x118_c0 P) (.node (x182_c1 P) (.node (tm P 312) .nil .nil) .nil) (.node (k P 246) (.node (k P 374) .nil .nil) .nil)))) (.node (k P 30) (.node (tm P 48) (.node (k P 78) (.node (x142_c0 P) (.node (k P 270) .nil .nil) (.node (x398_c3 P) .nil .nil)) (.node (k P 206) (.node (k P 334) .nil .nil) .nil)) (.node (k P 110) (.node (k P 174) (.node (k P 302) .nil .nil) (.node (k P 430) .nil .nil)) (.node (x238_c2 P) (.node (tm P 368) .nil .nil) .nil))) (.node (x62_c0 P) (.node (k P 94) (.node (x158_c0 P) (.node (x286_c2 P) .nil .nil) (.node (k P 414) .nil .nil)) (.node (x222_c1 P) (.node (k P 350) .nil .nil) .nil)) (.node (k P 126) (.node (k P 190) (.node (k P 318) .nil .nil) .nil) (.node (k P 254) (.node (k P 382) .nil .nil) .nil))))))))
noncomputable def hp_f (P : Params) : Heap := ⟨⟨((boot_o_0 P) :: (boot_o_1 P) :: (k P 2) :: (k P 3) :: (boot_o_4 P) :: (boot_o_5 P) :: (boot_o_6 P) :: (boot_o_7 P) :: (boot_o_8 P) :: (boot_o_9 P) :: (boot_o_10 P) :: (x11_a P) :: (x12_f P) :: (x13_a P) :: (x14_a P) :: (k P 15) :: (x16_c0 P) :: (x17_c0 P) :: (x18_c0 P) :: (x19_c0 P) :: (x20_c0 P) :: (x21_c0 P) :: (k P 22) :: (x23_c0 P) :: (k P 24) :: (k P 25) :: (tm P 28) :: (k P 27) :: (k P 28) :: (k P 29) :: (k P 30) :: (k P 31) :: (k P 32) :: (x33_c0 P) :: (x34_c0 P) :: (k P 35) :: (x36_c0 P) :: (x37_c0 P) :: (x38_c0 P) :: (x39_c0 P) :: (x40_c0 P) :: (x41_c0 P) :: (k P 42) :: (x43_c0 P) :: (k P 44) :: (k P 45) :: (tm P 48) :: (k P 47) :: (k P 48) :: (k P 49) :: (k P 50) :: (k P 51) :: (x52_c0 P) :: (x53_c0 P) :: (k P 54) :: (x55_c0 P) :: (k P 56) :: (k P 57) :: (tm P 60) :: (k P 59) :: (k P 60) :: (k P 61) :: (x62_c0 P) :: (k P 63) :: (k P 64) :: (tm P 67) :: (k P 66) :: (k P 67) :: (k P 68) :: (x69_c0 P) :: (k P 70) :: (k P 71) :: (tm P 74) :: (k P 73) :: (k P 74) :: (k P 75) :: (x76_c0 P) :: (k P 77) :: (k P 78) :: (tm P 81) :: (k P 80) :: (k P 81) :: (k P 82) :: (x83_c0 P) :: (k P 84) :: (k P 85) :: (tm P 88) :: (k P 87) :: (k P 88) :: (k P 89) :: (x90_c0 P) :: (k P 91) :: (k P 92) :: (tm P 95) :: (k P 94) :: (k P 95) :: (k P 96) :: (x97_c0 P) :: (k P 98) :: (k P 99) :: (tm P 102) :: (k P 101) :: (k P 102) :: (k P 103) :: (x104_c0 P) :: (k P 105) :: (k P 106) :: (tm P 109) :: (k P 108) :: (k P 109) :: (k P 110) :: (x111_c0 P) :: (k P 112) :: (k P 113) :: (tm P 116) :: (k P 115) :: (k P 116) :: (k P 117) :: (x118_c0 P) :: (k P 119) :: (k P 120) :: (tm P 123) :: (k P 122) :: (k P 123) :: (k P 124) :: (x125_c0 P) :: (k P 126) :: (k P 127) :: (tm P 130) :: (k P 129) :: (k P 130) :: (k P 131) :: (x132_c0 P) :: (k P 133) :: (k P 134) :: (tm P 137) :: (k P 136) :: (k P 137) :: (x138_c0 P) :: (x139_c0 P) :: (x140_c0 P) :: (x141_c0 P) :: (x142_c0 P) :: (x143_c0 P) :: (x144_c0 P) :: (k P 145) :: (x146_c0 P) :: (k P 147) :: (k P 148) :: (tm P 151) :: (k P 150) :: (k P 151) :: (k P 152) :: (k P 153) :: (k P 154) :: (k P 155) :: (k P 156) :: (x157_c0 P) :: (x158_c0 P) :: (k P 159) :: (x160_c1 P) :: (x161_c1 P) :: (x162_c1 P) :: (x163_c1 P) :: (x164_c1 P) :: (x165_c1 P) :: (k P 166) :: (x167_c1 P) :: (k P 168) :: (k P 169) :: (tm P 172) :: (k P 171) :: (k P 172) :: (k P 173) :: (k P 174) :: (k P 175) :: (x176_c1 P) :: (x177_c1 P) :: (k P 178) :: (x179_c1 P) :: (x180_c1 P) :: (x181_c1 P) :: (x182_c1 P) :: (x183_c1 P) :: (x184_c1 P) :: (k P 185) :: (x186_c1 P) :: (k P 187) :: (k P 188) :: (tm P 191) :: (k P 190) :: (k P 191) :: (k P 192) :: (k P 193) :: (k P 194) :: (x195_c1 P) :: (x196_c1 P) :: (k P 197) :: (x198_c1 P) :: (x199_c1 P) :: (x200_c1 P) :: (x201_c1 P) :: (x202_c1 P) :: (x203_c1 P) :: (k P 204) :: (x205_c1 P) :: (k P 206) :: (k P 207) :: (tm P 210) :: (k P 209) :: (k P 210) :: (k P 211) :: (k P 212) :: (k P 213) :: (x214_c1 P) :: (x215_c1 P) :: (k P 216) :: (x217_c1 P) :: (x218_c1 P) :: (x219_c1 P) :: (x220_c1 P) :: (x221_c1 P) :: (x222_c1 P) :: (k P 223) :: (x224_c1 P) :: (k P 225) :: (k P 226) :: (tm P 229) :: (k P 228) :: (k P 229) :: (k P 230) :: (k P 231) :: (k P 232) :: (x233_c1 P) :: (x234_c1 P) :: (x235_c2 P) :: (x236_c2 P) :: (x237_c2 P) :: (x238_c2 P) :: (x239_c2 P) :: (x240_c2 P) :: (x241_c2 P) :: (k P 242) :: (k P 243) :: (x244_c2 P) :: (k P 245) :: (k P 246) :: (tm P 249) :: (k P 248) :: (k P 249) :: (k P 250) :: (k P 251) :: (k P 252) :: (k P 253) :: (k P 254) :: (x255_c2 P) :: (x256_c2 P) :: (k P 257) :: (x258_c2 P) :: (k P 259) :: (k P 260) :: (tm P 263) :: (k P 262) :: (k P 263) :: (k P 264) :: (x265_c2 P) :: (k P 266) :: (k P 267) :: (tm P 270) :: (k P 269) :: (k P 270) :: (k P 271) :: (x272_c2 P) :: (k P 273) :: (k P 274) :: (tm P 277) :: (k P 276) :: (k P 277) :: (k P 278) :: (x279_c2 P) :: (k P 280) :: (k P 281) :: (tm P 284) :: (k P 283) :: (k P 284) :: (k P 285) :: (x286_c2 P) :: (k P 287) :: (k P 288) :: (tm P 291) :: (k P 290) :: (k P 291) :: (k P 292) :: (x293_c2 P) :: (k P 294) :: (k P 295) :: (tm P 298) :: (k P 297) :: (k P 298) :: (k P 299) :: (x300_c2 P) :: (k P 301) :: (k P 302) :: (tm P 305) :: (k P 304) :: (k P 305) :: (k P 306) :: (x307_c2 P) :: (k P 308) :: (k P 309) :: (tm P 312) :: (k P 311) :: (k P 312) :: (k P 313) :: (x314_c2 P) :: (k P 315) :: (k P 316) :: (tm P 319) :: (k P 318) :: (k P 319) :: (k P 320) :: (x321_c2 P) :: (k P 322) :: (k P 323) :: (tm P 326) :: (k P 325) :: (k P 326) :: (k P 327) :: (x328_c3 P) :: (k P 329) :: (k P 330) :: (tm P 333) :: (k P 332) :: (k P 333) :: (k P 334) :: (x335_c3 P) :: (k P 336) :: (k P 337) :: (tm P 340) :: (k P 339) :: (k P 340) :: (k P 341) :: (x342_c3 P) :: (k P 343) :: (k P 344) :: (tm P 347) :: (k P 346) :: (k P 347) :: (k P 348) :: (x349_c3 P) :: (k P 350) :: (k P 351) :: (tm P 354) :: (k P 353) :: (k P 354) :: (k P 355) :: (x356_c3 P) :: (k P 357) :: (k P 358) :: (tm P 361) :: (k P 360) :: (k P 361) :: (k P 362) :: (x363_c3 P) :: (k P 364) :: (k P 365) :: (tm P 368) :: (k P 367) :: (k P 368) :: (k P 369) :: (x370_c3 P) :: (k P 371) :: (k P 372) :: (tm P 375) :: (k P 374) :: (k P 375) :: (k P 376) :: (x377_c3 P) :: (k P 378) :: (k P 379) :: (tm P 382) :: (k P 381) :: (k P 382) :: (k P 383) :: (x384_c3 P) :: (k P 385) :: (k P 386) :: (tm P 389) :: (k P 388) :: (k P 389) :: (k P 390) :: (x391_c3 P) :: (k P 392) :: (k P 393) :: (tm P 396) :: (k P 395) :: (k P 396) :: (k P 397) :: (x398_c3 P) :: (k P 399) :: (k P 400) :: (tm P 403) :: (k P 402) :: (k P 403) :: (k P 404) :: (x405_c3 P) :: (k P 406) :: (k P 407) :: (tm P 410) :: (k P 409) :: (k P 410) :: (k P 411) :: (x412_c3 P) :: (k P 413) :: (k P 414) :: (tm P 417) :: (k P 416) :: (k P 417) :: (k P 418) :: (x419_c3 P) :: (k P 420) :: (k P 421) :: (tm P 424) :: (k P 423) :: (k P 424) :: (k P 425) :: (x426_c3 P) :: (k P 427) :: (k P 428) :: (tm P 431) :: (k P 430) :: (k P 431) :: (x432_f P) :: (x433_f P) :: (x434_f P) :: (x435_f P) :: (x436_f P) :: (x437_f P) :: (x438_f P) :: (k P 439) :: (k P 440) :: (x441_f P) :: (k P 442) :: (k P 443) :: (tm P 446) :: (k P 445) :: (k P 446) :: (k P 447) :: (k P 448) :: (k P 449) :: (k P 450) :: (k P 451) :: (x452_f P) :: (x453_f P) :: (k P 454) :: (k P 455) :: (k P 456) :: (k P 457) :: (x458_f P) :: (k P 459) :: (k P 460) :: (tm P 463) :: (k P 462) :: (k P 463) :: (k P 464) :: (x465_f P) :: (k P 466) :: (k P 467) :: (tm P 470) :: (k P 469) :: (k P 470) :: (k P 471) :: (x472_f P) :: (k P 473) :: (k P 474) :: (tm P 477) :: (k P 476) :: (k P 477) :: (k P 478) :: (x479_f P) :: (k P 480) :: (k P 481) :: (tm P 484) :: (k P 483) :: (k P 484) :: (k P 485) :: (x486_f P) :: (k P 487) :: (k P 488) :: (tm P 491) :: (k P 490) :: (k P 491) :: (k P 492) :: (x493_f P) :: (k P 494) :: (k P 495) :: (tm P 498) :: (k P 497) :: (k P 498) :: (k P 499) :: (x500_f P) :: (k P 501) :: (k P 502) :: (tm P 505) :: (k P 504) :: (k P 505) :: (k P 506) :: (x507_f P) :: (tm P 510) :: (k P 509) :: (k P 510) :: [])⟩, ⟨[], [], [], 0, [], [], false, #[], [], 0, false, false, false, 0, [2000, 10, 10], false, 0, true, [], [], 0, false⟩⟩
noncomputable def tr_f (P : Params) : BT := (.node (boot_o_0 P) (.node (boot_o_1 P) (.node (k P 3) (.node (boot_o_7 P) (.node (k P 15) (.node (k P 31) (.node (k P 63) (.node (k P 127) (.node (x255_c2 P) .nil .nil) (.node (k P 383) .nil .nil)) (.node (k P 191) (.node (k P 319) .nil .nil) (.node (k P 447) .nil .nil))) (.node (k P 95) (.node (k P 159) (.node (k P 287) .nil .nil) (.node (tm P 417) .nil .nil)) (.node (k P 223) (.node (k P 351) .nil .nil) (.node (x479_f P) .nil .nil)))) (.node (k P 47) (.node (tm P 81) (.node (x143_c0 P) (.node (k P 271) .nil .nil) (.node (k P 399) .nil .nil)) (.node (k P 207) (.node (x335_c3 P) .nil .nil) (.node (k P 463) .nil .nil))) (.node (x111_c0 P) (.node (k P 175) (.node (tm P 305) .nil .nil) (.node (k P 431) .nil .nil)) (.node (x239_c2 P) (.node (k P 367) .nil .nil) (.node (k P 495) .nil .nil))))) (.node (x23_c0 P) (.node (x39_c0 P) (.node (k P 71) (.node (tm P 137) (.node (k P 263) .nil .nil) (.node (x391_c3 P) .nil .nil)) (.node (x199_c1 P) (.node (k P 327) .nil .nil) (.node (k P 455) .nil .nil))) (.node (k P 103) (.node (x167_c1 P) (.node (k P 295) .nil .nil) (.node (k P 423) .nil .nil)) (.node (k P 231) (.node (tm P 361) .nil .nil) (.node (k P 487) .nil .nil)))) (.node (x55_c0 P) (.node (k P 87) (.node (k P 151) (.node (x279_c2 P) .nil .nil) (.node (k P 407) .nil .nil)) (.node (x215_c1 P) (.node (k P 343) .nil .nil) (.node (k P 471) .nil .nil))) (.node (k P 119) (.node (x183_c1 P) (.node (k P 311) .nil .nil) (.node (k P 439) .nil .nil)) (.node (tm P 249) (.node (k P 375) .nil .nil) (.node (tm P 505) .nil .nil)))))) (.node (x11_a P) (.node (x19_c0 P) (.node (k P 35) (.node (k P 67) (.node (k P 131) (.node (k P 259) .nil .nil) (.node (tm P 389) .nil .nil)) (.node (x195_c1 P) (.node (k P 323) .nil .nil) (.node (k P 451) .nil .nil))) (.node (k P 99) (.node (x163_c1 P) (.node (k P 291) .nil .nil) (.node (x419_c3 P) .nil .nil)) (.node (tm P 229) (.node (k P 355) .nil .nil) (.node (k P 483) .nil .nil)))) (.node (k P 51) (.node (x83_c0 P) (.node (k P 147) (.node (tm P 277) .nil .nil) (.node (k P 403) .nil .nil)) (.node (k P 211) (.node (k P 339) .nil .nil) (.node (k P 467) .nil .nil))) (.node (k P 115) (.node (x179_c1 P) (.node (x307_c2 P) .nil .nil) (.node (x435_f P) .nil .nil)) (.node (k P 243) (.node (k P 371) .nil .nil) (.node (k P 499) .nil .nil))))) (.node (k P 27) (.node (x43_c0 P) (.node (k P 75) (.node (x139_c0 P) (.node (k P 267) .nil .nil) (.node (k P 395) .nil .nil)) (.node (x203_c1 P) (.node (tm P 333) .nil .nil) (.node (k P 459) .nil .nil))) (.node (tm P 109) (.node (k P 171) (.node (k P 299) .nil .nil) (.node (k P 427) .nil .nil)) (.node (x235_c2 P) (.node (x363_c3 P) .nil .nil) (.node (k P 491) .nil .nil)))) (.node (k P 59) (.node (k P 91) (.node (k P 155) (.node (k P 283) .nil .nil) (.node (k P 411) .nil .nil)) (.node (x219_c1 P) (.node (k P 347) .nil .nil) (.node (tm P 477) .nil .nil))) (.node (k P 123) (.node (k P 187) (.node (k P 315) .nil .nil) (.node (k P 443) .nil .nil)) (.node (k P 251) (.node (k P 379) .nil .nil) (.node (x507_f P) .nil .nil))))))) (.node (boot_o_5 P) (.node (boot_o_9 P) (.node (x17_c0 P) (.node (x33_c0 P) (.node (tm P 67) (.node (k P 129) (.node (k P 257) .nil .nil) (.node (k P 385) .nil .nil)) (.node (k P 193) (.node (x321_c2 P) .nil .nil) (.node (k P 449) .nil .nil))) (.node (x97_c0 P) (.node (x161_c1 P) (.node (tm P 291) .nil .nil) (.node (k P 417) .nil .nil)) (.node (k P 225) (.node (k P 353) .nil .nil) (.node (k P 481) .nil .nil)))) (.node (k P 49) (.node (k P 81) (.node (k P 145) (.node (k P 273) .nil .nil) (.node (tm P 403) .nil .nil)) (.node (k P 209) (.node (k P 337) .nil .nil) (.node (x465_f P) .nil .nil))) (.node (k P 113) (.node (x177_c1 P) (.node (k P 305) .nil .nil) (.node (x433_f P) .nil .nil)) (.node (x241_c2 P) (.node (k P 369) .nil .nil) (.node (k P 497) .nil .nil))))) (.node (k P 25) (.node (x41_c0 P) (.node (k P 73) (.node (k P 137) (.node (x265_c2 P) .nil .nil) (.node (k P 393) .nil .nil)) (.node (x201_c1 P) (.node (k P 329) .nil .nil) (.node (k P 457) .nil .nil))) (.node (k P 105) (.node (k P 169) (.node (k P 297) .nil .nil) (.node (k P 425) .nil .nil)) (.node (x233_c1 P) (.node (k P 361) .nil .nil) (.node (tm P 491) .nil .nil)))) (.node (k P 57) (.node (k P 89) (.node (k P 153) (.node (k P 281) .nil .nil) (.node (k P 409) .nil .nil)) (.node (x217_c1 P) (.node (tm P 347) .nil .nil) (.node (k P 473) .nil .nil))) (.node (tm P 123) (.node (k P 185) (.node (k P 313) .nil .nil) (.node (x441_f P) .nil .nil)) (.node (k P 249) (.node (x377_c3 P) .nil .nil) (.node (k P 505) .nil .nil)))))) (.node (x13_a P) (.node (x21_c0 P) (.node (x37_c0 P) (.node (x69_c0 P) (.node (k P 133) (.node (tm P 263) .nil .nil) (.node (k P 389) .nil .nil)) (.node (k P 197) (.node (k P 325) .nil .nil) (.node (x453_f P) .nil .nil))) (.node (k P 101) (.node (x165_c1 P) (.node (x293_c2 P) .nil .nil) (.node (k P 421) .nil .nil)) (.node (k P 229) (.node (k P 357) .nil .nil) (.node (k P 485) .nil .nil)))) (.node (x53_c0 P) (.node (k P 85) (.node (tm P 151) (.node (k P 277) .nil .nil) (.node (x405_c3 P) .nil .nil)) (.node (k P 213) (.node (k P 341) .nil .nil) (.node (k P 469) .nil .nil))) (.node (k P 117) (.node (x181_c1 P) (.node (k P 309) .nil .nil) (.node (x437_f P) .nil .nil)) (.node (k P 245) (.node (tm P 375) .nil .nil) (.node (k P 501) .nil .nil))))) (.node (k P 29) (.node (k P 45) (.node (k P 77) (.node (x141_c0 P) (.node (k P 269) .nil .nil) (.node (k P 397) .nil .nil)) (.node (x205_c1 P) (.node (k P 333) .nil .nil) (.node (tm P 463) .nil .nil))) (.node (k P 109) (.node (k P 173) (.node (k P 301) .nil .nil) (.node (tm P 431) .nil .nil)) (.node (x237_c2 P) (.node (k P 365) .nil .nil) (.node (x493_f P) .nil .nil)))) (.node (k P 61) (.node (tm P 95) (.node (x157_c0 P) (.node (k P 285) .nil .nil) (.node (k P 413) .nil .nil)) (.node (x221_c1 P) (.node (x349_c3 P) .nil .nil) (.node (k P 477) .nil .nil))) (.node (x125_c0 P) (.node (tm P 191) (.node (tm P 319) .nil .nil) (.node (k P 445) .nil .nil)) (.node (k P 253) (.node (k P 381) .nil .nil) (.node (k P 509) .nil .nil)))))))) (.node (k P 2) (.node (boot_o_4 P) (.node (boot_o_8 P) (.node (x16_c0 P) (.node (k P 32) (.node (k P 64) (.node (tm P 130) (.node (x256_c2 P) .nil .nil) (.node (x384_c3 P) .nil .nil)) (.node (k P 192) (.node (k P 320) .nil .nil) (.node (k P 448) .nil .nil))) (.node (k P 96) (.node (x160_c1 P) (.node (k P 288) .nil .nil) (.node (k P 416) .nil .nil)) (.node (x224_c1 P) (.node (tm P 354) .nil .nil) (.node (k P 480) .nil .nil)))) (.node (k P 48) (.node (k P 80) (.node (x144_c0 P) (.node (x272_c2 P) .nil .nil) (.node (k P 400) .nil .nil)) (.node (tm P 210) (.node (k P 336) .nil .nil) (.node (k P 464) .nil .nil))) (.node (k P 112) (.node (x176_c1 P) (.node (k P 304) .nil .nil) (.node (x432_f P) .nil .nil)) (.node (x240_c2 P) (.node (k P 368) .nil .nil) (.node (tm P 498) .nil .nil))))) (.node (k P 24) (.node (x40_c0 P) (.node (tm P 74) (.node (k P 136) (.node (k P 264) .nil .nil) (.node (k P 392) .nil .nil)) (.node (x200_c1 P) (.node (x328_c3 P) .nil .nil) (.node (k P 456) .nil .nil))) (.node (x104_c0 P) (.node (k P 168) (.node (tm P 298) .nil .nil) (.node (k P 424) .nil .nil)) (.node (k P 232) (.node (k P 360) .nil .nil) (.node (k P 488) .nil .nil)))) (.node (k P 56) (.node (k P 88) (.node (k P 152) (.node (k P 280) .nil .nil) (.node (tm P 410) .nil .nil)) (.node (k P 216) (.node (k P 344) .nil .nil) (.node (x472_f P) .nil .nil))) (.node (k P 120) (.node (x184_c1 P) (.node (k P 312) .nil .nil) (.node (k P 440) .nil .nil)) (.node (k P 248) (.node (k P 376) .nil .nil) (.node (k P 504) .nil .nil)))))) (.node (x12_f P) (.node (x20_c0 P) (.node (x36_c0 P) (.node (k P 68) (.node (x132_c0 P) (.node (k P 260) .nil .nil) (.node (k P 388) .nil .nil)) (.node (x196_c1 P) (.node (tm P 326) .nil .nil) (.node (x452_f P) .nil .nil))) (.node (tm P 102) (.node (x164_c1 P) (.node (k P 292) .nil .nil) (.node (k P 420) .nil .nil)) (.node (k P 228) (.node (x356_c3 P) .nil .nil) (.node (k P 484) .nil .nil)))) (.node (x52_c0 P) (.node (k P 84) (.node (k P 148) (.node (k P 276) .nil .nil) (.node (k P 404) .nil .nil)) (.node (k P 212) (.node (k P 340) .nil .nil) (.node (tm P 470) .nil .nil))) (.node (k P 116) (.node (x180_c1 P) (.node (k P 308) .nil .nil) (.node (x436_f P) .nil .nil)) (.node (x244_c2 P) (.node (k P 372) .nil .nil) (.node (x500_f P) .nil .nil))))) (.node (k P 28) (.node (k P 44) (.node (x76_c0 P) (.node (x140_c0 P) (.node (tm P 270) .nil .nil) (.node (k P 396) .nil .nil)) (.node (k P 204) (.node (k P 332) .nil .nil) (.node (k P 460) .nil .nil))) (.node (k P 108) (.node (k P 172) (.node (x300_c2 P) .nil .nil) (.node (k P 428) .nil .nil)) (.node (x236_c2 P) (.node (k P 364) .nil .nil) (.node (k P 492) .nil .nil)))) (.node (k P 60) (.node (k P 92) (.node (k P 156) (.node (k P 284) .nil .nil) (.node (x412_c3 P) .nil .nil)) (.node (x220_c1 P) (.node (k P 348) .nil .nil) (.node (k P 476) .nil .nil))) (.node (k P 124) (.node (k P 188) (.node (k P 316) .nil .nil) (.node (tm P 446) .nil .nil)) (.node (k P 252) (.node (tm P 382) .nil .nil) (.node (tm P 510) .nil .nil))))))) (.node (boot_o_6 P) (.node (boot_o_10 P) (.node (x18_c0 P) (.node (x34_c0 P) (.node (k P 66) (.node (k P 130) (.node (x258_c2 P) .nil .nil) (.node (k P 386) .nil .nil)) (.node (k P 194) (.node (k P 322) .nil .nil) (.node (k P 450) .nil .nil))) (.node (k P 98) (.node (x162_c1 P) (.node (k P 290) .nil .nil) (.node (k P 418) .nil .nil)) (.node (k P 226) (.node (k P 354) .nil .nil) (.node (tm P 484) .nil .nil)))) (.node (k P 50) (.node (k P 82) (.node (x146_c0 P) (.node (k P 274) .nil .nil) (.node (k P 402) .nil .nil)) (.node (k P 210) (.node (tm P 340) .nil .nil) (.node (k P 466) .nil .nil))) (.node (tm P 116) (.node (k P 178) (.node (k P 306) .nil .nil) (.node (x434_f P) .nil .nil)) (.node (k P 242) (.node (x370_c3 P) .nil .nil) (.node (k P 498) .nil .nil))))) (.node (tm P 28) (.node (k P 42) (.node (k P 74) (.node (x138_c0 P) (.node (k P 266) .nil .nil) (.node (tm P 396) .nil .nil)) (.node (x202_c1 P) (.node (k P 330) .nil .nil) (.node (x458_f P) .nil .nil))) (.node (k P 106) (.node (tm P 172) (.node (k P 298) .nil .nil) (.node (x426_c3 P) .nil .nil)) (.node (x234_c1 P) (.node (k P 362) .nil .nil) (.node (k P 490) .nil .nil)))) (.node (tm P 60) (.node (x90_c0 P) (.node (k P 154) (.node (tm P 284) .nil .nil) (.node (k P 410) .nil .nil)) (.node (x218_c1 P) (.node (k P 346) .nil .nil) (.node (k P 474) .nil .nil))) (.node (k P 122) (.node (x186_c1 P) (.node (x314_c2 P) .nil .nil) (.node (k P 442) .nil .nil)) (.node (k P 250) (.node (k P 378) .nil .nil) (.node (k P 506) .nil .nil)))))) (.node (x14_a P) (.node (k P 22) (.node (x38_c0 P) (.node (k P 70) (.node (k P 134) (.node (k P 262) .nil .nil) (.node (k P 390) .nil .nil)) (.node (x198_c1 P) (.node (k P 326) .nil .nil) (.node (k P 454) .nil .nil))) (.node (k P 102) (.node (k P 166) (.node (k P 294) .nil .nil) (.node (tm P 424) .nil .nil)) (.node (k P 230) (.node (k P 358) .nil .nil) (.node (x486_f P) .nil .nil)))) (.node (k P 54) (.node (tm P 88) (.node (k P 150) (.node (k P 278) .nil .nil) (.node (k P 406) .nil .nil)) (.node (x214_c1 P) (.node (x342_c3 P) .nil .nil) (.node (k P 470) .nil .nil))) (.node (x118_c0 P) (.node (x182_c1 P) (.node (tm P 312) .nil .nil) (.node (x438_f P) .nil .nil)) (.node (k P 246) (.node (k P 374) .nil .nil) (.node (k P 502) .nil .nil))))) (.node (k P 30) (.node (tm P 48) (.node (k P 78) (.node (x142_c0 P) (.node (k P 270) .nil .nil) (.node (x398_c3 P) .nil .nil)) (.node (k P 206) (.node (k P 334) .nil .nil) (.node (k P 462) .nil .nil))) (.node (k P 110) (.node (k P 174) (.node (k P 302) .nil .nil) (.node (k P 430) .nil .nil)) (.node (x238_c2 P) (.node (tm P 368) .nil .nil) (.node (k P 494) .nil .nil)))) (.node (x62_c0 P) (.node (k P 94) (.node (x158_c0 P) (.node (x286_c2 P) .nil .nil) (.node (k P 414) .nil .nil)) (.node (x222_c1 P) (.node (k P 350) .nil .nil) (.node (k P 478) .nil .nil))) (.node (k P 126) (.node (k P 190) (.node (k P 318) .nil .nil) (.node (k P 446) .nil .nil)) (.node (k P 254) (.node (k P 382) .nil .nil) (.node (k P 510) .nil .nil)))))))))
abbrev PX : Program := PySem.Challenge.pw_sa0532_01
noncomputable def bX : List Stmt := behindTheImports PX
noncomputable def envX : Env := { scope := PX.main.scope, locals := mainNs, globals := mainNs, cells := [], code := .ref 13, frame := some 14 }
noncomputable def cX : Code := .body bX envX
def pX : Pos := ⟨0, 0, 0, 0⟩
def pZ : Pos := ⟨327, 0, 340, 86⟩
noncomputable def BX : List PySem.Frame := [topFrame pX]
def lX : Life := ⟨[], [], [], 0, [], [], false, #[], [], 0, false, false, false, 0, [2000, 10, 10], false, 0, true, [], [], 0, false⟩
def gX : Array GenState := Array.mk []
noncomputable def sT (T : Params → BT) (n k : Nat) (w : World) (os : OsState) : SharedT := ⟨T w.params, n, lX, gX, boot_drawn, k, os⟩
theorem h_pre (w : World) (os : OsState) : topGo treeTable PX w 11 (some (.ref 6)) 12 ⟨boot_heap w.params, gX, boot_drawn, boot_toks, os⟩ (topStub PX) = some (⟨hp_a w.params, gX, boot_drawn, 187, os⟩, ⟨denote treeTable cX, cX, pX, BX⟩) := by
  rw [PySem.W.Fast.te15667345088766844465, PySem.W.Fast.te14364793385576792824, PySem.W.Fast.te11892475500146522536]; kernel_rfl
theorem h_blk (w : World) (os : OsState) : segRun treeTable PX w 11 (some (.ref 6)) 1 2 ⟨hp_a w.params, gX, boot_drawn, 187, os⟩ (blockOf bX envX cX pX BX) = some (.next, (sT tr_b 15 187 w os).abs, cX, pX) := by
  rw [PySem.W.Fast.te14374325043358763698, PySem.W.Fast.te14364793385576792824]; kernel_rfl
theorem h_pc0 (w : World) (os : OsState) : segRunT treeTable PX w 11 (some (.ref 6)) 1 1130 (sT tr_b 15 187 w os) (piecesOf ((bX.drop 0).take 21) envX cX pX BX) = some (.next, sT tr_c0 159 398 w os, cX, ⟨90, 0, 98, 29⟩) := by
  rw [PySem.W.Fast.te10110043849684766642, PySem.W.Fast.te14364793385576792824]; kernel_rfl
theorem h_pc1 (w : World) (os : OsState) : segRunT treeTable PX w 11 (some (.ref 6)) 1 994 (sT tr_c0 159 398 w os) (piecesOf ((bX.drop 21).take 4) envX cX ⟨90, 0, 98, 29⟩ BX) = some (.next, sT tr_c1 235 511 w os, cX, ⟨120, 0, 128, 24⟩) := by
  rw [PySem.W.Fast.te10110043849684766642, PySem.W.Fast.te14364793385576792824]; kernel_rfl
theorem h_pc2 (w : World) (os : OsState) : segRunT treeTable PX w 11 (some (.ref 6)) 1 561 (sT tr_c1 235 511 w os) (piecesOf ((bX.drop 25).take 15) envX cX ⟨120, 0, 128, 24⟩ BX) = some (.next, sT tr_c2 327 629 w os, cX, ⟨197, 0, 209, 29⟩) := by
  rw [PySem.W.Fast.te10110043849684766642, PySem.W.Fast.te14364793385576792824]; kernel_rfl
theorem h_pc3 (w : World) (os : OsState) : segRunT treeTable PX w 11 (some (.ref 6)) 1 475 (sT tr_c2 327 629 w os) (piecesOf ((bX.drop 40).take 16) envX cX ⟨197, 0, 209, 29⟩ BX) = some (.next, sT tr_c3 432 766 w os, cX, ⟨267, 0, 267, 8⟩) := by
  rw [PySem.W.Fast.te10110043849684766642, PySem.W.Fast.te14364793385576792824]; kernel_rfl
theorem h_pc4 (w : World) (os : OsState) : segRunT treeTable PX w 11 (some (.ref 6)) 1 570 (sT tr_c3 432 766 w os) (piecesOf (bX.drop 56) envX cX ⟨267, 0, 267, 8⟩ BX) = some (.next, sT tr_f 511 921 w os, cX, pZ) := by
  rw [PySem.W.Fast.te10110043849684766642, PySem.W.Fast.te14364793385576792824]; kernel_rfl
theorem h_fin (w : World) (os : OsState) : topRun treeTable PX w 11 (some (.ref 6)) 2 (sT tr_f 511 921 w os).abs ⟨doneF .next, cX, pZ, BX⟩ = some ⟨hp_f w.params, gX, boot_drawn, 921, os⟩ := by
  rw [PySem.W.Fast.te14082659384304107361, PySem.W.Fast.te14364793385576792824]; kernel_rfl
end Hd
end Mine
end
section
open PySem PySem.W PyProof.Rows
set_option Elab.async false
set_option maxRecDepth 100000
set_option maxHeartbeats 0
namespace Mine
namespace Hd
abbrev RX : OpenRow := (PySem.Challenge.rw_sa0532_01).row
noncomputable def QX : Program := { PX with main := { PX.main with body := PX.main.body.drop 68 } }
def looseX : List Str := Str.ofString "PerlError" :: Str.ofString "Die" :: Str.ofString "FIGURES" :: Str.ofString "SPACES" :: Str.ofString "wrap_number" :: Str.ofString "add_numbers" :: Str.ofString "sub_numbers" :: Str.ofString "mul_numbers" :: Str.ofString "cut_quotient" :: Str.ofString "div_numbers" :: Str.ofString "mod_numbers" :: Str.ofString "power_numbers" :: Str.ofString "number_head" :: Str.ofString "numeric_text" :: Str.ofString "looks_numeric" :: Str.ofString "number_text" :: Str.ofString "HEX_FIGURES" :: Str.ofString "Thing" :: Str.ofString "Array" :: Str.ofString "Hash" :: Str.ofString "Code" :: Str.ofString "Glob" :: Str.ofString "Ref" :: Str.ofString "thing_word" :: Str.ofString "hex_of" :: Str.ofString "ref_text" :: Str.ofString "SMALL" :: Str.ofString "GREAT" :: Str.ofString "DIGITS" :: Str.ofString "to_text" :: Str.ofString "to_number" :: Str.ofString "truth" :: Str.ofString "truth_value" :: Str.ofString "is_magic_text" :: Str.ofString "row_of_sign" :: Str.ofString "magic_increment" :: Str.ofString "increment_value" :: Str.ofString "decrement_value" :: Str.ofString "compare_num" :: Str.ofString "compare_text" :: Str.ofString "concat_values" :: Str.ofString "by_numbers" :: Str.ofString "op_add" :: Str.ofString "op_sub" :: Str.ofString "op_mul" :: Str.ofString "op_div" :: Str.ofString "op_mod" :: Str.ofString "op_power" :: Str.ofString "arithmetic_ops" :: Str.ofString "holds_order" :: Str.ofString "compare_values" :: Str.ofString "Limits" :: Str.ofString "_law_words" :: Str.ofString "_law_ahead" :: Str.ofString "_law_behind" :: Str.ofString "_law_stir" :: Str.ofString "_law_amount" :: Str.ofString "_law_dressed" :: Str.ofString "_law_reckoned" :: Str.ofString "_law_is_read" :: Str.ofString "_law_is_ordered" :: Str.ofString "_law_is_joined" :: []
def asX : List Addr := [2, 3, 15, 22, 24, 25, 27, 28, 29, 30, 31, 32, 35, 42, 44, 45, 47, 48, 49, 50, 51, 54, 56, 57, 59, 60, 61, 63, 64, 66, 67, 68, 70, 71, 73, 74, 75, 77, 78, 80, 81, 82, 84, 85, 87, 88, 89, 91, 92, 94, 95, 96, 98, 99, 101, 102, 103, 105, 106, 108, 109, 110, 112, 113, 115, 116, 117, 119, 120, 122, 123, 124, 126, 127, 129, 130, 131, 133, 134, 136, 137, 145, 147, 148, 150, 151, 152, 153, 154, 155, 156, 159, 166, 168, 169, 171, 172, 173, 174, 175, 178, 185, 187, 188, 190, 191, 192, 193, 194, 197, 204, 206, 207, 209, 210, 211, 212, 213, 216, 223, 225, 226, 228, 229, 230, 231, 232, 242, 243, 245, 246, 248, 249, 250, 251, 252, 253, 254, 257, 259, 260, 262, 263, 264, 266, 267, 269, 270, 271, 273, 274, 276, 277, 278, 280, 281, 283, 284, 285, 287, 288, 290, 291, 292, 294, 295, 297, 298, 299, 301, 302, 304, 305, 306, 308, 309, 311, 312, 313, 315, 316, 318, 319, 320, 322, 323, 325, 326, 327, 329, 330, 332, 333, 334, 336, 337, 339, 340, 341, 343, 344, 346, 347, 348, 350, 351, 353, 354, 355, 357, 358, 360, 361, 362, 364, 365, 367, 368, 369, 371, 372, 374, 375, 376, 378, 379, 381, 382, 383, 385, 386, 388, 389, 390, 392, 393, 395, 396, 397, 399, 400, 402, 403, 404, 406, 407, 409, 410, 411, 413, 414, 416, 417, 418, 420, 421, 423, 424, 425, 427, 428, 430, 431, 439, 440, 442, 443, 445, 446, 447, 448, 449, 450, 451, 454, 455, 456, 457, 459, 460, 462, 463, 464, 466, 467, 469, 470, 471, 473, 474, 476, 477, 478, 480, 481, 483, 484, 485, 487, 488, 490, 491, 492, 494, 495, 497, 498, 499, 501, 502, 504, 505, 506, 509, 510]
noncomputable def HX : Hook := kHook K asX (fun _ => by kernel_rfl)
noncomputable def XtX (s : Shared) : Bool := xlAt QX [] s && recOk (RowW.records RX.toRowW) s
theorem h_open (w : World) : (fencedOpening treeTable PX w 4000).map (fun s => (s.heap, s.gens, s.drawn, s.toks)) = some (boot_heap w.params, Array.mk [], boot_drawn, boot_toks) := boot_open (by kernel_rfl) (by decide) (fun s => by kernel_rfl) w
theorem h_size (w : World) : ((boot_heap w.params).isNs mainGlobals && gX.size == 0, (boot_heap w.params).objs.size, (boot_heap w.params).nsMap mainGlobals "__annotations__") = (true, 11, some (.ref 6)) := by kernel_rfl
theorem cut_app {tb p w n₀ ann env q} {n N : Nat} {s s' r : Shared} {b : List Stmt} (m : Nat) {c : Code} {pos p' : Pos} (h : segRun tb p w n₀ ann 1 n s (piecesOf (b.take m) env c pos [topFrame q]) = some (.next, s', c, p'))
    (k : topRun tb p w n₀ ann N s' (restOf (b.drop m) env c p' [topFrame q]) = some r) : topRun tb p w n₀ ann (n + N) s (restOf b env c pos [topFrame q]) = some r := by
  have h2 := piece_app h k
  rwa [List.take_append_drop] at h2
theorem h_run (w : World) (os : OsState) : topRun treeTable PX w 11 (some (.ref 6)) (12 + (2 + (1130 + (994 + (561 + (475 + (570 + 2))))))) ⟨boot_heap w.params, gX, boot_drawn, boot_toks, os⟩ (topStub PX) = some ⟨hp_f w.params, gX, boot_drawn, 921, os⟩ := by
  refine go_top (h_pre w os) (piece_block (h_blk w os) ?_)
  refine cut_app 21 (segRun_of (h_pc0 w os)) ?_
  refine cut_app 4 (segRun_of (h_pc1 w os)) ?_
  rw [List.drop_drop]
  refine cut_app 15 (segRun_of (h_pc2 w os)) ?_
  rw [List.drop_drop]
  refine cut_app 16 (segRun_of (h_pc3 w os)) ?_
  rw [List.drop_drop, ← List.append_nil (List.drop _ bX)]
  exact piece_app (segRun_of (h_pc4 w os)) (piece_nil (h_fin w os))
noncomputable def sF (w : World) (os : OsState) : Shared := ⟨hp_f w.params, gX, boot_drawn, 921, os⟩
theorem l_st (w : World) : staticsOk (importedModules PX.main.body) (boot_heap w.params) (hp_f w.params) = true := by kernel_rfl
theorem l_nb (w : World) : namesBound PX (hp_f w.params) = true := by kernel_rfl
theorem l_gd (w : World) (os : OsState) : gensDone (sF w os) = true := by kernel_rfl
theorem l_lk (w : World) : laidKept (boot_heap w.params) (hp_f w.params) = true := by kernel_rfl
theorem l_se (w : World) (os : OsState) : openSeen QX looseX (importedModules PX.main.body) XtX true (sF w os) = openGood QX looseX := by
  rw [PySem.W.Fast.te4187177175401517315]; kernel_rfl
theorem l_hk (w : World) (os : OsState) : HX.obs (sF w os) = HX.val w := by kernel_rfl
theorem h_left : LeftO PX QX looseX XtX HX.obs HX.val 4000 true :=
  LeftO.of_pieces (M := 12 + (2 + (1130 + (994 + (561 + (475 + (570 + 2))))))) h_open h_size h_run (by decide) (fun w => funext fun os => by
    have e := l_se w os
    have e2 := l_hk w os
    have e3 := l_gd w os
    unfold sF at e e2 e3
    rw [e, e2, e3, l_st, l_nb, l_lk]; rfl)
end Hd
end Mine
end
section
open PySem PySem.W PyProof.Rows
set_option Elab.async false
set_option maxRecDepth 100000
set_option maxHeartbeats 4000000
namespace Mine
/-! plain numbers -/
def hp (wd : Int) : Int := 2 ^ (wd.toNat - 1)
def wrapN (n wd : Int) : Int := (n + hp wd) % (2 * hp wd) - hp wd
theorem hp_pos (wd : Int) : 1 ≤ hp wd := by
  have : (0 : Int) < 2 ^ (wd.toNat - 1) := Int.pow_pos (by decide)
  unfold hp
  omega
theorem hp_nat (wd : Int) : hp wd = ((2 ^ (wd.toNat - 1) : Nat) : Int) := by
  unfold hp
  rw [Int.natCast_pow]
  rfl
theorem hp_le {wd : Int} (h : wd ≤ 64) : hp wd ≤ 9223372036854775808 := by
  have : (2 : Nat) ^ (wd.toNat - 1) ≤ 2 ^ 63 := Nat.pow_le_pow_right (by decide) (by omega)
  rw [hp_nat]
  have e : (2 : Nat) ^ 63 = 9223372036854775808 := by decide +kernel
  omega
theorem two_hp {wd : Int} (h : 1 ≤ wd) : (2 : Int) ^ wd.toNat = 2 * hp wd := by
  unfold hp
  have : wd.toNat = (wd.toNat - 1) + 1 := by omega
  rw [this, Int.pow_succ, Nat.add_sub_cancel]
  omega
theorem two_hp1 {wd : Int} (h : 1 ≤ wd) : (2 : Int) ^ (wd - 1).toNat = hp wd := by
  unfold hp
  congr 1
  omega
theorem wrap_lo {n M : Int} (hM : 1 ≤ M) (h : (n % (2 * M)) / M = 0) : (n + M) % (2 * M) - M = n % (2 * M) := by
  have h1 := Int.emod_nonneg n (show 2 * M ≠ 0 by omega)
  have h2 := Int.emod_lt_of_pos n (show 0 < 2 * M by omega)
  have h3 : n % (2 * M) < M := by
    generalize n % (2 * M) = r at *
    have := Int.emod_add_mul_ediv r M
    have h4 := Int.emod_lt_of_pos r (show 0 < M by omega)
    rw [h, Int.mul_zero] at this
    omega
  have h5 : (n + M) % (2 * M) = (n % (2 * M) + M) % (2 * M) := by rw [Int.emod_add_emod]
  rw [h5, Int.emod_eq_of_lt (by omega) (by omega)]
  omega
theorem wrap_hi {n M : Int} (hM : 1 ≤ M) (h : (n % (2 * M)) / M ≠ 0) : (n + M) % (2 * M) - M = n % (2 * M) - 2 * M := by
  have h1 := Int.emod_nonneg n (show 2 * M ≠ 0 by omega)
  have h2 := Int.emod_lt_of_pos n (show 0 < 2 * M by omega)
  have h3 : M ≤ n % (2 * M) := by
    refine Int.not_lt.mp fun q => h ?_
    exact Int.ediv_eq_zero_of_lt h1 q
  have h5 : (n + M) % (2 * M) = (n % (2 * M) + M) % (2 * M) := by rw [Int.emod_add_emod]
  rw [h5]
  have : (n % (2 * M) + M) % (2 * M) = (n % (2 * M) + M - 2 * M) % (2 * M) := by
    rw [Int.sub_emod_right]
  rw [this, Int.emod_eq_of_lt (by omega) (by omega)]
  omega
theorem wrap_in {n wd : Int} (h1 : -hp wd ≤ n) (h2 : n < hp wd) : wrapN n wd = n := by
  unfold wrapN
  rw [Int.emod_eq_of_lt (by omega) (by omega)]
  omega
theorem wrap_bd (n wd : Int) : -hp wd ≤ wrapN n wd ∧ wrapN n wd < hp wd := by
  unfold wrapN
  have h := hp_pos wd
  have h1 := Int.emod_nonneg (n + hp wd) (show 2 * hp wd ≠ 0 by omega)
  have h2 := Int.emod_lt_of_pos (n + hp wd) (show 0 < 2 * hp wd by omega)
  omega
theorem wrap_mod (n wd : Int) : wrapN (n % (2 * hp wd)) wd = wrapN n wd := by
  unfold wrapN
  rw [Int.emod_add_emod]
theorem wrap_add (n m wd : Int) : wrapN (wrapN n wd + m) wd = wrapN (n + m) wd := by
  unfold wrapN
  have : (n + hp wd) % (2 * hp wd) - hp wd + m + hp wd = (n + hp wd) % (2 * hp wd) + m := by omega
  rw [this, Int.emod_add_emod, Int.add_right_comm]
theorem noPylong_big {x y : Int} (h : y.natAbs < 1606938044258990275541962092341162602522202993782792835301376) : Builtin.divisionGoesByPylong x y = false := by
  refine PyProof.noPylong_of_log2 ?_
  by_cases h0 : y.natAbs = 0
  · rw [h0]; decide +kernel
  · have e : (2 : Nat) ^ 200 = 1606938044258990275541962092341162602522202993782792835301376 := by decide +kernel
    have h30 : y.natAbs.log2 < 200 := (Nat.log2_lt h0).mpr (by omega)
    omega
/-! the claim of a call -/
abbrev Cl (w : World) (lvl : Nat) (f : Addr) (news : CbLed) (vs : List Value) (R : Tok → Value) : Prop :=
  ∀ {p : Program} {loose : List Str} {mean : ExcName → Option Value} {mg mb : Str → Option Value} (dp un : Nat) (gd : Option (List Code)) (cn : Str) (cs : Scope) (a : Addr) (ccd : Value) (cl : List (Str × Addr)) (outer : List Env) (A₀ : Around) (base h₀ : Heap) (L : Addr) (m : Str → Option Value) (s : Shared) (Q E : Value → Shared → Prop),
    Below A₀ base outer h₀ → Fr h₀ L s.heap m → (K w.params).In h₀ → News h₀ L s.heap news → Top p loose mean mg mb h₀ → cs.kind = .function → dp + lvl < recursionLimit → un + 8 * lvl < cLine →
    CbRet h₀ L m news s Q R → wpAny (model PR w) (ktrTop dp un gd cn cs L a ccd cl outer) (call (.ref f) vs) Q E s
section
variable {w : World} {lvl : Nat} {f : Addr} {news : CbLed} {vs : List Value} {R : Tok → Value} {p : Program} {loose : List Str} {mean : ExcName → Option Value} {mg mb : Str → Option Value}
theorem Cl.use {dp un : Nat} {gd : Option (List Code)} {cn : Str} {cs : Scope} {a : Addr} {ccd : Value} {cl : List (Str × Addr)} {outer : List Env} {A₀ : Around} {base h₀ : Heap} {L : Addr} {m : Str → Option Value} {s : Shared} {Q E : Value → Shared → Prop}
    (C : Cl w lvl f news vs R) (B : Below A₀ base outer h₀) (F : Fr h₀ L s.heap m) (X : (K w.params).In h₀) (N : News h₀ L s.heap news) (T : Top p loose mean mg mb h₀) (hk : cs.kind = .function) (hd : dp + lvl < recursionLimit) (hu : un + 8 * lvl < cLine)
    (ret : ∀ (t : Tok) (h' : Heap) (tk' : Nat), Fr h₀ L h' m → News h₀ L h' news → Q (R t) { s with heap := h', toks := tk' }) : wpAny (model PR w) (ktrTop dp un gd cn cs L a ccd cl outer) (call (.ref f) vs) Q E s :=
  C _ _ _ _ _ _ _ _ _ _ _ _ _ _ _ _ _ B F X N T hk hd hu ret
theorem Cl.useF {P : Prop} {dp un : Nat} {gd : Option (List Code)} {cn : Str} {cs : Scope} {a : Addr} {ccd : Value} {cl : List (Str × Addr)} {outer : List Env} {A₀ : Around} {base h₀ : Heap} {L : Addr} {m : Str → Option Value} {s : Shared} {Q E : Value → Shared → Prop}
    (C : Cl w lvl f news vs R ∧ P) (B : Below A₀ base outer h₀) (F : Fr h₀ L s.heap m) (X : (K w.params).In h₀) (N : News h₀ L s.heap news) (T : Top p loose mean mg mb h₀) (hk : cs.kind = .function) (hd : dp + lvl < recursionLimit) (hu : un + 8 * lvl < cLine)
    (ret : P → ∀ (t : Tok) (h' : Heap) (tk' : Nat), Fr h₀ L h' m → News h₀ L h' news → Q (R t) { s with heap := h', toks := tk' }) : wpAny (model PR w) (ktrTop dp un gd cn cs L a ccd cl outer) (call (.ref f) vs) Q E s :=
  C.1 _ _ _ _ _ _ _ _ _ _ _ _ _ _ _ _ _ B F X N T hk hd hu (ret C.2)
end
theorem fill : PR = PR ∧ PySem.Challenge.rw_sa0532_01 = PySem.Challenge.rw_sa0532_01 ∧ K = K := ⟨rfl, rfl, rfl⟩

end Mine
end
section
open PySem PySem.W PyProof.Rows
set_option Elab.async false
set_option maxRecDepth 100000
set_option maxHeartbeats 4000000
namespace Mine
/-! a loop over a written tuple of texts, each turn alike -/
abbrev tupL (vs : List Value) (c : Nat) : Obj := { cls := .type "tuple", data := .seq vs.toArray c }
def chain3 (nm n1 n2 : Str) (u u1 u2 : Option Value) (m : Str → Option Value) : Str → Option Value := fun y => if y = nm then u else if y = n1 then u1 else if y = n2 then u2 else m y
def TxEnd (h₀ : Heap) (L : Addr) (nm n1 n2 : Str) (m₀ : Str → Option Value) (led : CbLed) (s : Shared) (Q : Flow → Shared → Prop) (f : Flow) (s₂ : Shared) : Prop := match f with
  | .next => ∃ (h : Heap) (tk : Nat) (u u1 u2 : Option Value), s₂ = { s with heap := h, toks := tk } ∧ Fr h₀ L h (chain3 nm n1 n2 u u1 u2 m₀) ∧ News h₀ L h led
  | .ret v => Q (.ret v) s₂
  | _ => False
theorem txend_of {h₀ h : Heap} {L : Addr} {nm n1 n2 : Str} {m₀ m' : Str → Option Value} {led : CbLed} {s : Shared} {Q : Flow → Shared → Prop} {tk : Nat} {u u1 u2 : Option Value} (F : Fr h₀ L h m') (N : News h₀ L h led) (e : m' = chain3 nm n1 n2 u u1 u2 m₀) :
    TxEnd h₀ L nm n1 n2 m₀ led s Q .next { s with heap := h, toks := tk } := by
  subst e
  exact ⟨h, tk, u, u1, u2, rfl, F, N⟩
section
variable {prog : Program} {w : World} {A : Around} {E : Value → Shared → Prop} {s : Shared} {env : Env} {h₀ : Heap} {body : List Stmt} {Q : Flow → Shared → Prop}
theorem chain3_in {nm n1 n2 : Str} {m m₀ : Str → Option Value} (h : ∀ y, y ≠ nm → y ≠ n1 → y ≠ n2 → m y = m₀ y) : m = chain3 nm n1 n2 (m nm) (m n1) (m n2) m₀ := by
  funext y
  unfold chain3
  by_cases a : y = nm
  · rw [if_pos a, a]
  · rw [if_neg a]
    by_cases b : y = n1
    · rw [if_pos b, b]
    · rw [if_neg b]
      by_cases c : y = n2
      · rw [if_pos c, c]
      · rw [if_neg c]; exact h y a b c
theorem chain3_off {nm n1 n2 : Str} {u u1 u2 : Option Value} {m₀ : Str → Option Value} (y : Str) (a : y ≠ nm) (b : y ≠ n1) (c : y ≠ n2) : chain3 nm n1 n2 u u1 u2 m₀ y = m₀ y := by
  unfold chain3; rw [if_neg a, if_neg b, if_neg c]
theorem for_texts (S : List Str) (nm n1 n2 : Str) {l : Addr} {c : Nat} {vs : List Value} {m₀ : Str → Option Value} {news : CbLed} (hh : A.handled = none) (hm : (l, tupL vs c) ∈ news)
    (hs : ∀ v ∈ vs, ∃ x t, v = Value.str x t ∧ x ∈ S) (F : Fr h₀ env.locals s.heap m₀) (N : News h₀ env.locals s.heap news)
    (turn : ∀ x t u1 u2 h tk own, x ∈ S → Fr h₀ env.locals h (fun y => if y = nm then some (.str x t) else if y = n1 then u1 else if y = n2 then u2 else m₀ y) → News h₀ env.locals h (own ++ news) →
      wpAny (model prog w) A (execs body env) (TxEnd h₀ env.locals nm n1 n2 m₀ (own ++ news) { s with heap := h, toks := tk } Q) E { s with heap := h, toks := tk })
    (done : ∀ u u1 u2 h tk, Fr h₀ env.locals h (fun y => if y = nm then u else if y = n1 then u1 else if y = n2 then u2 else m₀ y) → News h₀ env.locals h news → Q .next { s with heap := h, toks := tk }) :
    wpAny (model prog w) A (pyIter (.ref l)) (fun it s₂ => LoopAtV prog w A h₀ env nm body Q E it s₂) E s := by
  have hl := (N _ hm).1
  have ht : s.heap.IsTuple l vs.toArray := ⟨_, hl, rfl, _, rfl⟩
  have hlt : l < s.heap.objs.size := Heap.lt_size hl
  have hne : l ≠ s.heap.objs.size := Nat.ne_of_lt hlt
  refine wpAny_pyIter_tuple ht ?_
  have W := Walks.tuple (prog := prog) (w := w) hh s.heap.objs.size l hne vs.toArray
  let J : Nat → (Str → Option Value) → List (Addr × Obj) → Prop := fun _ m₁ news₁ => news₁ = news ∧ ∀ y, y ≠ nm → y ≠ n1 → y ≠ n2 → m₁ y = m₀ y
  refine ⟨_, _, _, _, _, _, m₀, news, J, rfl, W, ?_, ?_, ?_, ⟨⟨_, Heap.get?_push_size _ rfl, rfl, rfl⟩, ht.push _⟩, F.push _, (fun p hp => ⟨Heap.get?_push_of_some _ (N p hp).1, (N p hp).2⟩), ⟨rfl, fun _ _ _ _ => rfl⟩, ?_, ?_⟩
  · intro hq
    rcases List.mem_cons.mp hq with e | hq
    · exact absurd F.ns.lt (e ▸ Nat.lt_irrefl _)
    · exact (N _ hm).2.1 (List.mem_singleton.mp hq).symm
  · intro b hb
    rw [List.mem_singleton.mp hb]
    exact next_is_new F
  · intro p hp hI
    exact absurd (Heap.lt_size (N p hp).1) ((List.mem_singleton.mp hI) ▸ Nat.lt_irrefl _)
  · rintro i v m₁ news₁ s₁ own ⟨hh', tk', rfl⟩ _ hP ⟨rfl, hJ⟩ hoff _ _ _ _ F₁ N₁
    obtain ⟨x, t, rfl, hx⟩ := hs v (by
      have hP' : vs[i]? = some v := by simpa using hP
      exact List.mem_of_getElem? hP')
    have e : (fun y => if y = nm then some (Value.str x t) else m₁ y) = fun y => if y = nm then some (Value.str x t) else if y = n1 then m₁ n1 else if y = n2 then m₁ n2 else m₀ y := by
      funext y
      by_cases a : y = nm
      · rw [if_pos a, if_pos a]
      · rw [if_neg a, if_neg a]
        by_cases b : y = n1
        · rw [if_pos b, b]
        · rw [if_neg b]
          by_cases d : y = n2
          · rw [if_pos d, d]
          · rw [if_neg d]; exact hJ y a b d
    rw [e] at F₁
    refine wpAny_mono (turn x t (m₁ n1) (m₁ n2) hh' tk' own hx F₁ N₁) (fun f s₂ p => ?_) fun _ _ e => e
    cases f with
    | ret v => exact .ret p
    | brk => exact p.elim
    | next =>
      obtain ⟨h', tk, u, u1, u2, e, F', N'⟩ := p
      exact .next ⟨rfl, h', tk, _, news₁, e, F', N', hoff, rfl, fun y a b d => chain3_off y a b d⟩
    | cont => exact p.elim
  · rintro h' tk m' news' F' N' _ ⟨rfl, hJ⟩
    rw [chain3_in hJ] at F'
    exact done _ _ _ h' tk F' N'
end
end Mine
end
section
open PySem PySem.W PyProof.Rows PySem.Calls
set_option Elab.async false
set_option maxRecDepth 100000
set_option maxHeartbeats 4000000
namespace Mine
/-! an exception of the program's own, with an __init__ of its own -/
abbrev dieTail : List Value := [.ref 31, .type "Exception", .type "BaseException", .type "object"]
abbrev excO (t : Addr) (d : Option Addr) : Obj := { cls := .ref 51, dict := d, data := .fields #[.ref t, .none, .none, .none, .bool false, .none] }
abbrev argsO (vs : List Value) : Obj := { cls := .type "tuple", data := .seq vs.toArray }
def IsDie (h : Heap) : Prop := ∃ nm q bs hdct sn sub ab col dd k0 k1 k2 k3 k5, h.get? 51 = some (excClassObj nm q 51 50 bs dieTail hdct sn sub ab col dd k0 k1 k2 k3 k5 "Exception.__new__")
theorem isDie_of {P : Params} {h : Heap} (X : (K P).In h) : IsDie h := ⟨_, _, _, _, _, _, _, _, _, _, _, _, _, _, X 51 _ rfl⟩
theorem IsDie.keeps {h h' : Heap} (D : IsDie h) (k : ∀ b o, h.get? b = some o → h'.get? b = some o) : IsDie h' :=
  let ⟨a, b, c, d, e, f, g, i, j, l, m, n, o, p, hC⟩ := D
  ⟨a, b, c, d, e, f, g, i, j, l, m, n, o, p, k _ _ hC⟩
section
variable {prog : Program} {w : World} {A : Around} {R : Result → Shared → Prop} {h : Heap} {g : Array GenState} {d : Drawn} {t : Nat} {os : OsState}
theorem exc_new {rest : List Value} (D : IsDie h) (hr : rest.length ≤ sizeLine)
    (hq : R (.ok (.ret (.ref (h.objs.size + 1)))) ⟨(h.push (argsO rest)).push (excO h.objs.size none), g, d, t, os⟩) :
    codeAny (model prog w) A (.call (.builtin "Exception.__new__") ⟨.ref 51 :: rest, []⟩) R ⟨h, g, d, t, os⟩ := by
  obtain ⟨nm, q, bs, hdct, sn, sub, ab, col, dd, k0, k1, k2, k3, k5, hC⟩ := D
  have Fn := PySem.F.excBase_Exception
  have hstar := Fn.noStar
  have hends := Fn.ends
  have hcB : (Value.ref 51 :: dieTail).contains (.type "Exception") = true := by decide
  have hcA : (Value.ref 51 :: dieTail).contains (.type "AttributeError") = false := by decide
  have hcN : (Value.ref 51 :: dieTail).contains (.type "NameError") = false := by decide
  refine codeAny_call_builtin_code (Code.quiet_builtin _ Fn.quiet) ?_
  simp only [checkBuiltinCall, Fn.newKind, Fn.newSplit, Fn.newRow]
  repeat (first | refine wpAny_loadPart_at hC ?_ | (refine wpAny_isSubtype_exc hC ?_; rw [hcB]) | refine wpAny_staticBase_exc hC ?_ | refine wpAny_madeBy_exc hC ?_ | simp only [bne_self_eq_false, Bool.false_eq_true, if_false] | wp_step)
  refine codeAny_builtinAt Fn.entry ?_
  unfold Builtin.«BaseException.__new__»
  refine PySem.wpAt_bind ?_
  show PySem.wpAt _ _ _ (stack >>= _) _ _ _
  refine PySem.wpAt_bind (PySem.wpAt_stack fun p below => PySem.wpAt_of_wpAny ?_)
  wp_walk
  refine PySem.wpAt_of_wpAny ?_
  rw [Fn.owner]
  repeat (first | with_reducible refine wpAny_madeHere_exc Fn.canon hC ?_ | with_reducible refine wpAny_loadPart_at hC ?_ | (with_reducible refine wpAny_isSubtype_exc hC ?_; first | rw [hcB] | rw [hcA] | rw [hcN]) | wp_step)
  show R _ _
  rw [Heap.size_push]
  exact hq
theorem exc_make {rest : List Value} {fI : Addr} (D : IsDie h) (hr : rest.length ≤ sizeLine)
    (hi : Looks (model prog w) h (typeLookup (.ref 51) "__init__") (some (.ref fI))) (hb : ∀ self, Looks (model prog w) h (bindSpecial (.ref fI) self) (.ref fI, [self]))
    (hq : codeAny (model prog w) (A.under (.builtin "type.__call__" ⟨.ref 51 :: rest, []⟩)) (.call (.ref fI) ⟨.ref (h.objs.size + 1) :: rest, []⟩) (InitBack (h.objs.size + 1) R) ⟨(h.push (argsO rest)).push (excO h.objs.size none), g, d, t, os⟩) :
    codeAny (model prog w) A (.call (.ref 51) ⟨rest, []⟩) R ⟨h, g, d, t, os⟩ := by
  have D' := D
  obtain ⟨nm, q, bs, hdct, sn, sub, ab, col, dd, k0, k1, k2, k3, k5, hC⟩ := D
  have f1 := tc_lookup
  have f2 := tc_bind (.ref 51)
  have hT : (⟨h, g, d, t, os⟩ : Shared).TypeIs (.ref 51) "type" := ⟨_, hC, rfl⟩
  refine codeAny_of_tree ?_
  show wpAny _ _ (callAny (.ref 51) _) _ _ _
  repeat (any_goals (first | assumption | with_reducible refine wpAny_loadPart_at hC ?_ | wp_step))
  refine ⟨rfl, ?_⟩
  refine codeAny_call_builtin_at (Code.quiet_builtin _ (by decide +kernel)) entry_typeCall (wpAny_check_type_call_sub hC ?_)
  repeat (first | with_reducible refine wpAny_loadPart_at hC ?_ | with_reducible refine wpAny_madeBy_exc hC ?_ | wp_step)
  refine exc_new D' hr ?_
  show wpAny _ _ _ _ _ _
  have k : ∀ b o, h.get? b = some o → ((h.push (argsO rest)).push (excO h.objs.size none)).get? b = some o := fun b o e => Heap.get?_push_of_some _ (Heap.get?_push_of_some _ e)
  have hC₁ := k _ _ hC
  have hget : ((h.push (argsO rest)).push (excO h.objs.size none)).get? (h.objs.size + 1) = some (excO h.objs.size none) := by heap_get
  have hcC : (Value.ref 51 :: dieTail).contains (.ref 51) = true := by decide
  unfold isInstance
  repeat (first | with_reducible refine wpAny_loadPart_at hget ?_ | (with_reducible refine wpAny_isSubtype_exc hC₁ ?_; rw [hcC]) | wp_step)
  simp only [show ([] : List Value).append rest = rest from rfl, List.cons_append, List.nil_append]
  show wpAny _ _ (isSubtype (.ref 51) (.ref 51)) _ _ _
  refine wpAny_isSubtype_exc hC₁ ?_
  rw [hcC]
  have t1 : Looks (model prog w) ((h.push (argsO rest)).push (excO h.objs.size none)) (typeOf (.ref (h.objs.size + 1))) (.ref 51) := (Looks.ld hget).andThen .now
  have i1 := hi.keeps k
  have b1 := (hb (.ref (h.objs.size + 1))).keeps k
  simp only [Bool.not_true, Bool.false_eq_true, if_false]
  unfold callSpecial? specialOf
  repeat (first | with_reducible refine wpAny_call ?_ | lk)
  refine codeAny_mono hq fun r s' z => ?_
  rcases r with e | (v | _ | _ | _) <;> first | exact z | exact z.elim | skip
  obtain ⟨rfl, z⟩ := z
  exact wpAny_pure (wpAny_pure z)
end
end Mine
end
section
open PySem PySem.W PyProof.Rows PySem.Calls PySem.Builtin PySem.Builtin.ObjectAttr PySem.Builtin.Getset_descriptor
set_option Elab.async false
set_option maxRecDepth 100000
set_option maxHeartbeats 4000000
namespace Mine
section
variable {prog : Program} {w : World} {A : Around} {E : Value → Shared → Prop} {s : Shared} {KF : Frag} {e : Addr} {ox : Obj} {od : Option Obj} {name : Str} {v : Value} {tk : Tok} {R : Result → Shared → Prop}
theorem refuse_exc (self : Value) : refuseLoop self "__setattr__" [.ref 51, .ref 31, .type "Exception", .type "BaseException", .type "object"] = pure () := by
  rw [refuseLoop_ref, refuseLoop_ref]
  exact PySem.F.store_Exception.passes self
theorem exc_osa (X : KF.In s.heap) (I : InstAt s.heap e ox 51 od) (hc : (clsIn KF 51).map (·.mro) = some (.ref 51 :: dieTail)) (hn : findIn KF (.ref 51) name = some none)
    (h : wpAny (model prog w) A.in1 (storeInOwnDict (.ref e) (.ref 51) (.str name tk) name v false)
      (fun fin s' => match fin with | .done f => R (.ok f) s' | .again c' => c'.quiet = true ∧ codeAny (model prog w) A c' R s') (fun e s' => R (.error e) s') s) :
    codeAny (model prog w) A (.call (.builtin "object.__setattr__") ⟨[.ref e, .str name tk, v], []⟩) R s := by
  have SF := PySem.F.store_object
  obtain ⟨cd, hcd, hm'⟩ := Option.map_eq_some_iff.mp hc
  have hm : Looks (model prog w) s.heap (mroOf (.ref 51)) cd.mro := (looks_clsIn X hcd).andThen .now
  have sub : Looks (model prog w) s.heap (isInstance (.ref e) (.type "object")) true := I.type.andThen (looks_mroIn X (by unfold mroIn; rw [hcd, Option.bind_some, hm']; rfl))
  refine codeAny_call_builtin SF.slot.plain SF.entry (@check_slot (model prog w) _ _ s "object.__setattr__" "object" "__setattr__" (.ref e) [.str name tk, v] [] _ SF.kind SF.split sub (SF.args (.ref e) (.str name tk) v) ?_)
  rw [osa_eq, refuse_eq]
  refine wpAny_bind (wpAny_bind (I.type.here (wpAny_bind (hm.here ?_))))
  rw [hm', refuse_exc]
  exact wpAny_pure (wpAny_bind (I.type.here (wpAny_bind ((looks_findIn X hn).here (wpAny_bind (wpAny_pure h))))))
end
section
variable {prog : Program} {w : World} {A : Around} {E : Value → Shared → Prop} {s : Shared} {KF : Frag} {e t dx L : Addr} {h₀ : Heap} {m : Str → Option Value} {l : CbLed} {name : Str} {v : Value} {Q : Unit → Shared → Prop}
theorem exc_set1 {es : List DictEntry} (F : Fr h₀ L s.heap m) (X₀ : KF.In h₀) (N : News h₀ L s.heap ((e, excO t none) :: l)) (hl : ∀ p ∈ l, p.1 ≠ e) (hs : findIn KF (.ref 51) "__setattr__" = some (some (.builtin "object.__setattr__")))
    (hc : (clsIn KF 51).map (·.mro) = some (.ref 51 :: dieTail)) (hd : (clsIn KF 51).map (·.hasDict) = some true) (hn : findIn KF (.ref 51) name = some none)
    (hp : Obj.putName name (PyData.keyHash w.params name) (.str name (s.toks + 1)) v emptyDict = dictOf es 1) (hz : es.length ≤ 1000)
    (h : ∀ d h', Fr h₀ L h' m → News h₀ L h' ((e, excO t (some d)) :: (d, dictOf es 1) :: l) → (∀ p ∈ (e, excO t none) :: l, p.1 < d) → Q () { s with heap := h', toks := s.toks + 2 }) :
    wpAny (model prog w) A (setAttr (.ref e) name v) Q E s := by
  have X := X₀.keeps F.keep
  have he := (N _ (.head _)).1
  have I : InstAt s.heap e (excO t none) 51 none := ⟨he, rfl, rfl, trivial⟩
  obtain ⟨cd, hcd, hdd⟩ := Option.map_eq_some_iff.mp hd
  refine set_plain X I hs (exc_osa (s := { s with toks := s.toks + 1 }) X I hc hn ?_)
  refine wpAny_bind (wpAny_pure (wpAny_bind (wpAny_bind (wpAny_loadPart he (wpAny_bind (looks_clsIn X hcd _ _ _ _ (fun _ _ e => e) ?_))))))
  rw [hdd]
  obtain ⟨hh, g, dr, tk, os⟩ := s
  have ne : e ≠ hh.objs.size := Nat.ne_of_lt (Heap.lt_size he)
  have he₁ : (hh.push emptyDict).get? e = some (excO t none) := Heap.get?_push_of_some _ he
  refine wpAny_bind (wpAny_alloc (wpAny_bind (wpAny_update he₁ (wpAny_pure ?_))))
  have N1 := N.push F emptyDict
  have lt : ∀ p ∈ (e, excO t none) :: l, p.1 < hh.objs.size := fun p hp => Heap.lt_size (N p hp).1
  obtain ⟨F2, N2⟩ := news_upd (pre := [(hh.objs.size, emptyDict)]) (post := l) (d := e) (f := fun o => { cls := o.cls, dict := some hh.objs.size, data := o.data, slots := o.slots }) (o' := excO t (some hh.objs.size)) (F.push emptyDict) N1 (fun p hp => by rw [List.mem_singleton.mp hp]; exact ne.symm) hl rfl rfl
  have D := (N2 (hh.objs.size, emptyDict) (.head _)).1
  obtain ⟨U1, U2⟩ := news_upd (pre := []) (post := (e, excO t (some hh.objs.size)) :: l) (d := hh.objs.size) (f := Obj.putName name (PyData.keyHash w.params name) (.str name (tk + 1)) v) F2 N2 (fun p hp => nomatch hp)
    (fun p hp => by
      rcases List.mem_cons.mp hp with rfl | hp
      · exact ne
      · exact Nat.ne_of_lt (lt p (.tail _ hp))) hp rfl
  have D' := (U2 (hh.objs.size, dictOf es 1) (.head _)).1
  show wpAny _ _ (storeInDict hh.objs.size (.str name tk) name v) _ _ _
  unfold storeInDict newKeyGuard nsSet
  refine wpAny_bind (wpAny_pure (wpAny_bind (wpAny_bind (wpAny_bind (wpAny_askSetting (wpAny_pure (wpAny_bind (wpAny_mkText (wpAny_bind (wpAny_loadPart D ?_))))))))))
  dsimp only
  rw [aRefKeyMayBeTheName_at, show (!(#[] : Array DictEntry).any (·.key.isStr name) && (#[] : Array DictEntry).any (·.refKey)) = false by simp]
  refine wpAny_updatePart D ?_
  refine wpAny_bind (wpAny_lookBehind D' (pastItsLine_dict (by rw [List.size_toArray, sizeLine_eq]; omega)) ?_)
  exact wpAny_pure (h _ _ U1 (fun p hp => U2 p (by
    rcases List.mem_cons.mp hp with rfl | hp
    · exact .tail _ (.head _)
    · rcases List.mem_cons.mp hp with rfl | hp
      · exact .head _
      · exact .tail _ (.tail _ hp))) lt)
theorem exc_set2 {es es' : List DictEntry} {n n' : Nat} (F : Fr h₀ L s.heap m) (X₀ : KF.In h₀) (N : News h₀ L s.heap ((e, excO t (some dx)) :: (dx, dictOf es n) :: l)) (hl : ∀ p ∈ l, p.1 ≠ dx) (hne : e ≠ dx) (hs : findIn KF (.ref 51) "__setattr__" = some (some (.builtin "object.__setattr__")))
    (hc : (clsIn KF 51).map (·.mro) = some (.ref 51 :: dieTail)) (hd : (clsIn KF 51).map (·.hasDict) = some true) (hn : findIn KF (.ref 51) name = some none)
    (hr : (es.any (·.refKey)) = false) (hp : Obj.putName name (PyData.keyHash w.params name) (.str name (s.toks + 1)) v (dictOf es n) = dictOf es' n') (hz : es'.length ≤ 1000)
    (h : ∀ h', Fr h₀ L h' m → News h₀ L h' ((e, excO t (some dx)) :: (dx, dictOf es' n') :: l) → Q () { s with heap := h', toks := s.toks + 2 }) :
    wpAny (model prog w) A (setAttr (.ref e) name v) Q E s := by
  have X := X₀.keeps F.keep
  have he := (N _ (.head _)).1
  have D := (N (dx, dictOf es n) (.tail _ (.head _))).1
  have I : InstAt s.heap e (excO t (some dx)) 51 (some (dictOf es n)) := ⟨he, rfl, rfl, D⟩
  obtain ⟨cd, hcd, hdd⟩ := Option.map_eq_some_iff.mp hd
  refine set_plain X I hs (exc_osa (s := { s with toks := s.toks + 1 }) X I hc hn ?_)
  refine wpAny_bind (wpAny_pure (wpAny_bind (wpAny_bind (wpAny_loadPart he (wpAny_bind (looks_clsIn X hcd _ _ _ _ (fun _ _ e => e) ?_))))))
  rw [hdd]
  obtain ⟨hh, g, dr, tk, os⟩ := s
  refine wpAny_pure ?_
  obtain ⟨U1, U2⟩ := news_upd (pre := [(e, excO t (some dx))]) (post := l) (d := dx) (f := Obj.putName name (PyData.keyHash w.params name) (.str name (tk + 1)) v) F N (fun p hp => by rw [List.mem_singleton.mp hp]; exact hne) hl hp rfl
  have D' := (U2 (dx, dictOf es' n') (.tail _ (.head _))).1
  show wpAny _ _ (storeInDict dx (.str name tk) name v) _ _ _
  unfold storeInDict newKeyGuard nsSet
  refine wpAny_bind (wpAny_pure (wpAny_bind (wpAny_bind (wpAny_bind (wpAny_askSetting (wpAny_pure (wpAny_bind (wpAny_mkText (wpAny_bind (wpAny_loadPart D ?_))))))))))
  dsimp only
  rw [aRefKeyMayBeTheName_at, show (es.toArray.any (·.refKey)) = false by rw [← Array.any_toList]; exact hr, Bool.and_false]
  refine wpAny_updatePart D ?_
  refine wpAny_bind (wpAny_lookBehind D' (pastItsLine_dict (by rw [List.size_toArray, sizeLine_eq]; omega)) ?_)
  exact wpAny_pure (h _ U1 U2)
end
section
variable {prog : Program} {w : World} {A : Around} {E : Value → Shared → Prop} {s : Shared} {KF : Frag} {e t L : Addr} {od : Option Addr} {h₀ : Heap} {m : Str → Option Value} {l : CbLed} {vs : List Value} {Q : Value → Shared → Prop}
theorem exc_init (F : Fr h₀ L s.heap m) (D : IsDie h₀) (N : News h₀ L s.heap ((e, excO t od) :: l)) (hl : ∀ p ∈ l, p.1 ≠ e) (hr : vs.length ≤ 1000)
    (h : ∀ t2 h', Fr h₀ L h' m → News h₀ L h' ((e, excO t2 od) :: l) → Q .none { s with heap := h' }) :
    wpAny (model prog w) A (call (.builtin "Exception.__init__") (.ref e :: vs)) Q E s := by
  obtain ⟨nm, q, bs, hdct, sn, sub, ab, col, dd, k0, k1, k2, k3, k5, hC⟩ := D.keeps F.keep
  have Fn := PySem.F.excBase_Exception
  have he := (N _ (.head _)).1
  obtain ⟨hh, g, dr, tk, os⟩ := s
  dsimp only at hC he
  have hcB : (Value.ref 51 :: dieTail).contains (.type "Exception") = true := by decide
  have hshort := Fn.noStar
  refine wpAny_call (codeAny_call_builtin Fn.init.plain Fn.initEntry ?_)
  simp only [checkBuiltinCall, Fn.initKind, Fn.initSplit, Fn.initRow]
  repeat (first | with_reducible refine wpAny_loadPart_at he ?_ | with_reducible refine wpAny_loadPart_at hC ?_ | (with_reducible refine wpAny_isSubtype_exc hC ?_; rw [hcB]) | wp_step)
  refine wpAny_onRaise ?_
  rw [show ∀ (a b : String) (n : Nat), Bind.check ⟨.positional, "*", "Exception", .self, [⟨"args", .varPos, false⟩]⟩ a b n (List.map (fun x => x.fst) ({ pos := Value.ref e :: vs } : Args).kw) = pure () from
    fun a b n => check_star_args _ _ _ _ _ _]
  refine wpAny_pure ?_
  wp_walk
  rw [if_neg (show ¬ vs.toArray.size > sizeLine by rw [List.size_toArray, sizeLine_eq]; omega)]
  have he₁ : (hh.push (argsO vs)).get? e = some (excO t od) := Heap.get?_push_of_some _ he
  wp_walk
  obtain ⟨U1, U2⟩ := news_upd (pre := [(hh.objs.size, argsO vs)]) (post := l) (d := e) (f := Obj.mapFields fun x => x.setIfInBounds 0 (Value.ref hh.objs.size)) (o' := excO hh.objs.size od) (F.push (argsO vs)) (N.push F (argsO vs))
    (fun p hp => by rw [List.mem_singleton.mp hp]; exact (Nat.ne_of_lt (Heap.lt_size he)).symm) hl rfl rfl
  exact h _ _ U1 (fun p hp => U2 p (.tail _ hp))
end
end Mine
end
section
open PySem PySem.W PyProof.Rows
set_option Elab.async false
set_option maxRecDepth 100000
set_option maxHeartbeats 4000000
namespace Mine
theorem fill1 : PR = PR ∧ PySem.Challenge.rw_sa0532_01 = PySem.Challenge.rw_sa0532_01 ∧ K = K := by k_fill; exact ⟨rfl, rfl, rfl⟩
theorem rules_C1_0 : True := by
  k_with_none
  k_with "eval Call" => (k_dflt (refine Call_ ?_))
  trivial
section
variable {w : World} {news : CbLed}
theorem c_wrap {n : Int} {tn : Tok} {wd : Int} {tw : Tok} (hpre : 1 ≤ wd ∧ wd ≤ 64 ∧ -(2^130) ≤ n ∧ n ≤ 2^130) : Cl w 1 60 news [.int n tn, .int wd tw] (fun t => .int (wrapN n wd) t) := by
  dsimp only [Cl, CbRet]
  intros
  rename_i hret
  obtain ⟨h1, h2, h3, h4⟩ := hpre
  refine wpAny_call ?_
  k_dflt cell_enter
  k_steps
  all_goals (
    have q1 := two_hp h1
    have q2 := two_hp1 h1
    have q3 := hp_pos wd
    first
    | (rename (1 : Int) * 2 ^ _ = 0 => hz; exfalso; rw [q1] at hz; omega)
    | (refine cb_retI hret ?_ (by assumption) (by assumption)
       unfold wrapN
       (first | (rename Int.fdiv _ _ = (0 : Int) => hq) | (rename Int.fdiv _ _ ≠ (0 : Int) => hq))
       rw [Int.one_mul, q1, q2, Int.fdiv_eq_ediv_of_nonneg _ (by omega), Int.fmod_eq_emod_of_nonneg _ (by omega)] at hq
       rw [Int.one_mul, q1, Int.fmod_eq_emod_of_nonneg _ (by omega)]
       first | (rw [wrap_lo q3 hq]; done) | (rw [wrap_hi q3 hq]; done)))
end
end Mine
end
section
open PySem PySem.W PyProof.Rows PySem.Calls
set_option Elab.async false
set_option maxRecDepth 100000
set_option maxHeartbeats 4000000
namespace Mine
theorem kd_sa (P : Params) : findIn (K P) (.ref 51) "__setattr__" = some (some (.builtin "object.__setattr__")) := by kernel_rfl
theorem kd_mro (P : Params) : (clsIn (K P) 51).map (·.mro) = some (.ref 51 :: dieTail) := by kernel_rfl
theorem kd_has (P : Params) : (clsIn (K P) 51).map (·.hasDict) = some true := by kernel_rfl
theorem kd_text (P : Params) : findIn (K P) (.ref 51) "text" = some none := by kernel_rfl
theorem kd_value (P : Params) : findIn (K P) (.ref 51) "value" = some none := by kernel_rfl
abbrev dO1 (P : Params) (k : Tok) (v : Value) : Obj := dictOf [⟨PyData.keyHash P "text", .str "text" k, v⟩] 1
abbrev dO2 (P : Params) (k : Tok) (v : Value) (k2 : Tok) (v2 : Value) : Obj := dictOf [⟨PyData.keyHash P "text", .str "text" k, v⟩, ⟨PyData.keyHash P "value", .str "value" k2, v2⟩] 2
section
variable {prog : Program} {w : World} {A : Around} {E : Value → Shared → Prop} {s : Shared} {e t dx L : Addr} {h₀ : Heap} {m : Str → Option Value} {l : CbLed} {v v1 : Value} {Q : Unit → Shared → Prop}
theorem exc_text (F : Fr h₀ L s.heap m) (X₀ : (K w.params).In h₀) (N : News h₀ L s.heap ((e, excO t none) :: l)) (hl : ∀ p ∈ l, p.1 < e)
    (h : ∀ d k h', Fr h₀ L h' m → News h₀ L h' ((e, excO t (some d)) :: (d, dO1 w.params k v) :: l) → ((∀ p ∈ l, p.1 < d) ∧ e < d) → Q () { s with heap := h', toks := s.toks + 2 }) :
    wpAny (model prog w) A (setAttr (.ref e) (Str.ofString "text") v) Q E s :=
  exc_set1 F X₀ N (fun p hp => Nat.ne_of_lt (hl p hp)) (kd_sa _) (kd_mro _) (kd_has _) (kd_text _) (es := [⟨PyData.keyHash w.params "text", .str "text" (s.toks + 1), v⟩]) rfl (by simp only [List.length_cons, List.length_nil]; omega)
    fun d h' F' N' lt => h d _ h' F' N' ⟨fun p hp => lt p (.tail _ hp), lt _ (.head _)⟩
theorem exc_value {k : Tok} (F : Fr h₀ L s.heap m) (X₀ : (K w.params).In h₀) (N : News h₀ L s.heap ((e, excO t (some dx)) :: (dx, dO1 w.params k v1) :: l)) (hl : (∀ p ∈ l, p.1 < dx) ∧ e < dx)
    (h : ∀ h', Fr h₀ L h' m → News h₀ L h' ((e, excO t (some dx)) :: l) → Q () { s with heap := h', toks := s.toks + 2 }) :
    wpAny (model prog w) A (setAttr (.ref e) (Str.ofString "value") v) Q E s :=
  exc_set2 F X₀ N (fun p hp => Nat.ne_of_lt (hl.1 p hp)) (Nat.ne_of_lt hl.2) (kd_sa _) (kd_mro _) (kd_has _) (kd_value _) (by rfl) (es' := [⟨PyData.keyHash w.params "text", .str "text" k, v1⟩, ⟨PyData.keyHash w.params "value", .str "value" (s.toks + 1), v⟩]) (n' := 2) (by rfl) (by simp only [List.length_cons, List.length_nil]; omega)
    fun h' F' N' => h h' F' (fun p hp => N' p (by
      rcases List.mem_cons.mp hp with rfl | hp
      · exact .head _
      · exact .tail _ (.tail _ hp)))
end
end Mine
end
section
open PySem PySem.W PyProof.Rows PySem.Calls
set_option Elab.async false
set_option maxRecDepth 100000
set_option maxHeartbeats 4000000
namespace Mine
theorem rules_E2_0 : True := by
  k_with_none
  k_with "eval Call" => (k_dflt (refine Call_ ?_))
  trivial
section
variable {prog : Program} {w : World} {A : Around} {E : Value → Shared → Prop} {s : Shared} {h₀ : Heap} {L : Addr} {m : Str → Option Value} {news : CbLed} {Q : Value → Shared → Prop}
theorem die_call {pos : List Value} (hr : pos.length ≤ 1000) (F : Fr h₀ L s.heap m) (X₀ : (K w.params).In h₀) (N : News h₀ L s.heap news) (hi : findIn (K w.params) (.ref 51) "__init__" = some (some (.ref 48))) (hf : isFn (K w.params) (.ref 48) = true)
    (h : ∀ e t h', Fr h₀ L h' m → News h₀ L h' ((e, excO t none) :: news) → (∀ p ∈ news, p.1 < e) →
      codeAny (model prog w) (A.under (.builtin "type.__call__" ⟨.ref 51 :: pos, []⟩)) (.call (.ref 48) ⟨.ref e :: pos, []⟩) (InitBack e fun r s' => match r with | .ok (.ret v) => Q v s' | .ok _ => False | .error e => E e s') { s with heap := h' }) :
    wpAny (model prog w) A (call (.ref 51) pos) Q E s := by
  obtain ⟨hh, g, d, t, os⟩ := s
  have X := X₀.keeps F.keep
  refine wpAny_call (exc_make (isDie_of X) (by rw [sizeLine_eq]; omega) (looks_findIn X hi) (fun self => bind_fn X self (beq_iff_eq.mp hf)) ?_)
  have N' := (N.push F (argsO pos)).push (F.push _) (excO hh.objs.size none)
  rw [Heap.size_push] at N'
  exact h _ hh.objs.size _ ((F.push _).push _) (fun p hp => N' p (by
      rcases List.mem_cons.mp hp with rfl | hp
      · exact .head _
      · exact .tail _ (.tail _ hp))) (fun p hp => Nat.lt_succ_of_lt (Heap.lt_size (N p hp).1))
end
theorem meta_exc : typeOf (.type "Exception") = pure (.type "type") := by kernel_rfl
theorem rules_E2_1 : True := by
  k_with "getMethod type:Exception" => ((k_here; refine' method_type ?F ?X ?m (by decide +kernel) ?e ?h ?_; (case F => k_asm); (case X => k_asm); (case m => exact meta_exc); (case e => k_dflt k_is); (case h => k_handed)))
  k_with "call builtin:Exception.__init__" => ((k_here; k_dflt (refine' exc_init ?F ?X ?N ?l ?r ?_; (case F => k_asm); (case N => k_asm); (case X => exact isDie_of (by k_asm)); (case l => exact fun p hp => Nat.ne_of_lt ((by assumption : ∀ p ∈ _, p.1 < _) p hp)); (case r => simp only [List.length_cons, List.length_nil]; omega); k_whole); intro t9 h9 F9 N9; (try dsimp only); (try k_sweep); (try k_fold)))
  k_with "setAttr ref" => ((k_here; (with_reducible show wpAny _ _ (setAttr _ (Str.ofString "text") _) _ _ _); k_dflt (refine' exc_text ?F ?X ?N ?l ?_; (case F => k_asm); (case X => k_asm); (case N => k_asm); (case l => assumption)); intro d9 k9 h9 F9 N9 l9; (try dsimp only); (try k_sweep); (try k_fold)))
  k_with "setAttr ref" => ((k_here; (with_reducible show wpAny _ _ (setAttr _ (Str.ofString "value") _) _ _ _); k_dflt (refine' exc_value ?F ?X ?N ?l ?_; (case F => k_asm); (case X => k_asm); (case N => k_asm); (case l => assumption)); intro h9 F9 N9; (try dsimp only); (try k_sweep); (try k_fold)))
  trivial
abbrev ClE (w : World) (lvl : Nat) (news : CbLed) (vs : List Value) : Prop :=
  ∀ {p : Program} {loose : List Str} {mean : ExcName → Option Value} {mg mb : Str → Option Value} (dp un : Nat) (gd : Option (List Code)) (cn : Str) (cs : Scope) (a : Addr) (ccd : Value) (cl : List (Str × Addr)) (outer : List Env) (A₀ : Around) (base h₀ : Heap) (L : Addr) (m : Str → Option Value) (s : Shared) (Q E : Value → Shared → Prop),
    Below A₀ base outer h₀ → Fr h₀ L s.heap m → (K w.params).In h₀ → News h₀ L s.heap news → Top p loose mean mg mb h₀ → cs.kind = .function → dp + lvl < recursionLimit → un + 8 * lvl < cLine →
    (∀ (e t d : Addr) (h' : Heap) (tk' : Nat), Fr h₀ L h' m → News h₀ L h' ((e, excO t (some d)) :: news) → (∀ p ∈ news, p.1 < e) → Q (.ref e) { s with heap := h', toks := tk' }) →
    wpAny (model PR w) (ktrTop dp un gd cn cs L a ccd cl outer) (call (.ref 51) vs) Q E s
theorem rules_E2_2 : True := by
  k_with "call ref" => ((k_here; (try dsimp only [List.nil_append, List.append_nil]); (with_reducible show wpAny _ _ (call (Value.ref _) _) _ _ _); (refine wpAny_call ?_); k_dflt (refine' code_def ?k1 ?k2 ?k3 ?k4 ?k5 ?kA ?kF ?kK ?k6 ?k7 ?k8 ?k9 ?kB ?_ ?c2 ?c3 ?c4 ?c5; (case kA => exact rfl); (case kF => exact rfl); (case kK => first | exact rfl | assumption); (case k1 => k_asm); (case k2 => k_asm); (case k3 => k_asm); (case k4 => k_asm); (case k5 => k_asm); (case k6 => k_is); (case k7 => k_is); (case k8 => ktr_room); (case k9 => exact BindsTo.of_eq rfl); (case c5 => decide); (case kB => exact locs rfl); (case c2 => exact rfl); (case c3 => exact rfl); (case c4 => exact rfl); k_whole; intro g' L' h' FG' F' N' B' X' T'; (try dsimp only); (try k_lift B'); (try k_fold))))
  trivial
section
variable {w : World} {news : CbLed}
theorem c_die {x : Str} {t1 : Tok} : ClE w 4 news [.str x t1] := by
  dsimp only [ClE]
  intros
  rename_i hret
  refine' die_call ?a ?b ?c ?d ?e ?f ?_
  case a => simp only [List.length_cons, List.length_nil]; omega
  case b => assumption
  case c => assumption
  case d => assumption
  case e => k_is
  case f => k_is
  intro x' t' h' F' N' l1
  k_dflt (refine' code_def ?k1 ?k2 ?k3 ?k4 ?k5 ?kA ?kF ?kK ?k6 ?k7 ?k8 ?k9 ?kB ?_ ?c2 ?c3 ?c4 ?c5; (case kA => exact rfl); (case kF => exact rfl); (case kK => first | exact rfl | assumption); (case k1 => k_asm); (case k2 => k_asm); (case k3 => k_asm); (case k4 => k_asm); (case k5 => k_asm); (case k6 => k_is); (case k7 => k_is); (case k8 => ktr_room); (case k9 => exact BindsTo.of_eq rfl); (case c5 => decide); (case kB => exact locs rfl); (case c2 => exact rfl); (case c3 => exact rfl); (case c4 => exact rfl); k_whole; intro g' L' h' FG' F' N' B' X' T'; (try dsimp only); (try k_lift B'); (try k_fold))
  k_steps
  all_goals exact hret _ _ _ _ _ (by assumption) (by assumption) (by assumption)
end
end Mine
end
section
open PySem PySem.W PyProof.Rows PySem.Calls
set_option Elab.async false
set_option maxRecDepth 100000
set_option maxHeartbeats 4000000
namespace Mine
/-! raising it, leaving frames with it, catching it -/
section
variable {prog : Program} {w : World} {A : Around} {E : Value → Shared → Prop} {s : Shared} {env : Env} {x : Sem Value} {Q : Flow → Shared → Prop}
def RaiseEnd (E : Value → Shared → Prop) (v : Value) (s : Shared) : Prop := ∃ a t d, v = .ref a ∧ s.heap.get? a = some (excO t (some d)) ∧ IsDie s.heap ∧ E (.ref a) s
theorem raiseEnd_of {h₀ : Heap} {L e t d : Addr} {m : Str → Option Value} {l : CbLed} {P : Params} (F : Fr h₀ L s.heap m) (X : (K P).In h₀) (N : News h₀ L s.heap ((e, excO t (some d)) :: l)) (h : E (.ref e) s) : RaiseEnd E (.ref e) s :=
  ⟨e, t, d, rfl, (N _ (.head _)).1, (isDie_of X).keeps F.keep, h⟩
theorem raise_exc {e₀ : Expr} {pos : Pos} (hh : A.handled = none) (h : wpAny (model prog w) A (eval e₀ env) (RaiseEnd E) E s) : wpAny (model prog w) A (exec (.Raise (some e₀) none pos) env) Q E s := by
  show wpAny (model prog w) A (do standAt pos; raiseStmt env (some (do let v ← eval e₀ env; standAt pos; pure v)) none) Q E s
  refine wpAny_bind (wpAny_standAt ?_)
  unfold raiseStmt
  dsimp only
  refine wpAny_bind (wpAny_bind (wpAny_mono h (fun v s₁ h₁ => wpAny_bind (wpAny_standAt (wpAny_pure ?_))) fun _ _ x => x))
  obtain ⟨a, t, d, rfl, he, ⟨nm, q, bs, hdct, sn, sub, ab, col, dd, k0, k1, k2, k3, k5, hC⟩, hE⟩ := h₁
  obtain ⟨hp, g, dr, tk, os⟩ := s₁
  have hcB : (Value.ref 51 :: dieTail).contains (.type "BaseException") = true := by decide
  repeat (first | with_reducible refine wpAny_loadPart_at he ?_ | with_reducible refine wpAny_loadPart_at hC ?_ | (with_reducible refine wpAny_isSubtype_exc hC ?_; rw [hcB]) | wp_step)
  exact wpAny_raiseNew_none hh hE
end
section
variable {M : Model} {A : Around} {E : Value → Shared → Prop} {s' : Shared} {base g g₂ h : Heap} {outer : List Env} {L a e t : Addr} {od : Option Addr} {m : Str → Option Value} {name : Str} {scope : Scope} {cd : Value} {Q : Unit → Shared → Prop} {news : CbLed}
theorem leave_exc (B : Below A base outer g) (F : Fr g L s'.heap m) (N : News g L s'.heap ((e, excO t od) :: news)) (hne : ∀ p ∈ news, p.1 < e)
    (hQ : ∀ h', RaisedSN base g outer e (.ref 51) news h' → g.UpToSlots h' → Q () { s' with heap := h' }) (hk : scope.kind = .function := by rfl) :
    wpAny M (A.deeper (envOf name scope L a cd)) (leaving (envOf name scope L a cd) (.ref e)) Q E s' := by
  have B' := B.push (name := name) (a := a) (cd := cd) F hk
  have he := N _ (.head _)
  have hb : base.get? e = none := fresh_of_stays B.stays he.2.2
  have hin : ∀ env ∈ (envOf name scope L a cd :: outer), ∀ b, env.frame = some b → b ∈ e :: (envOf name scope L a cd :: outer).filterMap (·.frame) := fun env hm b hf => .tail _ (List.mem_filterMap.mpr ⟨env, hm, hf⟩)
  have st : base.StaysIn (hideAll s'.heap (e :: (envOf name scope L a cd :: outer).filterMap (·.frame))) := fun b o q => hideAll_get _ (B'.stays b o q) fun hm => by
    rcases List.mem_cons.mp hm with rfl | hm
    · rw [hb] at q; cases q
    · rw [(B'.frames.mem hm).1] at q; cases q
  have sg : ∀ b o, g.get? b = some o → b ∉ outer.filterMap (·.frame) → (hideAll s'.heap (e :: (envOf name scope L a cd :: outer).filterMap (·.frame))).get? b = some o := fun b o q nm => hideAll_get _ (F.keep b o q) fun hm => by
    rcases List.mem_cons.mp hm with rfl | hm
    · rw [he.2.2] at q; cases q
    · rcases kts_mem hm with z | z
      · rw [z, kts_self F] at q; cases q
      · exact nm z
  have hl : ∀ q ∈ news, (hideAll s'.heap (e :: (envOf name scope L a cd :: outer).filterMap (·.frame))).get? q.1 = some q.2 ∧ g.get? q.1 = none ∧ base.get? q.1 = none := fun q hq => by
    have Nq := N q (.tail _ hq)
    refine ⟨hideAll_get _ Nq.1 fun hm => ?_, Nq.2.2, fresh_of_stays B.stays Nq.2.2⟩
    rcases List.mem_cons.mp hm with z | hm
    · exact Nat.ne_of_lt (hne q hq) z
    · obtain ⟨env, hm, hf⟩ := List.mem_filterMap.mp hm
      rcases List.mem_cons.mp hm with rfl | hm
      · exact Nq.2.1 (Option.some.inj hf).symm
      · obtain ⟨o, ho, _⟩ := (B.frames.mem (List.mem_filterMap.mpr ⟨env, hm, hf⟩)).2
        rw [Nq.2.2] at ho; cases ho
  have hen : (hideAll s'.heap (e :: (envOf name scope L a cd :: outer).filterMap (·.frame))).get? e = none := hideAll_none _ (.head _)
  refine wpAny_leaving_firstW (a0 := .ref t) B'.stack (funFrames_hide B'.frames hin) rfl he.1 (fun b o q => of_hideAll _ q) hen rfl rfl rfl fun h' hL => ?_
  obtain ⟨k1, ⟨_, _, k2⟩, k3, k4⟩ := hL
  exact hQ h' ⟨_, .ref t, st, sg, hl, k1, hen, k2, k3⟩ ((Heap.UpToSlots.of_keeps F.keep).trans k4)
end
section
variable {prog : Program} {w : World} {A₀ : Around} {E : Value → Shared → Prop} {s' : Shared} {base g g₀ G : Heap} {outer : List Env} {L a e : Addr} {m : Str → Option Value} {name : Str} {scope : Scope} {cd : Value}
  {b₀ : Stmt} {suite : List Stmt} {pos np : Pos} {rest : List ExceptHandler} {Q : Flow → Shared → Prop} {news : CbLed} {P : Params}
  {p : Program} {loose : List Str} {mean : ExcName → Option Value} {mg mb : Str → Option Value} {x : Str}
theorem caught_exc (R : RaisedSN base G (envOf name scope L a cd :: outer) e (.ref 51) news s'.heap) (F : Fr g L G m) (B₀ : Below A₀ base outer g) (hsm : G.UpToSlots s'.heap) (XB : (K P).In base) (TB : Top p loose mean mg mb base)
    (ex : nsIn (K P) mainGlobals x = some (some (.ref 51)))
    (k : ∀ h' g', KtsTurn (outer.filterMap (·.frame)) g g' → Fr g' L h' m → News g' L h' news →
      wpAny (model prog w) ((A₀.deeper (envOf name scope L a cd)).mark (some (.ref e))) (execs (b₀ :: suite) (envOf name scope L a cd)) Q E { s' with heap := h' })
    (hk : scope.kind = .function := by rfl) (hx : (envOf name scope L a cd).kindOf x = some .globalImplicit := by rfl) (hd : (x == ("__debug__" : Str)) = false := by decide)
    (hE : PassesOwnAt (model prog w) ((A₀.deeper (envOf name scope L a cd)).mark (some (.ref e))) (A₀.deeper (envOf name scope L a cd)) (envOf name scope L a cd) E := by passes_own) :
    wpAny (model prog w) (A₀.deeper (envOf name scope L a cd)) (noteFrame (.ref e) (envOf name scope L a cd))
      (fun _ s₂ => wpAny (model prog w) (A₀.deeper (envOf name scope L a cd)) (setFlight (.ref e) none) (fun _ s₃ =>
        wpAny (model prog w) (A₀.deeper (envOf name scope L a cd)) (handleBy (.ref e) (envOf name scope L a cd) (.ExceptHandler (some (.Name x np)) none (b₀ :: suite) pos :: rest)) Q E s₃) E s₂) E s' := by
  obtain ⟨B, a0, hB, hBG, hl, hfl⟩ := R
  have hL : B.get? L = none := by
    obtain ⟨_, ⟨L', _, hf, hn', _⟩, _⟩ := hfl.2.2.1
    obtain rfl : L = L' := Option.some.inj hf
    exact hn'
  refine wpAny_looks_onW (Around.frames_deeper B₀.stack) rfl hfl fun h₄ hheld₄ hsm₄ => ?_
  refine wpAny_landsW hheld₄ fun h₅ hheld hsm₅' => ?_
  have hsm₅ := hsm₄.trans hsm₅'
  obtain ⟨g₅, T₅, F₅, K₅⟩ := kts_ground B₀ F hBG hheld.1 (hsm.trans hsm₅)
  have X₅ : (K P).In g₅ := XB.keeps K₅.stays
  have P₅ : TopRead p loose mg mb g₅ := topRead_of (TB.keeps K₅.stays)
  obtain ⟨ob, hob, hobc⟩ := hheld.there
  refine wpAny_handleBy_cons (codeAny_handlers_test (name_K F₅ X₅ P₅ ex ?_ hk hx hd)) (by intro q; cases q)
  obtain ⟨nm, q, bs, hdct, sn, sub, ab, col, dd, k0, k1, k2, k3, k5, hC⟩ := (isDie_of X₅).keeps F₅.keep
  refine wpAny_excMatches_sub_self hC hob hobc (by decide) (codeAny_handlers_suite ?_)
  refine lands_againW hheld fun h₆ hfl₆ hsm₆ => ?_
  obtain ⟨g₆, T₆, F₆, K₆⟩ := kts_ground B₀ F hBG hfl₆.1 ((hsm.trans hsm₅).trans hsm₆)
  have Nl : News g₆ L h₆ news := fun q hq => ⟨hfl₆.1 _ _ (hl q hq).1, (fun z => by have := (hl q hq).1; rw [z, hL] at this; cases this), T₆.none_ _ (kts_none F.keep (hl q hq).2.1)⟩
  exact wpAny_passesOwnAt hE (k h₆ g₆ T₆ F₆ Nl)
end
section
variable {prog : Program} {w : World} {A₀ A : Around} {s : Shared} {base h₀ : Heap} {env : Env} {L : Addr} {m : Str → Option Value} {news : CbLed} {KF : Frag} {p : Program} {loose : List Str} {mean : ExcName → Option Value} {mg mb : Str → Option Value}
    {R : Result → Shared → Prop} {name qual : Str} {params : Arguments} {body : List Stmt} {scope : Scope} {dV kV doc pm cdv ct oc : Value} {an od : Option Addr} {osl : Array (Option Value)} {f : Addr} {args : Args} {binds : List (Str × Value)}
theorem enter_try (B : Below A₀ base [] h₀) (F : Fr h₀ L s.heap m) (X₀ : KF.In h₀) (N : News h₀ L s.heap news) (T : Top p loose mean mg mb h₀) (hA : A.frames = some [env]) (hf : env.frame = some L) (hke : env.scope.kind = .function)
    (ho : KF.lookup f = some ⟨oc, od, .func (fnOf name qual params body scope dV kV doc pm an cdv ct), osl⟩) (hcd : codeIn KF cdv qual = true) (hroom : A.depth < recursionLimit)
    (hbind : BindsTo s (fnOf name qual params body scope dV kV doc pm an cdv ct) args binds) (hloc : ∀ y ∈ binds, scope.names.lookup y.1 = some .local)
    (h : ∀ g L' h₁, Fr h₀ L g m → Fr g L' h₁ (fun y => binds.reverse.lookup y) → News g L' h₁ news → Below A base [env] g → KF.In g → Top p loose mean mg mb g →
      wpAny (model prog w) (A.deeper (envOf qual scope L' f cdv)) (execs body (envOf qual scope L' f cdv))
        (fun fl s' => LeaveS0 ([env].filterMap (·.frame)) h₀ L m g R (match fl with | .ret v => v | _ => .none) s')
        (fun e s' => wpAny (model prog w) (A.deeper (envOf qual scope L' f cdv)) (leaving (envOf qual scope L' f cdv) e) (fun _ s'' => R (.error e) s'') (fun e' s'' => R (.error e') s'') s')
        { s with heap := h₁, toks := s.toks + binds.length })
    (hco : scope.isCoroutine = false) (hgen : scope.isGenerator = false) (hk : scope.kind = .function)
    (hcell : ∀ x ∈ scope.names, x.2 ≠ .cell) : codeAny (model prog w) A (.call (.ref f) args) R s := by
  have X := X₀.keeps F.keep
  obtain ⟨FG, BG, st, _⟩ := groundX (R := R) B F N hA hf hke
  refine codeAny_call_def (fd := fnOf name qual params body scope dV kV doc pm an cdv ct) (body := body) (binds := binds) hroom (X _ _ ho) rfl (T.nolimit.keeps F.keep) (codeRec_of X hcd) rfl hbind hcell hloc (fun h₁ hns hk₁ => ?_) hco hgen hk
  refine wpAny_mono (h _ s.heap.objs.size h₁ FG ⟨hns, fun b o e => hk₁ b o (of_hideAll _ e), Nat.le_of_eq (hideAll_size _ _)⟩
    (fun p hp => ⟨hk₁ _ _ (N p hp).1, Nat.ne_of_lt (Heap.lt_size (N p hp).1), hideAll_none _ (List.mem_map_of_mem hp)⟩) BG (X₀.keeps st) (T.keeps st)) (fun fl s' hl => ?_) fun _ _ y => y
  obtain ⟨g', L', m', news', T', F', N', k⟩ := hl
  have fs : [env].filterMap (·.frame) = [L] := by simp [hf]
  rw [fs] at T'
  obtain ⟨oL, es, ep, hLg, hLd, hLk, hLf⟩ := FG.ns
  obtain ⟨sl, hs⟩ := T'.up hLg
  have nL₀ : h₀.get? L = none := kts_self F
  refine k ⟨⟨_, es, ep, F'.keep _ _ hs, hLd, hLk, hLf⟩, fun b o e => F'.keep b o (T'.other b o (st b o e) (fun q => by
    rw [List.mem_singleton.mp q, nL₀] at e; cases e)), F.above⟩ fun p hp => ⟨(N' p hp).1, fun q => ?_, ?_⟩
  · have := (N' p hp).2.2; rw [q, hs] at this; cases this
  · cases q : h₀.get? p.1 with
    | none => rfl
    | some o =>
      obtain ⟨sl', hs'⟩ := T'.up (st _ _ q)
      have := (N' p hp).2.2
      rw [hs'] at this; cases this
end
end Mine
end
section
open PySem PySem.W PyProof.Rows
set_option Elab.async false
set_option maxRecDepth 100000
set_option maxHeartbeats 4000000
namespace Mine
theorem rules_C2_0 : True := by
  k_with_none
  k_with "eval Call" => (k_dflt (refine Call_ ?_))
  k_with "call ref" => ((k_here; (with_reducible show wpAny _ _ (call (Value.ref 60) _) _ _ _); (refine' Cl.use (c_wrap ?kp) ?k1 ?k2 ?k3 ?k4 ?k5 ?kK ?kd ?ku ?_); (case k1 => k_asm); (case k2 => k_asm); (case k3 => k_asm); (case k4 => k_asm); (case k5 => k_asm); (case kK => first | exact rfl | assumption); (case kd => ktr_room); (case ku => ktr_units); (case kp => first | omega | fail "pre 60"); intro t9 h9 tk9 F9 N9; (try dsimp only); (try k_sweep); (try k_fold)))
  trivial
section
variable {w : World} {news : CbLed}
theorem c_add {x : Int} {t1 : Tok} {y : Int} {t2 : Tok} {wd : Int} {tw : Tok} (hpre : 1 ≤ wd ∧ wd ≤ 64 ∧ -(2^66) ≤ x ∧ x ≤ 2^66 ∧ -(2^66) ≤ y ∧ y ≤ 2^66) : Cl w 2 67 news [.int x t1, .int y t2, .int wd tw] (fun t => .int (wrapN (x + y) wd) t) := by
  dsimp only [Cl, CbRet]
  intros
  rename_i hret
  obtain ⟨h1, h2, h3, h4, h5, h6⟩ := hpre
  refine wpAny_call ?_
  k_dflt cell_enter
  k_steps
  all_goals exact hret _ _ _ (by assumption) (by assumption)
theorem c_sub {x : Int} {t1 : Tok} {y : Int} {t2 : Tok} {wd : Int} {tw : Tok} (hpre : 1 ≤ wd ∧ wd ≤ 64 ∧ -(2^66) ≤ x ∧ x ≤ 2^66 ∧ -(2^66) ≤ y ∧ y ≤ 2^66) : Cl w 2 74 news [.int x t1, .int y t2, .int wd tw] (fun t => .int (wrapN (x - y) wd) t) := by
  dsimp only [Cl, CbRet]
  intros
  rename_i hret
  obtain ⟨h1, h2, h3, h4, h5, h6⟩ := hpre
  refine wpAny_call ?_
  k_dflt cell_enter
  k_steps
  all_goals exact hret _ _ _ (by assumption) (by assumption)
theorem c_mul {x : Int} {t1 : Tok} {y : Int} {t2 : Tok} {wd : Int} {tw : Tok} (hpre : 1 ≤ wd ∧ wd ≤ 64 ∧ -(2^63) ≤ x ∧ x ≤ 2^63 ∧ -(2^63) ≤ y ∧ y ≤ 2^63) : Cl w 2 81 news [.int x t1, .int y t2, .int wd tw] (fun t => .int (wrapN (x * y) wd) t) := by
  dsimp only [Cl, CbRet]
  intros
  rename_i hret
  obtain ⟨h1, h2, h3, h4, h5, h6⟩ := hpre
  have hm : -(2^130) ≤ x * y ∧ x * y ≤ 2^130 := by
    have : (x * y).natAbs ≤ 2^63 * 2^63 := by
      rw [Int.natAbs_mul]
      exact Nat.mul_le_mul (by omega) (by omega)
    omega
  refine wpAny_call ?_
  k_dflt cell_enter
  k_steps
  all_goals first | exact hret _ _ _ (by assumption) (by assumption) | trace_state
theorem call_absN {prog : Program} {A : Around} {E : Value → Shared → Prop} {s : Shared} {a : Int} {t : Tok} {Q : Value → Shared → Prop} (h : ∀ u tk, Q (.int (a.natAbs : Int) u) { s with toks := tk }) : wpAny (model prog w) A (call (.builtin "abs") [.int a t]) Q E s :=
  call_abs_int fun u tk => by
    have : (if a < 0 then -a else a) = (a.natAbs : Int) := by omega
    rw [this]
    exact h u tk
theorem rules_C2_1 : True := by
  k_with "call builtin:abs" => (((with_reducible refine call_absN ?_); intro _ _))
  k_with "binaryOp FloorDiv int int" => ((refine floordiv_int ?a ?b (Or.inl (noPylong_big ?c)); (case a => omega); (case c => omega)))
  trivial
theorem tdiv_diff {x y : Int} (h : ¬ ((x < 0) ↔ (y < 0))) : Int.tdiv x y = - ((x.natAbs : Int).fdiv (y.natAbs : Int)) := by
  rw [Int.fdiv_eq_ediv_of_nonneg _ (by omega)]
  rcases Int.lt_or_le x 0 with hx | hx
  · have : x = -(x.natAbs : Int) := by omega
    have hy : y = (y.natAbs : Int) := by omega
    rw [this, hy, Int.neg_tdiv, Int.tdiv_eq_ediv_of_nonneg (by omega)]
    simp
  · have hy : y = -(y.natAbs : Int) := by omega
    have : x = (x.natAbs : Int) := by omega
    rw [this, hy, Int.tdiv_neg, Int.tdiv_eq_ediv_of_nonneg (by omega)]
    simp
theorem tdiv_same {x y : Int} (h : (x < 0) ↔ (y < 0)) : Int.tdiv x y = ((x.natAbs : Int).fdiv (y.natAbs : Int)) := by
  rw [Int.fdiv_eq_ediv_of_nonneg _ (by omega)]
  rcases Int.lt_or_le x 0 with hx | hx
  · have : x = -(x.natAbs : Int) := by omega
    have hy : y = -(y.natAbs : Int) := by omega
    rw [this, hy, Int.neg_tdiv, Int.tdiv_neg, Int.tdiv_eq_ediv_of_nonneg (by omega)]
    simp
  · have hy : y = (y.natAbs : Int) := by omega
    have : x = (x.natAbs : Int) := by omega
    rw [this, hy, Int.tdiv_eq_ediv_of_nonneg (by omega)]
    simp
theorem c_cut {x : Int} {t1 : Tok} {y : Int} {t2 : Tok} (hpre : y ≠ 0 ∧ -(2^63) ≤ x ∧ x ≤ 2^63 ∧ -(2^63) ≤ y ∧ y ≤ 2^63) : Cl w 1 88 news [.int x t1, .int y t2] (fun t => .int (Int.tdiv x y) t) := by
  dsimp only [Cl, CbRet]
  intros
  rename_i hret
  obtain ⟨h1, h3, h4, h5, h6⟩ := hpre
  refine wpAny_call ?_
  k_dflt cell_enter
  k_steps
  all_goals (
    refine cb_retI hret ?_ (by assumption) (by assumption)
    first
    | (rename (decide (x < 0) != decide (y < 0)) = true => hq; rw [tdiv_diff]; simpa using hq)
    | (rename (decide (x < 0) != decide (y < 0)) = false => hq; rw [tdiv_same]; simpa using hq))
end
end Mine
end
section
open PySem PySem.W PyProof.Rows
set_option Elab.async false
set_option maxRecDepth 100000
set_option maxHeartbeats 4000000
namespace Mine
theorem rules_C3_0 : True := by
  k_with_none
  k_with "eval Call" => (k_dflt (refine Call_ ?_))
  k_with "binaryOp FloorDiv int int" => ((refine floordiv_int ?a ?b (Or.inl (noPylong_big ?c)); (case a => omega); (case c => omega)))
  k_with "binaryOp Mod int int" => ((refine mod_int' ?a ?b; (case a => omega)))
  k_with "call ref" => ((k_here; (with_reducible show wpAny _ _ (call (Value.ref 60) _) _ _ _); (refine' Cl.use (c_wrap ?kp) ?k1 ?k2 ?k3 ?k4 ?k5 ?kK ?kd ?ku ?_); (case k1 => k_asm); (case k2 => k_asm); (case k3 => k_asm); (case k4 => k_asm); (case k5 => k_asm); (case kK => first | exact rfl | assumption); (case kd => ktr_room); (case ku => ktr_units); (case kp => first | omega | fail "pre 60"); intro t9 h9 tk9 F9 N9; (try dsimp only); (try k_sweep); (try k_fold)))
  k_with "call ref" => ((k_here; (with_reducible show wpAny _ _ (call (Value.ref 88) _) _ _ _); (refine' Cl.use (c_cut ?kp) ?k1 ?k2 ?k3 ?k4 ?k5 ?kK ?kd ?ku ?_); (case k1 => k_asm); (case k2 => k_asm); (case k3 => k_asm); (case k4 => k_asm); (case k5 => k_asm); (case kK => first | exact rfl | assumption); (case kd => ktr_room); (case ku => ktr_units); (case kp => first | omega | fail "pre 88"); intro t9 h9 tk9 F9 N9; (try dsimp only); (try k_sweep); (try k_fold)))
  trivial
section
variable {w : World} {news : CbLed}
theorem tdiv_bd {x y : Int} (h3 : -(2^63) ≤ x) (h4 : x ≤ 2^63) : -(2^63) ≤ Int.tdiv x y ∧ Int.tdiv x y ≤ 2^63 := by
  have := Int.natAbs_tdiv_le_natAbs x y
  omega
theorem mul_tdiv_bd {x y : Int} (h3 : -(2^63) ≤ x) (h4 : x ≤ 2^63) : -(2^63) ≤ y * Int.tdiv x y ∧ y * Int.tdiv x y ≤ 2^63 := by
  have : (y * Int.tdiv x y).natAbs ≤ x.natAbs := by
    rw [Int.natAbs_mul, Int.natAbs_tdiv]
    exact Nat.mul_div_le _ _
  omega
theorem c_div {x : Int} {t1 : Tok} {y : Int} {t2 : Tok} {wd : Int} {tw : Tok} (hpre : 1 ≤ wd ∧ wd ≤ 64 ∧ y ≠ 0 ∧ -(2^63) ≤ x ∧ x ≤ 2^63 ∧ -(2^63) ≤ y ∧ y ≤ 2^63) : Cl w 2 95 news [.int x t1, .int y t2, .int wd tw] (fun t => .int (wrapN (Int.tdiv x y) wd) t) := by
  dsimp only [Cl, CbRet]
  intros
  rename_i hret
  obtain ⟨h1, h2, h0, h3, h4, h5, h6⟩ := hpre
  have hb := tdiv_bd (y := y) h3 h4
  refine wpAny_call ?_
  k_dflt cell_enter
  k_steps
  all_goals first | exact absurd (by assumption) h0 | exact hret _ _ _ (by assumption) (by assumption)
theorem c_mod {x : Int} {t1 : Tok} {y : Int} {t2 : Tok} {wd : Int} {tw : Tok} (hpre : 1 ≤ wd ∧ wd ≤ 64 ∧ y ≠ 0 ∧ -(2^63) ≤ x ∧ x ≤ 2^63 ∧ -(2^63) ≤ y ∧ y ≤ 2^63) : Cl w 2 102 news [.int x t1, .int y t2, .int wd tw] (fun t => .int (wrapN (Int.tmod x y) wd) t) := by
  dsimp only [Cl, CbRet]
  intros
  rename_i hret
  obtain ⟨h1, h2, h0, h3, h4, h5, h6⟩ := hpre
  have hb := tdiv_bd (y := y) h3 h4
  have hm := mul_tdiv_bd (y := y) h3 h4
  refine wpAny_call ?_
  k_dflt cell_enter
  k_steps
  all_goals first | exact absurd (by assumption) h0 | (refine cb_retI hret ?_ (by assumption) (by assumption); rw [Int.tmod_def])
theorem c_tv_true : Cl w 1 305 news [.bool true] (fun t => .int 1 t) := by
  dsimp only [Cl, CbRet]
  intros
  rename_i hret
  refine wpAny_call ?_
  k_dflt cell_enter
  k_steps
  all_goals exact hret _ _ _ (by assumption) (by assumption)
theorem c_tv_false : Cl w 1 305 news [.bool false] (fun t => .str (Str.ofString "") t) := by
  dsimp only [Cl, CbRet]
  intros
  rename_i hret
  refine wpAny_call ?_
  k_dflt cell_enter
  k_steps
  all_goals exact hret _ _ _ (by assumption) (by assumption)
theorem c_truth_int {x : Int} {t1 : Tok} : Cl w 1 298 news [.int x t1] (fun _ => .bool (x != 0)) := by
  dsimp only [Cl, CbRet]
  intros
  rename_i hret
  refine wpAny_call ?_
  k_dflt cell_enter
  k_steps
  all_goals (refine cb_retB hret ?_ (by assumption) (by assumption); first | rfl | simp [*])
theorem c_truth_none : Cl w 1 298 news [.none] (fun _ => .bool false) := by
  dsimp only [Cl, CbRet]
  intros
  rename_i hret
  refine wpAny_call ?_
  k_dflt cell_enter
  k_steps
  all_goals (refine cb_retB hret ?_ (by assumption) (by assumption); first | rfl | simp [*])
theorem c_truth_str {x : Str} {t1 : Tok} : Cl w 1 298 news [.str x t1] (fun _ => .bool (x != Str.ofString "" && x != Str.ofString "0")) := by
  dsimp only [Cl, CbRet]
  intros
  rename_i hret
  refine wpAny_call ?_
  k_dflt cell_enter
  k_steps
  all_goals (refine cb_retB hret ?_ (by assumption) (by assumption); first | rfl | (simp [*]; done) | trace_state)
end
end Mine
end
section
open PySem PySem.W PyProof.Rows
set_option Elab.async false
set_option maxRecDepth 100000
set_option maxHeartbeats 4000000
namespace Mine
/-! figures -/
def preD (n : Nat) : List Nat := if n < 10 then [] else preD (n / 10) ++ [48 + n / 10 % 10]
termination_by n
decreasing_by omega
def digs (n : Nat) : List Nat := preD n ++ [48 + n % 10]
theorem preD_lt {n : Nat} (h : n < 10) : preD n = [] := by unfold preD; rw [if_pos h]
theorem preD_ge {n : Nat} (h : ¬ n < 10) : preD n = preD (n / 10) ++ [48 + n / 10 % 10] := by rw [preD, if_neg h]
theorem digs_len (k : Nat) : ∀ n : Nat, n < 10 ^ (k + 1) → (digs n).length ≤ k + 1 := by
  induction k with
  | zero => intro n h; unfold digs; rw [preD_lt (by omega)]; simp
  | succ k ih =>
    intro n h
    unfold digs
    by_cases q : n < 10
    · rw [preD_lt q]; simp
    · rw [preD_ge q]
      have := ih (n / 10) (by rw [Nat.pow_succ] at h; omega)
      unfold digs at this
      simp only [List.length_append, List.length_cons, List.length_nil] at this ⊢
      omega
theorem digs_len20 {n : Nat} (h : n ≤ 2 ^ 64) : (digs n).length ≤ 20 := digs_len 19 n (by omega)
def numT (x : Int) : Str := ⟨((if x < 0 then [45] else []) ++ digs x.natAbs).toArray⟩
theorem digs_pos (n : Nat) : 1 ≤ (digs n).length := by unfold digs; simp
theorem numT_len {N : Int} (h : -(2^64) ≤ N ∧ N ≤ 2^64) : 1 ≤ (numT N).length ∧ (numT N).length ≤ 21 := by
  have h1 := digs_len20 (n := N.natAbs) (by omega)
  have h2 := digs_pos N.natAbs
  have : (numT N).length = ((if N < 0 then [45] else []) ++ digs N.natAbs).length := by
    show (numT N).cps.size = _
    unfold numT
    rw [List.size_toArray]
  rw [this, List.length_append]
  split <;> simp only [List.length_cons, List.length_nil] <;> omega
theorem numT_len' {N : Int} (h : 0 ≤ N ∧ N ≤ 2^64) : 1 ≤ (numT N).length ∧ (numT N).length ≤ 21 := numT_len ⟨by omega, h.2⟩
theorem numT_lenN {N : Int} (h : N < 0 ∧ -(2^64) ≤ N) : 1 ≤ (numT N).length ∧ (numT N).length ≤ 21 := numT_len ⟨h.2, by omega⟩
theorem numT_neg {N : Int} (h : N < 0) : Str.ofString "-" ++ numT (-N) = numT N := by
  refine Str.ext' ?_
  rw [Str.cps_append, show (Str.ofString "-").cps = #[45] by decide +kernel]
  unfold numT
  rw [if_pos h, if_neg (by omega), show (-N).natAbs = N.natAbs by omega]
  simp
theorem ofS_fig : Str.ofString "0123456789" = ⟨#[48, 49, 50, 51, 52, 53, 54, 55, 56, 57]⟩ := by decide +kernel
theorem item_fig {k : Int} (h0 : 0 ≤ k) (h1 : k < 10) : Txt.item (Str.ofString "0123456789") k = ⟨#[48 + k.toNat]⟩ := by
  rw [ofS_fig]
  obtain ⟨n, rfl⟩ := Int.eq_ofNat_of_zero_le h0
  have : n < 10 := by omega
  rcases n with _ | _ | _ | _ | _ | _ | _ | _ | _ | _ | n
  all_goals first | rfl | decide +kernel | omega
end Mine
end
section
open PySem PySem.W PyProof.Rows
set_option Elab.async false
set_option maxRecDepth 100000
set_option maxHeartbeats 4000000
namespace Mine
theorem rules_C4_0 : True := by
  k_with_none
  k_with "eval Call" => (k_dflt (refine Call_ ?_))
  k_with "binaryOp FloorDiv int int" => ((refine floordiv_int ?a ?b (Or.inl (noPylong_big ?c)); (case a => omega); (case c => omega)))
  k_with "binaryOp Mod int int" => ((refine mod_int' ?a ?b; (case a => omega)))
  trivial
section
variable {w : World} {news : CbLed}
theorem nt_start {N : Int} (h1 : 0 ≤ N) (h2 : N ≤ 2^64) : digs N.toNat = preD N.toNat ++ (Txt.item (Str.ofString "0123456789") (N.fmod 10)).cps.toList ∧ (Txt.item (Str.ofString "0123456789") (N.fmod 10)).length ≤ 40 ∧ 0 ≤ N ∧ N ≤ 2^64 := by
  have : (0 : Int) ≤ N.fmod 10 ∧ N.fmod 10 < 10 ∧ (N.fmod 10).toNat = N.toNat % 10 := by
    rw [Int.fmod_eq_emod_of_nonneg _ (by omega)]; omega
  rw [item_fig this.1 this.2.1]
  refine ⟨?_, ?_, h1, h2⟩
  · unfold digs; rw [this.2.2]
  · show 1 ≤ 40; omega
theorem nt_turn {N n : Int} {x : Str} (h : digs N.toNat = preD n.toNat ++ x.cps.toList) (hN : N ≤ 2^64) (h0 : 0 ≤ n) (h2 : n ≤ 2^64) (h9 : 9 < n) :
    digs N.toNat = preD (n.fdiv 10).toNat ++ (Txt.item (Str.ofString "0123456789") ((n.fdiv 10).fmod 10) ++ x).cps.toList ∧ (Txt.item (Str.ofString "0123456789") ((n.fdiv 10).fmod 10) ++ x).length ≤ 40 ∧ 0 ≤ n.fdiv 10 ∧ n.fdiv 10 ≤ 2^64 := by
  have e : n.fdiv 10 = n / 10 := Int.fdiv_eq_ediv_of_nonneg _ (by omega)
  have : (0 : Int) ≤ (n / 10).fmod 10 ∧ (n / 10).fmod 10 < 10 ∧ ((n / 10).fmod 10).toNat = n.toNat / 10 % 10 := by
    rw [Int.fmod_eq_emod_of_nonneg _ (by omega)]; omega
  rw [e, item_fig this.1 this.2.1]
  have h3 : digs N.toNat = preD (n / 10).toNat ++ ((⟨#[48 + ((n / 10).fmod 10).toNat]⟩ : Str) ++ x).cps.toList := by
    rw [h, preD_ge (by omega), this.2.2, show n.toNat / 10 = (n / 10).toNat by omega, Str.cps_append]
    simp
  refine ⟨h3, ?_, by omega, by omega⟩
  have h4 := congrArg List.length h3
  have h5 := digs_len20 (n := N.toNat) (by omega)
  rw [List.length_append] at h4
  have : ((⟨#[48 + ((n / 10).fmod 10).toNat]⟩ : Str) ++ x).length = ((⟨#[48 + ((n / 10).fmod 10).toNat]⟩ : Str) ++ x).cps.toList.length := by rw [Array.length_toList]; rfl
  omega
theorem nt_end {N n : Int} {x : Str} (h : digs N.toNat = preD n.toNat ++ x.cps.toList) (hN : 0 ≤ N) (h0 : 0 ≤ n) (h9 : ¬ 9 < n) : x = numT N := by
  rw [preD_lt (by omega), List.nil_append] at h
  unfold numT
  rw [if_neg (by omega), show N.natAbs = N.toNat by omega, List.nil_append, h]
theorem nt_meas {n : Int} (h9 : 9 < n) : (n.fdiv 10).toNat < n.toNat := by
  have e : n.fdiv 10 = n / 10 := Int.fdiv_eq_ediv_of_nonneg _ (by omega)
  rw [e]; omega
theorem c_number_text {N : Int} {t1 : Tok} (hpre : 0 ≤ N ∧ N ≤ 2^64) : Cl w 1 137 news [.int N t1] (fun t => .str (numT N) t) := by
  dsimp only [Cl, CbRet]
  intros
  rename_i hret
  obtain ⟨h1, h2⟩ := hpre
  refine wpAny_call ?_
  k_dflt cell_enter
  k_with "exec While Compare cons nil" => k_while (fun (_ : List Int) (n : Int) (x : Str) => digs N.toNat = preD n.toNat ++ x.cps.toList ∧ x.length ≤ 40 ∧ 0 ≤ n ∧ n ≤ 2^64) (fun _ n _ => n.toNat) "n" "text"
  k_with "measure" => exact nt_meas (by assumption)
  k_with "state" => first | exact nt_start h1 h2 | exact nt_turn (by assumption) h2 (by assumption) (by assumption) (by omega)
  k_steps
  all_goals (refine cb_retS hret (nt_end (by assumption) h1 (by assumption) (by assumption)) (by assumption) (by assumption))
theorem cF_number_text {N : Int} {t1 : Tok} (hpre : 0 ≤ N ∧ N ≤ 2^64) : Cl w 1 137 news [.int N t1] (fun t => .str (numT N) t) ∧ (1 ≤ (numT N).length ∧ (numT N).length ≤ 21) := ⟨c_number_text hpre, numT_len' hpre⟩
end

theorem rules_C4_1 : True := by
  k_with "call ref" => ((k_here; (with_reducible show wpAny _ _ (call (Value.ref 137) _) _ _ _); (refine' Cl.useF (cF_number_text ?kp) ?k1 ?k2 ?k3 ?k4 ?k5 ?kK ?kd ?ku ?_); (case k1 => k_asm); (case k2 => k_asm); (case k3 => k_asm); (case k4 => k_asm); (case k5 => k_asm); (case kK => first | exact rfl | assumption); (case kd => ktr_room); (case ku => ktr_units); (case kp => first | omega | fail "pre 137"); intro f9 t9 h9 tk9 F9 N9; (try dsimp only); (try k_sweep); (try k_fold)))
  trivial
section
variable {w : World} {news : CbLed}
theorem c_number_text_neg {N : Int} {t1 : Tok} (hpre : N < 0 ∧ -(2^64) ≤ N) : Cl w 2 137 news [.int N t1] (fun t => .str (numT N) t) := by
  dsimp only [Cl, CbRet]
  intros
  rename_i hret
  obtain ⟨h1, h2⟩ := hpre
  refine wpAny_call ?_
  k_dflt cell_enter
  k_steps
  all_goals (refine cb_retS hret (numT_neg h1) (by assumption) (by assumption))
end
end Mine
end
section
open PySem PySem.W PyProof.Rows
set_option Elab.async false
set_option maxRecDepth 100000
set_option maxHeartbeats 4000000
namespace Mine
/-! a while that runs over signs of a set -/
def skip (S X : Str) (i : Nat) : Nat := i + ((X.cps.toList.drop i).takeWhile (fun c => decide (c ∈ S.cps.toList))).length
theorem item_at {X : Str} {i : Int} (h0 : 0 ≤ i) (h1 : i < X.length) : ∃ c, X.cps.toList.drop i.toNat = c :: X.cps.toList.drop (i.toNat + 1) ∧ Txt.item X i = ⟨#[c]⟩ := by
  have hl : i.toNat < X.cps.toList.length := by
    rw [Array.length_toList]
    have : X.length = X.cps.size := rfl
    omega
  refine ⟨X.cps.toList[i.toNat], List.drop_eq_getElem_cons hl, ?_⟩
  unfold Txt.item Txt.charAt
  have e : seqIndex? i X.length = some i.toNat := by
    unfold seqIndex?
    have : X.length = X.cps.size := rfl
    simp only [show ¬ i < 0 by omega, if_false]
    rw [if_pos]
    simp only [Bool.and_eq_true, decide_eq_true_eq]
    omega
  rw [e, Option.bind_some]
  rw [← Array.getElem?_toList, List.getElem?_eq_getElem hl]
  rfl
theorem skip_turn {S X : Str} {i : Int} {k : Nat} (h0 : 0 ≤ i) (h : skip S X i.toNat = k) (h1 : i < X.length) (hc : (Builtin.Str.occurrences S (Txt.item X i) 0 S.length 1).isEmpty = false) :
    0 ≤ i + 1 ∧ i + 1 ≤ X.length ∧ skip S X (i + 1).toNat = k := by
  obtain ⟨c, e1, e2⟩ := item_at h0 h1
  rw [e2] at hc
  have hf := StrLaws.found_one S c
  rw [hc] at hf
  have hm : c ∈ S.cps.toList := by simpa using hf
  refine ⟨by omega, by omega, ?_⟩
  rw [← h]
  unfold skip
  rw [e1, List.takeWhile_cons, if_pos (by simpa using hm), List.length_cons, show (i + 1).toNat = i.toNat + 1 by omega]
  omega
theorem skip_stop {S X : Str} {i : Int} {k : Nat} (h0 : 0 ≤ i) (h : skip S X i.toNat = k) (h1 : i < X.length) (hc : (Builtin.Str.occurrences S (Txt.item X i) 0 S.length 1).isEmpty = true) : i = k := by
  obtain ⟨c, e1, e2⟩ := item_at h0 h1
  rw [e2] at hc
  have hf := StrLaws.found_one S c
  rw [hc] at hf
  have hm : ¬ c ∈ S.cps.toList := by simpa using hf
  rw [← h]
  unfold skip
  rw [e1, List.takeWhile_cons, if_neg (by simpa using hm), List.length_nil]
  omega
theorem skip_end {S X : Str} {i : Int} {k : Nat} (h0 : 0 ≤ i) (h : skip S X i.toNat = k) (h1 : ¬ i < X.length) : i = k := by
  rw [← h]
  unfold skip
  rw [List.drop_eq_nil_of_le (by rw [Array.length_toList]; have : X.length = X.cps.size := rfl; omega), List.takeWhile_nil, List.length_nil]
  omega
theorem skip_bd {S X : Str} {i : Int} (h0 : 0 ≤ i) (h1 : i ≤ X.length) : i ≤ skip S X i.toNat ∧ (skip S X i.toNat : Int) ≤ X.length := by
  unfold skip
  have h2 : ((X.cps.toList.drop i.toNat).takeWhile (fun c => decide (c ∈ S.cps.toList))).length ≤ (X.cps.toList.drop i.toNat).length := (List.takeWhile_prefix _).length_le
  have h3 : X.cps.toList.length = X.cps.size := Array.length_toList
  rw [List.length_drop, h3] at h2
  have : X.length = X.cps.size := rfl
  omega
def WRes (h₀ : Heap) (L : Addr) (m : Str → Option Value) (news : CbLed) (k : Nat) (name : Str) (s : Shared) (f : Flow) (s₂ : Shared) : Prop :=
  f = .next ∧ ∃ (h : Heap) (tk : Nat) (t : Tok), s₂ = { s with heap := h, toks := tk } ∧ Fr h₀ L h (fun y => if y = name then some (.int k t) else m y) ∧ News h₀ L h news
theorem wres_of {h₀ h : Heap} {L : Addr} {m m' : Str → Option Value} {news : CbLed} {k : Nat} {n : Int} {t : Tok} {name : Str} {s : Shared} {tk : Nat} (F : Fr h₀ L h m') (N : News h₀ L h news) (e : ∀ y, m' y = if y = name then some (.int n t) else m y) (hk : n = k) :
    WRes h₀ L m news k name s .next { s with heap := h, toks := tk } := by
  subst hk
  refine ⟨rfl, h, tk, t, rfl, ?_, N⟩
  rw [← funext e]
  exact F
theorem wcut {prog : Program} {w : World} {A : Around} {E : Value → Shared → Prop} {Q : Flow → Shared → Prop} {st : Stmt} {env : Env} {h₀ : Heap} {L : Addr} {m : Str → Option Value} {news : CbLed} {s : Shared} {name : Str} {S X : Str} {e0 : Int} {t0 : Tok} (F : Fr h₀ L s.heap m) (N : News h₀ L s.heap news)
    (hm : m name = some (.int e0 t0)) (h0 : 0 ≤ e0 ∧ e0 ≤ X.length)
    (h1 : wpAny (model prog w) A (exec st env) (WRes h₀ L m news (skip S X e0.toNat) name s) E s)
    (h2 : e0 ≤ skip S X e0.toNat ∧ (skip S X e0.toNat : Int) ≤ X.length → ∀ (t : Tok) (h : Heap) (tk : Nat), Fr h₀ L h (fun y => if y = name then some (.int (skip S X e0.toNat) t) else m y) → News h₀ L h news → Q .next { s with heap := h, toks := tk }) :
    wpAny (model prog w) A (exec st env) Q E s :=
  wpAny_mono h1 (fun f s₂ ⟨hf, h, tk, t, hs, F', N'⟩ => by subst hf; subst hs; exact h2 (skip_bd h0.1 h0.2) t h tk F' N') fun _ _ x => x

theorem slice1 {X : Str} {i : Int} (h0 : 0 ≤ i) (h1 : i ≤ X.length) : Txt.slice X (some i) (some (i + 1)) = ⟨((X.cps.toList.drop i.toNat).take 1).toArray⟩ := by
  have hs : X.length = X.cps.size := rfl
  have hl : X.cps.toList.length = X.cps.size := Array.length_toList
  by_cases q : i < X.length
  · have := beq_iff_eq.mp (PyProof.Rows.slice_closes (x := X) (i := i) (j := i + 1) ⟨h0, by omega, by omega⟩)
    rw [this, show (i + 1 - i).toNat = 1 by omega]
  · have e : i = X.length := by omega
    rw [List.drop_eq_nil_of_le (by omega), List.take_nil]
    unfold Txt.slice Builtin.Str.strSliceIndices sliceRange
    subst e
    simp only [show ((X.length : Int) < 0) = False by simp, show ((X.length : Int) + 1 < 0) = False by simp; omega, if_false, show (1 : Int) > 0 by decide, if_true]
    rw [show max (0 : Int) (min (X.length : Int) X.length) = X.length by omega, show max (0 : Int) (min ((X.length : Int) + 1) X.length) = X.length by omega]
    simp only [Int.lt_irrefl, if_false, Int.toNat_zero, List.range_zero, List.map_nil, List.length_nil, List.filterMap_nil]
    split
    · rename_i z
      simp only [beq_self_eq_true, Bool.true_and, beq_iff_eq] at z
      refine Str.ext' (Array.toList_inj.mp ?_)
      exact List.length_eq_zero_iff.mp (by rw [hl, ← hs]; exact z.symm)
    · rfl
abbrev SPS : Str := Str.ofString " \t\n\r\x0c\x0b"
abbrev FGS : Str := Str.ofString "0123456789"
abbrev nhS (X : Str) : Nat := skip (Str.ofString " \t\n\r\x0c\x0b") X (Int.toNat 0)
def nhF (X : Str) : Nat := if (X.cps.toList.drop (nhS X)).take 1 = [43] ∨ (X.cps.toList.drop (nhS X)).take 1 = [45] then nhS X + 1 else nhS X
abbrev nhE (X : Str) : Nat := skip (Str.ofString "0123456789") X (nhF X)
def nhB (X : Str) : Nat := if nhE X = nhF X then nhS X else nhE X
theorem nhS_le (X : Str) : (nhS X : Int) ≤ X.length := (skip_bd (S := Str.ofString " \t\n\r\x0c\x0b") (X := X) (i := 0) (by omega) (by omega)).2
theorem slice_is {X : Str} {c : Nat} {i : Nat} (h1 : (i : Int) ≤ X.length) : (Txt.slice X (some (i : Int)) (some ((i : Int) + 1)) == (⟨#[c]⟩ : Str)) = decide ((X.cps.toList.drop i).take 1 = [c]) := by
  rw [slice1 (by omega) h1, Int.toNat_natCast, Bool.eq_iff_iff, beq_iff_eq, decide_eq_true_eq]
  constructor
  · intro h
    have := congrArg (fun x : Str => x.cps.toList) h
    simpa using this
  · intro h
    rw [h]
theorem ofS_plus : Str.ofString "+" = ⟨#[43]⟩ := by decide +kernel
theorem ofS_minus : Str.ofString "-" = ⟨#[45]⟩ := by decide +kernel
theorem nhF_plus {X : Str} (h : (Txt.slice X (some (nhS X : Int)) (some ((nhS X : Int) + 1)) == Str.ofString "+") = true) : nhF X = nhS X + 1 := by
  rw [ofS_plus, slice_is (nhS_le X), decide_eq_true_eq] at h
  unfold nhF
  rw [if_pos (.inl h)]
theorem nhF_minus {X : Str} (h : (Txt.slice X (some (nhS X : Int)) (some ((nhS X : Int) + 1)) == Str.ofString "-") = true) : nhF X = nhS X + 1 := by
  rw [ofS_minus, slice_is (nhS_le X), decide_eq_true_eq] at h
  unfold nhF
  rw [if_pos (.inr h)]
theorem nhF_none {X : Str} (h1 : (Txt.slice X (some (nhS X : Int)) (some ((nhS X : Int) + 1)) == Str.ofString "+") = false) (h2 : (Txt.slice X (some (nhS X : Int)) (some ((nhS X : Int) + 1)) == Str.ofString "-") = false) : nhF X = nhS X := by
  rw [ofS_plus, slice_is (nhS_le X), decide_eq_false_iff_not] at h1
  rw [ofS_minus, slice_is (nhS_le X), decide_eq_false_iff_not] at h2
  unfold nhF
  rw [if_neg (fun q => q.elim h1 h2)]
theorem nhF_lt {X : Str} (h : nhF X = nhS X + 1) : (nhS X : Int) + 1 ≤ X.length := by
  have hs : X.length = X.cps.size := rfl
  have hl : X.cps.toList.length = X.cps.size := Array.length_toList
  have := nhS_le X
  refine Int.not_lt.mp fun q => ?_
  have e : (nhS X : Int) = X.length := by omega
  unfold nhF at h
  rw [List.drop_eq_nil_of_le (by omega), List.take_nil] at h
  simp at h
theorem plus_bd {X : Str} (h : (Txt.slice X (some (nhS X : Int)) (some ((nhS X : Int) + 1)) == Str.ofString "+") = true) : 0 ≤ (nhS X : Int) + 1 ∧ (nhS X : Int) + 1 ≤ X.length := ⟨by omega, nhF_lt (nhF_plus h)⟩
theorem minus_bd {X : Str} (h : (Txt.slice X (some (nhS X : Int)) (some ((nhS X : Int) + 1)) == Str.ofString "-") = true) : 0 ≤ (nhS X : Int) + 1 ∧ (nhS X : Int) + 1 ≤ X.length := ⟨by omega, nhF_lt (nhF_minus h)⟩
theorem nhB_eq {X : Str} (h : skip (Str.ofString "0123456789") X (nhF X) = nhF X) : nhB X = nhS X := by unfold nhB; rw [if_pos h]
theorem nhB_ne {X : Str} (h : ¬ skip (Str.ofString "0123456789") X (nhF X) = nhF X) : nhB X = skip (Str.ofString "0123456789") X (nhF X) := by unfold nhB; rw [if_neg h]
/-! a call that hands back a pair -/
abbrev tup2 (a b : Value) (c : Nat) : Obj := { cls := .type "tuple", data := .seq #[a, b] c }
abbrev ClT (w : World) (lvl : Nat) (f : Addr) (news : CbLed) (vs : List Value) (r1 r2 : Tok → Value) : Prop :=
  ∀ {p : Program} {loose : List Str} {mean : ExcName → Option Value} {mg mb : Str → Option Value} (dp un : Nat) (gd : Option (List Code)) (cn : Str) (cs : Scope) (a : Addr) (ccd : Value) (cl : List (Str × Addr)) (outer : List Env) (A₀ : Around) (base h₀ : Heap) (L : Addr) (m : Str → Option Value) (s : Shared) (Q E : Value → Shared → Prop),
    Below A₀ base outer h₀ → Fr h₀ L s.heap m → (K w.params).In h₀ → News h₀ L s.heap news → Top p loose mean mg mb h₀ → cs.kind = .function → dp + lvl < recursionLimit → un + 8 * lvl < cLine →
    (∀ (D : Addr) (t1 t2 : Tok) (c : Nat) (h' : Heap) (tk' : Nat), Fr h₀ L h' m → News h₀ L h' ((D, tup2 (r1 t1) (r2 t2) c) :: news) → (∀ p ∈ news, p.1 < D) → Q (.ref D) { s with heap := h', toks := tk' }) →
    wpAny (model PR w) (ktrTop dp un gd cn cs L a ccd cl outer) (call (.ref f) vs) Q E s
section
variable {w : World} {lvl : Nat} {f : Addr} {news : CbLed} {vs : List Value} {r1 r2 : Tok → Value} {P : Prop} {p : Program} {loose : List Str} {mean : ExcName → Option Value} {mg mb : Str → Option Value}
theorem ClT.use {dp un : Nat} {gd : Option (List Code)} {cn : Str} {cs : Scope} {a : Addr} {ccd : Value} {cl : List (Str × Addr)} {outer : List Env} {A₀ : Around} {base h₀ : Heap} {L : Addr} {m : Str → Option Value} {s : Shared} {Q E : Value → Shared → Prop}
    (C : ClT w lvl f news vs r1 r2 ∧ P) (B : Below A₀ base outer h₀) (F : Fr h₀ L s.heap m) (X : (K w.params).In h₀) (N : News h₀ L s.heap news) (T : Top p loose mean mg mb h₀) (hk : cs.kind = .function) (hd : dp + lvl < recursionLimit) (hu : un + 8 * lvl < cLine)
    (ret : P → ∀ (D : Addr) (t1 t2 : Tok) (c : Nat) (h' : Heap) (tk' : Nat), Fr h₀ L h' m → News h₀ L h' ((D, tup2 (r1 t1) (r2 t2) c) :: news) → (∀ p ∈ news, p.1 < D) → Q (.ref D) { s with heap := h', toks := tk' }) : wpAny (model PR w) (ktrTop dp un gd cn cs L a ccd cl outer) (call (.ref f) vs) Q E s :=
  C.1 _ _ _ _ _ _ _ _ _ _ _ _ _ _ _ _ _ B F X N T hk hd hu (ret C.2)
theorem ret2 {h₀ h : Heap} {L D : Addr} {m : Str → Option Value} {a a' b b' : Int} {t1 t2 : Tok} {c tk : Nat} {s : Shared} {Q : Value → Shared → Prop} (ret : ∀ (D : Addr) (t1 t2 : Tok) (c : Nat) (h' : Heap) (tk' : Nat), Fr h₀ L h' m → News h₀ L h' ((D, tup2 (.int a t1) (.int b t2) c) :: news) → (∀ p ∈ news, p.1 < D) → Q (.ref D) { s with heap := h', toks := tk' })
    (F : Fr h₀ L h m) (N : News h₀ L h ((D, tup2 (.int a' t1) (.int b' t2) c) :: news)) (l : ∀ p ∈ news, p.1 < D) (e1 : a' = a) (e2 : b' = b) : Q (.ref D) { s with heap := h, toks := tk } := by
  subst e1; subst e2
  exact ret _ _ _ _ _ _ F N l
end
end Mine
end
section
open PySem PySem.W PyProof.Rows
set_option Elab.async false
set_option maxRecDepth 100000
set_option maxHeartbeats 4000000
namespace Mine
theorem rules_C5_0 : True := by
  k_with_none
  k_with "eval Call" => (k_dflt (refine Call_ ?_))
  k_with "binaryOp FloorDiv int int" => ((refine floordiv_int ?a ?b (Or.inl (noPylong_big ?c)); (case a => omega); (case c => omega)))
  k_with "binaryOp Mod int int" => ((refine mod_int' ?a ?b; (case a => omega)))
  k_with "WRes" => ((refine' wres_of ?a ?b ?e ?hk; (case a => k_asm); (case b => k_asm); (case e => exact fun _ => rfl); (case hk => first | exact skip_end (by assumption) (by assumption) (by assumption) | exact skip_stop (by assumption) (by assumption) (by assumption) (by assumption))))
  trivial
section
variable {w : World} {news : CbLed}
theorem nh_e2_eq {X : Str} {z : Int} (q2 : z.toNat = nhF X) (hq : (skip (Str.ofString "0123456789") X z.toNat : Int) = z) (h0 : 0 ≤ z) : (skip (Str.ofString " \t\n\r\x0c\x0b") X (Int.toNat 0) : Int) = (nhB X : Int) := by
  rw [q2] at hq
  rw [nhB_eq (by omega)]
theorem nh_e2_ne {X : Str} {z : Int} (q2 : z.toNat = nhF X) (hq : (skip (Str.ofString "0123456789") X z.toNat : Int) ≠ z) (h0 : 0 ≤ z) : (skip (Str.ofString "0123456789") X z.toNat : Int) = (nhB X : Int) := by
  rw [q2] at hq ⊢
  rw [nhB_ne (by omega)]
theorem c_number_head {X : Str} {t1 : Tok} (hl : X.length ≤ 1000) : ClT w 1 116 news [.str X t1] (fun t => .int (nhS X : Int) t) (fun t => .int (nhB X : Int) t) := by
  dsimp only [ClT]
  intros
  rename_i hret
  refine wpAny_call ?_
  k_dflt cell_enter
  k_with "exec While BoolOp" => ((with_reducible show wpAny _ _ (exec (Stmt.While (Expr.BoolOp _ (Expr.Compare (Expr.Name (Str.ofString "at") _) _ _ _ :: _) _) _ _ _) _) _ _ _); (refine' wcut (name := Str.ofString "at") (S := Str.ofString " \t\n\r\x0c\x0b") (X := X) ?wF ?wN ?wm ?w0 ?_ (fun f9 t9 h9 tk9 F9 N9 => ?_)); (case wF => k_asm); (case wN => k_asm); (case wm => exact rfl); (case w0 => first | omega | exact plus_bd (by assumption) | exact minus_bd (by assumption)); focus k_while_given ["at!"] (fun (e0 : Int) (_ : List Int) (e : Int) => 0 ≤ e ∧ e ≤ X.length ∧ skip (Str.ofString " \t\n\r\x0c\x0b") X e.toNat = skip (Str.ofString " \t\n\r\x0c\x0b") X e0.toNat) (fun _ _ e => (X.length - e.toNat : Nat)) "at")
  k_with "exec While BoolOp" => ((with_reducible show wpAny _ _ (exec (Stmt.While (Expr.BoolOp _ (Expr.Compare (Expr.Name (Str.ofString "end") _) _ _ _ :: _) _) _ _ _) _) _ _ _); (refine' wcut (name := Str.ofString "end") (S := Str.ofString "0123456789") (X := X) ?wF ?wN ?wm ?w0 ?_ (fun f9 t9 h9 tk9 F9 N9 => ?_)); (case wF => k_asm); (case wN => k_asm); (case wm => exact rfl); (case w0 => first | omega | exact plus_bd (by assumption) | exact minus_bd (by assumption)); focus k_while_given ["end!"] (fun (e0 : Int) (_ : List Int) (e : Int) => 0 ≤ e ∧ e ≤ X.length ∧ skip (Str.ofString "0123456789") X e.toNat = skip (Str.ofString "0123456789") X e0.toNat) (fun _ _ e => (X.length - e.toNat : Nat)) "end")
  k_with "state" => first | exact ⟨by omega, by omega, by with_reducible rfl⟩ | exact ⟨(plus_bd (by assumption)).1, (plus_bd (by assumption)).2, by with_reducible rfl⟩ | exact ⟨(minus_bd (by assumption)).1, (minus_bd (by assumption)).2, by with_reducible rfl⟩ | exact skip_turn (by assumption) (by assumption) (by assumption) (by assumption)
  k_steps
  all_goals (
    first | (have q : nhF X = skip (Str.ofString " \t\n\r\x0c\x0b") X (Int.toNat 0) + 1 := nhF_plus (X := X) (by assumption)) | (have q : nhF X = skip (Str.ofString " \t\n\r\x0c\x0b") X (Int.toNat 0) + 1 := nhF_minus (X := X) (by assumption)) | (have q : nhF X = skip (Str.ofString " \t\n\r\x0c\x0b") X (Int.toNat 0) := nhF_none (X := X) (by assumption) (by assumption))
    refine' ret2 hret ?F ?N ?l ?e1 ?e2
    case F => assumption
    case N => assumption
    case l => assumption
    case e1 => rfl
    case e2 =>
      first
      | (have q2 : ((skip (Str.ofString " \t\n\r\x0c\x0b") X (Int.toNat 0) : Int) + 1).toNat = nhF X := by omega)
      | (have q2 : ((skip (Str.ofString " \t\n\r\x0c\x0b") X (Int.toNat 0) : Nat) : Int).toNat = nhF X := by omega)
      first | exact nh_e2_eq q2 (by assumption) (by omega) | exact nh_e2_ne q2 (by assumption) (by omega) | trace_state)
end
end Mine
end
section
open PySem PySem.W PyProof.Rows
set_option Elab.async false
set_option maxRecDepth 100000
set_option maxHeartbeats 4000000
namespace Mine
theorem rules_C6_0 : True := by
  k_with_none
  k_with "eval Call" => (k_dflt (refine Call_ ?_))
  k_with "binaryOp FloorDiv int int" => ((refine floordiv_int ?a ?b (Or.inl (noPylong_big ?c)); (case a => omega); (case c => omega)))
  k_with "binaryOp Mod int int" => ((refine mod_int' ?a ?b; (case a => omega)))
  trivial
section
variable {w : World} {news : CbLed}
theorem nhF_le (X : Str) : (nhF X : Int) ≤ X.length := by
  have h := nhS_le X
  by_cases q : nhF X = nhS X + 1
  · have := nhF_lt q; omega
  · have : nhF X = nhS X := by
      unfold nhF at q ⊢
      split at q
      · exact absurd rfl q
      · rename_i z; rw [if_neg z]
    omega
theorem nhS_le_F (X : Str) : nhS X ≤ nhF X := by unfold nhF; split <;> omega
theorem nhB_le (X : Str) : (nhB X : Int) ≤ X.length ∧ (nhS X : Int) ≤ nhB X := by
  have h1 := skip_bd (S := Str.ofString "0123456789") (X := X) (i := nhF X) (by omega) (nhF_le X)
  have h2 := nhS_le_F X
  have h3 := nhS_le X
  rw [Int.toNat_natCast] at h1
  change (nhF X : Int) ≤ (nhE X : Int) ∧ (nhE X : Int) ≤ X.length at h1
  unfold nhB
  split <;> constructor <;> omega
theorem cF_number_head {X : Str} {t1 : Tok} (hl : X.length ≤ 1000) : ClT w 1 116 news [.str X t1] (fun t => .int (nhS X : Int) t) (fun t => .int (nhB X : Int) t) ∧ ((nhS X : Int) ≤ X.length ∧ (nhB X : Int) ≤ X.length ∧ (nhS X : Int) ≤ nhB X) := ⟨c_number_head hl, nhS_le X, nhB_le X⟩
end
theorem rules_C6_1 : True := by
  k_with "call ref" => ((k_here; (with_reducible show wpAny _ _ (call (Value.ref 116) _) _ _ _); (refine' ClT.use (cF_number_head ?kp) ?k1 ?k2 ?k3 ?k4 ?k5 ?kK ?kd ?ku ?_); (case k1 => k_asm); (case k2 => k_asm); (case k3 => k_asm); (case k4 => k_asm); (case k5 => k_asm); (case kK => first | exact rfl | assumption); (case kd => ktr_room); (case ku => ktr_units); (case kp => first | omega | fail "pre 116"); intro f9 D9 t9 u9 c9 h9 tk9 F9 N9 l9; (try k_lt l9); (try dsimp only); (try k_sweep); (try k_fold)))
  k_with "call ref" => ((k_here; (with_reducible show wpAny _ _ (call (Value.ref 60) _) _ _ _); (refine' Cl.use (c_wrap ?kp) ?k1 ?k2 ?k3 ?k4 ?k5 ?kK ?kd ?ku ?_); (case k1 => k_asm); (case k2 => k_asm); (case k3 => k_asm); (case k4 => k_asm); (case k5 => k_asm); (case kK => first | exact rfl | assumption); (case kd => ktr_room); (case ku => ktr_units); (case kp => first | omega | fail "pre 60"); intro t9 h9 tk9 F9 N9; (try dsimp only); (try k_sweep); (try k_fold)))
  trivial
section
variable {w : World} {news : CbLed}
def stepD (M a c : Int) : Int := if 48 ≤ c ∧ c ≤ 57 then (a * 10 + (c - 48)) % M else a
def accD (M : Int) (l : List Int) : Int := l.foldl (stepD M) 0
structure NdEq (M : Int) (pre : List Int) (n : Int) : Prop where
  eq : n = accD M pre
theorem accD_snoc (M : Int) (l : List Int) (c : Int) : accD M (l ++ [c]) = stepD M (accD M l) c := by unfold accD; rw [List.foldl_append]; rfl
theorem fig_in {c : Nat} (h : (Builtin.Str.occurrences (Str.ofString "0123456789") ⟨#[c]⟩ 0 (Str.ofString "0123456789").length 1).isEmpty = false) : 48 ≤ c ∧ c ≤ 57 := by
  have hf := StrLaws.found_one (Str.ofString "0123456789") c
  rw [h, ofS_fig] at hf
  simp at hf
  omega
theorem fig_out {c : Nat} (h : (Builtin.Str.occurrences (Str.ofString "0123456789") ⟨#[c]⟩ 0 (Str.ofString "0123456789").length 1).isEmpty = true) : ¬ (48 ≤ c ∧ c ≤ 57) := by
  have hf := StrLaws.found_one (Str.ofString "0123456789") c
  rw [h, ofS_fig] at hf
  simp at hf
  omega
theorem fig_find {c : Nat} (h : 48 ≤ c ∧ c ≤ 57) : Txt.find (Str.ofString "0123456789") ⟨#[c]⟩ = (c : Int) - 48 := by
  rw [ofS_fig]
  obtain ⟨k, rfl⟩ : ∃ k, c = 48 + k := ⟨c - 48, by omega⟩
  have : k < 10 := by omega
  rcases k with _ | _ | _ | _ | _ | _ | _ | _ | _ | _ | k
  all_goals first | decide +kernel | omega
theorem nd_in {wd n : Int} {pre : List Int} {c : Nat} (h1 : 1 ≤ wd) (h2 : wd ≤ 64) (h : NdEq (2 * hp wd) pre n) (hc : (Builtin.Str.occurrences (Str.ofString "0123456789") ⟨#[c]⟩ 0 (Str.ofString "0123456789").length 1).isEmpty = false) :
    NdEq (2 * hp wd) (pre ++ [(c : Int)]) ((n * 10 + Txt.find (Str.ofString "0123456789") ⟨#[c]⟩).fmod (1 * 2 ^ wd.toNat)) ∧ 0 ≤ (n * 10 + Txt.find (Str.ofString "0123456789") ⟨#[c]⟩).fmod (1 * 2 ^ wd.toNat) ∧ (n * 10 + Txt.find (Str.ofString "0123456789") ⟨#[c]⟩).fmod (1 * 2 ^ wd.toNat) ≤ 2^64 := by
  have hd := fig_in hc
  have hq := hp_pos wd
  have hr := hp_le h2
  rw [fig_find hd, Int.one_mul, two_hp h1, Int.fmod_eq_emod_of_nonneg _ (by omega)]
  have := Int.emod_nonneg (n * 10 + ((c : Int) - 48)) (show 2 * hp wd ≠ 0 by omega)
  have := Int.emod_lt_of_pos (n * 10 + ((c : Int) - 48)) (show 0 < 2 * hp wd by omega)
  refine ⟨⟨?_⟩, by omega, by omega⟩
  rw [accD_snoc, ← h.eq]
  unfold stepD
  rw [if_pos (by omega)]
theorem nd_out {wd n : Int} {pre : List Int} {c : Nat} (h : NdEq (2 * hp wd) pre n) (h0 : 0 ≤ n) (h1 : n ≤ 2^64) (hc : (Builtin.Str.occurrences (Str.ofString "0123456789") ⟨#[c]⟩ 0 (Str.ofString "0123456789").length 1).isEmpty = true) :
    NdEq (2 * hp wd) (pre ++ [(c : Int)]) n ∧ 0 ≤ n ∧ n ≤ 2^64 := by
  have hd := fig_out hc
  refine ⟨⟨?_⟩, h0, h1⟩
  rw [accD_snoc, ← h.eq]
  unfold stepD
  rw [if_neg (by omega)]
def ntA (X : Str) (wd : Int) : Int := accD (2 * hp wd) (KStt.codes (Txt.slice X (some (nhS X : Int)) (some (nhB X : Int))))
def ntV (X : Str) (wd : Int) : Int := if (nhS X : Int) < nhB X ∧ (Txt.item X (nhS X : Int) == Str.ofString "-") = true then wrapN (-(ntA X wd)) wd else wrapN (ntA X wd) wd
end
theorem rules_C6_2 : True := by
  k_with "exec For Name Subscript cons nil" => ((k_here; (rename Fr _ _ _ _ => lF'); (with_unfolding_all refine' For_invVF lF' ?k1 ?k2 ?_; (case k1 => exact rfl); (case k2 => exact rfl); k_whole)))
  trivial
section
variable {w : World} {news : CbLed}
theorem c_numeric_text {X : Str} {t1 : Tok} {wd : Int} {tw : Tok} (hpre : X.length ≤ 1000 ∧ 1 ≤ wd ∧ wd ≤ 64) : Cl w 2 123 news [.str X t1, .int wd tw] (fun t => .int (ntV X wd) t) := by
  dsimp only [Cl, CbRet]
  intros
  rename_i hret
  obtain ⟨hl, h1, h2⟩ := hpre
  have q1 := two_hp h1
  have q3 := hp_pos wd
  have q4 := hp_le h2
  refine wpAny_call ?_
  k_dflt cell_enter
  k_with "pyIter str" => (
    (with_unfolding_all refine' KStt.kst_text (σ := Int × Tok) (fun _ => news) (fun c => [(Str.ofString "n", .int c.1 c.2)]) (fun _ => True) [] (fun pre c => NdEq (2 * hp wd) pre c.1 ∧ 0 ≤ c.1 ∧ c.1 ≤ 2^64) (0, _) (by rfl) ?sF ?sN trivial ?sk ?sp (fun c pre post n t u h tk own _ hoff _ hP F9 N9 => ?_) (fun c u h tk _ hP F9 N9 => ?_))
    (case sF => assumption)
    (case sN => first | assumption | exact cb_drop (by assumption) (fun p hp => List.Mem.tail _ hp))
    (case sk => kst_all)
    (case sp => exact ⟨⟨rfl⟩, Int.le_refl 0, (by decide : (0 : Int) ≤ 2^64)⟩)
    all_goals (obtain ⟨n9, v9⟩ := c; (try dsimp only [kstB] at F9); (try dsimp only at N9); (try dsimp only at hP); (try dsimp only at hoff); obtain ⟨q9, p9, r9⟩ := hP; (try k_fold)))
  k_with "state" => first | exact nd_in h1 h2 (by assumption) (by assumption) | exact nd_out (by assumption) (by assumption) (by assumption) (by assumption)
  k_steps
  all_goals (
    refine cb_retI hret ?_ (by assumption) (by assumption)
    have e : n9 = ntA X wd := q9.eq
    unfold ntV
    rw [← e]
    first
    | (rw [if_pos ⟨by assumption, by assumption⟩]; done)
    | (rw [if_neg (fun z => absurd z.1 (by assumption))]; done)
    | (rename (Txt.item _ _ == _) = false => hz; rw [if_neg (fun z => by rw [hz] at z; exact absurd z.2 (by decide))]; done))
end
end Mine
end
section
open PySem PySem.W PyProof.Rows
set_option Elab.async false
set_option maxRecDepth 100000
set_option maxHeartbeats 4000000
namespace Mine
theorem rules_C7_0 : True := by
  k_with_none
  k_with "eval Call" => (k_dflt (refine Call_ ?_))
  k_with "binaryOp FloorDiv int int" => ((refine floordiv_int ?a ?b (Or.inl (noPylong_big ?c)); (case a => omega); (case c => omega)))
  k_with "binaryOp Mod int int" => ((refine mod_int' ?a ?b; (case a => omega)))
  k_with "call ref" => ((k_here; (with_reducible show wpAny _ _ (call (Value.ref 116) _) _ _ _); (refine' ClT.use (cF_number_head ?kp) ?k1 ?k2 ?k3 ?k4 ?k5 ?kK ?kd ?ku ?_); (case k1 => k_asm); (case k2 => k_asm); (case k3 => k_asm); (case k4 => k_asm); (case k5 => k_asm); (case kK => first | exact rfl | assumption); (case kd => ktr_room); (case ku => ktr_units); (case kp => first | omega | fail "pre 116"); intro f9 D9 t9 u9 c9 h9 tk9 F9 N9 l9; (try k_lt l9); (try dsimp only); (try k_sweep); (try k_fold)))
  k_with "WRes" => ((refine' wres_of ?a ?b ?e ?hk; (case a => k_asm); (case b => k_asm); (case e => exact fun _ => rfl); (case hk => first | exact skip_end (by assumption) (by assumption) (by assumption) | exact skip_stop (by assumption) (by assumption) (by assumption) (by assumption))))
  trivial
section
variable {w : World} {news : CbLed}
def lnV (X : Str) : Bool := decide (¬ (nhS X : Int) = nhB X) && decide ((skip SPS X ((nhB X : Int)).toNat : Int) = X.length)
theorem c_looks_numeric {X : Str} {t1 : Tok} (hl : X.length ≤ 1000) : Cl w 2 130 news [.str X t1] (fun _ => .bool (lnV X)) := by
  dsimp only [Cl, CbRet]
  intros
  rename_i hret
  refine wpAny_call ?_
  k_dflt cell_enter
  k_with "exec While BoolOp" => ((with_reducible show wpAny _ _ (exec (Stmt.While (Expr.BoolOp _ (Expr.Compare (Expr.Name (Str.ofString "end") _) _ _ _ :: _) _) _ _ _) _) _ _ _); (refine' wcut (name := Str.ofString "end") (S := Str.ofString " \t\n\r\x0c\x0b") (X := X) ?wF ?wN ?wm ?w0 ?_ (fun f9 t9 h9 tk9 F9 N9 => ?_)); (case wF => k_asm); (case wN => k_asm); (case wm => exact rfl); (case w0 => first | omega | exact plus_bd (by assumption) | exact minus_bd (by assumption)); focus k_while_given ["end!"] (fun (e0 : Int) (_ : List Int) (e : Int) => 0 ≤ e ∧ e ≤ X.length ∧ skip (Str.ofString " \t\n\r\x0c\x0b") X e.toNat = skip (Str.ofString " \t\n\r\x0c\x0b") X e0.toNat) (fun _ _ e => (X.length - e.toNat : Nat)) "end")
  k_with "state" => first | exact ⟨by omega, by omega, by with_reducible rfl⟩ | exact skip_turn (by assumption) (by assumption) (by assumption) (by assumption)
  k_steps
  all_goals (
    refine cb_retB hret ?_ (by assumption) (by first | assumption | exact cb_drop (by assumption) (fun p hp => List.Mem.tail _ hp))
    unfold lnV
    first
    | (rename (nhS X : Int) = (nhB X : Int) => hz; simp only [hz, not_true_eq_false, decide_false, Bool.false_and]; done)
    | (rename (nhS X : Int) ≠ (nhB X : Int) => hz; rw [decide_eq_true (p := ¬ (nhS X : Int) = nhB X) hz, Bool.true_and]; first | rfl | (simp; done) | trace_state)
    | trace_state)
end
end Mine
end
section
open PySem PySem.W PyProof.Rows
set_option Elab.async false
set_option maxRecDepth 100000
set_option maxHeartbeats 4000000
namespace Mine
theorem rules_C8_0 : True := by
  k_with_none
  k_with "eval Call" => (k_dflt (refine Call_ ?_))
  k_with "binaryOp FloorDiv int int" => ((refine floordiv_int ?a ?b (Or.inl (noPylong_big ?c)); (case a => omega); (case c => omega)))
  k_with "binaryOp Mod int int" => ((refine mod_int' ?a ?b; (case a => omega)))
  trivial
section
variable {w : World} {lvl lvl' : Nat} {f : Addr} {news : CbLed} {vs : List Value} {R : Tok → Value}
theorem Cl.up (h : lvl ≤ lvl') (C : Cl w lvl f news vs R) : Cl w lvl' f news vs R := fun dp un gd cn cs a ccd cl outer A₀ base h₀ L m s Q E B F X N T hk hd hu ret => C dp un gd cn cs a ccd cl outer A₀ base h₀ L m s Q E B F X N T hk (by omega) (by omega) ret
theorem cF_numT {N : Int} {t1 : Tok} (hpre : -(2^64) ≤ N ∧ N ≤ 2^64) : Cl w 2 137 news [.int N t1] (fun t => .str (numT N) t) ∧ (1 ≤ (numT N).length ∧ (numT N).length ≤ 21) := by
  refine ⟨?_, numT_len hpre⟩
  by_cases h : 0 ≤ N
  · exact Cl.up (by omega) (c_number_text ⟨h, hpre.2⟩)
  · exact c_number_text_neg ⟨by omega, hpre.1⟩
abbrev limO (P : Params) (wd : Int) (tw k1 k2 k3 k4 k5 v2 v3 v4 v5 : Tok) : Obj := dictOf [⟨PyData.keyHash P (Str.ofString "width"), .str (Str.ofString "width") k1, .int wd tw⟩, ⟨PyData.keyHash P (Str.ofString "depth"), .str (Str.ofString "depth") k2, .int 50 v2⟩, ⟨PyData.keyHash P (Str.ofString "steps"), .str (Str.ofString "steps") k3, .int 1000000 v3⟩, ⟨PyData.keyHash P (Str.ofString "text"), .str (Str.ofString "text") k4, .int 100000 v4⟩, ⟨PyData.keyHash P (Str.ofString "items"), .str (Str.ofString "items") k5, .int 10000 v5⟩] 5
def LimIn (P : Params) (news : CbLed) (lx : Addr) (wd : Int) : Prop := ∃ (dx : Addr) (tw k1 k2 k3 k4 k5 v2 v3 v4 v5 : Tok), (lx, instObj 449 dx) ∈ news ∧ (dx, limO P wd tw k1 k2 k3 k4 k5 v2 v3 v4 v5) ∈ news
theorem LimIn.mono {P : Params} {news news' : CbLed} {lx : Addr} {wd : Int} (h : LimIn P news lx wd) (hs : ∀ p ∈ news, p ∈ news') : LimIn P news' lx wd :=
  let ⟨dx, a, b, c, d, e, f, g, i, j, k, h1, h2⟩ := h
  ⟨dx, a, b, c, d, e, f, g, i, j, k, hs _ h1, hs _ h2⟩
end
theorem rules_C8_1 : True := by
  k_with "call ref" => ((k_here; (with_reducible show wpAny _ _ (call (Value.ref 137) _) _ _ _); (refine' Cl.useF (cF_numT ?kp) ?k1 ?k2 ?k3 ?k4 ?k5 ?kK ?kd ?ku ?_); (case k1 => k_asm); (case k2 => k_asm); (case k3 => k_asm); (case k4 => k_asm); (case k5 => k_asm); (case kK => first | exact rfl | assumption); (case kd => ktr_room); (case ku => ktr_units); (case kp => first | omega | fail "pre 137"); intro f9 t9 h9 tk9 F9 N9; (try dsimp only); (try k_sweep); (try k_fold)))
  k_with "call ref" => ((k_here; (with_reducible show wpAny _ _ (call (Value.ref 123) _) _ _ _); (refine' Cl.use (c_numeric_text ?kp) ?k1 ?k2 ?k3 ?k4 ?k5 ?kK ?kd ?ku ?_); (case k1 => k_asm); (case k2 => k_asm); (case k3 => k_asm); (case k4 => k_asm); (case k5 => k_asm); (case kK => first | exact rfl | assumption); (case kd => ktr_room); (case ku => ktr_units); (case kp => first | omega | fail "pre 123"); intro t9 h9 tk9 F9 N9; (try dsimp only); (try k_sweep); (try k_fold)))
  trivial
section
variable {w : World} {news : CbLed}
theorem c_to_text_int {N : Int} {t1 : Tok} (hpre : -(2^64) ≤ N ∧ N ≤ 2^64) : Cl w 3 284 news [.int N t1] (fun t => .str (numT N) t) := by
  dsimp only [Cl, CbRet]
  intros
  rename_i hret
  obtain ⟨h1, h2⟩ := hpre
  refine wpAny_call ?_
  k_dflt cell_enter
  k_steps
  all_goals exact hret _ _ _ (by assumption) (by assumption)
theorem c_to_text_str {x : Str} {t1 : Tok} : Cl w 3 284 news [.str x t1] (fun t => .str x t) := by
  dsimp only [Cl, CbRet]
  intros
  rename_i hret
  refine wpAny_call ?_
  k_dflt cell_enter
  k_steps
  all_goals exact hret _ _ _ (by assumption) (by assumption)
theorem c_to_number_none {lx : Addr} {t1 : Tok} : Cl w 3 291 news [.none, .ref lx] (fun t => .int 0 t) := by
  dsimp only [Cl, CbRet]
  intros
  rename_i hret
  refine wpAny_call ?_
  k_dflt cell_enter
  k_steps
  all_goals exact hret _ _ _ (by assumption) (by assumption)
theorem c_to_number_int {N : Int} {lx : Addr} {t1 : Tok} : Cl w 3 291 news [.int N t1, .ref lx] (fun t => .int N t) := by
  dsimp only [Cl, CbRet]
  intros
  rename_i hret
  refine wpAny_call ?_
  k_dflt cell_enter
  k_steps
  all_goals exact hret _ _ _ (by assumption) (by assumption)
theorem c_to_number_str {X : Str} {lx : Addr} {t1 : Tok} {wd : Int} (hpre : X.length ≤ 1000 ∧ 1 ≤ wd ∧ wd ≤ 64) (hL : LimIn w.params news lx wd) : Cl w 3 291 news [.str X t1, .ref lx] (fun t => .int (ntV X wd) t) := by
  dsimp only [Cl, CbRet]
  intros
  rename_i hret
  obtain ⟨hl, h1, h2⟩ := hpre
  obtain ⟨dx, tw, k1, k2, k3, k4, k5, v2, v3, v4, v5, hL1, hL2⟩ := hL
  refine wpAny_call ?_
  k_dflt cell_enter
  k_steps
  all_goals exact hret _ _ _ (by assumption) (by assumption)
end
end Mine
end
section
open PySem PySem.W PyProof.Rows
set_option Elab.async false
set_option maxRecDepth 100000
set_option maxHeartbeats 4000000
namespace Mine
theorem rules_C9_0 : True := by
  k_with_none
  k_with "eval Call" => (k_dflt (refine Call_ ?_))
  k_with "binaryOp FloorDiv int int" => ((refine floordiv_int ?a ?b (Or.inl (noPylong_big ?c)); (case a => omega); (case c => omega)))
  k_with "binaryOp Mod int int" => ((refine mod_int' ?a ?b; (case a => omega)))
  k_with "WRes" => ((refine' wres_of ?a ?b ?e ?hk; (case a => k_asm); (case b => k_asm); (case e => exact fun _ => rfl); (case hk => first | exact skip_end (by assumption) (by assumption) (by assumption) | exact skip_stop (by assumption) (by assumption) (by assumption) (by assumption))))
  trivial
section
variable {w : World} {news : CbLed}
theorem not_in {S X : Str} {c : Nat} {i : Int} (hi : i = 0) (hX : Txt.item X 0 = ⟨#[c]⟩) (hc : ¬ c ∈ S.cps.toList) (h : (Builtin.Str.occurrences S (Txt.item X i) 0 S.length 1).isEmpty = false) : False := by
  subst hi
  rw [hX] at h
  have hf := StrLaws.found_one S c
  rw [h] at hf
  simp at hf
  exact hc (by simpa using hf)
theorem not_small {c : Nat} (hc : c < 65) : ¬ c ∈ (Str.ofString "abcdefghijklmnopqrstuvwxyz").cps.toList := by
  rw [show (Str.ofString "abcdefghijklmnopqrstuvwxyz").cps.toList = [97,98,99,100,101,102,103,104,105,106,107,108,109,110,111,112,113,114,115,116,117,118,119,120,121,122] by decide +kernel]
  simp
  omega
theorem not_great {c : Nat} (hc : c < 65) : ¬ c ∈ (Str.ofString "ABCDEFGHIJKLMNOPQRSTUVWXYZ").cps.toList := by
  rw [show (Str.ofString "ABCDEFGHIJKLMNOPQRSTUVWXYZ").cps.toList = [65,66,67,68,69,70,71,72,73,74,75,76,77,78,79,80,81,82,83,84,85,86,87,88,89,90] by decide +kernel]
  simp
  omega
theorem c_is_magic {X : Str} {t1 : Tok} {c : Nat} (hpre : X.length ≤ 1000 ∧ 1 ≤ X.length) (hX : Txt.item X 0 = ⟨#[c]⟩ ∧ c < 65) : Cl w 1 312 news [.str X t1] (fun _ => .bool false) := by
  dsimp only [Cl, CbRet]
  intros
  rename_i hret
  obtain ⟨hl, hl1⟩ := hpre
  obtain ⟨hX, hc⟩ := hX
  refine wpAny_call ?_
  k_dflt cell_enter
  k_with "exec While BoolOp" => ((with_reducible show wpAny _ _ (exec (Stmt.While (Expr.BoolOp _ (_ :: Expr.BoolOp _ _ _ :: _) _) _ _ _) _) _ _ _); k_while (fun (_ : List Int) (e : Int) => e = 0) (fun _ _ => 0) "at")
  k_with "exec While BoolOp" => ((with_reducible show wpAny _ _ (exec (Stmt.While (Expr.BoolOp _ (_ :: Expr.Compare _ _ _ _ :: _) _) _ _ _) _) _ _ _); (refine' wcut (name := Str.ofString "at") (S := Str.ofString "0123456789") (X := X) ?wF ?wN ?wm ?w0 ?_ (fun f9 t9 h9 tk9 F9 N9 => ?_)); (case wF => k_asm); (case wN => k_asm); (case wm => exact rfl); (case w0 => first | omega | exact plus_bd (by assumption) | exact minus_bd (by assumption)); focus k_while_given ["at!"] (fun (e0 : Int) (_ : List Int) (e : Int) => 0 ≤ e ∧ e ≤ X.length ∧ skip (Str.ofString "0123456789") X e.toNat = skip (Str.ofString "0123456789") X e0.toNat) (fun _ _ e => (X.length - e.toNat : Nat)) "at")
  k_with "state" => first | (with_reducible rfl) | exact ⟨by omega, by omega, by with_reducible rfl⟩ | exact skip_turn (by assumption) (by assumption) (by assumption) (by assumption)
  k_steps
  all_goals first
  | (exfalso; exact not_in (by assumption) hX (not_small hc) (by assumption))
  | (exfalso; exact not_in (by assumption) hX (not_great hc) (by assumption))
  | (refine cb_retB hret ?_ (by assumption) (by assumption); rw [decide_eq_false_iff_not]; omega)
end
end Mine
end
section
open PySem PySem.W PyProof.Rows
set_option Elab.async false
set_option maxRecDepth 100000
set_option maxHeartbeats 4000000
namespace Mine
theorem rules_C10_0 : True := by
  k_with_none
  k_with "eval Call" => (k_dflt (refine Call_ ?_))
  k_with "binaryOp FloorDiv int int" => ((refine floordiv_int ?a ?b (Or.inl (noPylong_big ?c)); (case a => omega); (case c => omega)))
  k_with "binaryOp Mod int int" => ((refine mod_int' ?a ?b; (case a => omega)))
  trivial
section
variable {w : World} {news : CbLed}
inductive NA (wd : Int) : Value → Int → Prop
  | int (N : Int) (t : Tok) : NA wd (.int N t) N
  | str (X : Str) (t : Tok) (h : X.length ≤ 1000 ∧ 1 ≤ wd ∧ wd ≤ 64) : NA wd (.str X t) (ntV X wd)
  | none : NA wd .none 0
inductive TA : Value → Str → Prop
  | int (N : Int) (t : Tok) (h : -(2^64) ≤ N ∧ N ≤ 2^64) : TA (.int N t) (numT N)
  | str (X : Str) (t : Tok) : TA (.str X t) X
theorem c_to_number {v : Value} {N wd : Int} {lx : Addr} (hn : NA wd v N) (hL : LimIn w.params news lx wd) : Cl w 3 291 news [v, .ref lx] (fun t => .int N t) := by
  cases hn with
  | int N t => exact c_to_number_int (t1 := t)
  | str X t h => exact c_to_number_str h hL
  | none => exact c_to_number_none (t1 := 0)
theorem c_to_text {v : Value} {X : Str} (hn : TA v X) : Cl w 3 284 news [v] (fun t => .str X t) := by
  cases hn with
  | int N t h => exact c_to_text_int h
  | str X t => exact c_to_text_str
theorem cF_to_text {v : Value} {X : Str} (hn : TA v X) (hl : X.length ≤ 1000) : Cl w 3 284 news [v] (fun t => .str X t) ∧ X.length ≤ 1000 := ⟨c_to_text hn, hl⟩
theorem cF_is_magic {X : Str} {t1 : Tok} {c : Nat} (hpre : X.length ≤ 1000 ∧ 1 ≤ X.length) (hX : Txt.item X 0 = ⟨#[c]⟩ ∧ c < 65) : Cl w 1 312 news [.str X t1] (fun _ => .bool false) ∧ True := ⟨c_is_magic hpre hX, trivial⟩
def cmpI (a b : Int) : Int := if a < b then -1 else if b < a then 1 else 0
def cmpS (x y : Str) : Int := if x.cps.toList < y.cps.toList then -1 else if y.cps.toList < x.cps.toList then 1 else 0
end
theorem rules_C10_1 : True := by
  k_with "call ref" => ((k_here; (with_reducible show wpAny _ _ (call (Value.ref 291) _) _ _ _); (refine' Cl.use (c_to_number ?kn ?kl) ?k1 ?k2 ?k3 ?k4 ?k5 ?kK ?kd ?ku ?_); (case k1 => k_asm); (case k2 => k_asm); (case k3 => k_asm); (case k4 => k_asm); (case k5 => k_asm); (case kK => first | exact rfl | assumption); (case kd => ktr_room); (case ku => ktr_units); (case kn => first | assumption | exact NA.int _ _ | exact NA.none); (case kl => first | assumption | exact LimIn.mono (by assumption) (fun p hp => List.Mem.tail _ hp) | exact ⟨_, _, _, _, _, _, _, _, _, _, _, by k_mem, by k_mem⟩); intro t9 h9 tk9 F9 N9; (try dsimp only); (try k_sweep); (try k_fold)))
  k_with "call ref" => ((k_here; (with_reducible show wpAny _ _ (call (Value.ref 284) _) _ _ _); (refine' Cl.useF (cF_to_text ?kt ?kb) ?k1 ?k2 ?k3 ?k4 ?k5 ?kK ?kd ?ku ?_); (case k1 => k_asm); (case k2 => k_asm); (case k3 => k_asm); (case k4 => k_asm); (case k5 => k_asm); (case kK => first | exact rfl | assumption); (case kd => ktr_room); (case ku => ktr_units); (case kt => first | assumption | exact TA.str _ _ | exact TA.int _ _ ⟨by omega, by omega⟩); (case kb => first | assumption | omega); intro f9 t9 h9 tk9 F9 N9; (try dsimp only); (try k_sweep); (try k_fold)))
  k_with "call ref" => ((k_here; (with_reducible show wpAny _ _ (call (Value.ref 67) _) _ _ _); (refine' Cl.use (c_add ?kp) ?k1 ?k2 ?k3 ?k4 ?k5 ?kK ?kd ?ku ?_); (case k1 => k_asm); (case k2 => k_asm); (case k3 => k_asm); (case k4 => k_asm); (case k5 => k_asm); (case kK => first | exact rfl | assumption); (case kd => ktr_room); (case ku => ktr_units); (case kp => first | omega | fail "pre 67"); intro t9 h9 tk9 F9 N9; (try dsimp only); (try k_sweep); (try k_fold)))
  k_with "call ref" => ((k_here; (with_reducible show wpAny _ _ (call (Value.ref 74) _) _ _ _); (refine' Cl.use (c_sub ?kp) ?k1 ?k2 ?k3 ?k4 ?k5 ?kK ?kd ?ku ?_); (case k1 => k_asm); (case k2 => k_asm); (case k3 => k_asm); (case k4 => k_asm); (case k5 => k_asm); (case kK => first | exact rfl | assumption); (case kd => ktr_room); (case ku => ktr_units); (case kp => first | omega | fail "pre 74"); intro t9 h9 tk9 F9 N9; (try dsimp only); (try k_sweep); (try k_fold)))
  k_with "call ref" => ((k_here; (with_reducible show wpAny _ _ (call (Value.ref 312) _) _ _ _); (refine' Cl.useF (cF_is_magic ?kp ?kq) ?k1 ?k2 ?k3 ?k4 ?k5 ?kK ?kd ?ku ?_); (case k1 => k_asm); (case k2 => k_asm); (case k3 => k_asm); (case k4 => k_asm); (case k5 => k_asm); (case kK => first | exact rfl | assumption); (case kd => ktr_room); (case ku => ktr_units); (case kp => exact ⟨by omega, by omega⟩); (case kq => assumption); intro f9 t9 h9 tk9 F9 N9; (try dsimp only); (try k_sweep); (try k_fold)))
  trivial
section
variable {w : World} {news : CbLed}
theorem c_increment {X : Str} {t1 : Tok} {c : Nat} {lx : Addr} {wd N : Int} (hpre : X.length ≤ 1000 ∧ 1 ≤ X.length ∧ 1 ≤ wd ∧ wd ≤ 64 ∧ -(2^63) ≤ N ∧ N ≤ 2^63) (hX : Txt.item X 0 = ⟨#[c]⟩ ∧ c < 65) (hn : NA wd (.str X t1) N) (hL : LimIn w.params news lx wd) : Cl w 5 333 news [.str X t1, .ref lx] (fun t => .int (wrapN (N + 1) wd) t) := by
  dsimp only [Cl, CbRet]
  intros
  rename_i hret
  obtain ⟨hl, hl1, h1, h2, h3, h4⟩ := hpre
  obtain ⟨dx, tw, k1, k2, k3, k4, k5, v2, v3, v4, v5, hL1, hL2⟩ := id hL
  refine wpAny_call ?_
  k_dflt cell_enter
  k_steps
  all_goals exact hret _ _ _ (by assumption) (by assumption)
theorem c_decrement {v : Value} {lx : Addr} {wd N : Int} (hpre : 1 ≤ wd ∧ wd ≤ 64 ∧ -(2^63) ≤ N ∧ N ≤ 2^63) (hn : NA wd v N) (hL : LimIn w.params news lx wd) : Cl w 5 340 news [v, .ref lx] (fun t => .int (wrapN (N - 1) wd) t) := by
  dsimp only [Cl, CbRet]
  intros
  rename_i hret
  obtain ⟨h1, h2, h3, h4⟩ := hpre
  obtain ⟨dx, tw, k1, k2, k3, k4, k5, v2, v3, v4, v5, hL1, hL2⟩ := id hL
  refine wpAny_call ?_
  k_dflt cell_enter
  k_steps
  all_goals exact hret _ _ _ (by assumption) (by assumption)
theorem c_compare_num {v1 v2 : Value} {lx : Addr} {wd a b : Int} (h1 : NA wd v1 a) (h2 : NA wd v2 b) (hL : LimIn w.params news lx wd) : Cl w 5 347 news [v1, v2, .ref lx] (fun t => .int (cmpI a b) t) := by
  dsimp only [Cl, CbRet]
  intros
  rename_i hret
  obtain ⟨dx, tw, k1, k2, k3, k4, k5, v2, v3, v4, v5, hL1, hL2⟩ := id hL
  refine wpAny_call ?_
  k_dflt cell_enter
  k_steps
  all_goals (refine cb_retI hret ?_ (by assumption) (by assumption); unfold cmpI; first | (rw [if_pos (by assumption)]; done) | (rw [if_neg (by assumption), if_pos (by assumption)]; done) | (rw [if_neg (by assumption), if_neg (by assumption)]; done) | trace_state)
theorem c_compare_text {v1 v2 : Value} {x y : Str} (h1 : TA v1 x) (h2 : TA v2 y) (h3 : x.length ≤ 1000) (h4 : y.length ≤ 1000) : Cl w 5 354 news [v1, v2] (fun t => .int (cmpS x y) t) := by
  dsimp only [Cl, CbRet]
  intros
  rename_i hret
  refine wpAny_call ?_
  k_dflt cell_enter
  k_steps
  all_goals (refine cb_retI hret ?_ (by assumption) (by assumption); unfold cmpS; first | (rw [if_pos (by assumption)]; done) | (rw [if_neg (by assumption), if_pos (by assumption)]; done) | (rw [if_neg (by assumption), if_neg (by assumption)]; done) | trace_state)
end
end Mine
end
section
open PySem PySem.W PyProof.Rows
set_option Elab.async false
set_option maxRecDepth 100000
set_option maxHeartbeats 4000000
namespace Mine
theorem rules_E6_0 : True := by
  k_with_none
  k_with "eval Call" => (k_dflt (refine Call_ ?_))
  k_with "binaryOp FloorDiv int int" => ((refine floordiv_int ?a ?b (Or.inl (noPylong_big ?c)); (case a => omega); (case c => omega)))
  k_with "binaryOp Mod int int" => ((refine mod_int' ?a ?b; (case a => omega)))
  trivial
section
variable {w : World} {lvl : Nat} {f : Addr} {news : CbLed} {vs : List Value} {p : Program} {loose : List Str} {mean : ExcName → Option Value} {mg mb : Str → Option Value}
theorem ClE.use {dp un : Nat} {gd : Option (List Code)} {cn : Str} {cs : Scope} {a : Addr} {ccd : Value} {cl : List (Str × Addr)} {outer : List Env} {A₀ : Around} {base h₀ : Heap} {L : Addr} {m : Str → Option Value} {s : Shared} {Q E : Value → Shared → Prop}
    (C : ClE w lvl news vs) (B : Below A₀ base outer h₀) (F : Fr h₀ L s.heap m) (X : (K w.params).In h₀) (N : News h₀ L s.heap news) (T : Top p loose mean mg mb h₀) (hk : cs.kind = .function) (hd : dp + lvl < recursionLimit) (hu : un + 8 * lvl < cLine)
    (ret : ∀ (e t d : Addr) (h' : Heap) (tk' : Nat), Fr h₀ L h' m → News h₀ L h' ((e, excO t (some d)) :: news) → (∀ p ∈ news, p.1 < e) → Q (.ref e) { s with heap := h', toks := tk' }) : wpAny (model PR w) (ktrTop dp un gd cn cs L a ccd cl outer) (call (.ref 51) vs) Q E s :=
  C _ _ _ _ _ _ _ _ _ _ _ _ _ _ _ _ _ B F X N T hk hd hu ret
abbrev ClX (w : World) (lvl : Nat) (f : Addr) (news : CbLed) (vs : List Value) : Prop :=
  ∀ {p : Program} {loose : List Str} {mean : ExcName → Option Value} {mg mb : Str → Option Value} (dp un : Nat) (gd : Option (List Code)) (cn : Str) (cs : Scope) (a : Addr) (ccd : Value) (cl : List (Str × Addr)) (outer : List Env) (A₀ : Around) (base h₀ : Heap) (L : Addr) (m : Str → Option Value) (s : Shared) (Q E : Value → Shared → Prop),
    Below A₀ base outer h₀ → Fr h₀ L s.heap m → (K w.params).In h₀ → News h₀ L s.heap news → Top p loose mean mg mb h₀ → cs.kind = .function → dp + lvl < recursionLimit → un + 8 * lvl < cLine →
    (∀ (e : Addr) (g h' : Heap) (tk' : Nat), Fr h₀ L g m → RaisedSN base g (envX cn cs L a ccd cl :: outer) e (.ref 51) news h' → g.UpToSlots h' → E (.ref e) { s with heap := h', toks := tk' }) →
    wpAny (model PR w) (ktrTop dp un gd cn cs L a ccd cl outer) (call (.ref f) vs) Q E s
theorem ClX.use {dp un : Nat} {gd : Option (List Code)} {cn : Str} {cs : Scope} {a : Addr} {ccd : Value} {cl : List (Str × Addr)} {outer : List Env} {A₀ : Around} {base h₀ : Heap} {L : Addr} {m : Str → Option Value} {s : Shared} {Q E : Value → Shared → Prop}
    (C : ClX w lvl f news vs) (B : Below A₀ base outer h₀) (F : Fr h₀ L s.heap m) (X : (K w.params).In h₀) (N : News h₀ L s.heap news) (T : Top p loose mean mg mb h₀) (hk : cs.kind = .function) (hd : dp + lvl < recursionLimit) (hu : un + 8 * lvl < cLine)
    (ret : ∀ (e : Addr) (g h' : Heap) (tk' : Nat), Fr h₀ L g m → RaisedSN base g (envX cn cs L a ccd cl :: outer) e (.ref 51) news h' → g.UpToSlots h' → E (.ref e) { s with heap := h', toks := tk' }) : wpAny (model PR w) (ktrTop dp un gd cn cs L a ccd cl outer) (call (.ref f) vs) Q E s :=
  C _ _ _ _ _ _ _ _ _ _ _ _ _ _ _ _ _ B F X N T hk hd hu ret
structure RecX (w : World) (lv : Nat) (f : Addr) (news : CbLed) (a b wd : Int) : Prop where
  h : ∀ t1 t2 tw, ClX w lv f news [.int a t1, .int b t2, .int wd tw]
end
theorem rules_E6_1 : True := by
  k_with "exec Raise some none" => ((k_here; k_dflt (refine' raise_exc ?hh ?_; (case hh => rfl))))
  k_with "RaiseEnd" => ((k_dflt (refine' raiseEnd_of ?F ?X ?N ?_; (case F => k_asm); (case X => k_asm); (case N => k_asm))))
  trivial
local macro_rules | `(tactic| walk_at "leaving ref") => `(tactic| (k_here; first
  | (refine' leave_exc ?B ?F ?N ?l ?_; (case N => assumption); (case B => assumption); (case F => assumption); (case l => assumption); k_whole; intro h' R' U'; (try dsimp only at R' U' ⊢))
  | (refine' leave_onSN ?k1 ?k2 ?k3 ?k4 ?_; (case k3 => assumption); (case k2 => assumption); (case k1 => assumption); (case k4 => assumption); k_whole; intro h' S' R' U'; (try dsimp only at S' R' U' ⊢))))
theorem rules_E6_2 : True := by
  k_with "callWith ref" => ((k_here; k_dflt (refine' callWith_K ?k1 ?kk ?_; (case k1 => k_asm); (case kk => assumption); k_whole)))
  k_with "call ref" => ((k_here; (with_reducible show wpAny _ _ (call (Value.ref 51) _) _ _ _); k_dflt ((refine' ClE.use (c_die) ?k1 ?k2 ?k3 ?k4 ?k5 ?kK ?kd ?ku ?_); (case k1 => k_asm); (case k2 => k_asm); (case k3 => k_asm); (case k4 => k_asm); (case k5 => k_asm); (case kK => first | exact rfl | assumption); (case kd => ktr_room); (case ku => ktr_units); intro e9 t9 d9 h9 tk9 F9 N9 l9; (try dsimp only); (try k_sweep); (try k_fold))))
  k_with "call ref" => ((k_here; (with_reducible show wpAny _ _ (call (Value.ref _) [_, _, _]) _ _ _); k_dflt ((refine' ClX.use (RecX.h ?R _ _ _) ?k1 ?k2 ?k3 ?k4 ?k5 ?kK ?kd ?ku ?_); (case R => assumption); (case k1 => k_asm); (case k2 => k_asm); (case k3 => k_asm); (case k4 => k_asm); (case k5 => k_asm); (case kK => first | exact rfl | assumption); (case kd => ktr_room); (case ku => ktr_units); intro e9 g9 h9 tk9 F9 R9 U9; (try dsimp only); (try k_sweep); (try k_fold))))
  k_with "call ref" => ((k_here; (with_reducible show wpAny _ _ (call (Value.ref 291) _) _ _ _); k_dflt ((refine' Cl.use (c_to_number ?kn ?kl) ?k1 ?k2 ?k3 ?k4 ?k5 ?kK ?kd ?ku ?_); (case k1 => k_asm); (case k2 => k_asm); (case k3 => k_asm); (case k4 => k_asm); (case k5 => k_asm); (case kK => first | exact rfl | assumption); (case kd => ktr_room); (case ku => ktr_units); (case kl => assumption); (case kn => assumption); intro t9 h9 tk9 F9 N9; (try dsimp only); (try k_sweep); (try k_fold))))
  trivial
section
variable {w : World} {news : CbLed}
theorem cx_div {x wd : Int} {t1 t2 tw : Tok} : ClX w 6 95 news [.int x t1, .int 0 t2, .int wd tw] := by
  dsimp only [ClX]
  intros
  rename_i hret
  refine wpAny_call ?_
  k_dflt cell_enter
  k_steps
  all_goals first | exact hret _ _ _ _ (by assumption) (by assumption) (by assumption) | trace_state
theorem cx_mod {x wd : Int} {t1 t2 tw : Tok} : ClX w 6 102 news [.int x t1, .int 0 t2, .int wd tw] := by
  dsimp only [ClX]
  intros
  rename_i hret
  refine wpAny_call ?_
  k_dflt cell_enter
  k_steps
  all_goals first | exact hret _ _ _ _ (by assumption) (by assumption) (by assumption) | trace_state
theorem cx_by {f : Addr} {lv : Nat} {v1 v2 : Value} {lx : Addr} {a b wd : Int} (hkeep : keepIn (K w.params) (.ref f) = true) (hrec : RecX w lv f news a b wd) (h1 : NA wd v1 a) (h2 : NA wd v2 b) (hL : LimIn w.params news lx wd) : ClX w (lv + 5) 368 news [.ref f, v1, v2, .ref lx] := by
  dsimp only [ClX]
  intros
  rename_i hret
  obtain ⟨dx, tw, k1, k2, k3, k4, k5, v2, v3, v4, v5, hL1, hL2⟩ := id hL
  refine wpAny_call ?_
  k_dflt cell_enter
  k_steps
  all_goals first | exact hret _ _ _ _ (by assumption) (by assumption) (by assumption) | trace_state
end
theorem rules_E6_3 : True := by
  k_with "call ref" => ((k_here; (with_reducible show wpAny _ _ (call (Value.ref 368) (Value.ref 95 :: _)) _ _ _); k_dflt ((refine' ClX.use (cx_by (f := 95) (lv := 6) (by k_is) ⟨fun _ _ _ => cx_div⟩ ?ka ?kb ?kl) ?k1 ?k2 ?k3 ?k4 ?k5 ?kK ?kd ?ku ?_); (case ka => assumption); (case kb => assumption); (case kl => assumption); (case k1 => k_asm); (case k2 => k_asm); (case k3 => k_asm); (case k4 => k_asm); (case k5 => k_asm); (case kK => first | exact rfl | assumption); (case kd => ktr_room); (case ku => ktr_units); intro e9 g9 h9 tk9 F9 R9 U9; (try dsimp only); (try k_sweep); (try k_fold))))
  k_with "call ref" => ((k_here; (with_reducible show wpAny _ _ (call (Value.ref 368) (Value.ref 102 :: _)) _ _ _); k_dflt ((refine' ClX.use (cx_by (f := 102) (lv := 6) (by k_is) ⟨fun _ _ _ => cx_mod⟩ ?ka ?kb ?kl) ?k1 ?k2 ?k3 ?k4 ?k5 ?kK ?kd ?ku ?_); (case ka => assumption); (case kb => assumption); (case kl => assumption); (case k1 => k_asm); (case k2 => k_asm); (case k3 => k_asm); (case k4 => k_asm); (case k5 => k_asm); (case kK => first | exact rfl | assumption); (case kd => ktr_room); (case ku => ktr_units); intro e9 g9 h9 tk9 F9 R9 U9; (try dsimp only); (try k_sweep); (try k_fold))))
  trivial
section
variable {w : World} {news : CbLed}
theorem cx_op_div {v1 v2 : Value} {lx : Addr} {a wd : Int} (h1 : NA wd v1 a) (h2 : NA wd v2 0) (hL : LimIn w.params news lx wd) : ClX w 13 396 news [v1, v2, .ref lx] := by
  dsimp only [ClX]
  intros
  rename_i hret
  refine wpAny_call ?_
  k_dflt cell_enter
  k_steps
  all_goals first | exact hret _ _ _ _ (by assumption) (by assumption) (by assumption) | trace_state
theorem cx_op_mod {v1 v2 : Value} {lx : Addr} {a wd : Int} (h1 : NA wd v1 a) (h2 : NA wd v2 0) (hL : LimIn w.params news lx wd) : ClX w 13 403 news [v1, v2, .ref lx] := by
  dsimp only [ClX]
  intros
  rename_i hret
  refine wpAny_call ?_
  k_dflt cell_enter
  k_steps
  all_goals first | exact hret _ _ _ _ (by assumption) (by assumption) (by assumption) | trace_state
end
end Mine
end
section
open PySem PySem.W PyProof.Rows
set_option Elab.async false
set_option maxRecDepth 100000
set_option maxHeartbeats 4000000
namespace Mine
theorem rules_C11_0 : True := by
  k_with_none
  k_with "eval Call" => (k_dflt (refine Call_ ?_))
  k_with "binaryOp FloorDiv int int" => ((refine floordiv_int ?a ?b (Or.inl (noPylong_big ?c)); (case a => omega); (case c => omega)))
  k_with "binaryOp Mod int int" => ((refine mod_int' ?a ?b; (case a => omega)))
  trivial
section
variable {w : World} {news : CbLed}
def tvV (b : Bool) (t : Tok) : Value := match b with | true => .int 1 t | false => .str (Str.ofString "") t
theorem c_tv {b : Bool} : Cl w 1 305 news [.bool b] (fun t => tvV b t) := by
  cases b with
  | true => exact c_tv_true
  | false => exact c_tv_false
theorem retV {h₀ h' : Heap} {L : Addr} {m : Str → Option Value} {s : Shared} {Q : Value → Shared → Prop} {tk' : Nat} {R : Tok → Value} {v : Value} (hret : ∀ (t : Tok) (h' : Heap) (tk' : Nat), Fr h₀ L h' m → News h₀ L h' news → Q (R t) { s with heap := h', toks := tk' }) (e : ∃ t : Tok, R t = v) (F : Fr h₀ L h' m) (N : News h₀ L h' news) : Q v { s with heap := h', toks := tk' } := by
  obtain ⟨t, e⟩ := e
  subst e
  exact hret t h' tk' F N
def hoV (op : Str) (o : Int) (t : Tok) : Value :=
  if (op == Str.ofString "<=>") = true then .int o t else if (op == Str.ofString "cmp") = true then .int o t
  else if (op == Str.ofString "==") = true then tvV (o == 0) t else if (op == Str.ofString "eq") = true then tvV (o == 0) t
  else if (op == Str.ofString "!=") = true then tvV (o != 0) t else if (op == Str.ofString "ne") = true then tvV (o != 0) t
  else if (op == Str.ofString "<") = true then tvV (decide (o < 0)) t else if (op == Str.ofString "lt") = true then tvV (decide (o < 0)) t
  else if (op == Str.ofString ">") = true then tvV (decide (0 < o)) t else if (op == Str.ofString "gt") = true then tvV (decide (0 < o)) t
  else if (op == Str.ofString "<=") = true then tvV (decide (o ≤ 0)) t else if (op == Str.ofString "le") = true then tvV (decide (o ≤ 0)) t
  else tvV (decide (0 ≤ o)) t
end
theorem rules_C11_1 : True := by
  k_with "call ref" => ((k_here; (with_reducible show wpAny _ _ (call (Value.ref 291) _) _ _ _); (refine' Cl.use (c_to_number ?kn ?kl) ?k1 ?k2 ?k3 ?k4 ?k5 ?kK ?kd ?ku ?_); (case k1 => k_asm); (case k2 => k_asm); (case k3 => k_asm); (case k4 => k_asm); (case k5 => k_asm); (case kK => first | exact rfl | assumption); (case kd => ktr_room); (case ku => ktr_units); (case kn => first | assumption | exact NA.int _ _ | exact NA.none); (case kl => first | assumption | exact LimIn.mono (by assumption) (fun p hp => List.Mem.tail _ hp) | exact ⟨_, _, _, _, _, _, _, _, _, _, _, by k_mem, by k_mem⟩); intro t9 h9 tk9 F9 N9; (try dsimp only); (try k_sweep); (try k_fold)))
  k_with "call ref" => ((k_here; (with_reducible show wpAny _ _ (call (Value.ref 284) _) _ _ _); (refine' Cl.useF (cF_to_text ?kt ?kb) ?k1 ?k2 ?k3 ?k4 ?k5 ?kK ?kd ?ku ?_); (case k1 => k_asm); (case k2 => k_asm); (case k3 => k_asm); (case k4 => k_asm); (case k5 => k_asm); (case kK => first | exact rfl | assumption); (case kd => ktr_room); (case ku => ktr_units); (case kt => first | assumption | exact TA.str _ _ | exact TA.int _ _ ⟨by omega, by omega⟩); (case kb => first | assumption | omega); intro f9 t9 h9 tk9 F9 N9; (try dsimp only); (try k_sweep); (try k_fold)))
  k_with "call ref" => ((k_here; (with_reducible show wpAny _ _ (call (Value.ref 67) _) _ _ _); (refine' Cl.use (c_add ?kp) ?k1 ?k2 ?k3 ?k4 ?k5 ?kK ?kd ?ku ?_); (case k1 => k_asm); (case k2 => k_asm); (case k3 => k_asm); (case k4 => k_asm); (case k5 => k_asm); (case kK => first | exact rfl | assumption); (case kd => ktr_room); (case ku => ktr_units); (case kp => first | omega | fail "pre 67"); intro t9 h9 tk9 F9 N9; (try dsimp only); (try k_sweep); (try k_fold)))
  k_with "call ref" => ((k_here; (with_reducible show wpAny _ _ (call (Value.ref 74) _) _ _ _); (refine' Cl.use (c_sub ?kp) ?k1 ?k2 ?k3 ?k4 ?k5 ?kK ?kd ?ku ?_); (case k1 => k_asm); (case k2 => k_asm); (case k3 => k_asm); (case k4 => k_asm); (case k5 => k_asm); (case kK => first | exact rfl | assumption); (case kd => ktr_room); (case ku => ktr_units); (case kp => first | omega | fail "pre 74"); intro t9 h9 tk9 F9 N9; (try dsimp only); (try k_sweep); (try k_fold)))
  k_with "call ref" => ((k_here; (with_reducible show wpAny _ _ (call (Value.ref 81) _) _ _ _); (refine' Cl.use (c_mul ?kp) ?k1 ?k2 ?k3 ?k4 ?k5 ?kK ?kd ?ku ?_); (case k1 => k_asm); (case k2 => k_asm); (case k3 => k_asm); (case k4 => k_asm); (case k5 => k_asm); (case kK => first | exact rfl | assumption); (case kd => ktr_room); (case ku => ktr_units); (case kp => first | omega | fail "pre 81"); intro t9 h9 tk9 F9 N9; (try dsimp only); (try k_sweep); (try k_fold)))
  k_with "call ref" => ((k_here; (with_reducible show wpAny _ _ (call (Value.ref 95) _) _ _ _); (refine' Cl.use (c_div ?kp) ?k1 ?k2 ?k3 ?k4 ?k5 ?kK ?kd ?ku ?_); (case k1 => k_asm); (case k2 => k_asm); (case k3 => k_asm); (case k4 => k_asm); (case k5 => k_asm); (case kK => first | exact rfl | assumption); (case kd => ktr_room); (case ku => ktr_units); (case kp => first | omega | fail "pre 95"); intro t9 h9 tk9 F9 N9; (try dsimp only); (try k_sweep); (try k_fold)))
  k_with "call ref" => ((k_here; (with_reducible show wpAny _ _ (call (Value.ref 102) _) _ _ _); (refine' Cl.use (c_mod ?kp) ?k1 ?k2 ?k3 ?k4 ?k5 ?kK ?kd ?ku ?_); (case k1 => k_asm); (case k2 => k_asm); (case k3 => k_asm); (case k4 => k_asm); (case k5 => k_asm); (case kK => first | exact rfl | assumption); (case kd => ktr_room); (case ku => ktr_units); (case kp => first | omega | fail "pre 102"); intro t9 h9 tk9 F9 N9; (try dsimp only); (try k_sweep); (try k_fold)))
  k_with "call ref" => ((k_here; (with_reducible show wpAny _ _ (call (Value.ref 305) _) _ _ _); (refine' Cl.use (c_tv) ?k1 ?k2 ?k3 ?k4 ?k5 ?kK ?kd ?ku ?_); (case k1 => k_asm); (case k2 => k_asm); (case k3 => k_asm); (case k4 => k_asm); (case k5 => k_asm); (case kK => first | exact rfl | assumption); (case kd => ktr_room); (case ku => ktr_units); intro t9 h9 tk9 F9 N9; (try dsimp only); (try k_sweep); (try k_fold)))
  trivial
section
variable {w : World} {news : CbLed}
theorem c_holds_order {op : Str} {t1 t2 : Tok} {o : Int} : Cl w 2 424 news [.str op t1, .int o t2] (fun t => hoV op o t) := by
  dsimp only [Cl, CbRet]
  intros
  rename_i hret
  refine wpAny_call ?_
  k_dflt cell_enter
  k_steps
  all_goals (
    refine retV hret ?_ (by assumption) (by assumption)
    unfold hoV
    simp only [*, if_true, if_false, Bool.false_eq_true]
    exact ⟨_, rfl⟩)
end
theorem rules_C11_2 : True := by
  k_with "call ref" => ((k_here; (with_reducible show wpAny _ _ (call (Value.ref 424) _) _ _ _); (refine' Cl.use (c_holds_order) ?k1 ?k2 ?k3 ?k4 ?k5 ?kK ?kd ?ku ?_); (case k1 => k_asm); (case k2 => k_asm); (case k3 => k_asm); (case k4 => k_asm); (case k5 => k_asm); (case kK => first | exact rfl | assumption); (case kd => ktr_room); (case ku => ktr_units); intro t9 h9 tk9 F9 N9; (try dsimp only); (try k_sweep); (try k_fold)))
  k_with "call ref" => ((k_here; (with_reducible show wpAny _ _ (call (Value.ref 347) _) _ _ _); (refine' Cl.use (c_compare_num ?ka ?kb ?kl) ?k1 ?k2 ?k3 ?k4 ?k5 ?kK ?kd ?ku ?_); (case k1 => k_asm); (case k2 => k_asm); (case k3 => k_asm); (case k4 => k_asm); (case k5 => k_asm); (case kK => first | exact rfl | assumption); (case kd => ktr_room); (case ku => ktr_units); (case ka => first | assumption | exact NA.int _ _ | exact NA.none); (case kb => first | assumption | exact NA.int _ _ | exact NA.none); (case kl => first | assumption | exact LimIn.mono (by assumption) (fun p hp => List.Mem.tail _ hp) | exact ⟨_, _, _, _, _, _, _, _, _, _, _, by k_mem, by k_mem⟩); intro t9 h9 tk9 F9 N9; (try dsimp only); (try k_sweep); (try k_fold)))
  k_with "call ref" => ((k_here; (with_reducible show wpAny _ _ (call (Value.ref 354) _) _ _ _); (refine' Cl.use (c_compare_text ?ka ?kb ?kc ?ke) ?k1 ?k2 ?k3 ?k4 ?k5 ?kK ?kd ?ku ?_); (case k1 => k_asm); (case k2 => k_asm); (case k3 => k_asm); (case k4 => k_asm); (case k5 => k_asm); (case kK => first | exact rfl | assumption); (case kd => ktr_room); (case ku => ktr_units); (case ka => first | assumption | exact TA.str _ _ | exact TA.int _ _ ⟨by omega, by omega⟩); (case kb => first | assumption | exact TA.str _ _ | exact TA.int _ _ ⟨by omega, by omega⟩); (case kc => first | assumption | omega); (case ke => first | assumption | omega); intro t9 h9 tk9 F9 N9; (try dsimp only); (try k_sweep); (try k_fold)))
  trivial
section
variable {w : World} {news : CbLed}
theorem c_cv_num {op : Str} {t1 : Tok} {v1 v2 : Value} {lx : Addr} {wd a b : Int} (hop : 1 ≤ op.length ∧ op.length ≤ 10) (hs : (Builtin.Str.occurrences (Str.ofString "abcdefghijklmnopqrstuvwxyz") (Txt.item op 0) 0 (Str.ofString "abcdefghijklmnopqrstuvwxyz").length 1).isEmpty = true) (h1 : NA wd v1 a) (h2 : NA wd v2 b) (hL : LimIn w.params news lx wd) : Cl w 6 431 news [.str op t1, v1, v2, .ref lx] (fun t => hoV op (cmpI a b) t) := by
  dsimp only [Cl, CbRet]
  intros
  rename_i hret
  obtain ⟨ho1, ho2⟩ := hop
  obtain ⟨dx, tw, k1, k2, k3, k4, k5, v2, v3, v4, v5, hL1, hL2⟩ := id hL
  refine wpAny_call ?_
  k_dflt cell_enter
  k_steps
  all_goals first | exact hret _ _ _ (by assumption) (by assumption) | (exfalso; rename (Builtin.Str.occurrences _ _ _ _ _).isEmpty = _ => hz; rw [hs] at hz; exact absurd hz (by decide))
theorem c_cv_text {op : Str} {t1 : Tok} {v1 v2 : Value} {lx : Addr} {wd : Int} {x y : Str} (hop : 1 ≤ op.length ∧ op.length ≤ 10) (hs : (Builtin.Str.occurrences (Str.ofString "abcdefghijklmnopqrstuvwxyz") (Txt.item op 0) 0 (Str.ofString "abcdefghijklmnopqrstuvwxyz").length 1).isEmpty = false) (h1 : TA v1 x) (h2 : TA v2 y) (h3 : x.length ≤ 1000) (h4 : y.length ≤ 1000) (hL : LimIn w.params news lx wd) : Cl w 6 431 news [.str op t1, v1, v2, .ref lx] (fun t => hoV op (cmpS x y) t) := by
  dsimp only [Cl, CbRet]
  intros
  rename_i hret
  obtain ⟨ho1, ho2⟩ := hop
  obtain ⟨dx, tw, k1, k2, k3, k4, k5, v2, v3, v4, v5, hL1, hL2⟩ := id hL
  refine wpAny_call ?_
  k_dflt cell_enter
  k_steps
  all_goals first | exact hret _ _ _ (by assumption) (by assumption) | (exfalso; rename (Builtin.Str.occurrences _ _ _ _ _).isEmpty = _ => hz; rw [hs] at hz; exact absurd hz (by decide))
end
end Mine
end
section
open PySem PySem.W PyProof.Rows
set_option Elab.async false
set_option maxRecDepth 100000
set_option maxHeartbeats 4000000
namespace Mine

theorem rules_C13_0 : True := by
  k_with_none
  k_with "eval Call" => (k_dflt (refine Call_ ?_))
  k_with "binaryOp FloorDiv int int" => ((refine floordiv_int ?a ?b (Or.inl (noPylong_big ?c)); (case a => omega); (case c => omega)))
  k_with "binaryOp Mod int int" => ((refine mod_int' ?a ?b; (case a => omega)))
  k_with "call ref" => ((k_here; (try dsimp only [List.nil_append, List.append_nil]); (with_reducible show wpAny _ _ (call (Value.ref _) _) _ _ _); (refine wpAny_call ?_); k_dflt (refine' code_def ?k1 ?k2 ?k3 ?k4 ?k5 ?kA ?kF ?kK ?k6 ?k7 ?k8 ?k9 ?kB ?_ ?c2 ?c3 ?c4 ?c5; (case kA => exact rfl); (case kF => exact rfl); (case kK => first | exact rfl | assumption); (case k1 => k_asm); (case k2 => k_asm); (case k3 => k_asm); (case k4 => k_asm); (case k5 => k_asm); (case k6 => k_is); (case k7 => k_is); (case k8 => ktr_room); (case k9 => exact BindsTo.of_eq rfl); (case c5 => decide); (case kB => exact locs rfl); (case c2 => exact rfl); (case c3 => exact rfl); (case c4 => exact rfl); k_whole; intro g' L' h' FG' F' N' B' X' T'; (try dsimp only); (try k_lift B'); (try k_fold))))
  k_with "call builtin:len" => ((k_here; (with_reducible show wpAny _ _ (call (Value.builtin "len") [Value.ref _]) _ _ _); k_dflt (refine' kst_len ?k1 ?k2 ?k3 ?k4 ?_; (case k1 => k_asm); (case k2 => k_mem); (case k3 => assumption); (case k4 => omega); k_whole)))
  trivial
/-- the kettle: a list of a list of ints and a count -/
abbrev kelO (sl : Addr) (c : Int) (tc : Tok) (n : Nat) : Obj := listOf #[.ref sl, .int c tc] n
abbrev ClK (w : World) (lvl : Nat) (f : Addr) (news : CbLed) (kt sl : Addr) (c : Int) (d : Int) (vs : List Value) (P : Value → Prop) : Prop :=
  ∀ {p : Program} {loose : List Str} {mean : ExcName → Option Value} {mg mb : Str → Option Value} (dp un : Nat) (gd : Option (List Code)) (cn : Str) (cs : Scope) (a : Addr) (ccd : Value) (cl : List (Str × Addr)) (outer : List Env) (A₀ : Around) (base h₀ : Heap) (L : Addr) (m : Str → Option Value) (s : Shared) (tc : Tok) (n : Nat) (Q E : Value → Shared → Prop),
    Below A₀ base outer h₀ → Fr h₀ L s.heap m → (K w.params).In h₀ → News h₀ L s.heap ((kt, kelO sl c tc n) :: news) → (∀ p ∈ news, p.1 ≠ kt) → Top p loose mean mg mb h₀ → cs.kind = .function → dp + lvl < recursionLimit → un + 8 * lvl < cLine →
    (∀ (v : Value) (tc' : Tok) (n' : Nat) (h' : Heap) (tk' : Nat), P v → Fr h₀ L h' m → News h₀ L h' ((kt, kelO sl (c + d) tc' n') :: news) → Q v { s with heap := h', toks := tk' }) →
    wpAny (model PR w) (ktrTop dp un gd cn cs L a ccd cl outer) (call (.ref f) vs) Q E s
section
variable {w : World} {news : CbLed} {kt sl : Addr}
theorem fmod_bd {x n : Int} (h : 1 ≤ n) : 0 ≤ x.fmod n ∧ x.fmod n < n := by
  rw [Int.fmod_eq_emod_of_nonneg _ (by omega)]
  exact ⟨Int.emod_nonneg _ (by omega), Int.emod_lt_of_pos _ (by omega)⟩
theorem c_stir {c many : Int} {tm : Tok} {vs : List Value} {ns : List Int} {nn : Nat} (hsl : (sl, listOf vs.toArray nn) ∈ news) (hi : IntsAre vs ns) (hl : ns.length ≤ 100) (hc : 0 ≤ c ∧ c ≤ 1000 ∧ 1 ≤ many ∧ many ≤ 1000) : ClK w 1 463 news kt sl c 1 [.ref kt, .int many tm] (fun v => ∃ x t, v = .int x t ∧ 0 ≤ x ∧ x < many) := by
  dsimp only [ClK]
  intro p loose mean mg mb dp un gd cn cs a ccd cl outer A₀ base h₀ L m s tc n Q E B F X N hne T hk hd hu hret
  obtain ⟨h1, h2, h3, h4⟩ := hc
  have hvl := IntsAre.length hi
  have hm : 0 ≤ (c + 1) * (c + 1) ∧ (c + 1) * (c + 1) ≤ 1002001 := by
    constructor
    · exact Int.mul_nonneg (by omega) (by omega)
    · have := Int.mul_le_mul (show c + 1 ≤ 1001 by omega) (show c + 1 ≤ 1001 by omega) (by omega) (by omega)
      omega
  refine wpAny_call ?_
  k_dflt cell_enter
  k_steps
  all_goals exact hret _ _ _ _ _ ⟨_, _, rfl, fmod_bd h3⟩ (by assumption) (by assumption)
end
end Mine
end
section
open PySem PySem.W PyProof.Rows
set_option Elab.async false
set_option maxRecDepth 100000
set_option maxHeartbeats 4000000
namespace Mine
theorem rules_C14_0 : True := by
  k_with_none
  k_with "eval Call" => (k_dflt (refine Call_ ?_))
  k_with "binaryOp FloorDiv int int" => ((refine floordiv_int ?a ?b (Or.inl (noPylong_big ?c)); (case a => omega); (case c => omega)))
  k_with "binaryOp Mod int int" => ((refine mod_int' ?a ?b; (case a => omega)))
  k_with "call ref" => ((k_here; (try dsimp only [List.nil_append, List.append_nil]); (with_reducible show wpAny _ _ (call (Value.ref _) _) _ _ _); (refine wpAny_call ?_); k_dflt (refine' code_def ?k1 ?k2 ?k3 ?k4 ?k5 ?kA ?kF ?kK ?k6 ?k7 ?k8 ?k9 ?kB ?_ ?c2 ?c3 ?c4 ?c5; (case kA => exact rfl); (case kF => exact rfl); (case kK => first | exact rfl | assumption); (case k1 => k_asm); (case k2 => k_asm); (case k3 => k_asm); (case k4 => k_asm); (case k5 => k_asm); (case k6 => k_is); (case k7 => k_is); (case k8 => ktr_room); (case k9 => exact BindsTo.of_eq rfl); (case c5 => decide); (case kB => exact locs rfl); (case c2 => exact rfl); (case c3 => exact rfl); (case c4 => exact rfl); k_whole; intro g' L' h' FG' F' N' B' X' T'; (try dsimp only); (try k_lift B'); (try k_fold))))
  k_with "call builtin:len" => ((k_here; (with_reducible show wpAny _ _ (call (Value.builtin "len") [Value.ref _]) _ _ _); k_dflt (refine' kst_len ?k1 ?k2 ?k3 ?k4 ?_; (case k1 => k_asm); (case k2 => k_mem); (case k3 => assumption); (case k4 => omega); k_whole)))
  trivial
section
variable {w : World} {lvl : Nat} {f : Addr} {news : CbLed} {kt sl : Addr} {c d : Int} {vs : List Value} {P : Value → Prop} {p : Program} {loose : List Str} {mean : ExcName → Option Value} {mg mb : Str → Option Value}
theorem ClK.use {dp un : Nat} {gd : Option (List Code)} {cn : Str} {cs : Scope} {a : Addr} {ccd : Value} {cl : List (Str × Addr)} {outer : List Env} {A₀ : Around} {base h₀ : Heap} {L : Addr} {m : Str → Option Value} {s : Shared} {tc : Tok} {n : Nat} {Q E : Value → Shared → Prop}
    (C : ClK w lvl f news kt sl c d vs P) (B : Below A₀ base outer h₀) (F : Fr h₀ L s.heap m) (X : (K w.params).In h₀) (N : News h₀ L s.heap ((kt, kelO sl c tc n) :: news)) (hn : ∀ p ∈ news, p.1 ≠ kt) (T : Top p loose mean mg mb h₀) (hk : cs.kind = .function) (hd : dp + lvl < recursionLimit) (hu : un + 8 * lvl < cLine)
    (ret : ∀ (v : Value) (tc' : Tok) (n' : Nat) (h' : Heap) (tk' : Nat), P v → Fr h₀ L h' m → News h₀ L h' ((kt, kelO sl (c + d) tc' n') :: news) → Q v { s with heap := h', toks := tk' }) : wpAny (model PR w) (ktrTop dp un gd cn cs L a ccd cl outer) (call (.ref f) vs) Q E s :=
  C _ _ _ _ _ _ _ _ _ _ _ _ _ _ _ _ _ _ _ B F X N hn T hk hd hu ret
theorem news_swap {h₀ h : Heap} {L : Addr} {a b : Addr × Obj} {l : CbLed} (N : News h₀ L h (a :: b :: l)) : News h₀ L h (b :: a :: l) := fun p hp => N p (by
  rcases List.mem_cons.mp hp with rfl | hp
  · exact .tail _ (.head _)
  · rcases List.mem_cons.mp hp with rfl | hp
    · exact .head _
    · exact .tail _ (.tail _ hp))
theorem news_swap2 {h₀ h : Heap} {L : Addr} {a b c : Addr × Obj} {l : CbLed} (N : News h₀ L h (a :: b :: c :: l)) : News h₀ L h (c :: a :: b :: l) := fun p hp => N p (by
  rcases List.mem_cons.mp hp with rfl | hp
  · exact .tail _ (.tail _ (.head _))
  · rcases List.mem_cons.mp hp with rfl | hp
    · exact .head _
    · rcases List.mem_cons.mp hp with rfl | hp
      · exact .tail _ (.head _)
      · exact .tail _ (.tail _ (.tail _ hp)))
end
theorem rules_C14_1 : True := by
  k_with "call ref" => ((k_here; (with_reducible show wpAny _ _ (call (Value.ref 463) _) _ _ _); k_dflt ((refine' ClK.use (c_stir ?ks ?ki ?kl ?kp) ?k1 ?k2 ?k3 ?k4 ?kn ?k5 ?kK ?kd ?ku ?_); (case k1 => k_asm); (case k2 => k_asm); (case k3 => k_asm); (case k4 => first | k_asm | exact news_swap (by k_asm) | exact news_swap2 (by k_asm)); (case kn => assumption); (case k5 => k_asm); (case kK => first | exact rfl | assumption); (case kd => ktr_room); (case ku => ktr_units); (case ks => first | assumption | k_mem); (case ki => assumption); (case kl => first | assumption | omega); (case kp => exact ⟨by omega, by omega, by omega, by omega⟩); intro v9 tc9 n9 h9 tk9 P9 F9 N9; obtain ⟨x9, t9, e9, lo9, hi9⟩ := P9; subst e9;  (try dsimp only); (try k_sweep); (try k_fold))))
  trivial
section
variable {w : World} {news : CbLed} {kt sl : Addr}
theorem fmod_sub_bd {x H : Int} (h : 1 ≤ H) : -H ≤ x.fmod (2 * H) - H ∧ x.fmod (2 * H) - H < H := by
  have z := fmod_bd (n := 2 * H) (x := x) (by omega)
  omega
theorem c_amount {c wd : Int} {tm : Tok} {vs : List Value} {ns : List Int} {nn : Nat} (hsl : (sl, listOf vs.toArray nn) ∈ news) (hi : IntsAre vs ns) (hl : ns.length ≤ 100) (hc : 0 ≤ c ∧ c ≤ 900 ∧ 1 ≤ wd ∧ wd ≤ 64) : ClK w 2 470 news kt sl c 2 [.ref kt, .int wd tm] (fun v => ∃ x t, v = .int x t ∧ -hp wd ≤ x ∧ x < hp wd) := by
  dsimp only [ClK]
  intro p loose mean mg mb dp un gd cn cs a ccd cl outer A₀ base h₀ L m s tc n Q E B F X N hne T hk hd hu hret
  obtain ⟨h1, h2, h3, h4⟩ := hc
  have q1 := two_hp h3
  have q2 := two_hp1 h3
  have q3 := hp_pos wd
  have q4 := hp_le h4
  refine wpAny_call ?_
  k_dflt cell_enter
  k_steps
  all_goals (
    refine hret _ _ _ _ _ ⟨_, _, rfl, ?_⟩ (by assumption) (by rw [show c + 2 = c + 1 + 1 by omega]; first | assumption | exact cb_drop (by assumption) (fun p hp => List.Mem.tail _ hp))
    rw [q2]
    first
    | (constructor <;> omega)
    | exact fmod_sub_bd q3
    | trace_state)
end
end Mine
end
section
open PySem PySem.W PyProof.Rows
set_option Elab.async false
set_option maxRecDepth 100000
set_option maxHeartbeats 4000000
namespace Mine
theorem rules_C15_0 : True := by
  k_with_none
  k_with "eval Call" => (k_dflt (refine Call_ ?_))
  k_with "binaryOp FloorDiv int int" => ((refine floordiv_int ?a ?b (Or.inl (noPylong_big ?c)); (case a => omega); (case c => omega)))
  k_with "binaryOp Mod int int" => ((refine mod_int' ?a ?b; (case a => omega)))
  k_with "call ref" => ((k_here; (try dsimp only [List.nil_append, List.append_nil]); (with_reducible show wpAny _ _ (call (Value.ref _) _) _ _ _); (refine wpAny_call ?_); k_dflt (refine' code_def ?k1 ?k2 ?k3 ?k4 ?k5 ?kA ?kF ?kK ?k6 ?k7 ?k8 ?k9 ?kB ?_ ?c2 ?c3 ?c4 ?c5; (case kA => exact rfl); (case kF => exact rfl); (case kK => first | exact rfl | assumption); (case k1 => k_asm); (case k2 => k_asm); (case k3 => k_asm); (case k4 => k_asm); (case k5 => k_asm); (case k6 => k_is); (case k7 => k_is); (case k8 => ktr_room); (case k9 => exact BindsTo.of_eq rfl); (case c5 => decide); (case kB => exact locs rfl); (case c2 => exact rfl); (case c3 => exact rfl); (case c4 => exact rfl); k_whole; intro g' L' h' FG' F' N' B' X' T'; (try dsimp only); (try k_lift B'); (try k_fold))))
  k_with "call builtin:len" => ((k_here; (with_reducible show wpAny _ _ (call (Value.builtin "len") [Value.ref _]) _ _ _); k_dflt (refine' kst_len ?k1 ?k2 ?k3 ?k4 ?_; (case k1 => k_asm); (case k2 => k_mem); (case k3 => assumption); (case k4 => omega); k_whole)))
  trivial
section
variable {prog : Program} {w : World} {A : Around} {E : Value → Shared → Prop} {s : Shared} {h₀ : Heap} {L a : Addr} {m : Str → Option Value} {KF : Frag} {n : Nat}
theorem ltLen {k : Int} {l : List Value} {j : Nat} (h : k < j) (e : l.length = j) : k < l.length := by rw [e]; exact h
theorem tab_strs (S : List Str) {value slice : Expr} {l : List Value} {dd : Option Addr} {sl : Array (Option Value)} {k : Int} {u : Tok} {Q : Value → Shared → Prop} (F : Fr h₀ L s.heap m) (X₀ : KF.In h₀) (hl : KF.lookup a = some ⟨.type "tuple", dd, .seq l.toArray n, sl⟩)
    (hs : ∀ v ∈ l, ∃ x t, v = Value.str x t ∧ x ∈ S) (h0 : 0 ≤ k ∧ k < 1000) (h1 : k < l.length) (h : ∀ x t, x ∈ S → Q (.str x t) s)
    (hsub : subscripted slice false (.ref a) (.int k u) = operate [.ref a, .int k u] (getItem (.ref a) (.int k u)) := by with_unfolding_all rfl) :
    wpAny (model prog w) A (subscriptTail value slice (.ref a) (.int k u)) Q E s := by
  have hj : k.toNat < l.length := by omega
  obtain ⟨x, t, e, hx⟩ := hs l[k.toNat] (List.getElem_mem hj)
  have hi : seqIndex? k l.length = some k.toNat := by
    unfold seqIndex?
    simp only [show ¬ k < 0 by omega, if_false]
    rw [if_pos]
    simp only [Bool.and_eq_true, decide_eq_true_eq]
    omega
  refine topTup_K F X₀ hl (by omega) (by omega) hi (List.getElem?_eq_getElem hj) ?_ hsub
  rw [e]
  exact h x t hx
theorem tup_strs (S : List Str) {value slice : Expr} {l : List Value} {k : Int} {u : Tok} {Q : Value → Shared → Prop} (ht : IsTup s.heap a l.toArray)
    (hs : ∀ v ∈ l, ∃ x t, v = Value.str x t ∧ x ∈ S) (h0 : 0 ≤ k ∧ k < 1000) (h1 : k < l.length) (h : ∀ x t, x ∈ S → Q (.str x t) s)
    (hsub : subscripted slice false (.ref a) (.int k u) = operate [.ref a, .int k u] (getItem (.ref a) (.int k u)) := by with_unfolding_all rfl) :
    wpAny (model prog w) A (subscriptTail value slice (.ref a) (.int k u)) Q E s := by
  have hj : k.toNat < l.length := by omega
  obtain ⟨x, t, e, hx⟩ := hs l[k.toNat] (List.getElem_mem hj)
  have hi : seqIndex? k l.length = some k.toNat := by
    unfold seqIndex?
    simp only [show ¬ k < 0 by omega, if_false]
    rw [if_pos]
    simp only [Bool.and_eq_true, decide_eq_true_eq]
    omega
  refine item_tupleT ht (by omega) (by omega) hi (List.getElem?_eq_getElem hj) ?_ hsub
  rw [e]
  exact h x t hx
theorem nabs_len {N : Int} (h : -(2^63) ≤ N ∧ N ≤ 2^63) : (numT (N.natAbs : Int)).length ≤ 1000 := by
  have := (numT_len (N := (N.natAbs : Int)) ⟨by omega, by omega⟩).2
  omega
def aheadS : List Str := [Str.ofString "", Str.ofString " ", Str.ofString "\t\n ", Str.ofString "  "]
def behindS : List Str := [Str.ofString "", Str.ofString "x", Str.ofString " 7", Str.ofString ".9", Str.ofString "e3"]
def plusS : List Str := [Str.ofString "", Str.ofString "+"]
theorem ahead_len {x : Str} (h : x ∈ aheadS) : x.length ≤ 3 := (by decide +kernel : ∀ x ∈ aheadS, x.length ≤ 3) x h
theorem behind_len {x : Str} (h : x ∈ behindS) : x.length ≤ 2 := (by decide +kernel : ∀ x ∈ behindS, x.length ≤ 2) x h
theorem plus_len {x : Str} (h : x ∈ plusS) : x.length ≤ 1 := (by decide +kernel : ∀ x ∈ plusS, x.length ≤ 1) x h
theorem ahead_all {a b c d : Tok} : ∀ v ∈ [Value.str (Str.ofString "") a, .str (Str.ofString " ") b, .str (Str.ofString "\t\n ") c, .str (Str.ofString "  ") d], ∃ x t, v = Value.str x t ∧ x ∈ aheadS := by
  intro v hv
  simp only [List.mem_cons, List.not_mem_nil, or_false] at hv
  rcases hv with rfl | rfl | rfl | rfl <;> exact ⟨_, _, rfl, by unfold aheadS; simp⟩
theorem behind_all {a b c d e : Tok} : ∀ v ∈ [Value.str (Str.ofString "") a, .str (Str.ofString "x") b, .str (Str.ofString " 7") c, .str (Str.ofString ".9") d, .str (Str.ofString "e3") e], ∃ x t, v = Value.str x t ∧ x ∈ behindS := by
  intro v hv
  simp only [List.mem_cons, List.not_mem_nil, or_false] at hv
  rcases hv with rfl | rfl | rfl | rfl | rfl <;> exact ⟨_, _, rfl, by unfold behindS; simp⟩
theorem plus_all (a b : Tok) : ∀ v ∈ [Value.str (Str.ofString "") a, .str (Str.ofString "+") b], ∃ x t, v = Value.str x t ∧ x ∈ plusS := by
  intro v hv
  simp only [List.mem_cons, List.not_mem_nil, or_false] at hv
  rcases hv with rfl | rfl <;> exact ⟨_, _, rfl, by unfold plusS; simp⟩
end
theorem rules_C15_1 : True := by
  k_with "call ref" => ((k_here; (with_reducible show wpAny _ _ (call (Value.ref 463) _) _ _ _); k_dflt ((refine' ClK.use (c_stir ?ks ?ki ?kl ?kp) ?k1 ?k2 ?k3 ?k4 ?kn ?k5 ?kK ?kd ?ku ?_); (case k1 => k_asm); (case k2 => k_asm); (case k3 => k_asm); (case k4 => first | k_asm | exact news_swap (by k_asm) | exact news_swap2 (by k_asm)); (case kn => first | assumption | exact List.forall_mem_cons.mpr ⟨by k_ne, by assumption⟩ | exact List.forall_mem_cons.mpr ⟨by k_ne, List.forall_mem_cons.mpr ⟨by k_ne, by assumption⟩⟩); (case k5 => k_asm); (case kK => first | exact rfl | assumption); (case kd => ktr_room); (case ku => ktr_units); (case ks => first | assumption | k_mem); (case ki => assumption); (case kl => first | assumption | omega); (case kp => exact ⟨by omega, by omega, by omega, by omega⟩); intro v9 tc9 n9 h9 tk9 P9 F9 N9; obtain ⟨x9, t9, e9, lo9, hi9⟩ := P9; subst e9;  (try dsimp only); (try k_sweep); (try k_fold))))
  k_with "subscriptTail" => ((k_here; (with_reducible show wpAny _ _ (subscriptTail _ _ (Value.ref 455) (Value.int _ _)) _ _ _); k_dflt (refine' tab_strs aheadS ?F ?X ?l ?s ?a ?b ?_; (case F => k_asm); (case X => k_asm); (case l => k_is); (case s => exact ahead_all); (case a => exact ⟨by omega, by omega⟩); (case b => exact ltLen (j := 4) (by omega) rfl); k_whole); intro x9 t9 hx9; have hb9 := ahead_len hx9))
  k_with "subscriptTail" => ((k_here; (with_reducible show wpAny _ _ (subscriptTail _ _ (Value.ref 456) (Value.int _ _)) _ _ _); k_dflt (refine' tab_strs behindS ?F ?X ?l ?s ?a ?b ?_; (case F => k_asm); (case X => k_asm); (case l => k_is); (case s => exact behind_all); (case a => exact ⟨by omega, by omega⟩); (case b => exact ltLen (j := 5) (by omega) rfl); k_whole); intro x9 t9 hx9; have hb9 := behind_len hx9))
  k_with "subscriptTail Tuple" => ((k_here; (with_reducible show wpAny _ _ (subscriptTail (Expr.Tuple _ _ _) _ (Value.ref _) (Value.int _ _)) _ _ _); k_dflt (refine' tup_strs plusS ?t ?s ?a ?b ?_; (case t => exact News.isTup (by k_asm) (by k_mem)); (case s => exact plus_all _ _); (case a => exact ⟨by omega, by omega⟩); (case b => exact ltLen (j := 2) (by omega) rfl); k_whole); intro x9 t9 hx9; have hb9 := plus_len hx9))
  k_with "call ref" => ((k_here; (with_reducible show wpAny _ _ (call (Value.ref 284) _) _ _ _); k_dflt ((refine' Cl.useF (cF_to_text ?kt ?kb) ?k1 ?k2 ?k3 ?k4 ?k5 ?kK ?kd ?ku ?_); (case k1 => k_asm); (case k2 => k_asm); (case k3 => k_asm); (case k4 => k_asm); (case k5 => k_asm); (case kK => first | exact rfl | assumption); (case kd => ktr_room); (case ku => ktr_units); (case kt => first | assumption | exact TA.str _ _ | exact TA.int _ _ ⟨by omega, by omega⟩); (case kb => first | assumption | omega | exact nabs_len (by omega)); intro f9 t9 h9 tk9 F9 N9; (try dsimp only); (try k_sweep); (try k_fold))))
  k_with "call builtin:abs" => (((with_reducible refine call_absN ?_); intro _ _))
  trivial
section
variable {w : World} {news : CbLed} {kt sl : Addr}
def Dressed (N : Int) (hd tl : Str) : Prop := ∃ (ah sg : Str) (k : Int), ah ∈ aheadS ∧ ((N < 0 ∧ sg = Str.ofString "-") ∨ (0 ≤ N ∧ sg ∈ plusS)) ∧ 0 ≤ k ∧ k < 3 ∧ hd = ah ++ sg ++ (Txt.mul (Str.ofString "0") k ++ numT N.natAbs) ∧ tl ∈ behindS
abbrev ClD (w : World) (lvl : Nat) (f : Addr) (news : CbLed) (kt sl : Addr) (c : Int) (N : Int) (vs : List Value) : Prop :=
  ∀ {p : Program} {loose : List Str} {mean : ExcName → Option Value} {mg mb : Str → Option Value} (dp un : Nat) (gd : Option (List Code)) (cn : Str) (cs : Scope) (a : Addr) (ccd : Value) (cl : List (Str × Addr)) (outer : List Env) (A₀ : Around) (base h₀ : Heap) (L : Addr) (m : Str → Option Value) (s : Shared) (tc : Tok) (n : Nat) (Q E : Value → Shared → Prop),
    Below A₀ base outer h₀ → Fr h₀ L s.heap m → (K w.params).In h₀ → News h₀ L s.heap ((kt, kelO sl c tc n) :: news) → (∀ p ∈ news, p.1 ≠ kt) → Top p loose mean mg mb h₀ → cs.kind = .function → dp + lvl < recursionLimit → un + 8 * lvl < cLine →
    (∀ (D : Addr) (hd tl : Str) (t1 t2 : Tok) (n0 : Nat) (c' : Int) (tc' : Tok) (n' : Nat) (h' : Heap) (tk' : Nat), Fr h₀ L h' m → News h₀ L h' ((D, tup2 (.str hd t1) (.str tl t2) n0) :: (kt, kelO sl c' tc' n') :: news) → Dressed N hd tl → c ≤ c' ∧ c' ≤ c + 4 → kt < D ∧ AllLt D news → Q (.ref D) { s with heap := h', toks := tk' }) →
    wpAny (model PR w) (ktrTop dp un gd cn cs L a ccd cl outer) (call (.ref f) vs) Q E s
theorem news_drop3 {h₀ h : Heap} {L : Addr} {a b c : Addr × Obj} {l : CbLed} (N : News h₀ L h (a :: b :: c :: l)) : News h₀ L h (a :: b :: l) := fun p hp => N p (by
  rcases List.mem_cons.mp hp with rfl | hp
  · exact .head _
  · rcases List.mem_cons.mp hp with rfl | hp
    · exact .tail _ (.head _)
    · exact .tail _ (.tail _ (.tail _ hp)))
theorem allLt_mid {D a b : Addr} {l : CbLed} (h : a < D ∧ b < D ∧ AllLt D l) : a < D ∧ AllLt D l := ⟨h.1, h.2.2⟩
theorem c_dressed {c N : Int} {tm : Tok} {vs : List Value} {ns : List Int} {nn : Nat} (hsl : (sl, listOf vs.toArray nn) ∈ news) (hi : IntsAre vs ns) (hl : ns.length ≤ 100) (hc : 0 ≤ c ∧ c ≤ 900 ∧ -(2^63) ≤ N ∧ N ≤ 2^63) : ClD w 4 477 news kt sl c N [.ref kt, .int N tm] := by
  dsimp only [ClD]
  intro p loose mean mg mb dp un gd cn cs a ccd cl outer A₀ base h₀ L m s tc n Q E B F X N₀ hne T hk hd hu hret
  obtain ⟨h1, h2, h3, h4⟩ := hc
  refine wpAny_call ?_
  k_dflt cell_enter
  k_steps
  · refine hret _ _ _ _ _ _ _ _ _ _ _ (by assumption) (by assumption) ⟨_, _, _, by assumption, .inl ⟨by assumption, rfl⟩, by assumption, by assumption, rfl, by assumption⟩ ⟨by omega, by omega⟩ (by assumption)
  · have N9 := news_drop3 (by assumption : News h₀ L _ (_ :: (kt, kelO sl (c + 1 + 1 + 1 + 1) _ _) :: _ :: news))
    refine hret _ _ _ _ _ _ (c + 1 + 1 + 1 + 1) _ _ _ _ (by assumption) N9 ⟨_, _, _, by assumption, .inr ⟨by omega, by assumption⟩, by assumption, by assumption, rfl, by assumption⟩ ⟨by omega, by omega⟩ (allLt_mid (by assumption))
end
end Mine
end
section
open PySem PySem.W PyProof.Rows
set_option Elab.async false
set_option maxRecDepth 100000
set_option maxHeartbeats 4000000
namespace Mine
/-! plain laws of numbers' texts -/
theorem sps_l : (Str.ofString " \t\n\r\x0c\x0b").cps.toList = [32, 9, 10, 13, 12, 11] := by decide +kernel
theorem fgs_l : (Str.ofString "0123456789").cps.toList = [48, 49, 50, 51, 52, 53, 54, 55, 56, 57] := by decide +kernel
def isSp (c : Nat) : Bool := decide (c ∈ [32, 9, 10, 13, 12, 11])
def isFg (c : Nat) : Bool := decide (48 ≤ c ∧ c ≤ 57)
theorem isFg_eq (c : Nat) : decide (c ∈ [48, 49, 50, 51, 52, 53, 54, 55, 56, 57]) = isFg c := by
  unfold isFg
  rw [decide_eq_decide]
  simp only [List.mem_cons, List.not_mem_nil, or_false]
  omega
theorem skipSp (X : Str) (i : Nat) : skip (Str.ofString " \t\n\r\x0c\x0b") X i = i + ((X.cps.toList.drop i).takeWhile isSp).length := by
  unfold skip; rw [sps_l]; rfl
theorem skipFg (X : Str) (i : Nat) : skip (Str.ofString "0123456789") X i = i + ((X.cps.toList.drop i).takeWhile isFg).length := by
  unfold skip; rw [fgs_l, funext isFg_eq]
theorem tw_stop {p : Nat → Bool} {l r : List Nat} (h : l.all p = true) (hr : r.head?.any p = false) : (l ++ r).takeWhile p = l := by
  rw [List.takeWhile_append_of_pos (fun a ha => List.all_eq_true.mp h a ha)]
  cases r with
  | nil => simp
  | cons c t =>
    simp only [List.head?_cons, Option.any_some] at hr
    rw [List.takeWhile_cons, hr]
    simp
/-- a text of blanks, a sign, figures, a rest -/
structure Shape (X : Str) (sp sg ds rest : List Nat) : Prop where
  is : X.cps.toList = sp ++ (sg ++ (ds ++ rest))
  sps : sp.all isSp = true
  sgs : sg = [] ∨ sg = [43] ∨ sg = [45]
  dss : ds.all isFg = true
  ne : ds ≠ []
  rs : rest.head?.any isFg = false
section
variable {X : Str} {sp sg ds rest : List Nat} (S : Shape X sp sg ds rest)
include S
theorem Shape.hd : ∃ c t, ds = c :: t ∧ 48 ≤ c ∧ c ≤ 57 := by
  obtain ⟨c, t, e⟩ : ∃ c t, ds = c :: t := by cases h : ds with | nil => exact absurd h S.ne | cons c t => exact ⟨c, t, rfl⟩
  refine ⟨c, t, e, ?_⟩
  have := S.dss
  rw [e, List.all_cons] at this
  have h1 := (Bool.and_eq_true_iff.mp this).1
  unfold isFg at h1
  exact of_decide_eq_true h1
theorem Shape.nhS : nhS X = sp.length := by
  unfold Mine.nhS
  rw [skipSp, Int.toNat_zero, List.drop_zero, S.is, tw_stop S.sps, Nat.zero_add]
  obtain ⟨c, t, e, h1, h2⟩ := S.hd
  rcases S.sgs with e' | e' | e' <;> subst e' <;> subst e
  · simp only [List.nil_append, List.cons_append, List.head?_cons, Option.any_some]
    unfold isSp
    rw [decide_eq_false_iff_not]
    simp only [List.mem_cons, List.not_mem_nil, or_false]
    omega
  · rfl
  · rfl
theorem Shape.nhF : nhF X = sp.length + sg.length := by
  obtain ⟨c, t, e, h1, h2⟩ := S.hd
  unfold Mine.nhF
  rw [S.nhS, S.is, List.drop_left]
  rcases S.sgs with e' | e' | e' <;> subst e' <;> subst e
  · rw [if_neg]
    · rfl
    · simp only [List.nil_append, List.cons_append, List.take_succ_cons, List.take_zero, List.cons.injEq, and_true]
      omega
  · rw [if_pos (.inl (by simp))]; rfl
  · rw [if_pos (.inr (by simp))]; rfl
theorem Shape.nhE : nhE X = sp.length + sg.length + ds.length := by
  unfold Mine.nhE
  rw [skipFg, S.nhF, S.is]
  have : (sp ++ (sg ++ (ds ++ rest))).drop (sp.length + sg.length) = ds ++ rest := by
    rw [← List.append_assoc, ← List.length_append, List.drop_left]
  rw [this, tw_stop S.dss S.rs]
theorem Shape.nhB : nhB X = sp.length + sg.length + ds.length := by
  unfold Mine.nhB
  rw [S.nhE, S.nhF, if_neg]
  obtain ⟨c, t, e, h1, h2⟩ := S.hd
  rw [e, List.length_cons]
  omega
theorem Shape.len : X.length = sp.length + sg.length + ds.length + rest.length := by
  have : X.length = X.cps.toList.length := Array.length_toList.symm
  rw [this, S.is]
  simp only [List.length_append]
  omega
theorem Shape.slice : Txt.slice X (some (Mine.nhS X : Int)) (some (Mine.nhB X : Int)) = ⟨(sg ++ ds).toArray⟩ := by
  have hl : X.length = sp.length + sg.length + ds.length + rest.length := S.len
  have := beq_iff_eq.mp (PyProof.Rows.slice_closes (x := X) (i := (Mine.nhS X : Int)) (j := (Mine.nhB X : Int)) ⟨by omega, by rw [S.nhS, S.nhB]; omega, by rw [S.nhB]; show ((sp.length + sg.length + ds.length : Nat) : Int) ≤ ((X.length : Nat) : Int); omega⟩)
  rw [this, S.nhS, S.nhB, S.is, Int.toNat_natCast, List.drop_left, show ((sp.length + sg.length + ds.length : Nat) : Int) - (sp.length : Nat) = ((sg ++ ds).length : Nat) by rw [List.length_append]; omega, Int.toNat_natCast, ← List.append_assoc, List.take_left]
theorem Shape.minus : (Txt.item X (Mine.nhS X : Int) == Str.ofString "-") = decide (sg = [45]) := by
  obtain ⟨c, t, e, h1, h2⟩ := S.hd
  have hl := S.len
  obtain ⟨d, e1, e2⟩ := item_at (X := X) (i := (Mine.nhS X : Int)) (by omega) (by rw [S.nhS]; rw [e, List.length_cons] at hl; omega)
  rw [e2, ofS_minus, Bool.eq_iff_iff, beq_iff_eq, decide_eq_true_eq]
  rw [S.nhS, Int.toNat_natCast, S.is, List.drop_left] at e1
  have hd : ((⟨#[d]⟩ : Str) = ⟨#[45]⟩) ↔ d = 45 := ⟨fun h => by have := congrArg (fun x : Str => x.cps.toList) h; simpa using this, fun h => by rw [h]⟩
  rw [hd]
  rcases S.sgs with e' | e' | e' <;> subst e' <;> subst e <;> simp only [List.nil_append, List.cons_append, List.cons.injEq] at e1 <;> obtain ⟨e1, _⟩ := e1 <;> subst e1
  · constructor
    · intro h; omega
    · intro h; cases h
  · exact ⟨fun h => by omega, fun h => by cases h⟩
  · exact ⟨fun _ => rfl, fun _ => rfl⟩
end
def valD (a : Int) (l : List Nat) : Int := l.foldl (fun (a : Int) (c : Nat) => a * 10 + ((c : Int) - 48)) a
theorem valD_snoc (a : Int) (l : List Nat) (c : Nat) : valD a (l ++ [c]) = valD a l * 10 + ((c : Int) - 48) := by unfold valD; rw [List.foldl_append]; rfl
theorem accD_fg {M : Int} (hM : 1 ≤ M) : ∀ (l : List Nat) (a b : Int), l.all isFg = true → a % M = b % M → (l.map fun (c : Nat) => (c : Int)).foldl (stepD M) a % M = valD b l % M
  | [], a, b, _, h => h
  | c :: l, a, b, hl, h => by
    rw [List.all_cons] at hl
    obtain ⟨h1, h2⟩ := Bool.and_eq_true_iff.mp hl
    unfold isFg at h1
    have h1 := of_decide_eq_true h1
    rw [List.map_cons, List.foldl_cons]
    refine accD_fg hM l _ (b * 10 + ((c : Int) - 48)) h2 ?_
    unfold stepD
    rw [if_pos (by omega), Int.emod_emod]
    rw [Int.add_emod, Int.mul_emod, h, ← Int.mul_emod, ← Int.add_emod]
theorem accD_lt {M : Int} (hM : 1 ≤ M) : ∀ (l : List Int) (a : Int), 0 ≤ a ∧ a < M → 0 ≤ l.foldl (stepD M) a ∧ l.foldl (stepD M) a < M
  | [], _, h => h
  | c :: l, a, h => by
    rw [List.foldl_cons]
    refine accD_lt hM l _ ?_
    unfold stepD
    split
    · exact ⟨Int.emod_nonneg _ (by omega), Int.emod_lt_of_pos _ (by omega)⟩
    · exact h
theorem accD_val {M : Int} (hM : 1 ≤ M) {l : List Nat} (h : l.all isFg = true) : accD M (l.map fun (c : Nat) => (c : Int)) = valD 0 l % M := by
  have h1 := accD_fg hM l 0 0 h rfl
  have h2 := accD_lt hM (l.map fun (c : Nat) => (c : Int)) 0 ⟨by omega, by omega⟩
  unfold accD
  rw [← h1, Int.emod_eq_of_lt h2.1 h2.2]
theorem accD_sg {M : Int} {sg : List Nat} (h : sg = [] ∨ sg = [43] ∨ sg = [45]) (l : List Int) : accD M ((sg.map fun (c : Nat) => (c : Int)) ++ l) = accD M l := by
  rcases h with e | e | e <;> subst e
  · rfl
  · unfold accD; rw [List.foldl_append]; rfl
  · unfold accD; rw [List.foldl_append]; rfl
theorem Shape.val {X : Str} {sp sg ds rest : List Nat} {wd : Int} (S : Shape X sp sg ds rest) (hw : 1 ≤ wd) : ntV X wd = wrapN (if sg = [45] then -(valD 0 ds) else valD 0 ds) wd := by
  have hp1 := hp_pos wd
  have hn : ntA X wd = valD 0 ds % (2 * hp wd) := by
    unfold ntA KStt.codes
    rw [S.slice]
    show accD (2 * Mine.hp wd) ((sg ++ ds).map fun (c : Nat) => (c : Int)) = _
    rw [List.map_append, accD_sg S.sgs, accD_val (by omega) S.dss]
  unfold ntV
  rw [S.minus, hn]
  obtain ⟨c, t, e, h1, h2⟩ := S.hd
  have hlt : (Mine.nhS X : Int) < Mine.nhB X := by rw [S.nhS, S.nhB, e, List.length_cons]; omega
  by_cases h : sg = [45]
  · rw [if_pos ⟨hlt, decide_eq_true h⟩, if_pos h]
    unfold wrapN
    congr 1
    rw [show -(valD 0 ds % (2 * Mine.hp wd)) + Mine.hp wd = (Mine.hp wd - valD 0 ds % (2 * Mine.hp wd)) by omega, show -valD 0 ds + Mine.hp wd = Mine.hp wd - valD 0 ds by omega, Int.sub_emod, Int.emod_emod, ← Int.sub_emod]
  · rw [if_neg (fun z => h (of_decide_eq_true z.2)), if_neg h, wrap_mod]
theorem Shape.looks {X : Str} {sp sg ds rest : List Nat} (S : Shape X sp sg ds rest) : lnV X = rest.all isSp := by
  obtain ⟨c, t, e, h1, h2⟩ := S.hd
  have hne : ¬ ((Mine.nhS X : Int) = Mine.nhB X) := by rw [S.nhS, S.nhB, e, List.length_cons]; omega
  have hd : (sp ++ (sg ++ (ds ++ rest))).drop (sp.length + sg.length + ds.length) = rest := by
    rw [← List.append_assoc, ← List.append_assoc, show sp.length + sg.length + ds.length = (sp ++ sg ++ ds).length by simp only [List.length_append], List.drop_left]
  have hl := S.len
  unfold lnV
  rw [decide_eq_true hne, Bool.true_and, Int.toNat_natCast]
  show decide ((skip (Str.ofString " \t\n\r\x0c\x0b") X (Mine.nhB X) : Int) = (X.length : Int)) = _
  rw [skipSp, S.nhB, S.is, hd, Bool.eq_iff_iff, decide_eq_true_eq, List.all_eq_true]
  constructor
  · intro h
    have h3 : (rest.takeWhile isSp).length = rest.length := by omega
    have h4 : rest.takeWhile isSp = rest := (List.takeWhile_prefix _).eq_of_length h3
    intro x hx
    rw [← h4] at hx
    exact List.all_eq_true.mp (List.all_takeWhile (p := isSp) (l := rest)) x hx
  · intro h
    have : rest.takeWhile isSp = rest := by
      have := List.takeWhile_append_of_pos (p := isSp) (l₁ := rest) (l₂ := []) h
      simpa using this
    rw [this]
    omega
theorem digs_step (n : Nat) : digs n = (if n < 10 then [] else digs (n / 10)) ++ [48 + n % 10] := by
  unfold digs
  by_cases h : n < 10
  · rw [preD_lt h, if_pos h]
  · rw [if_neg h, preD_ge h]
theorem digs_all (n : Nat) : (digs n).all isFg = true := by
  induction n using Nat.strongRecOn with
  | _ n ih =>
    rw [digs_step, List.all_append, Bool.and_eq_true]
    refine ⟨?_, ?_⟩
    · by_cases h : n < 10
      · rw [if_pos h]; rfl
      · rw [if_neg h]; exact ih _ (by omega)
    · simp only [List.all_cons, List.all_nil, Bool.and_true]
      unfold isFg
      exact decide_eq_true (by omega)
theorem digs_val (n : Nat) : valD 0 (digs n) = n := by
  induction n using Nat.strongRecOn with
  | _ n ih =>
    rw [digs_step, valD_snoc]
    by_cases h : n < 10
    · rw [if_pos h]; unfold valD; simp only [List.foldl_nil]; omega
    · rw [if_neg h, ih _ (by omega)]; omega
theorem digs_ne (n : Nat) : digs n ≠ [] := fun h => by have := digs_pos n; rw [h] at this; simp at this
theorem numT_l (a : Int) : (numT a).cps.toList = (if a < 0 then [45] else []) ++ digs a.natAbs := rfl
def sgn (a : Int) : List Nat := if a < 0 then [45] else []
theorem sgn_or (a : Int) : sgn a = [] ∨ sgn a = [43] ∨ sgn a = [45] := by unfold sgn; split; exact .inr (.inr rfl); exact .inl rfl
theorem sgn_val (a : Int) : (if sgn a = [45] then -((a.natAbs : Nat) : Int) else ((a.natAbs : Nat) : Int)) = a := by
  unfold sgn
  by_cases h : a < 0
  · rw [if_pos h, if_pos rfl]; omega
  · rw [if_neg h, if_neg (by decide)]; omega
theorem shape_num (a : Int) : Shape (numT a) [] (sgn a) (digs a.natAbs) [] := ⟨by rw [List.append_nil]; rfl, rfl, sgn_or a, digs_all _, digs_ne _, rfl⟩
theorem law_num {a wd : Int} (hw : 4 ≤ wd ∧ wd ≤ 64) (ha : -hp wd ≤ a ∧ a < hp wd) : ntV (numT a) wd = a ∧ lnV (numT a) = true ∧ lnV (Str.ofString " " ++ numT a ++ Str.ofString "\n") = true := by
  refine ⟨?_, (shape_num a).looks, ?_⟩
  · rw [(shape_num a).val (by omega), digs_val, sgn_val]
    exact wrap_in ha.1 ha.2
  · have S : Shape (Str.ofString " " ++ numT a ++ Str.ofString "\n") [32] (sgn a) (digs a.natAbs) [10] := by
      refine ⟨?_, by decide, sgn_or a, digs_all _, digs_ne _, by decide⟩
      rw [Str.cps_append, Str.cps_append, Array.toList_append, Array.toList_append, numT_l, show (Str.ofString " ").cps.toList = [32] by decide +kernel, show (Str.ofString "\n").cps.toList = [10] by decide +kernel]
      unfold sgn
      simp
    rw [S.looks]
    decide
theorem str_ne {x y : Str} (h : x.cps.toList ≠ y.cps.toList) : (x != y) = true := by
  rw [bne_iff_ne]
  exact fun e => h (by rw [e])
theorem digs_zero {n : Nat} (h : digs n = [48]) : n = 0 := by
  have := digs_val n
  rw [h] at this
  unfold valD at this
  simp at this
  omega
theorem law_truth {a : Int} : (numT a != Str.ofString "" && numT a != Str.ofString "0") = (a != 0) ∧ (Str.ofString " " ++ numT a != Str.ofString "" && Str.ofString " " ++ numT a != Str.ofString "0") = true := by
  have e0 : (Str.ofString "").cps.toList = [] := by decide +kernel
  have e1 : (Str.ofString "0").cps.toList = [48] := by decide +kernel
  have e2 : (Str.ofString " ").cps.toList = [32] := by decide +kernel
  constructor
  · rw [str_ne (by rw [e0, numT_l]; intro h; exact digs_ne _ (List.append_eq_nil_iff.mp h).2), Bool.true_and]
    by_cases h : a = 0
    · subst h
      have : numT 0 = Str.ofString "0" := Str.ext' (Array.toList_inj.mp (by rw [e1]; decide +kernel))
      rw [this]
      simp
    · rw [str_ne, bne_iff_ne.mpr h]
      rw [e1, numT_l]
      intro q
      by_cases h0 : a < 0
      · rw [if_pos h0] at q
        simp at q
      · rw [if_neg h0, List.nil_append] at q
        have := digs_zero q
        omega
  · rw [Bool.and_eq_true]
    refine ⟨str_ne ?_, str_ne ?_⟩
    · rw [Str.cps_append, Array.toList_append, e2, e0]; simp
    · rw [Str.cps_append, Array.toList_append, e2, e1]; simp
theorem law_first (a : Int) : ∃ c, Txt.item (numT a) 0 = ⟨#[c]⟩ ∧ c < 65 := by
  have hl : (0 : Int) < (numT a).length := by
    have : (numT a).length = (numT a).cps.toList.length := Array.length_toList.symm
    rw [this, numT_l, List.length_append]
    have := digs_pos a.natAbs
    omega
  obtain ⟨c, e1, e2⟩ := item_at (X := numT a) (i := 0) (by omega) hl
  refine ⟨c, e2, ?_⟩
  rw [Int.toNat_zero, List.drop_zero, numT_l] at e1
  by_cases h : a < 0
  · rw [if_pos h] at e1
    simp only [List.cons_append, List.cons.injEq] at e1
    omega
  · rw [if_neg h, List.nil_append] at e1
    have := digs_all a.natAbs
    rw [e1, List.all_cons] at this
    have h1 := (Bool.and_eq_true_iff.mp this).1
    unfold isFg at h1
    have h1 := of_decide_eq_true h1
    omega
theorem zeros_val (k n : Nat) : valD 0 (List.replicate k 48 ++ digs n) = n := by
  have : ∀ (k : Nat) (l : List Nat), valD 0 (List.replicate k 48 ++ l) = valD 0 l := by
    intro k
    induction k with
    | zero => intro l; simp
    | succ k ih =>
      intro l
      rw [List.replicate_succ, List.cons_append]
      show valD (0 * 10 + (((48 : Nat) : Int) - 48)) _ = _
      rw [show (0 : Int) * 10 + (((48 : Nat) : Int) - 48) = 0 by decide]
      exact ih l
  rw [this, digs_val]
theorem behind_cases {x : Str} (h : x ∈ behindS) : (x = Str.ofString "" ∨ (x.cps.toList.head?.any isFg = false ∧ x.cps.toList.all isSp = false ∧ x ≠ Str.ofString "")) :=
  (by decide +kernel : ∀ x ∈ behindS, (x = Str.ofString "" ∨ (x.cps.toList.head?.any isFg = false ∧ x.cps.toList.all isSp = false ∧ x ≠ Str.ofString ""))) x h
theorem ahead_sp {x : Str} (h : x ∈ aheadS) : x.cps.toList.all isSp = true := (by decide +kernel : ∀ x ∈ aheadS, x.cps.toList.all isSp = true) x h
theorem plus_sg {x : Str} (h : x ∈ plusS) : x.cps.toList = [] ∨ x.cps.toList = [43] := (by decide +kernel : ∀ x ∈ plusS, x.cps.toList = [] ∨ x.cps.toList = [43]) x h
theorem mul0 {k : Int} (h0 : 0 ≤ k) (h : k < 3) : (Txt.mul (Str.ofString "0") k).cps.toList = List.replicate k.toNat 48 := by
  obtain ⟨n, rfl⟩ := Int.eq_ofNat_of_zero_le h0
  have : n < 3 := by omega
  rcases n with _ | _ | _ | n
  all_goals first | decide +kernel | omega
theorem law_dressed {a wd : Int} {hd tl : Str} (hw : 4 ≤ wd ∧ wd ≤ 64) (ha : -hp wd ≤ a ∧ a < hp wd) (h : Dressed a hd tl) : hd.length ≤ 30 ∧ tl.length ≤ 2 ∧ ntV (hd ++ tl) wd = a ∧ lnV hd = true ∧ lnV (hd ++ tl) = (tl == Str.ofString "") := by
  obtain ⟨ah, sg, k, hah, hsg, k0, k3, rfl, htl⟩ := h
  have hq := hp_le hw.2
  have hz : (List.replicate k.toNat 48).all isFg = true := by
    rw [List.all_eq_true]
    intro c hc
    rw [(List.mem_replicate.mp hc).2]
    rfl
  have hdl : (ah ++ sg ++ (Txt.mul (Str.ofString "0") k ++ numT a.natAbs)).cps.toList = ah.cps.toList ++ (sg.cps.toList ++ ((List.replicate k.toNat 48 ++ digs a.natAbs))) := by
    rw [Str.cps_append, Str.cps_append, Str.cps_append, Array.toList_append, Array.toList_append, Array.toList_append, mul0 k0 k3, numT_l, if_neg (by omega), List.nil_append, Int.natAbs_natCast, List.append_assoc]
  have hsl : sg.cps.toList = [] ∨ sg.cps.toList = [43] ∨ sg.cps.toList = [45] := by
    rcases hsg with ⟨_, e⟩ | ⟨_, e⟩
    · rw [e]; exact .inr (.inr (by decide +kernel))
    · rcases plus_sg e with e | e
      · exact .inl e
      · exact .inr (.inl e)
  have hv : (if sg.cps.toList = [45] then -((a.natAbs : Nat) : Int) else ((a.natAbs : Nat) : Int)) = a := by
    rcases hsg with ⟨h, e⟩ | ⟨h, e⟩
    · rw [e, if_pos (by decide +kernel)]; omega
    · rw [if_neg]
      · omega
      · rcases plus_sg e with e | e <;> rw [e] <;> decide
  have all2 : (List.replicate k.toNat 48 ++ digs a.natAbs).all isFg = true := by rw [List.all_append, hz, digs_all]; rfl
  have ne2 : (List.replicate k.toNat 48 ++ digs a.natAbs) ≠ [] := fun e => digs_ne _ (List.append_eq_nil_iff.mp e).2
  have S1 : Shape (ah ++ sg ++ (Txt.mul (Str.ofString "0") k ++ numT a.natAbs)) ah.cps.toList sg.cps.toList (List.replicate k.toNat 48 ++ digs a.natAbs) [] :=
    ⟨by rw [hdl, List.append_nil], ahead_sp hah, hsl, all2, ne2, rfl⟩
  have hr : tl.cps.toList.head?.any isFg = false ∧ tl.cps.toList.all isSp = (tl == Str.ofString "") := by
    rcases behind_cases htl with e | ⟨h1, h2, h3⟩
    · rw [e]; decide +kernel
    · exact ⟨h1, by rw [h2]; exact (beq_eq_false_iff_ne.mpr h3).symm⟩
  have S2 : Shape (ah ++ sg ++ (Txt.mul (Str.ofString "0") k ++ numT a.natAbs) ++ tl) ah.cps.toList sg.cps.toList (List.replicate k.toNat 48 ++ digs a.natAbs) tl.cps.toList :=
    ⟨by rw [Str.cps_append, Array.toList_append, hdl]; simp only [List.append_assoc], ahead_sp hah, hsl, all2, ne2, hr.1⟩
  refine ⟨?_, behind_len htl, ?_, S1.looks, ?_⟩
  · have l1 := S1.len
    have l2 := ahead_len hah
    have l3 : ah.length = ah.cps.toList.length := Array.length_toList.symm
    have l4 : sg.cps.toList.length ≤ 1 := by rcases hsl with e | e | e <;> rw [e] <;> decide
    have l5 := digs_len20 (n := a.natAbs) (by omega)
    rw [List.length_append, List.length_replicate] at l1
    simp only [List.length_nil] at l1
    omega
  · rw [S2.val (by omega), zeros_val, hv]
    exact wrap_in ha.1 ha.2
  · rw [S2.looks, hr.2]
end Mine
end
section
open PySem PySem.W PyProof.Rows
set_option Elab.async false
set_option maxRecDepth 100000
set_option maxHeartbeats 4000000
namespace Mine
/-! plain laws of the orders -/
theorem cmpI_neg (a b : Int) : cmpI b a = -(cmpI a b) := by unfold cmpI; (repeat' split) <;> omega
theorem cmpI_eq0 (a b : Int) : (cmpI a b == 0) = (a == b) := by
  rw [Bool.eq_iff_iff, beq_iff_eq, beq_iff_eq]
  unfold cmpI
  constructor
  · intro h; (repeat' split at h) <;> omega
  · intro h; subst h; rw [if_neg (by omega), if_neg (by omega)]
theorem cmpI_lt0 (a b : Int) : decide (cmpI a b < 0) = decide (a < b) := by
  rw [decide_eq_decide]
  unfold cmpI
  constructor
  · intro h; (repeat' split at h) <;> omega
  · intro h; rw [if_pos h]; omega
theorem cmpI_trans {a b c : Int} (h1 : cmpI a b ≤ 0) (h2 : cmpI b c ≤ 0) : cmpI a c ≤ 0 := by
  unfold cmpI at *
  (repeat' split at h1) <;> (repeat' split at h2) <;> (repeat' split) <;> omega
theorem ll_irr (x : List Nat) : ¬ x < x := List.lt_irrefl x
theorem ll_asymm {x y : List Nat} (h : x < y) : ¬ y < x := fun h' => ll_irr x (List.lt_trans h h')
theorem ll_eq {x y : List Nat} (h1 : ¬ x < y) (h2 : ¬ y < x) : x = y := List.le_antisymm (List.not_lt.mp h2) (List.not_lt.mp h1)
theorem cmpS_neg (x y : Str) : cmpS y x = -(cmpS x y) := by
  unfold cmpS
  by_cases h : x.cps.toList < y.cps.toList
  · rw [if_neg (ll_asymm h), if_pos h, if_pos h]; rfl
  · rw [if_neg h]
    by_cases h' : y.cps.toList < x.cps.toList
    · rw [if_pos h', if_neg h, if_pos h']
    · rw [if_neg h', if_neg h, if_neg h']; rfl
theorem cmpS_eq0 (x y : Str) : (cmpS x y == 0) = (x == y) := by
  rw [Bool.eq_iff_iff, beq_iff_eq, beq_iff_eq]
  unfold cmpS
  constructor
  · intro h
    by_cases h1 : x.cps.toList < y.cps.toList
    · rw [if_pos h1] at h; omega
    · rw [if_neg h1] at h
      by_cases h2 : y.cps.toList < x.cps.toList
      · rw [if_pos h2] at h; omega
      · exact Str.ext' (Array.toList_inj.mp (ll_eq h1 h2))
  · intro h; subst h; rw [if_neg (ll_irr _), if_neg (ll_irr _)]
theorem cmpS_lt0 (x y : Str) : decide (cmpS x y < 0) = decide (x.cps.toList < y.cps.toList) := by
  rw [decide_eq_decide]
  unfold cmpS
  constructor
  · intro h
    by_cases h1 : x.cps.toList < y.cps.toList
    · exact h1
    · rw [if_neg h1] at h; split at h <;> omega
  · intro h; rw [if_pos h]; omega
theorem cmpS_le {x y : Str} : cmpS x y ≤ 0 ↔ ¬ y.cps.toList < x.cps.toList := by
  unfold cmpS
  by_cases h : x.cps.toList < y.cps.toList
  · rw [if_pos h]; exact ⟨fun _ => ll_asymm h, fun _ => by omega⟩
  · rw [if_neg h]
    by_cases h2 : y.cps.toList < x.cps.toList
    · rw [if_pos h2]; exact ⟨fun q => by omega, fun q => absurd h2 q⟩
    · rw [if_neg h2]; exact ⟨fun _ => h2, fun _ => by omega⟩
theorem cmpS_trans {x y z : Str} (h1 : cmpS x y ≤ 0) (h2 : cmpS y z ≤ 0) : cmpS x z ≤ 0 := by
  rw [cmpS_le] at *
  have a := List.not_lt.mp h1
  have b := List.not_lt.mp h2
  exact List.not_lt.mpr (List.le_trans a b)
theorem numT_eq {a b wd : Int} (hw : 4 ≤ wd ∧ wd ≤ 64) (ha : -hp wd ≤ a ∧ a < hp wd) (hb : -hp wd ≤ b ∧ b < hp wd) : (numT a == numT b) = (a == b) := by
  rw [Bool.eq_iff_iff, beq_iff_eq, beq_iff_eq]
  constructor
  · intro h
    have := (law_num hw ha).1
    rw [h, (law_num hw hb).1] at this
    exact this.symm
  · intro h; rw [h]
def ordV (op : Str) (a b : Int) : Int := if (op == Str.ofString "cmp") = true then cmpS (numT a) (numT b) else cmpI a b
theorem ordV_trans {op : Str} {a b c : Int} (h1 : ordV op a b ≤ 0) (h2 : ordV op b c ≤ 0) : ordV op a c ≤ 0 := by
  unfold ordV at *
  by_cases q : (op == Str.ofString "cmp") = true
  · rw [if_pos q] at *; exact cmpS_trans h1 h2
  · rw [if_neg q] at *; exact cmpI_trans h1 h2
end Mine
end
section
open PySem PySem.W PyProof.Rows
set_option Elab.async false
set_option maxRecDepth 100000
set_option maxHeartbeats 4000000
namespace Mine
/-! plain law of joined figures -/
def ten (t : Int) : Int := if t < 10 then 10 else 100
theorem digs_len2 {n : Nat} (h : n < 100) : (digs n).length = if n < 10 then 1 else 2 := by
  rw [digs_step]
  by_cases q : n < 10
  · rw [if_pos q, if_pos q]; rfl
  · rw [if_neg q, if_neg q, List.length_append, digs_step, if_pos (by omega)]; rfl
theorem numT_len2 {t : Int} (h : 0 ≤ t ∧ t < 100) : (numT t).length = if t < 10 then 1 else 2 := by
  have : (numT t).length = (numT t).cps.toList.length := Array.length_toList.symm
  rw [this, numT_l, if_neg (by omega), List.nil_append, digs_len2 (by omega)]
  by_cases q : t < 10
  · rw [if_pos q, if_pos (by omega)]
  · rw [if_neg q, if_neg (by omega)]
theorem pow_ten {t : Int} (h : 0 ≤ t ∧ t < 100) : (10 : Int) ^ ((numT t).length : Int).toNat = ten t := by
  rw [Int.toNat_natCast, numT_len2 h]
  unfold ten
  split <;> rfl
theorem valD_app (a : Int) (l : List Nat) : valD a l = a * 10 ^ l.length + valD 0 l := by
  induction l generalizing a with
  | nil => unfold valD; simp
  | cons c l ih =>
    show valD (a * 10 + ((c : Int) - 48)) l = _ + valD (0 * 10 + ((c : Int) - 48)) l
    rw [ih, ih (0 * 10 + ((c : Int) - 48)), List.length_cons, Int.pow_succ, Int.add_mul, Int.add_mul, Int.zero_mul, Int.zero_mul, Int.mul_assoc, Int.mul_comm 10]
    omega
theorem law_joined {o t wd : Int} (hw : 4 ≤ wd ∧ wd ≤ 64) (ho : 0 ≤ o ∧ o < 100) (ht : 0 ≤ t ∧ t < 100) (h : o * ten t + t < hp wd) : ntV (numT o ++ numT t) wd = o * ten t + t ∧ (numT o ++ numT t).length ≤ 4 := by
  have S : Shape (numT o ++ numT t) [] [] (digs o.natAbs ++ digs t.natAbs) [] := by
    refine ⟨?_, rfl, .inl rfl, by rw [List.all_append, digs_all, digs_all]; rfl, fun e => digs_ne _ (List.append_eq_nil_iff.mp e).2, rfl⟩
    rw [Str.cps_append, Array.toList_append, numT_l, numT_l, if_neg (by omega), if_neg (by omega)]
    simp
  have hv : valD 0 (digs o.natAbs ++ digs t.natAbs) = o * ten t + t := by
    unfold valD
    rw [List.foldl_append]
    show valD (valD 0 (digs o.natAbs)) (digs t.natAbs) = _
    rw [valD_app, digs_val, digs_val, digs_len2 (by omega)]
    unfold ten
    by_cases q : t < 10
    · rw [if_pos q, if_pos (by omega), Int.pow_one]; omega
    · rw [if_neg q, if_neg (by omega)]; omega
  have hn : 0 ≤ o * ten t + t := by
    have : 0 ≤ o * ten t := Int.mul_nonneg ho.1 (by unfold ten; split <;> omega)
    omega
  have hq := hp_pos wd
  constructor
  · rw [S.val (by omega), hv, if_neg (by decide)]
    exact wrap_in (by omega) h
  · rw [Str.length_append, numT_len2 ho, numT_len2 ht]
    split <;> split <;> omega
theorem join_bd {o t : Int} (ho : 0 ≤ o ∧ o < 100) : 0 ≤ o * ten t ∧ o * ten t ≤ 9900 := by
  unfold ten; split <;> omega
end Mine
end
section
open PySem PySem.W PyProof.Rows
set_option Elab.async false
set_option maxRecDepth 100000
set_option maxHeartbeats 4000000
namespace Mine
theorem rules_C16_0 : True := by
  k_with_none
  k_with "eval Call" => (k_dflt (refine Call_ ?_))
  k_with "binaryOp FloorDiv int int" => ((refine floordiv_int ?a ?b (Or.inl (noPylong_big ?c)); (case a => omega); (case c => omega)))
  k_with "binaryOp Mod int int" => ((refine mod_int' ?a ?b; (case a => omega)))
  k_with "call ref" => ((k_here; (with_reducible show wpAny _ _ (call (Value.ref 291) _) _ _ _); k_dflt ((refine' Cl.use (c_to_number ?kn ?kl) ?k1 ?k2 ?k3 ?k4 ?k5 ?kK ?kd ?ku ?_); (case k1 => k_asm); (case k2 => k_asm); (case k3 => k_asm); (case k4 => k_asm); (case k5 => k_asm); (case kK => first | exact rfl | assumption); (case kd => ktr_room); (case ku => ktr_units); (case kn => first | assumption | exact NA.int _ _ | exact NA.none); (case kl => first | assumption | exact LimIn.mono (by assumption) (fun p hp => List.Mem.tail _ hp) | exact ⟨_, _, _, _, _, _, _, _, _, _, _, by k_mem, by k_mem⟩); intro t9 h9 tk9 F9 N9; (try dsimp only); (try k_sweep); (try k_fold))))
  k_with "call ref" => ((k_here; (with_reducible show wpAny _ _ (call (Value.ref 284) _) _ _ _); k_dflt ((refine' Cl.useF (cF_to_text ?kt ?kb) ?k1 ?k2 ?k3 ?k4 ?k5 ?kK ?kd ?ku ?_); (case k1 => k_asm); (case k2 => k_asm); (case k3 => k_asm); (case k4 => k_asm); (case k5 => k_asm); (case kK => first | exact rfl | assumption); (case kd => ktr_room); (case ku => ktr_units); (case kt => first | assumption | exact TA.str _ _ | exact TA.int _ _ ⟨by omega, by omega⟩); (case kb => first | assumption | omega); intro f9 t9 h9 tk9 F9 N9; (try dsimp only); (try k_sweep); (try k_fold))))
  trivial
section
variable {w : World} {news : CbLed}
theorem c_concat {a b : Int} {t1 t2 : Tok} {lx : Addr} {wd : Int} (h1 : 0 ≤ a ∧ a ≤ 2^63) (h2 : 0 ≤ b ∧ b ≤ 2^63) (hL : LimIn w.params news lx wd) : Cl w 5 361 news [.int a t1, .int b t2, .ref lx] (fun t => .str (numT a ++ numT b) t) := by
  dsimp only [Cl, CbRet]
  intros
  rename_i hret
  have hl1 := (numT_len (N := a) ⟨by omega, by omega⟩).2
  have hl2 := (numT_len (N := b) ⟨by omega, by omega⟩).2
  obtain ⟨dx, tw, k1, k2, k3, k4, k5, v2, v3, v4, v5, hL1, hL2⟩ := id hL
  refine wpAny_call ?_
  k_dflt cell_enter
  k_steps
  all_goals first | exact hret _ _ _ (by assumption) (by assumption) | (exfalso; omega) | trace_state
end
structure RecOk (w : World) (lv : Nat) (f : Addr) (news : CbLed) (a b wd r : Int) : Prop where
  h : ∀ t1 t2 tw, Cl w lv f news [.int a t1, .int b t2, .int wd tw] (fun t => .int r t)
theorem rules_C16_1 : True := by
  k_with "callWith ref" => ((k_here; k_dflt (refine' callWith_K ?k1 ?kk ?_; (case k1 => k_asm); (case kk => assumption); k_whole)))
  k_with "call ref" => ((k_here; (with_reducible show wpAny _ _ (call (Value.ref _) [_, _, _]) _ _ _); k_dflt ((refine' Cl.use (RecOk.h ?R _ _ _) ?k1 ?k2 ?k3 ?k4 ?k5 ?kK ?kd ?ku ?_); (case R => assumption); (case k1 => k_asm); (case k2 => k_asm); (case k3 => k_asm); (case k4 => k_asm); (case k5 => k_asm); (case kK => first | exact rfl | assumption); (case kd => ktr_room); (case ku => ktr_units); intro t9 h9 tk9 F9 N9; (try dsimp only); (try k_sweep); (try k_fold))))
  trivial
section
variable {w : World} {news : CbLed}
theorem c_by_numbers {f : Addr} {lv : Nat} {v1 v2 : Value} {lx : Addr} {a b wd : Int} {r : Int} (hkeep : keepIn (K w.params) (.ref f) = true) (hrec : RecOk w lv f news a b wd r) (h1 : NA wd v1 a) (h2 : NA wd v2 b) (hL : LimIn w.params news lx wd) : Cl w (lv + 5) 368 news [.ref f, v1, v2, .ref lx] (fun t => .int r t) := by
  dsimp only [Cl, CbRet]
  intros
  rename_i hret
  obtain ⟨dx, tw, k1, k2, k3, k4, k5, v2, v3, v4, v5, hL1, hL2⟩ := id hL
  refine wpAny_call ?_
  k_dflt cell_enter
  k_steps
  all_goals exact hret _ _ _ (by assumption) (by assumption)
end
end Mine
end
section
open PySem PySem.W PyProof.Rows
set_option Elab.async false
set_option maxRecDepth 100000
set_option maxHeartbeats 4000000
namespace Mine
theorem rules_C17_0 : True := by
  k_with_none
  k_with "eval Call" => (k_dflt (refine Call_ ?_))
  k_with "binaryOp FloorDiv int int" => ((refine floordiv_int ?a ?b (Or.inl (noPylong_big ?c)); (case a => omega); (case c => omega)))
  k_with "binaryOp Mod int int" => ((refine mod_int' ?a ?b; (case a => omega)))
  k_with "call ref" => ((k_here; (try dsimp only [List.nil_append, List.append_nil]); (with_reducible show wpAny _ _ (call (Value.ref _) _) _ _ _); (refine wpAny_call ?_); k_dflt (refine' code_def ?k1 ?k2 ?k3 ?k4 ?k5 ?kA ?kF ?kK ?k6 ?k7 ?k8 ?k9 ?kB ?_ ?c2 ?c3 ?c4 ?c5; (case kA => exact rfl); (case kF => exact rfl); (case kK => first | exact rfl | assumption); (case k1 => k_asm); (case k2 => k_asm); (case k3 => k_asm); (case k4 => k_asm); (case k5 => k_asm); (case k6 => k_is); (case k7 => k_is); (case k8 => ktr_room); (case k9 => exact BindsTo.of_eq rfl); (case c5 => decide); (case kB => exact locs rfl); (case c2 => exact rfl); (case c3 => exact rfl); (case c4 => exact rfl); k_whole; intro g' L' h' FG' F' N' B' X' T'; (try dsimp only); (try k_lift B'); (try k_fold))))
  k_with "call ref" => ((k_here; (with_reducible show wpAny _ _ (call (Value.ref 368) (Value.ref 67 :: _)) _ _ _); k_dflt ((refine' Cl.use (c_by_numbers (f := 67) (lv := 2) (by k_is) ⟨fun _ _ _ => c_add ?kp⟩ ?ka ?kb ?kl) ?k1 ?k2 ?k3 ?k4 ?k5 ?kK ?kd ?ku ?_); (case k1 => k_asm); (case k2 => k_asm); (case k3 => k_asm); (case k4 => k_asm); (case k5 => k_asm); (case kK => first | exact rfl | assumption); (case kd => ktr_room); (case ku => ktr_units); (case ka => assumption); (case kb => assumption); (case kl => assumption); (case kp => assumption); intro t9 h9 tk9 F9 N9; (try dsimp only); (try k_sweep); (try k_fold))))
  k_with "call ref" => ((k_here; (with_reducible show wpAny _ _ (call (Value.ref 368) (Value.ref 74 :: _)) _ _ _); k_dflt ((refine' Cl.use (c_by_numbers (f := 74) (lv := 2) (by k_is) ⟨fun _ _ _ => c_sub ?kp⟩ ?ka ?kb ?kl) ?k1 ?k2 ?k3 ?k4 ?k5 ?kK ?kd ?ku ?_); (case k1 => k_asm); (case k2 => k_asm); (case k3 => k_asm); (case k4 => k_asm); (case k5 => k_asm); (case kK => first | exact rfl | assumption); (case kd => ktr_room); (case ku => ktr_units); (case ka => assumption); (case kb => assumption); (case kl => assumption); (case kp => assumption); intro t9 h9 tk9 F9 N9; (try dsimp only); (try k_sweep); (try k_fold))))
  k_with "call ref" => ((k_here; (with_reducible show wpAny _ _ (call (Value.ref 368) (Value.ref 81 :: _)) _ _ _); k_dflt ((refine' Cl.use (c_by_numbers (f := 81) (lv := 2) (by k_is) ⟨fun _ _ _ => c_mul ?kp⟩ ?ka ?kb ?kl) ?k1 ?k2 ?k3 ?k4 ?k5 ?kK ?kd ?ku ?_); (case k1 => k_asm); (case k2 => k_asm); (case k3 => k_asm); (case k4 => k_asm); (case k5 => k_asm); (case kK => first | exact rfl | assumption); (case kd => ktr_room); (case ku => ktr_units); (case ka => assumption); (case kb => assumption); (case kl => assumption); (case kp => assumption); intro t9 h9 tk9 F9 N9; (try dsimp only); (try k_sweep); (try k_fold))))
  k_with "call ref" => ((k_here; (with_reducible show wpAny _ _ (call (Value.ref 368) (Value.ref 95 :: _)) _ _ _); k_dflt ((refine' Cl.use (c_by_numbers (f := 95) (lv := 2) (by k_is) ⟨fun _ _ _ => c_div ?kp⟩ ?ka ?kb ?kl) ?k1 ?k2 ?k3 ?k4 ?k5 ?kK ?kd ?ku ?_); (case k1 => k_asm); (case k2 => k_asm); (case k3 => k_asm); (case k4 => k_asm); (case k5 => k_asm); (case kK => first | exact rfl | assumption); (case kd => ktr_room); (case ku => ktr_units); (case ka => assumption); (case kb => assumption); (case kl => assumption); (case kp => assumption); intro t9 h9 tk9 F9 N9; (try dsimp only); (try k_sweep); (try k_fold))))
  k_with "call ref" => ((k_here; (with_reducible show wpAny _ _ (call (Value.ref 368) (Value.ref 102 :: _)) _ _ _); k_dflt ((refine' Cl.use (c_by_numbers (f := 102) (lv := 2) (by k_is) ⟨fun _ _ _ => c_mod ?kp⟩ ?ka ?kb ?kl) ?k1 ?k2 ?k3 ?k4 ?k5 ?kK ?kd ?ku ?_); (case k1 => k_asm); (case k2 => k_asm); (case k3 => k_asm); (case k4 => k_asm); (case k5 => k_asm); (case kK => first | exact rfl | assumption); (case kd => ktr_room); (case ku => ktr_units); (case ka => assumption); (case kb => assumption); (case kl => assumption); (case kp => assumption); intro t9 h9 tk9 F9 N9; (try dsimp only); (try k_sweep); (try k_fold))))
  trivial
section
variable {w : World} {news : CbLed}
theorem c_op_add {v1 v2 : Value} {lx : Addr} {a b wd : Int} (hpre : 1 ≤ wd ∧ wd ≤ 64 ∧ -(2^66) ≤ a ∧ a ≤ 2^66 ∧ -(2^66) ≤ b ∧ b ≤ 2^66) (h1 : NA wd v1 a) (h2 : NA wd v2 b) (hL : LimIn w.params news lx wd) : Cl w 8 375 news [v1, v2, .ref lx] (fun t => .int (wrapN (a + b) wd) t) := by
  dsimp only [Cl, CbRet]
  intros
  rename_i hret
  refine wpAny_call ?_
  k_dflt cell_enter
  k_steps
  all_goals exact hret _ _ _ (by assumption) (by assumption)
theorem c_op_sub {v1 v2 : Value} {lx : Addr} {a b wd : Int} (hpre : 1 ≤ wd ∧ wd ≤ 64 ∧ -(2^66) ≤ a ∧ a ≤ 2^66 ∧ -(2^66) ≤ b ∧ b ≤ 2^66) (h1 : NA wd v1 a) (h2 : NA wd v2 b) (hL : LimIn w.params news lx wd) : Cl w 8 382 news [v1, v2, .ref lx] (fun t => .int (wrapN (a - b) wd) t) := by
  dsimp only [Cl, CbRet]
  intros
  rename_i hret
  refine wpAny_call ?_
  k_dflt cell_enter
  k_steps
  all_goals exact hret _ _ _ (by assumption) (by assumption)
theorem c_op_mul {v1 v2 : Value} {lx : Addr} {a b wd : Int} (hpre : 1 ≤ wd ∧ wd ≤ 64 ∧ -(2^63) ≤ a ∧ a ≤ 2^63 ∧ -(2^63) ≤ b ∧ b ≤ 2^63) (h1 : NA wd v1 a) (h2 : NA wd v2 b) (hL : LimIn w.params news lx wd) : Cl w 8 389 news [v1, v2, .ref lx] (fun t => .int (wrapN (a * b) wd) t) := by
  dsimp only [Cl, CbRet]
  intros
  rename_i hret
  refine wpAny_call ?_
  k_dflt cell_enter
  k_steps
  all_goals exact hret _ _ _ (by assumption) (by assumption)
theorem c_op_div {v1 v2 : Value} {lx : Addr} {a b wd : Int} (hpre : 1 ≤ wd ∧ wd ≤ 64 ∧ b ≠ 0 ∧ -(2^63) ≤ a ∧ a ≤ 2^63 ∧ -(2^63) ≤ b ∧ b ≤ 2^63) (h1 : NA wd v1 a) (h2 : NA wd v2 b) (hL : LimIn w.params news lx wd) : Cl w 8 396 news [v1, v2, .ref lx] (fun t => .int (wrapN (Int.tdiv a b) wd) t) := by
  dsimp only [Cl, CbRet]
  intros
  rename_i hret
  refine wpAny_call ?_
  k_dflt cell_enter
  k_steps
  all_goals exact hret _ _ _ (by assumption) (by assumption)
theorem c_op_mod {v1 v2 : Value} {lx : Addr} {a b wd : Int} (hpre : 1 ≤ wd ∧ wd ≤ 64 ∧ b ≠ 0 ∧ -(2^63) ≤ a ∧ a ≤ 2^63 ∧ -(2^63) ≤ b ∧ b ≤ 2^63) (h1 : NA wd v1 a) (h2 : NA wd v2 b) (hL : LimIn w.params news lx wd) : Cl w 8 403 news [v1, v2, .ref lx] (fun t => .int (wrapN (Int.tmod a b) wd) t) := by
  dsimp only [Cl, CbRet]
  intros
  rename_i hret
  refine wpAny_call ?_
  k_dflt cell_enter
  k_steps
  all_goals exact hret _ _ _ (by assumption) (by assumption)
end
theorem rules_C17_1 : True := by
  k_with "call ref" => ((k_here; (with_reducible show wpAny _ _ (call (Value.ref 375) _) _ _ _); k_dflt ((refine' Cl.use (c_op_add ?kp ?ka ?kb ?kl) ?k1 ?k2 ?k3 ?k4 ?k5 ?kK ?kd ?ku ?_); (case k1 => k_asm); (case k2 => k_asm); (case k3 => k_asm); (case k4 => k_asm); (case k5 => k_asm); (case kK => first | exact rfl | assumption); (case kd => ktr_room); (case ku => ktr_units); (case ka => first | assumption | exact NA.int _ _ | exact NA.none); (case kb => first | assumption | exact NA.int _ _ | exact NA.none); (case kl => first | assumption | exact LimIn.mono (by assumption) (fun p hp => List.Mem.tail _ hp) | exact ⟨_, _, _, _, _, _, _, _, _, _, _, by k_mem, by k_mem⟩); (case kp => first | assumption | (refine ⟨?_, ?_, ?_⟩ <;> omega)); intro t9 h9 tk9 F9 N9; (try dsimp only); (try k_sweep); (try k_fold))))
  k_with "call ref" => ((k_here; (with_reducible show wpAny _ _ (call (Value.ref 382) _) _ _ _); k_dflt ((refine' Cl.use (c_op_sub ?kp ?ka ?kb ?kl) ?k1 ?k2 ?k3 ?k4 ?k5 ?kK ?kd ?ku ?_); (case k1 => k_asm); (case k2 => k_asm); (case k3 => k_asm); (case k4 => k_asm); (case k5 => k_asm); (case kK => first | exact rfl | assumption); (case kd => ktr_room); (case ku => ktr_units); (case ka => first | assumption | exact NA.int _ _ | exact NA.none); (case kb => first | assumption | exact NA.int _ _ | exact NA.none); (case kl => first | assumption | exact LimIn.mono (by assumption) (fun p hp => List.Mem.tail _ hp) | exact ⟨_, _, _, _, _, _, _, _, _, _, _, by k_mem, by k_mem⟩); (case kp => first | assumption | (refine ⟨?_, ?_, ?_⟩ <;> omega)); intro t9 h9 tk9 F9 N9; (try dsimp only); (try k_sweep); (try k_fold))))
  k_with "call ref" => ((k_here; (with_reducible show wpAny _ _ (call (Value.ref 389) _) _ _ _); k_dflt ((refine' Cl.use (c_op_mul ?kp ?ka ?kb ?kl) ?k1 ?k2 ?k3 ?k4 ?k5 ?kK ?kd ?ku ?_); (case k1 => k_asm); (case k2 => k_asm); (case k3 => k_asm); (case k4 => k_asm); (case k5 => k_asm); (case kK => first | exact rfl | assumption); (case kd => ktr_room); (case ku => ktr_units); (case ka => first | assumption | exact NA.int _ _ | exact NA.none); (case kb => first | assumption | exact NA.int _ _ | exact NA.none); (case kl => first | assumption | exact LimIn.mono (by assumption) (fun p hp => List.Mem.tail _ hp) | exact ⟨_, _, _, _, _, _, _, _, _, _, _, by k_mem, by k_mem⟩); (case kp => first | assumption | (refine ⟨?_, ?_, ?_⟩ <;> omega)); intro t9 h9 tk9 F9 N9; (try dsimp only); (try k_sweep); (try k_fold))))
  k_with "call ref" => ((k_here; (with_reducible show wpAny _ _ (call (Value.ref 396) _) _ _ _); k_dflt ((refine' Cl.use (c_op_div ?kp ?ka ?kb ?kl) ?k1 ?k2 ?k3 ?k4 ?k5 ?kK ?kd ?ku ?_); (case k1 => k_asm); (case k2 => k_asm); (case k3 => k_asm); (case k4 => k_asm); (case k5 => k_asm); (case kK => first | exact rfl | assumption); (case kd => ktr_room); (case ku => ktr_units); (case ka => first | assumption | exact NA.int _ _ | exact NA.none); (case kb => first | assumption | exact NA.int _ _ | exact NA.none); (case kl => first | assumption | exact LimIn.mono (by assumption) (fun p hp => List.Mem.tail _ hp) | exact ⟨_, _, _, _, _, _, _, _, _, _, _, by k_mem, by k_mem⟩); (case kp => first | assumption | (refine ⟨?_, ?_, ?_⟩ <;> omega)); intro t9 h9 tk9 F9 N9; (try dsimp only); (try k_sweep); (try k_fold))))
  k_with "call ref" => ((k_here; (with_reducible show wpAny _ _ (call (Value.ref 403) _) _ _ _); k_dflt ((refine' Cl.use (c_op_mod ?kp ?ka ?kb ?kl) ?k1 ?k2 ?k3 ?k4 ?k5 ?kK ?kd ?ku ?_); (case k1 => k_asm); (case k2 => k_asm); (case k3 => k_asm); (case k4 => k_asm); (case k5 => k_asm); (case kK => first | exact rfl | assumption); (case kd => ktr_room); (case ku => ktr_units); (case ka => first | assumption | exact NA.int _ _ | exact NA.none); (case kb => first | assumption | exact NA.int _ _ | exact NA.none); (case kl => first | assumption | exact LimIn.mono (by assumption) (fun p hp => List.Mem.tail _ hp) | exact ⟨_, _, _, _, _, _, _, _, _, _, _, by k_mem, by k_mem⟩); (case kp => first | assumption | (refine ⟨?_, ?_, ?_⟩ <;> omega)); intro t9 h9 tk9 F9 N9; (try dsimp only); (try k_sweep); (try k_fold))))
  trivial
section
variable {w : World} {news : CbLed}
theorem c_rk_add {v1 v2 : Value} {t1 : Tok} {lx : Addr} {a b wd : Int} (hpre : 1 ≤ wd ∧ wd ≤ 64 ∧ -(2^66) ≤ a ∧ a ≤ 2^66 ∧ -(2^66) ≤ b ∧ b ≤ 2^66) (h1 : NA wd v1 a) (h2 : NA wd v2 b) (hL : LimIn w.params news lx wd) : Cl w 11 484 news [.str (Str.ofString "+") t1, v1, v2, .ref lx] (fun t => .int (wrapN (a + b) wd) t) := by
  dsimp only [Cl, CbRet]
  intros
  rename_i hret
  refine wpAny_call ?_
  k_dflt cell_enter
  k_steps
  all_goals first | exact hret _ _ _ (by assumption) (by first | assumption | exact cb_drop (by assumption) (fun p hp => List.Mem.tail _ hp)) | trace_state
end
end Mine
end
section
open PySem PySem.W PyProof.Rows
set_option Elab.async false
set_option maxRecDepth 100000
set_option maxHeartbeats 4000000
namespace Mine
theorem rules_C21_0 : True := by
  k_with_none
  k_with "eval Call" => (k_dflt (refine Call_ ?_))
  trivial
section
variable {w : World} {lvl : Nat} {news : CbLed} {p : Program} {loose : List Str} {mean : ExcName → Option Value} {mg mb : Str → Option Value}
abbrev opsK : List (Str × Value) := [(Str.ofString "+", .ref 375), (Str.ofString "-", .ref 382), (Str.ofString "*", .ref 389), (Str.ofString "/", .ref 396), (Str.ofString "%", .ref 403), (Str.ofString "**", .ref 410)]
abbrev ClO (w : World) (lvl : Nat) (news : CbLed) : Prop :=
  ∀ {p : Program} {loose : List Str} {mean : ExcName → Option Value} {mg mb : Str → Option Value} (dp un : Nat) (gd : Option (List Code)) (cn : Str) (cs : Scope) (a : Addr) (ccd : Value) (cl : List (Str × Addr)) (outer : List Env) (A₀ : Around) (base h₀ : Heap) (L : Addr) (m : Str → Option Value) (s : Shared) (Q E : Value → Shared → Prop),
    Below A₀ base outer h₀ → Fr h₀ L s.heap m → (K w.params).In h₀ → News h₀ L s.heap news → Top p loose mean mg mb h₀ → cs.kind = .function → dp + lvl < recursionLimit → un + 8 * lvl < cLine →
    (∀ (D : Addr) (o : Obj) (h' : Heap) (tk' : Nat), Fr h₀ L h' m → News h₀ L h' [(D, o)] → News h₀ L h' ((D, o) :: news) → o.IsDictOf (PySem.strKind PR w) opsK → Q (.ref D) { s with heap := h', toks := tk' }) →
    wpAny (model PR w) (ktrTop dp un gd cn cs L a ccd cl outer) (call (.ref 417) []) Q E s
theorem ClO.use {dp un : Nat} {gd : Option (List Code)} {cn : Str} {cs : Scope} {a : Addr} {ccd : Value} {cl : List (Str × Addr)} {outer : List Env} {A₀ : Around} {base h₀ : Heap} {L : Addr} {m : Str → Option Value} {s : Shared} {Q E : Value → Shared → Prop}
    (C : ClO w lvl news) (B : Below A₀ base outer h₀) (F : Fr h₀ L s.heap m) (X : (K w.params).In h₀) (N : News h₀ L s.heap news) (T : Top p loose mean mg mb h₀) (hk : cs.kind = .function) (hd : dp + lvl < recursionLimit) (hu : un + 8 * lvl < cLine)
    (ret : ∀ (D : Addr) (o : Obj) (h' : Heap) (tk' : Nat), Fr h₀ L h' m → News h₀ L h' [(D, o)] → News h₀ L h' ((D, o) :: news) → o.IsDictOf (PySem.strKind PR w) opsK → Q (.ref D) { s with heap := h', toks := tk' }) : wpAny (model PR w) (ktrTop dp un gd cn cs L a ccd cl outer) (call (.ref 417) []) Q E s :=
  C _ _ _ _ _ _ _ _ _ _ _ _ _ _ _ _ _ B F X N T hk hd hu ret
theorem c_ops : ClO w 2 news := by
  dsimp only [ClO]
  intros
  rename_i hret
  refine wpAny_call ?_
  k_dflt cell_enter
  k_steps
  all_goals exact hret _ _ _ _ (by assumption) (cb_drop (by assumption) (fun p hp => by rw [List.mem_singleton.mp hp]; exact List.Mem.head _)) (by assumption) (by assumption)
structure OpOk (w : World) (lv : Nat) (f : Addr) (v1 v2 : Value) (lx : Addr) (wd : Int) (R : Tok → Value) : Prop where
  h : ∀ news, LimIn w.params news lx wd → Cl w lv f news [v1, v2, .ref lx] R
structure OpX (w : World) (lv : Nat) (f : Addr) (v1 v2 : Value) (lx : Addr) (wd : Int) : Prop where
  h : ∀ news, LimIn w.params news lx wd → ClX w lv f news [v1, v2, .ref lx]
structure OpAt (w : World) (op : Str) (f : Addr) : Prop where
  val : valueAt opsK op = some (.ref f)
  keep : keepIn (K w.params) (.ref f) = true
end
theorem rules_C21_1 : True := by
  k_with "call ref" => ((k_here; (with_reducible show wpAny _ _ (call (Value.ref 417) _) _ _ _); k_dflt ((refine' ClO.use c_ops ?k1 ?k2 ?k3 ?k4 ?k5 ?kK ?kd ?ku ?_); (case k1 => k_asm); (case k2 => k_asm); (case k3 => k_asm); (case k4 => k_asm); (case k5 => k_asm); (case kK => first | exact rfl | assumption); (case kd => ktr_room); (case ku => ktr_units); intro D9 o9 h9 tk9 F9 M9 N9 I9; (try dsimp only); (try k_sweep); (try k_fold))))
  k_with "getItem ref str" => ((k_here; k_dflt (refine kdt_getItem (knd := PySem.strKind _ _) (by k_asm) (by exact List.Mem.head _) (by k_asm) (strKind_is _ _ _ _) (OpAt.val (by assumption)) ?_)))
  k_with "subscriptTail" => ((k_here; ((with_reducible show wpAny _ _ (subscriptTail _ _ (Value.ref _) (Value.str _ _)) _ _ _); k_dflt (refine kdt_tail (knd := PySem.strKind _ _) (by k_asm) (by exact List.Mem.head _) (by k_asm) ?_))))
  k_with "callWith ref" => ((k_here; k_dflt (refine' callWith_K ?k1 ?kk ?_; (case k1 => k_asm); (case kk => exact OpAt.keep (by assumption)); k_whole)))
  k_with "call ref" => ((k_here; (with_reducible show wpAny _ _ (call (Value.ref _) [_, _, _]) _ _ _); k_dflt ((refine' Cl.use (OpOk.h ?R _ ?kl) ?k1 ?k2 ?k3 ?k4 ?k5 ?kK ?kd ?ku ?_); (case R => assumption); (case k4 => k_asm); (case kl => exact LimIn.mono (by with_reducible assumption) (fun p hp => List.Mem.tail _ hp)); (case k1 => k_asm); (case k2 => k_asm); (case k3 => k_asm); (case k5 => k_asm); (case kK => first | exact rfl | assumption); (case kd => ktr_room); (case ku => ktr_units); intro t9 h9 tk9 F9 N9; (try dsimp only); (try k_sweep); (try k_fold))))
  k_with "call ref" => ((k_here; (with_reducible show wpAny _ _ (call (Value.ref _) [_, _, _]) _ _ _); k_dflt ((refine' ClX.use (OpX.h ?R _ ?kl) ?k1 ?k2 ?k3 ?k4 ?k5 ?kK ?kd ?ku ?_); (case R => assumption); (case k4 => k_asm); (case kl => exact LimIn.mono (by with_reducible assumption) (fun p hp => List.Mem.tail _ hp)); (case k1 => k_asm); (case k2 => k_asm); (case k3 => k_asm); (case k5 => k_asm); (case kK => first | exact rfl | assumption); (case kd => ktr_room); (case ku => ktr_units); intro e9 g9 h9 tk9 F9 R9 U9; (try dsimp only); (try k_sweep); (try k_fold))))
  trivial
section
variable {w : World} {news : CbLed}
theorem c_rk {op : Str} {f : Addr} {v1 v2 : Value} {t1 : Tok} {lx : Addr} {wd : Int} {R : Tok → Value} (ha : OpAt w op f) (hok : OpOk w 8 f v1 v2 lx wd R) (hL : LimIn w.params news lx wd) : Cl w 11 484 news [.str op t1, v1, v2, .ref lx] R := by
  dsimp only [Cl, CbRet]
  intros
  rename_i hret
  refine wpAny_call ?_
  k_dflt cell_enter
  k_steps
  all_goals first | exact hret _ _ _ (by assumption) (by first | assumption | exact cb_drop (by assumption) (fun p hp => List.Mem.tail _ hp)) | trace_state
abbrev Cl0 (w : World) (lvl : Nat) (f : Addr) (news : CbLed) (vs : List Value) (R : Tok → Value) : Prop :=
  ∀ {p : Program} {loose : List Str} {mean : ExcName → Option Value} {mg mb : Str → Option Value} (dp un : Nat) (gd : Option (List Code)) (cn : Str) (cs : Scope) (a : Addr) (ccd : Value) (cl : List (Str × Addr)) (A₀ : Around) (h₀ : Heap) (L : Addr) (m : Str → Option Value) (s : Shared) (Q E : Value → Shared → Prop),
    Below A₀ h₀ [] h₀ → Fr h₀ L s.heap m → (K w.params).In h₀ → News h₀ L s.heap news → Top p loose mean mg mb h₀ → cs.kind = .function → dp + lvl < recursionLimit → un + 8 * lvl < cLine →
    (∀ (t : Tok) (h' : Heap) (tk' : Nat), Fr h₀ L h' m → News h₀ L h' news → Q (R t) { s with heap := h', toks := tk' }) →
    wpAny (model PR w) (ktrTop dp un gd cn cs L a ccd cl []) (call (.ref f) vs) Q E s
end
theorem rules_C21_2 : True := by
  k_with "noteFrame ref" => ((k_here; k_dflt (refine' caught_exc ?R ?F ?B ?U ?XB ?TB ?ex ?_; (case R => assumption); (case F => assumption); (case B => assumption); (case U => assumption); (case XB => assumption); (case TB => assumption); (case ex => k_is)); intro h' g' T' F' N'; (try dsimp only); (try k_sweep); (try k_fold)))
  trivial
section
variable {w : World} {news : CbLed}
theorem c_rk_dies {op : Str} {f : Addr} {v1 v2 : Value} {t1 : Tok} {lx : Addr} {wd : Int} (ha : OpAt w op f) (hok : OpX w 13 f v1 v2 lx wd) (hL : LimIn w.params news lx wd) : Cl0 w 16 484 news [.str op t1, v1, v2, .ref lx] (fun t => .str (Str.ofString "dies") t) := by
  dsimp only [Cl0]
  intros
  rename_i hret
  refine wpAny_call ?_
  k_dflt (refine' enter_try ?k1 ?k2 ?k3 ?k4 ?k5 ?kA ?kF ?kK ?k6 ?k7 ?k8 ?k9 ?kB ?_ ?c2 ?c3 ?c4 ?c5; (case kA => exact rfl); (case kF => exact rfl); (case kK => first | exact rfl | assumption); (case k1 => k_asm); (case k2 => k_asm); (case k3 => k_asm); (case k4 => k_asm); (case k5 => k_asm); (case k6 => k_is); (case k7 => k_is); (case k8 => ktr_room); (case k9 => exact BindsTo.of_eq rfl); (case c5 => decide); (case kB => exact locs rfl); (case c2 => exact rfl); (case c3 => exact rfl); (case c4 => exact rfl); k_whole; intro g' L' h' FG' F' N' B' X' T'; (try dsimp only); (try k_lift B'); (try k_fold))
  k_steps
  all_goals first | exact hret _ _ _ (by assumption) (by first | assumption | exact cb_drop (by assumption) (fun p hp => List.Mem.tail _ hp)) | trace_state
end
end Mine
end
section
open PySem PySem.W PyProof.Rows
set_option Elab.async false
set_option maxRecDepth 100000
set_option maxHeartbeats 4000000
namespace Mine
section
variable {w : World} {lvl lvl' : Nat} {f : Addr} {news : CbLed} {vs : List Value} {R : Tok → Value} {p : Program} {loose : List Str} {mean : ExcName → Option Value} {mg mb : Str → Option Value}
def fiveOps : List Str := [Str.ofString "+", Str.ofString "-", Str.ofString "*", Str.ofString "/", Str.ofString "%"]
theorem fiveOps_all {a b c d e : Tok} : ∀ v ∈ [Value.str (Str.ofString "+") a, .str (Str.ofString "-") b, .str (Str.ofString "*") c, .str (Str.ofString "/") d, .str (Str.ofString "%") e], ∃ x t, v = Value.str x t ∧ x ∈ fiveOps := by
  intro v hv
  simp only [List.mem_cons, List.not_mem_nil, or_false] at hv
  rcases hv with rfl | rfl | rfl | rfl | rfl <;> exact ⟨_, _, rfl, by unfold fiveOps; simp⟩
def rkN (op : Str) (a b wd : Int) : Option Int :=
  if (op == Str.ofString "+") = true then some (wrapN (a + b) wd) else if (op == Str.ofString "-") = true then some (wrapN (a - b) wd) else if (op == Str.ofString "*") = true then some (wrapN (a * b) wd)
  else if b = 0 then none else if (op == Str.ofString "/") = true then some (wrapN (Int.tdiv a b) wd) else some (wrapN (Int.tmod a b) wd)
def rkV (op : Str) (a b wd : Int) (t : Tok) : Value := match rkN op a b wd with
  | some n => .int n t
  | none => .str (Str.ofString "dies") t
theorem Cl.to0 (h : lvl ≤ lvl') (C : Cl w lvl f news vs R) : Cl0 w lvl' f news vs R := fun dp un gd cn cs a ccd cl A₀ h₀ L m s Q E B F X N T hk hd hu ret => C dp un gd cn cs a ccd cl [] A₀ h₀ h₀ L m s Q E B F X N T hk (by omega) (by omega) ret
theorem Cl0.use {dp un : Nat} {gd : Option (List Code)} {cn : Str} {cs : Scope} {a : Addr} {ccd : Value} {cl : List (Str × Addr)} {A₀ : Around} {h₀ : Heap} {L : Addr} {m : Str → Option Value} {s : Shared} {Q E : Value → Shared → Prop}
    (C : Cl0 w lvl f news vs R) (B : Below A₀ h₀ [] h₀) (F : Fr h₀ L s.heap m) (X : (K w.params).In h₀) (N : News h₀ L s.heap news) (T : Top p loose mean mg mb h₀) (hk : cs.kind = .function) (hd : dp + lvl < recursionLimit) (hu : un + 8 * lvl < cLine)
    (ret : ∀ (t : Tok) (h' : Heap) (tk' : Nat), Fr h₀ L h' m → News h₀ L h' news → Q (R t) { s with heap := h', toks := tk' }) : wpAny (model PR w) (ktrTop dp un gd cn cs L a ccd cl []) (call (.ref f) vs) Q E s :=
  C _ _ _ _ _ _ _ _ _ _ _ _ _ _ _ B F X N T hk hd hu ret
theorem rk_val {op : Str} {f : Addr} {v1 v2 : Value} {t1 : Tok} {lx : Addr} {a b wd r : Int} (ha : OpAt w op f) (e : rkN op a b wd = some r) (hok : ∀ news, LimIn w.params news lx wd → Cl w 8 f news [v1, v2, .ref lx] (fun t => .int r t)) (hL : LimIn w.params news lx wd) : Cl0 w 16 484 news [.str op t1, v1, v2, .ref lx] (fun t => rkV op a b wd t) := by
  have q : (fun t => rkV op a b wd t) = fun t => Value.int r t := by funext t; unfold rkV; rw [e]
  rw [q]
  intro p loose mean mg mb
  exact Cl.to0 (lvl := 11) (show 11 ≤ 16 by omega) (fun {_ _ _ _ _} => c_rk (t1 := t1) ha ⟨hok⟩ hL)
theorem rk_die {op : Str} {f : Addr} {v1 v2 : Value} {t1 : Tok} {lx : Addr} {a b wd : Int} (ha : OpAt w op f) (e : rkN op a b wd = none) (hok : ∀ news, LimIn w.params news lx wd → ClX w 13 f news [v1, v2, .ref lx]) (hL : LimIn w.params news lx wd) : Cl0 w 16 484 news [.str op t1, v1, v2, .ref lx] (fun t => rkV op a b wd t) := by
  have q : (fun t => rkV op a b wd t) = fun t => Value.str (Str.ofString "dies") t := by funext t; unfold rkV; rw [e]
  rw [q]
  intro p loose mean mg mb
  exact c_rk_dies (t1 := t1) ha ⟨hok⟩ hL
theorem at_add : OpAt w (Str.ofString "+") 375 := ⟨by rfl, by rfl⟩
theorem at_sub : OpAt w (Str.ofString "-") 382 := ⟨by rfl, by rfl⟩
theorem at_mul : OpAt w (Str.ofString "*") 389 := ⟨by rfl, by rfl⟩
theorem at_div : OpAt w (Str.ofString "/") 396 := ⟨by rfl, by rfl⟩
theorem at_mod : OpAt w (Str.ofString "%") 403 := ⟨by rfl, by rfl⟩
theorem c_reck {op : Str} {v1 v2 : Value} {t1 : Tok} {lx : Addr} {a b wd : Int} (hop : op ∈ fiveOps) (hw : 1 ≤ wd ∧ wd ≤ 64) (h1 : NA wd v1 a) (h2 : NA wd v2 b) (ha : -(2^63) ≤ a ∧ a ≤ 2^63) (hb : -(2^63) ≤ b ∧ b ≤ 2^63) (hL : LimIn w.params news lx wd) : Cl0 w 16 484 news [.str op t1, v1, v2, .ref lx] (fun t => rkV op a b wd t) := by
  unfold fiveOps at hop
  simp only [List.mem_cons, List.not_mem_nil, or_false] at hop
  rcases hop with rfl | rfl | rfl | rfl | rfl
  · exact rk_val at_add (r := wrapN (a + b) wd) (by unfold rkN; rw [if_pos (by decide +kernel)]) (fun _ hL {_ _ _ _ _} => c_op_add ⟨hw.1, hw.2, by omega, by omega, by omega, by omega⟩ h1 h2 hL) hL
  · exact rk_val at_sub (r := wrapN (a - b) wd) (by unfold rkN; rw [if_neg (by decide +kernel), if_pos (by decide +kernel)]) (fun _ hL {_ _ _ _ _} => c_op_sub ⟨hw.1, hw.2, by omega, by omega, by omega, by omega⟩ h1 h2 hL) hL
  · exact rk_val at_mul (r := wrapN (a * b) wd) (by unfold rkN; rw [if_neg (by decide +kernel), if_neg (by decide +kernel), if_pos (by decide +kernel)]) (fun _ hL {_ _ _ _ _} => c_op_mul ⟨hw.1, hw.2, ha.1, ha.2, hb.1, hb.2⟩ h1 h2 hL) hL
  · by_cases z : b = 0
    · subst z
      exact rk_die at_div (by unfold rkN; rw [if_neg (by decide +kernel), if_neg (by decide +kernel), if_neg (by decide +kernel), if_pos rfl]) (fun _ hL {_ _ _ _ _} => cx_op_div h1 h2 hL) hL
    · exact rk_val at_div (r := wrapN (Int.tdiv a b) wd) (by unfold rkN; rw [if_neg (by decide +kernel), if_neg (by decide +kernel), if_neg (by decide +kernel), if_neg z, if_pos (by decide +kernel)]) (fun _ hL {_ _ _ _ _} => c_op_div ⟨hw.1, hw.2, z, ha.1, ha.2, hb.1, hb.2⟩ h1 h2 hL) hL
  · by_cases z : b = 0
    · subst z
      exact rk_die at_mod (by unfold rkN; rw [if_neg (by decide +kernel), if_neg (by decide +kernel), if_neg (by decide +kernel), if_pos rfl]) (fun _ hL {_ _ _ _ _} => cx_op_mod h1 h2 hL) hL
    · exact rk_val at_mod (r := wrapN (Int.tmod a b) wd) (by unfold rkN; rw [if_neg (by decide +kernel), if_neg (by decide +kernel), if_neg (by decide +kernel), if_neg z, if_neg (by decide +kernel)]) (fun _ hL {_ _ _ _ _} => c_op_mod ⟨hw.1, hw.2, z, ha.1, ha.2, hb.1, hb.2⟩ h1 h2 hL) hL
end
section
variable {prog : Program} {w : World} {A : Around} {E : Value → Shared → Prop} {s : Shared} {Q : Value → Shared → Prop}
theorem rk_same_str {x : Str} {t u : Tok} (h : Q (.bool false) s) : wpAny (model prog w) A (compareOp .NotEq (.str x t) (.str x u)) Q E s := ne_str (by first | (rw [show (x.cps.toList != x.cps.toList) = false by simp]; exact h) | (rw [show (x != x) = false by simp]; exact h))
theorem rk_same {op : Str} {a b wd : Int} {t u : Tok} (h : Q (.bool false) s) : wpAny (model prog w) A (compareOp .NotEq (rkV op a b wd t) (rkV op a b wd u)) Q E s := by
  unfold rkV
  cases rkN op a b wd with
  | some n => exact ne_int (by rw [show (n != n) = false by simp]; exact h)
  | none => exact rk_same_str h
end
end Mine
end
section
open PySem PySem.W PyProof.Rows
set_option Elab.async false
set_option maxRecDepth 100000
set_option maxHeartbeats 4000000
namespace Mine
theorem rules_C18_0 : True := by
  k_with_none
  k_with "eval Call" => (k_dflt (refine Call_ ?_))
  k_with "binaryOp FloorDiv int int" => ((refine floordiv_int ?a ?b (Or.inl (noPylong_big ?c)); (case a => omega); (case c => omega)))
  k_with "binaryOp Mod int int" => ((refine mod_int' ?a ?b; (case a => omega)))
  k_with "call builtin:len" => ((k_here; (with_reducible show wpAny _ _ (call (Value.builtin "len") [Value.ref _]) _ _ _); k_dflt (refine' kst_len ?k1 ?k2 ?k3 ?k4 ?_; (case k1 => k_asm); (case k2 => k_mem); (case k3 => assumption); (case k4 => omega); k_whole)))
  trivial
section
variable {prog : Program} {w : World} {A : Around} {E : Value → Shared → Prop} {s : Shared} {Q : Value → Shared → Prop}
theorem same_ne_int {a : Int} {t u : Tok} (h : Q (.bool false) s) : wpAny (model prog w) A (compareOp .NotEq (.int a t) (.int a u)) Q E s := ne_int (by rw [show (a != a) = false by simp]; exact h)
theorem same_eq_int {a : Int} {t u : Tok} (h : Q (.bool true) s) : wpAny (model prog w) A (compareOp .Eq (.int a t) (.int a u)) Q E s := PyProof.Rows.eq_int (by rw [show (a == a) = true by simp]; exact h)
theorem same_ne_bool {a : Bool} (h : Q (.bool false) s) : wpAny (model prog w) A (compareOp .NotEq (.bool a) (.bool a)) Q E s := ne_bool (by rw [show (a != a) = false by simp]; exact h)
theorem same_eq_bool {a : Bool} (h : Q (.bool true) s) : wpAny (model prog w) A (compareOp .Eq (.bool a) (.bool a)) Q E s := eq_bool (by rw [show (a == a) = true by simp]; exact h)
end
theorem rules_C18_1 : True := by
  k_with "compareOp NotEq int int" => (with_reducible refine same_ne_int ?_)
  k_with "compareOp NotEq bool bool" => (with_reducible refine same_ne_bool ?_)
  k_with "compareOp NotEq" => (with_reducible refine same_ne_bool ?_)
  trivial
section
variable {w : World} {lvl : Nat} {f : Addr} {news : CbLed} {kt sl : Addr} {c d N : Int} {vs : List Value} {p : Program} {loose : List Str} {mean : ExcName → Option Value} {mg mb : Str → Option Value}
theorem naTxt {X : Str} {t : Tok} {wd N : Int} (h : ntV X wd = N) (hp : X.length ≤ 1000 ∧ 1 ≤ wd ∧ wd ≤ 64) : NA wd (.str X t) N := h ▸ NA.str X t hp
theorem c_looks' {X : Str} {t1 : Tok} {b : Bool} (h : lnV X = b) (hl : X.length ≤ 1000) : Cl w 2 130 news [.str X t1] (fun _ => .bool b) := h ▸ c_looks_numeric hl
theorem c_truth_str' {X : Str} {t1 : Tok} {b : Bool} (h : (X != Str.ofString "" && X != Str.ofString "0") = b) : Cl w 1 298 news [.str X t1] (fun _ => .bool b) := h ▸ c_truth_str
theorem ClD.use {dp un : Nat} {gd : Option (List Code)} {cn : Str} {cs : Scope} {a : Addr} {ccd : Value} {cl : List (Str × Addr)} {outer : List Env} {A₀ : Around} {base h₀ : Heap} {L : Addr} {m : Str → Option Value} {s : Shared} {tc : Tok} {n : Nat} {Q E : Value → Shared → Prop}
    (C : ClD w lvl f news kt sl c N vs) (B : Below A₀ base outer h₀) (F : Fr h₀ L s.heap m) (X : (K w.params).In h₀) (N' : News h₀ L s.heap ((kt, kelO sl c tc n) :: news)) (hn : ∀ p ∈ news, p.1 ≠ kt) (T : Top p loose mean mg mb h₀) (hk : cs.kind = .function) (hd : dp + lvl < recursionLimit) (hu : un + 8 * lvl < cLine)
    (ret : ∀ (D : Addr) (hd tl : Str) (t1 t2 : Tok) (n0 : Nat) (c' : Int) (tc' : Tok) (n' : Nat) (h' : Heap) (tk' : Nat), Fr h₀ L h' m → News h₀ L h' ((D, tup2 (.str hd t1) (.str tl t2) n0) :: (kt, kelO sl c' tc' n') :: news) → Dressed N hd tl → c ≤ c' ∧ c' ≤ c + 4 → kt < D ∧ AllLt D news → Q (.ref D) { s with heap := h', toks := tk' }) : wpAny (model PR w) (ktrTop dp un gd cn cs L a ccd cl outer) (call (.ref f) vs) Q E s :=
  C _ _ _ _ _ _ _ _ _ _ _ _ _ _ _ _ _ _ _ B F X N' hn T hk hd hu ret
end
theorem rules_C18_2 : True := by
  k_with "call ref" => ((k_here; (with_reducible show wpAny _ _ (call (Value.ref 291) _) _ _ _); k_dflt ((refine' Cl.use (c_to_number ?kn ?kl) ?k1 ?k2 ?k3 ?k4 ?k5 ?kK ?kd ?ku ?_); (case k1 => k_asm); (case k2 => k_asm); (case k3 => k_asm); (case k4 => k_asm); (case k5 => k_asm); (case kK => first | exact rfl | assumption); (case kd => ktr_room); (case ku => ktr_units); (case kl => first | with_reducible assumption | exact LimIn.mono (by with_reducible assumption) (fun p hp => List.Mem.tail _ hp) | exact LimIn.mono (by with_reducible assumption) (fun p hp => List.Mem.tail _ (List.Mem.tail _ hp)) | exact LimIn.mono (by with_reducible assumption) (fun p hp => List.Mem.tail _ (List.Mem.tail _ (List.Mem.tail _ hp)))); (case kn => first | with_reducible assumption | with_reducible exact NA.int _ _ | exact NA.none | exact naTxt (by with_reducible assumption) ⟨by omega, by omega, by omega⟩); intro t9 h9 tk9 F9 N9; (try dsimp only); (try k_sweep); (try k_fold))))
  k_with "call ref" => ((k_here; (with_reducible show wpAny _ _ (call (Value.ref 284) _) _ _ _); k_dflt ((refine' Cl.useF (cF_to_text ?kt ?kb) ?k1 ?k2 ?k3 ?k4 ?k5 ?kK ?kd ?ku ?_); (case k1 => k_asm); (case k2 => k_asm); (case k3 => k_asm); (case k4 => k_asm); (case k5 => k_asm); (case kK => first | exact rfl | assumption); (case kd => ktr_room); (case ku => ktr_units); (case kt => first | assumption | exact TA.str _ _ | exact TA.int _ _ ⟨by omega, by omega⟩); (case kb => first | assumption | omega); intro f9 t9 h9 tk9 F9 N9; (try dsimp only); (try k_sweep); (try k_fold))))
  k_with "call ref" => ((k_here; (with_reducible show wpAny _ _ (call (Value.ref 130) _) _ _ _); k_dflt ((refine' Cl.use (c_looks' ?kh ?kb) ?k1 ?k2 ?k3 ?k4 ?k5 ?kK ?kd ?ku ?_); (case k1 => k_asm); (case k2 => k_asm); (case k3 => k_asm); (case k4 => k_asm); (case k5 => k_asm); (case kK => first | exact rfl | assumption); (case kd => ktr_room); (case ku => ktr_units); (case kh => with_reducible assumption); (case kb => first | with_reducible assumption | omega); intro t9 h9 tk9 F9 N9; (try dsimp only); (try k_sweep); (try k_fold))))
  k_with "call ref" => ((k_here; (with_reducible show wpAny _ _ (call (Value.ref 298) _) _ _ _); k_dflt ((refine' Cl.use (c_truth_str' ?kh) ?k1 ?k2 ?k3 ?k4 ?k5 ?kK ?kd ?ku ?_); (case k1 => k_asm); (case k2 => k_asm); (case k3 => k_asm); (case k4 => k_asm); (case k5 => k_asm); (case kK => first | exact rfl | assumption); (case kd => ktr_room); (case ku => ktr_units); (case kh => with_reducible assumption); intro t9 h9 tk9 F9 N9; (try dsimp only); (try k_sweep); (try k_fold))))
  k_with "call ref" => ((k_here; (with_reducible show wpAny _ _ (call (Value.ref 298) _) _ _ _); k_dflt ((refine' Cl.use (c_truth_int) ?k1 ?k2 ?k3 ?k4 ?k5 ?kK ?kd ?ku ?_); (case k1 => k_asm); (case k2 => k_asm); (case k3 => k_asm); (case k4 => k_asm); (case k5 => k_asm); (case kK => first | exact rfl | assumption); (case kd => ktr_room); (case ku => ktr_units); intro t9 h9 tk9 F9 N9; (try dsimp only); (try k_sweep); (try k_fold))))
  k_with "call ref" => ((k_here; (with_reducible show wpAny _ _ (call (Value.ref 477) _) _ _ _); k_dflt ((refine' ClD.use (c_dressed ?ks ?ki ?kl ?kp) ?k1 ?k2 ?k3 ?k4 ?kn ?k5 ?kK ?kd ?ku ?_); (case k1 => k_asm); (case k2 => k_asm); (case k3 => k_asm); (case k4 => first | k_asm | exact news_swap (by k_asm)); (case kn => assumption); (case k5 => k_asm); (case kK => first | exact rfl | assumption); (case kd => ktr_room); (case ku => ktr_units); (case ks => first | assumption | k_mem); (case ki => assumption); (case kl => first | assumption | omega); (case kp => exact ⟨by omega, by omega, by omega, by omega⟩); intro D9 hd9 tl9 t9 u9 n9 c9 tc9 m9 h9 tk9 F9 N9 P9 L9 l9; (have q9 := law_dressed (by assumption) (by assumption) P9); obtain ⟨qa9, qb9, qc9, qd9, qe9⟩ := q9; (try dsimp only); (try k_sweep); (try k_fold))))
  k_with "call ref" => ((k_here; (with_reducible show wpAny _ _ (call (Value.ref 333) _) _ _ _); k_dflt ((refine' Cl.use (c_increment ?kp ?kx ?kn ?kl) ?k1 ?k2 ?k3 ?k4 ?k5 ?kK ?kd ?ku ?_); (case k1 => k_asm); (case k2 => k_asm); (case k3 => k_asm); (case k4 => k_asm); (case k5 => k_asm); (case kK => first | exact rfl | assumption); (case kd => ktr_room); (case ku => ktr_units); (case kx => with_reducible assumption); (case kl => first | with_reducible assumption | exact LimIn.mono (by with_reducible assumption) (fun p hp => List.Mem.tail _ hp) | exact LimIn.mono (by with_reducible assumption) (fun p hp => List.Mem.tail _ (List.Mem.tail _ hp)) | exact LimIn.mono (by with_reducible assumption) (fun p hp => List.Mem.tail _ (List.Mem.tail _ (List.Mem.tail _ hp)))); (case kn => first | with_reducible assumption | with_reducible exact NA.int _ _ | exact NA.none | exact naTxt (by with_reducible assumption) ⟨by omega, by omega, by omega⟩); (case kp => exact ⟨by omega, by omega, by omega, by omega, by omega, by omega⟩); intro t9 h9 tk9 F9 N9; (try dsimp only); (try k_sweep); (try k_fold))))
  k_with "call ref" => ((k_here; (with_reducible show wpAny _ _ (call (Value.ref 340) _) _ _ _); k_dflt ((refine' Cl.use (c_decrement ?kp ?kn ?kl) ?k1 ?k2 ?k3 ?k4 ?k5 ?kK ?kd ?ku ?_); (case k1 => k_asm); (case k2 => k_asm); (case k3 => k_asm); (case k4 => k_asm); (case k5 => k_asm); (case kK => first | exact rfl | assumption); (case kd => ktr_room); (case ku => ktr_units); (case kl => first | with_reducible assumption | exact LimIn.mono (by with_reducible assumption) (fun p hp => List.Mem.tail _ hp) | exact LimIn.mono (by with_reducible assumption) (fun p hp => List.Mem.tail _ (List.Mem.tail _ hp)) | exact LimIn.mono (by with_reducible assumption) (fun p hp => List.Mem.tail _ (List.Mem.tail _ (List.Mem.tail _ hp)))); (case kn => first | with_reducible assumption | with_reducible exact NA.int _ _ | exact NA.none | exact naTxt (by with_reducible assumption) ⟨by omega, by omega, by omega⟩); (case kp => exact ⟨by omega, by omega, by omega, by omega⟩); intro t9 h9 tk9 F9 N9; (try dsimp only); (try k_sweep); (try k_fold))))
  trivial
section
variable {w : World} {news : CbLed} {kt sl : Addr}
abbrev ClR (w : World) (lvl : Nat) (f : Addr) (news : CbLed) (kt sl : Addr) (c : Int) (vs : List Value) : Prop :=
  ∀ {p : Program} {loose : List Str} {mean : ExcName → Option Value} {mg mb : Str → Option Value} (dp un : Nat) (gd : Option (List Code)) (cn : Str) (cs : Scope) (a : Addr) (ccd : Value) (cl : List (Str × Addr)) (outer : List Env) (A₀ : Around) (base h₀ : Heap) (L : Addr) (m : Str → Option Value) (s : Shared) (tc : Tok) (n : Nat) (Q E : Value → Shared → Prop),
    Below A₀ base outer h₀ → Fr h₀ L s.heap m → (K w.params).In h₀ → News h₀ L s.heap ((kt, kelO sl c tc n) :: news) → (∀ p ∈ news, p.1 ≠ kt) → Top p loose mean mg mb h₀ → cs.kind = .function → dp + lvl < recursionLimit → un + 8 * lvl < cLine →
    (∀ (c' : Int) (tc' : Tok) (n' : Nat) (h' : Heap) (tk' : Nat), c ≤ c' ∧ c' ≤ c + 4 → Fr h₀ L h' m → News h₀ L h' ((kt, kelO sl c' tc' n') :: news) → Q (.bool true) { s with heap := h', toks := tk' }) →
    wpAny (model PR w) (ktrTop dp un gd cn cs L a ccd cl outer) (call (.ref f) vs) Q E s
theorem retTrue {b : Bool} {Q : Value → Shared → Prop} {s : Shared} (h : Q (.bool true) s) (e : b = true) : Q (.bool b) s := e ▸ h
theorem c_is_read {c a wd : Int} {ta : Tok} {lx : Addr} {vs : List Value} {ns : List Int} {nn : Nat} (hsl : (sl, listOf vs.toArray nn) ∈ news) (hi : IntsAre vs ns) (hl : ns.length ≤ 100) (hc : 0 ≤ c ∧ c ≤ 900) (hw : 4 ≤ wd ∧ wd ≤ 64) (ha : -hp wd ≤ a ∧ a < hp wd) (hL : LimIn w.params news lx wd) : ClR w 9 491 news kt sl c [.ref kt, .int a ta, .ref lx] := by
  dsimp only [ClR]
  intro p loose mean mg mb dp un gd cn cs ad ccd cl outer A₀ base h₀ L m s tc n Q E B F X N₀ hne T hk hd hu hret
  obtain ⟨h1, h2⟩ := id hw
  obtain ⟨h3, h4⟩ := id ha
  obtain ⟨h5, h6⟩ := hc
  have q4 := hp_le h2
  obtain ⟨f1, f2, f3⟩ := law_num hw ha
  obtain ⟨f4, f5⟩ := law_truth (a := a)
  obtain ⟨ch, f6⟩ := law_first a
  obtain ⟨f7, f8⟩ := numT_len (N := a) ⟨by omega, by omega⟩
  have f9 : (Str.ofString " " ++ numT a ++ Str.ofString "
").length ≤ 1000 := by
    rw [Str.length_append, Str.length_append, show (Str.ofString " ").length = 1 by decide +kernel, show (Str.ofString "
").length = 1 by decide +kernel]
    omega
  have f11 := wrap_bd (a + 1) wd
  refine wpAny_call ?_
  k_dflt cell_enter
  k_steps
  all_goals (
    refine retTrue (hret _ _ _ _ _ (by assumption) (by assumption) (by first | assumption | exact cb_drop (by assumption) (fun p hp => List.Mem.tail _ hp))) ?_
    rw [beq_iff_eq, show wrapN (a + 1) wd - 1 = wrapN (a + 1) wd + -1 by omega, wrap_add, show a + 1 + -1 = a by omega]
    exact wrap_in h3 h4)
end
end Mine
end
section
open PySem PySem.W PyProof.Rows
set_option Elab.async false
set_option maxRecDepth 100000
set_option maxHeartbeats 4000000
namespace Mine
theorem rules_C19_0 : True := by
  k_with_none
  k_with "eval Call" => (k_dflt (refine Call_ ?_))
  k_with "binaryOp FloorDiv int int" => ((refine floordiv_int ?a ?b (Or.inl (noPylong_big ?c)); (case a => omega); (case c => omega)))
  k_with "binaryOp Mod int int" => ((refine mod_int' ?a ?b; (case a => omega)))
  k_with "call builtin:abs" => (((with_reducible refine call_absN ?_); intro _ _))
  trivial
section
variable {w : World} {news : CbLed}
def numOps : List Str := [Str.ofString "<=>", Str.ofString "==", Str.ofString "!=", Str.ofString "<", Str.ofString "<=", Str.ofString ">", Str.ofString ">="]
def twoOps : List Str := [Str.ofString "<=>", Str.ofString "cmp"]
theorem numOps_all {a b c d e f g : Tok} : ∀ v ∈ [Value.str (Str.ofString "<=>") a, .str (Str.ofString "==") b, .str (Str.ofString "!=") c, .str (Str.ofString "<") d, .str (Str.ofString "<=") e, .str (Str.ofString ">") f, .str (Str.ofString ">=") g], ∃ x t, v = Value.str x t ∧ x ∈ numOps := by
  intro v hv
  simp only [List.mem_cons, List.not_mem_nil, or_false] at hv
  rcases hv with rfl | rfl | rfl | rfl | rfl | rfl | rfl <;> exact ⟨_, _, rfl, by unfold numOps; simp⟩
theorem twoOps_all {a b : Tok} : ∀ v ∈ [Value.str (Str.ofString "<=>") a, .str (Str.ofString "cmp") b], ∃ x t, v = Value.str x t ∧ x ∈ twoOps := by
  intro v hv
  simp only [List.mem_cons, List.not_mem_nil, or_false] at hv
  rcases hv with rfl | rfl <;> exact ⟨_, _, rfl, by unfold twoOps; simp⟩
theorem c_cv_numL {op : Str} {t1 : Tok} {v1 v2 : Value} {lx : Addr} {wd a b : Int} (hop : op ∈ numOps) (h1 : NA wd v1 a) (h2 : NA wd v2 b) (hL : LimIn w.params news lx wd) : Cl w 6 431 news [.str op t1, v1, v2, .ref lx] (fun t => hoV op (cmpI a b) t) :=
  have h : (1 ≤ op.length ∧ op.length ≤ 10) ∧ (Builtin.Str.occurrences (Str.ofString "abcdefghijklmnopqrstuvwxyz") (Txt.item op 0) 0 (Str.ofString "abcdefghijklmnopqrstuvwxyz").length 1).isEmpty = true := (by decide +kernel : ∀ op ∈ numOps, (1 ≤ op.length ∧ op.length ≤ 10) ∧ (Builtin.Str.occurrences (Str.ofString "abcdefghijklmnopqrstuvwxyz") (Txt.item op 0) 0 (Str.ofString "abcdefghijklmnopqrstuvwxyz").length 1).isEmpty = true) op hop
  c_cv_num h.1 h.2 h1 h2 hL
theorem c_cv_ship {t1 : Tok} {v1 v2 : Value} {lx : Addr} {wd a b : Int} (h1 : NA wd v1 a) (h2 : NA wd v2 b) (hL : LimIn w.params news lx wd) : Cl w 6 431 news [.str (Str.ofString "<=>") t1, v1, v2, .ref lx] (fun t => .int (cmpI a b) t) :=
  c_cv_num (op := Str.ofString "<=>") ⟨by decide +kernel, by decide +kernel⟩ (by decide +kernel) h1 h2 hL
theorem c_cv_cmp {t1 : Tok} {v1 v2 : Value} {lx : Addr} {wd : Int} {x y : Str} (h1 : TA v1 x) (h2 : TA v2 y) (h3 : x.length ≤ 1000) (h4 : y.length ≤ 1000) (hL : LimIn w.params news lx wd) : Cl w 6 431 news [.str (Str.ofString "cmp") t1, v1, v2, .ref lx] (fun t => .int (cmpS x y) t) :=
  c_cv_text (op := Str.ofString "cmp") ⟨by decide +kernel, by decide +kernel⟩ (by decide +kernel) h1 h2 h3 h4 hL
theorem c_cv_eq {t1 : Tok} {v1 v2 : Value} {lx : Addr} {wd : Int} {x y : Str} (h1 : TA v1 x) (h2 : TA v2 y) (h3 : x.length ≤ 1000) (h4 : y.length ≤ 1000) (hL : LimIn w.params news lx wd) : Cl w 6 431 news [.str (Str.ofString "eq") t1, v1, v2, .ref lx] (fun t => tvV (cmpS x y == 0) t) :=
  c_cv_text (op := Str.ofString "eq") ⟨by decide +kernel, by decide +kernel⟩ (by decide +kernel) h1 h2 h3 h4 hL
theorem c_cv_lt {t1 : Tok} {v1 v2 : Value} {lx : Addr} {wd : Int} {x y : Str} (h1 : TA v1 x) (h2 : TA v2 y) (h3 : x.length ≤ 1000) (h4 : y.length ≤ 1000) (hL : LimIn w.params news lx wd) : Cl w 6 431 news [.str (Str.ofString "lt") t1, v1, v2, .ref lx] (fun t => tvV (decide (cmpS x y < 0)) t) :=
  c_cv_text (op := Str.ofString "lt") ⟨by decide +kernel, by decide +kernel⟩ (by decide +kernel) h1 h2 h3 h4 hL
theorem c_cv_ord {op : Str} {t1 t2 t3 : Tok} {lx : Addr} {wd a b : Int} (hop : op ∈ twoOps) (hw : 1 ≤ wd ∧ wd ≤ 64) (ha : ntV (numT a) wd = a) (hb : ntV (numT b) wd = b) (la : (numT a).length ≤ 21) (lb : (numT b).length ≤ 21) (hL : LimIn w.params news lx wd) : Cl w 6 431 news [.str op t1, .str (numT a) t2, .str (numT b) t3, .ref lx] (fun t => .int (ordV op a b) t) := by
  unfold twoOps at hop
  simp only [List.mem_cons, List.not_mem_nil, or_false] at hop
  rcases hop with rfl | rfl
  · have e : ordV (Str.ofString "<=>") a b = cmpI a b := by unfold ordV; rw [if_neg (by decide +kernel)]
    rw [e]
    intro p loose mean mg mb
    exact c_cv_ship (naTxt ha ⟨by omega, hw⟩) (naTxt hb ⟨by omega, hw⟩) hL
  · have e : ordV (Str.ofString "cmp") a b = cmpS (numT a) (numT b) := by unfold ordV; rw [if_pos (by decide +kernel)]
    rw [e]
    intro p loose mean mg mb
    exact c_cv_cmp (TA.str _ _) (TA.str _ _) (show (numT a).length ≤ 1000 by omega) (show (numT b).length ≤ 1000 by omega) hL
end
section
variable {prog : Program} {w : World} {A : Around} {E : Value → Shared → Prop} {s : Shared} {Q : Value → Shared → Prop}
theorem same_ne_str {x : Str} {t u : Tok} (h : Q (.bool false) s) : wpAny (model prog w) A (compareOp .NotEq (.str x t) (.str x u)) Q E s := ne_str (by first | (rw [show (x.cps.toList != x.cps.toList) = false by simp]; exact h) | (rw [show (x != x) = false by simp]; exact h))
theorem same_ne_tv {b : Bool} {t u : Tok} (h : Q (.bool false) s) : wpAny (model prog w) A (compareOp .NotEq (tvV b t) (tvV b u)) Q E s := by
  cases b with
  | true => exact same_ne_int h
  | false => exact same_ne_str h
theorem hoV_cases (op : Str) (o : Int) : (∃ n, ∀ t, hoV op o t = .int n t) ∨ (∃ b, ∀ t, hoV op o t = tvV b t) := by
  unfold hoV
  generalize (op == Str.ofString "<=>") = b1, (op == Str.ofString "cmp") = b2, (op == Str.ofString "==") = b3, (op == Str.ofString "eq") = b4, (op == Str.ofString "!=") = b5, (op == Str.ofString "ne") = b6
  generalize (op == Str.ofString "<") = b7, (op == Str.ofString "lt") = b8, (op == Str.ofString ">") = b9, (op == Str.ofString "gt") = b10, (op == Str.ofString "<=") = b11, (op == Str.ofString "le") = b12
  cases b1
  · cases b2
    · right
      rcases b3 with _ | _
      rotate_left
      · exact ⟨_, fun _ => rfl⟩
      rcases b4 with _ | _
      rotate_left
      · exact ⟨_, fun _ => rfl⟩
      rcases b5 with _ | _
      rotate_left
      · exact ⟨_, fun _ => rfl⟩
      rcases b6 with _ | _
      rotate_left
      · exact ⟨_, fun _ => rfl⟩
      rcases b7 with _ | _
      rotate_left
      · exact ⟨_, fun _ => rfl⟩
      rcases b8 with _ | _
      rotate_left
      · exact ⟨_, fun _ => rfl⟩
      rcases b9 with _ | _
      rotate_left
      · exact ⟨_, fun _ => rfl⟩
      rcases b10 with _ | _
      rotate_left
      · exact ⟨_, fun _ => rfl⟩
      rcases b11 with _ | _
      rotate_left
      · exact ⟨_, fun _ => rfl⟩
      cases b12 <;> exact ⟨_, fun _ => rfl⟩
    · exact .inl ⟨_, fun _ => rfl⟩
  · exact .inl ⟨_, fun _ => rfl⟩
theorem same_ne_ho {op : Str} {o : Int} {t u : Tok} (h : Q (.bool false) s) : wpAny (model prog w) A (compareOp .NotEq (hoV op o t) (hoV op o u)) Q E s := by
  rcases hoV_cases op o with ⟨n, e⟩ | ⟨b, e⟩
  · rw [e, e]; exact same_ne_int h
  · rw [e, e]; exact same_ne_tv h
theorem eq_tv_one {b : Bool} {t u : Tok} (h : Q (.bool b) s) : wpAny (model prog w) A (compareOp .Eq (tvV b t) (.int 1 u)) Q E s := by
  cases b with
  | true => exact PyProof.Rows.eq_int h
  | false => exact EqMixed.eq_str_int h
theorem ne_int_of {x y : Int} {t u : Tok} (e : x = y) (h : Q (.bool false) s) : wpAny (model prog w) A (compareOp .NotEq (.int x t) (.int y u)) Q E s := e ▸ same_ne_int h
theorem ne_bool_of {a b : Bool} (e : a = b) (h : Q (.bool false) s) : wpAny (model prog w) A (compareOp .NotEq (.bool a) (.bool b)) Q E s := e ▸ same_ne_bool h
theorem eq_bool_of {a b : Bool} (e : a = b) (h : Q (.bool true) s) : wpAny (model prog w) A (compareOp .Eq (.bool a) (.bool b)) Q E s := e ▸ same_eq_bool h
theorem gt_ord_of {op : Str} {a b c : Int} {t u : Tok} (h1 : ordV op a b ≤ 0) (h2 : ordV op b c ≤ 0) (h : Q (.bool false) s) : wpAny (model prog w) A (compareOp .Gt (.int (ordV op a c) t) (.int 0 u)) Q E s := by
  refine gt_int ?_
  have : ¬ (ordV op a c > 0) := by have := ordV_trans h1 h2; omega
  first | (rw [decide_eq_false this]; exact h) | (rw [decide_eq_false (show ¬ (0 < ordV op a c) by omega)]; exact h)
end
theorem rules_C19_1 : True := by
  k_with "compareOp NotEq int int" => (first | with_reducible refine same_ne_int ?_ | with_reducible refine ne_int_of (cmpI_neg _ _) ?_ | with_reducible refine ne_int_of (cmpS_neg _ _) ?_)
  k_with "compareOp NotEq bool bool" => (first | with_reducible refine same_ne_bool ?_ | refine ne_bool_of ((cmpI_eq0 _ _).trans (numT_eq (by assumption) (by assumption) (by assumption)).symm) ?_ | refine ne_bool_of (cmpI_lt0 _ _) ?_)
  k_with "compareOp NotEq" => (first | with_reducible refine same_ne_bool ?_ | with_reducible refine same_ne_ho ?_ | refine ne_bool_of ((cmpI_eq0 _ _).trans (numT_eq (by assumption) (by assumption) (by assumption)).symm) ?_ | refine ne_bool_of (cmpI_lt0 _ _) ?_)
  k_with "compareOp Eq" => (first | with_reducible refine eq_tv_one ?_ | with_reducible refine eq_bool_of ((cmpS_eq0 _ _).trans (numT_eq (by assumption) (by assumption) (by assumption))) ?_ | with_reducible refine eq_bool_of (cmpS_lt0 _ _) ?_)
  k_with "compareOp Eq bool bool" => (first | with_reducible refine eq_bool_of ((cmpS_eq0 _ _).trans (numT_eq (by assumption) (by assumption) (by assumption))) ?_ | with_reducible refine eq_bool_of (cmpS_lt0 _ _) ?_)
  k_with "compareOp Gt int int" => ((refine gt_ord_of (by with_reducible assumption) (by with_reducible assumption) ?_))
  k_with "exec For Name Tuple cons nil" => ((k_here; (rename Fr _ _ _ _ => lF'); (with_unfolding_all refine' For_invVF lF' ?k1 ?k2 ?_; (case k1 => exact rfl); (case k2 => exact rfl); k_whole)))
  k_with "TxEnd" => ((refine' txend_of ?F ?N ?e; (case F => k_asm); (case N => first | assumption | exact cb_drop (by assumption) (fun p hp => List.Mem.tail _ hp)); (case e => exact chain3_in (fun y a b c => by simp only [if_neg a, if_neg b, if_neg c]))))
  k_with "call ref" => ((k_here; (with_reducible show wpAny _ _ (call (Value.ref 284) _) _ _ _); k_dflt ((refine' Cl.use (c_to_text ?kt) ?k1 ?k2 ?k3 ?k4 ?k5 ?kK ?kd ?ku ?_); (case k1 => k_asm); (case k2 => k_asm); (case k3 => k_asm); (case k4 => k_asm); (case k5 => k_asm); (case kK => first | exact rfl | assumption); (case kd => ktr_room); (case ku => ktr_units); (case kt => exact TA.int _ _ ⟨by omega, by omega⟩); intro t9 h9 tk9 F9 N9; (try dsimp only); (try k_sweep); (try k_fold))))
  k_with "call ref" => ((k_here; (with_reducible show wpAny _ _ (call (Value.ref 431) _) _ _ _); k_dflt ((refine' Cl.use (c_cv_numL ?ko ?ka ?kb ?kl) ?k1 ?k2 ?k3 ?k4 ?k5 ?kK ?kd ?ku ?_); (case k1 => k_asm); (case k2 => k_asm); (case k3 => k_asm); (case k4 => k_asm); (case k5 => k_asm); (case kK => first | exact rfl | assumption); (case kd => ktr_room); (case ku => ktr_units); (case ko => with_reducible assumption); (case kl => first | with_reducible assumption | exact LimIn.mono (by with_reducible assumption) (fun p hp => by (repeat (first | with_reducible apply List.mem_append_right | with_reducible apply List.mem_cons_of_mem)); exact hp)); (case ka => first | with_reducible assumption | with_reducible exact NA.int _ _ | exact NA.none | exact naTxt (by with_reducible assumption) ⟨by omega, by omega, by omega⟩); (case kb => first | with_reducible assumption | with_reducible exact NA.int _ _ | exact NA.none | exact naTxt (by with_reducible assumption) ⟨by omega, by omega, by omega⟩); intro t9 h9 tk9 F9 N9; (try dsimp only); (try k_sweep); (try k_fold))))
  k_with "call ref" => ((k_here; (with_reducible show wpAny _ _ (call (Value.ref 431) _) _ _ _); k_dflt ((refine' Cl.use (c_cv_ord ?ko ?kw ?ka ?kb ?kc ?ke ?kl) ?k1 ?k2 ?k3 ?k4 ?k5 ?kK ?kd ?ku ?_); (case k1 => k_asm); (case k2 => k_asm); (case k3 => k_asm); (case k4 => k_asm); (case k5 => k_asm); (case kK => first | exact rfl | assumption); (case kd => ktr_room); (case ku => ktr_units); (case kl => first | with_reducible assumption | exact LimIn.mono (by with_reducible assumption) (fun p hp => by (repeat (first | with_reducible apply List.mem_append_right | with_reducible apply List.mem_cons_of_mem)); exact hp)); (case ko => with_reducible assumption); (case kw => exact ⟨by omega, by omega⟩); (case ka => with_reducible assumption); (case kb => with_reducible assumption); (case kc => with_reducible assumption); (case ke => with_reducible assumption); intro t9 h9 tk9 F9 N9; (try dsimp only); (try k_sweep); (try k_fold))))
  k_with "call ref" => ((k_here; (with_reducible show wpAny _ _ (call (Value.ref 431) (Value.str (Str.ofString "<=>") _ :: _)) _ _ _); k_dflt ((refine' Cl.use (c_cv_ship ?ka ?kb ?kl) ?k1 ?k2 ?k3 ?k4 ?k5 ?kK ?kd ?ku ?_); (case k1 => k_asm); (case k2 => k_asm); (case k3 => k_asm); (case k4 => k_asm); (case k5 => k_asm); (case kK => first | exact rfl | assumption); (case kd => ktr_room); (case ku => ktr_units); (case kl => first | with_reducible assumption | exact LimIn.mono (by with_reducible assumption) (fun p hp => by (repeat (first | with_reducible apply List.mem_append_right | with_reducible apply List.mem_cons_of_mem)); exact hp)); (case ka => first | with_reducible assumption | with_reducible exact NA.int _ _ | exact NA.none | exact naTxt (by with_reducible assumption) ⟨by omega, by omega, by omega⟩); (case kb => first | with_reducible assumption | with_reducible exact NA.int _ _ | exact NA.none | exact naTxt (by with_reducible assumption) ⟨by omega, by omega, by omega⟩); intro t9 h9 tk9 F9 N9; (try dsimp only); (try k_sweep); (try k_fold))))
  k_with "call ref" => ((k_here; (with_reducible show wpAny _ _ (call (Value.ref 431) (Value.str (Str.ofString "cmp") _ :: _)) _ _ _); k_dflt ((refine' Cl.use (c_cv_cmp ?ka ?kb ?kc ?ke ?kl) ?k1 ?k2 ?k3 ?k4 ?k5 ?kK ?kd ?ku ?_); (case k1 => k_asm); (case k2 => k_asm); (case k3 => k_asm); (case k4 => k_asm); (case k5 => k_asm); (case kK => first | exact rfl | assumption); (case kd => ktr_room); (case ku => ktr_units); (case kl => first | with_reducible assumption | exact LimIn.mono (by with_reducible assumption) (fun p hp => by (repeat (first | with_reducible apply List.mem_append_right | with_reducible apply List.mem_cons_of_mem)); exact hp)); (case ka => first | with_reducible assumption | with_reducible exact TA.str _ _ | exact TA.int _ _ ⟨by omega, by omega⟩); (case kb => first | with_reducible assumption | with_reducible exact TA.str _ _ | exact TA.int _ _ ⟨by omega, by omega⟩); (case kc => first | with_reducible assumption | omega); (case ke => first | with_reducible assumption | omega); intro t9 h9 tk9 F9 N9; (try dsimp only); (try k_sweep); (try k_fold))))
  k_with "call ref" => ((k_here; (with_reducible show wpAny _ _ (call (Value.ref 431) (Value.str (Str.ofString "eq") _ :: _)) _ _ _); k_dflt ((refine' Cl.use (c_cv_eq ?ka ?kb ?kc ?ke ?kl) ?k1 ?k2 ?k3 ?k4 ?k5 ?kK ?kd ?ku ?_); (case k1 => k_asm); (case k2 => k_asm); (case k3 => k_asm); (case k4 => k_asm); (case k5 => k_asm); (case kK => first | exact rfl | assumption); (case kd => ktr_room); (case ku => ktr_units); (case kl => first | with_reducible assumption | exact LimIn.mono (by with_reducible assumption) (fun p hp => by (repeat (first | with_reducible apply List.mem_append_right | with_reducible apply List.mem_cons_of_mem)); exact hp)); (case ka => first | with_reducible assumption | with_reducible exact TA.str _ _ | exact TA.int _ _ ⟨by omega, by omega⟩); (case kb => first | with_reducible assumption | with_reducible exact TA.str _ _ | exact TA.int _ _ ⟨by omega, by omega⟩); (case kc => first | with_reducible assumption | omega); (case ke => first | with_reducible assumption | omega); intro t9 h9 tk9 F9 N9; (try dsimp only); (try k_sweep); (try k_fold))))
  k_with "call ref" => ((k_here; (with_reducible show wpAny _ _ (call (Value.ref 431) (Value.str (Str.ofString "lt") _ :: _)) _ _ _); k_dflt ((refine' Cl.use (c_cv_lt ?ka ?kb ?kc ?ke ?kl) ?k1 ?k2 ?k3 ?k4 ?k5 ?kK ?kd ?ku ?_); (case k1 => k_asm); (case k2 => k_asm); (case k3 => k_asm); (case k4 => k_asm); (case k5 => k_asm); (case kK => first | exact rfl | assumption); (case kd => ktr_room); (case ku => ktr_units); (case kl => first | with_reducible assumption | exact LimIn.mono (by with_reducible assumption) (fun p hp => by (repeat (first | with_reducible apply List.mem_append_right | with_reducible apply List.mem_cons_of_mem)); exact hp)); (case ka => first | with_reducible assumption | with_reducible exact TA.str _ _ | exact TA.int _ _ ⟨by omega, by omega⟩); (case kb => first | with_reducible assumption | with_reducible exact TA.str _ _ | exact TA.int _ _ ⟨by omega, by omega⟩); (case kc => first | with_reducible assumption | omega); (case ke => first | with_reducible assumption | omega); intro t9 h9 tk9 F9 N9; (try dsimp only); (try k_sweep); (try k_fold))))
  k_with "pyIter ref" => ((k_here; (with_reducible show wpAny _ _ (pyIter (Value.ref _)) (fun it s₂ => LoopAtV _ _ _ _ _ _ _ _ _ it s₂) _ _); k_dflt (refine' for_texts twoOps (Str.ofString "way") (Str.ofString "first") (Str.ofString "second") ?hh ?hm ?hs ?F ?N (fun x9 t9 u9 v9 h9 tk9 o9 hx9 F9 N9 => ?_) (fun u9 v9 w9 h9 tk9 F9 N9 => ?_); (case F => k_asm); (case N => k_asm); (case hm => k_mem); (case hs => exact twoOps_all); (case hh => rfl))))
  k_with "pyIter ref" => ((k_here; (with_reducible show wpAny _ _ (pyIter (Value.ref _)) (fun it s₂ => LoopAtV _ _ _ _ _ _ _ _ _ it s₂) _ _); k_dflt (refine' for_texts numOps (Str.ofString "way") (Str.ofString "first") (Str.ofString "second") ?hh ?hm ?hs ?F ?N (fun x9 t9 u9 v9 h9 tk9 o9 hx9 F9 N9 => ?_) (fun u9 v9 w9 h9 tk9 F9 N9 => ?_); (case F => k_asm); (case N => k_asm); (case hm => k_mem); (case hs => exact numOps_all); (case hh => rfl))))
  trivial
section
variable {w : World} {news : CbLed}
theorem c_is_ordered {a b c wd : Int} {ta tb tc : Tok} {lx : Addr} (hw : 4 ≤ wd ∧ wd ≤ 64) (ha : -hp wd ≤ a ∧ a < hp wd) (hb : -hp wd ≤ b ∧ b < hp wd) (hc : -hp wd ≤ c ∧ c < hp wd) (hL : LimIn w.params news lx wd) : Cl w 9 498 news [.int a ta, .int b tb, .int c tc, .ref lx] (fun _ => .bool true) := by
  dsimp only [Cl, CbRet]
  intros
  rename_i hret
  obtain ⟨h1, h2⟩ := id hw
  obtain ⟨a1, a2⟩ := id ha
  obtain ⟨b1, b2⟩ := id hb
  obtain ⟨c1, c2⟩ := id hc
  have q4 := hp_le h2
  have fa := (law_num hw ha).1
  have fb := (law_num hw hb).1
  have fc := (law_num hw hc).1
  have la := (numT_len (N := a) ⟨by omega, by omega⟩).2
  have lb := (numT_len (N := b) ⟨by omega, by omega⟩).2
  have lc := (numT_len (N := c) ⟨by omega, by omega⟩).2
  refine wpAny_call ?_
  k_dflt cell_enter
  k_steps
  all_goals exact hret 0 _ _ (by assumption) (by first | assumption | exact cb_drop (by assumption) (fun p hp => by (repeat (first | with_reducible apply List.mem_append_right | with_reducible apply List.mem_cons_of_mem)); exact hp))
end
end Mine
end
section
open PySem PySem.W PyProof.Rows
set_option Elab.async false
set_option maxRecDepth 100000
set_option maxHeartbeats 4000000
namespace Mine
theorem rules_C20_0 : True := by
  k_with_none
  k_with "eval Call" => (k_dflt (refine Call_ ?_))
  k_with "binaryOp FloorDiv int int" => ((refine floordiv_int ?a ?b (Or.inl (noPylong_big ?c)); (case a => omega); (case c => omega)))
  k_with "binaryOp Mod int int" => ((refine mod_int' ?a ?b; (case a => omega)))
  k_with "call builtin:abs" => (((with_reducible refine call_absN ?_); intro _ _))
  trivial
theorem le_trans4 {n : Nat} (h : n ≤ 4) : n ≤ 1000 := by omega
section
variable {prog : Program} {w : World} {A : Around} {E : Value → Shared → Prop} {s : Shared} {Q : Value → Shared → Prop}
theorem pow10_len {x : Str} {P : Int} {t u : Tok} (hl : x.length ≤ 1000) (e : (10 : Int) ^ (x.length : Int).toNat = P) (h : Q (.int P s.toks) { s with toks := s.toks + 1 }) : wpAny (model prog w) A (binaryOp .Pow (.int 10 t) (.int (x.length : Int) u)) Q E s := by
  refine pow_int_small (by omega) (by omega) (by decide) ?_
  rw [e]; exact h
end
theorem rules_C20_1 : True := by
  k_with "binaryOp Pow int int" => ((refine pow10_len ?hl (by with_reducible assumption) ?_; (case hl => omega)))
  k_with "compareOp Eq int int" => (with_reducible refine same_eq_int ?_)
  k_with "call ref" => ((k_here; (with_reducible show wpAny _ _ (call (Value.ref 284) _) _ _ _); k_dflt ((refine' Cl.use (c_to_text ?kt) ?k1 ?k2 ?k3 ?k4 ?k5 ?kK ?kd ?ku ?_); (case k1 => k_asm); (case k2 => k_asm); (case k3 => k_asm); (case k4 => k_asm); (case k5 => k_asm); (case kK => first | exact rfl | assumption); (case kd => ktr_room); (case ku => ktr_units); (case kt => exact TA.int _ _ ⟨by omega, by omega⟩); intro t9 h9 tk9 F9 N9; (try dsimp only); (try k_sweep); (try k_fold))))
  k_with "call ref" => ((k_here; (with_reducible show wpAny _ _ (call (Value.ref 361) _) _ _ _); k_dflt ((refine' Cl.use (c_concat ?ka ?kb ?kl) ?k1 ?k2 ?k3 ?k4 ?k5 ?kK ?kd ?ku ?_); (case k1 => k_asm); (case k2 => k_asm); (case k3 => k_asm); (case k4 => k_asm); (case k5 => k_asm); (case kK => first | exact rfl | assumption); (case kd => ktr_room); (case ku => ktr_units); (case kl => first | with_reducible assumption | exact LimIn.mono (by with_reducible assumption) (fun p hp => by (repeat (first | with_reducible apply List.mem_append_right | with_reducible apply List.mem_cons_of_mem)); exact hp)); (case ka => exact ⟨by omega, by omega⟩); (case kb => exact ⟨by omega, by omega⟩); intro t9 h9 tk9 F9 N9; (try dsimp only); (try k_sweep); (try k_fold))))
  k_with "call ref" => ((k_here; (with_reducible show wpAny _ _ (call (Value.ref 291) _) _ _ _); k_dflt ((refine' Cl.use (c_to_number ?kn ?kl) ?k1 ?k2 ?k3 ?k4 ?k5 ?kK ?kd ?ku ?_); (case k1 => k_asm); (case k2 => k_asm); (case k3 => k_asm); (case k4 => k_asm); (case k5 => k_asm); (case kK => first | exact rfl | assumption); (case kd => ktr_room); (case ku => ktr_units); (case kl => first | with_reducible assumption | exact LimIn.mono (by with_reducible assumption) (fun p hp => by (repeat (first | with_reducible apply List.mem_append_right | with_reducible apply List.mem_cons_of_mem)); exact hp)); (case kn => exact naTxt (law_joined (by with_reducible assumption) (by with_reducible assumption) (by with_reducible assumption) (by omega)).1 ⟨le_trans4 (law_joined (by with_reducible assumption) (by with_reducible assumption) (by with_reducible assumption) (by omega)).2, by omega, by omega⟩); intro t9 h9 tk9 F9 N9; (try dsimp only); (try k_sweep); (try k_fold))))
  trivial
section
variable {w : World} {news : CbLed}
theorem c_is_joined {a b wd : Int} {ta tb : Tok} {lx : Addr} (hw : 4 ≤ wd ∧ wd ≤ 64) (hL : LimIn w.params news lx wd) : Cl w 9 505 news [.int a ta, .int b tb, .ref lx] (fun _ => .bool true) := by
  dsimp only [Cl, CbRet]
  intros
  rename_i hret
  obtain ⟨h1, h2⟩ := id hw
  obtain ⟨dx, tw, k1, k2, k3, k4, k5, v2, v3, v4, v5, hL1, hL2⟩ := id hL
  have q2 := two_hp1 (show 1 ≤ wd by omega)
  have q3 := hp_pos wd
  have q4 := hp_le h2
  have hO : 0 ≤ Int.fmod (a.natAbs : Int) 100 ∧ Int.fmod (a.natAbs : Int) 100 < 100 := fmod_bd (by omega)
  have hT : 0 ≤ Int.fmod (b.natAbs : Int) 100 ∧ Int.fmod (b.natAbs : Int) 100 < 100 := fmod_bd (by omega)
  have hP := pow_ten hT
  have hlen : (numT (Int.fmod (b.natAbs : Int) 100)).length ≤ 2 := by rw [numT_len2 hT]; split <;> omega
  have hb := join_bd (t := Int.fmod (b.natAbs : Int) 100) hO
  refine wpAny_call ?_
  k_dflt cell_enter
  k_steps
  all_goals (first | exact retTrue (hret 0 _ _ (by assumption) (by first | assumption | exact cb_drop (by assumption) (fun p hp => by (repeat (first | with_reducible apply List.mem_append_right | with_reducible apply List.mem_cons_of_mem)); exact hp))) (decide_eq_true (by assumption)) | exact hret 0 _ _ (by assumption) (by first | assumption | exact cb_drop (by assumption) (fun p hp => by (repeat (first | with_reducible apply List.mem_append_right | with_reducible apply List.mem_cons_of_mem)); exact hp)) | trace_state)
end
end Mine
end
section
open PySem PySem.W PyProof.Rows
set_option Elab.async false
set_option maxRecDepth 100000
set_option maxHeartbeats 4000000
namespace Mine
theorem rules_LX : True := by
  k_with_none
  trivial
section
variable {prog : Program} {w : World} {A : Around} {s : Shared} {KF : Frag} {p : Program} {loose : List Str} {mean : ExcName → Option Value} {mg mb : Str → Option Value} {R : Result → Shared → Prop}
theorem code_top {name : Str} {params : Arguments} {body : List Stmt} {scope : Scope} {doc pm cdv oc : Value} {od : Option Addr} {osl : Array (Option Value)} {f : Addr} {args : List Value} {binds : List (Str × Value)} {m : Str → Option Value} {n1 n2 : Str}
    (X₀ : KF.In s.heap) (T : Top p loose mean mg mb s.heap) (hroom : A.depth < recursionLimit)
    (ho : KF.lookup f = some ⟨oc, od, .func (Calls.docDef name params body scope pm cdv doc), osl⟩) (hcd : codeIn KF cdv name = true)
    (hbind : bindArgs (Calls.docDef name params body scope pm cdv doc) ⟨args, []⟩ = pure binds)
    (hkind : (binds.all fun y => scope.names.lookup y.1 == some .local || scope.names.lookup y.1 == some .cell) = true)
    (hnd : ((cellsFrom 0 scope.names []).map (·.1)).Nodup)
    (hm : ∀ L, bindL (envOfC name scope L f cdv).kindOf binds (fun _ => none) = m) (hc : ∀ L, bindC (envOfC name scope L f cdv).kindOf binds (fun _ => none) = fun _ => none) (hcf : ∀ n, cellsFrom n scope.names [] = [(n2, n + 1), (n1, n)])
    (h : ∀ L h₁ tk o1 o2, Fr s.heap L h₁ m → News s.heap L h₁ [(L + 1 + 1, o2), (L + 1, o1)] → o2.data = .cell none → o1.data = .cell none →
      wpAny (model prog w) (A.deeper (envX name scope L f cdv [(n2, L + 1 + 1), (n1, L + 1)])) (execs body (envX name scope L f cdv [(n2, L + 1 + 1), (n1, L + 1)]))
        (fun f s' => R (.ok (.ret (match f with | .ret v => v | _ => .none))) s')
        (fun e s' => wpAny (model prog w) (A.deeper (envX name scope L f cdv [(n2, L + 1 + 1), (n1, L + 1)])) (leaving (envX name scope L f cdv [(n2, L + 1 + 1), (n1, L + 1)]) e) (fun _ s'' => R (.error e) s'') (fun e' s'' => R (.error e') s'') s')
        { s with heap := h₁, toks := tk })
    (hco : scope.isCoroutine = false) (hgen : scope.isGenerator = false) (hk : scope.kind = .function) : codeAny (model prog w) A (.call (.ref f) ⟨args, []⟩) R s := by
  refine call_cellsN hroom (X₀ _ _ ho) rfl T.nolimit (codeRec_of X₀ hcd) hbind (kindsX hkind _) hnd (fun h₁ tk cells F N Y => ?_) hco hgen hk
  rw [hm] at F
  rw [hc, hcf] at Y
  obtain ⟨o2, o1, e, d2, d1⟩ := CellsAre.two Y
  subst e
  have := h _ h₁ tk o1 o2 F N d2 d1
  rw [← hcf] at this
  exact this
end
def wordsS : List Str := [Str.ofString "", Str.ofString "abc", Str.ofString "-", Str.ofString "+x", Str.ofString " ", Str.ofString ".5"]
theorem words_all {a b c d e f : Tok} : ∀ v ∈ [Value.str (Str.ofString "") a, .str (Str.ofString "abc") b, .str (Str.ofString "-") c, .str (Str.ofString "+x") d, .str (Str.ofString " ") e, .str (Str.ofString ".5") f], ∃ x t, v = Value.str x t ∧ x ∈ wordsS := by
  intro v hv
  simp only [List.mem_cons, List.not_mem_nil, or_false] at hv
  rcases hv with rfl | rfl | rfl | rfl | rfl | rfl <;> exact ⟨_, _, rfl, by unfold wordsS; simp⟩
theorem nt_zero {X : Str} {wd : Int} (h : KStt.codes (Txt.slice X (some (nhS X : Int)) (some (nhB X : Int))) = []) : ntV X wd = 0 := by
  have z : ntA X wd = 0 := by unfold ntA; rw [h]; rfl
  have w0 : wrapN 0 wd = 0 := by
    have := hp_pos wd
    exact wrap_in (by omega) (by omega)
  unfold ntV
  rw [z]
  split
  · exact w0
  · exact w0
theorem word_facts {X : Str} (h : X ∈ wordsS) (wd : Int) : ntV X wd = 0 ∧ lnV X = false ∧ X.length ≤ 1000 ∧ (X != Str.ofString "" && X != Str.ofString "0") = (X != Str.ofString "") := by
  have a := (by decide +kernel : ∀ x ∈ wordsS, KStt.codes (Txt.slice x (some (nhS x : Int)) (some (nhB x : Int))) = [] ∧ lnV x = false ∧ x.length ≤ 1000 ∧ (x != Str.ofString "" && x != Str.ofString "0") = (x != Str.ofString "")) X h
  exact ⟨nt_zero a.1, a.2⟩
section
variable {w : World} {news : CbLed} {kt sl : Addr} {p : Program} {loose : List Str} {mean : ExcName → Option Value} {mg mb : Str → Option Value}
theorem news_pull3 {h₀ h : Heap} {L : Addr} {a b c d : Addr × Obj} {l : CbLed} (N : News h₀ L h (a :: b :: c :: d :: l)) : News h₀ L h (d :: a :: b :: c :: l) := fun p hp => N p (by
  simp only [List.mem_cons] at hp ⊢
  rcases hp with q | q | q | q | q <;> simp [q])
theorem news_pull5 {h₀ h : Heap} {L : Addr} {a b c d e f : Addr × Obj} {l : CbLed} (N : News h₀ L h (a :: b :: c :: d :: e :: f :: l)) : News h₀ L h (f :: a :: b :: c :: d :: e :: l) := fun p hp => N p (by
  simp only [List.mem_cons] at hp ⊢
  rcases hp with q | q | q | q | q | q | q <;> simp [q])
def LimAt (P : Params) (oD : Obj) (wd : Int) : Prop := ∃ (tw k1 k2 k3 k4 k5 v2 v3 v4 v5 : Tok), oD = limO P wd tw k1 k2 k3 k4 k5 v2 v3 v4 v5
theorem lim_of {P : Params} {lx dx : Addr} {oD : Obj} {wd : Int} (h : LimAt P oD wd) (h1 : (lx, instObj 449 dx) ∈ news) (h2 : (dx, oD) ∈ news) : LimIn P news lx wd := by
  obtain ⟨tw, k1, k2, k3, k4, k5, v2, v3, v4, v5, e⟩ := h
  subst e
  exact ⟨dx, tw, k1, k2, k3, k4, k5, v2, v3, v4, v5, h1, h2⟩
theorem abs_led {G : Prop} {P : Params} {h₀ h : Heap} {L x d k : Addr} {oD0 ok : Obj} {a b c : Addr × Obj} {wd : Int} (N : News h₀ L h [(x, instObj 449 d), (d, oD0), (k, ok), a, b, c]) (hl : LimAt P oD0 wd) (hne : ∀ p ∈ [(x, instObj 449 d), (d, oD0), a, b, c], p.1 ≠ k)
    (go : ∀ oD, LimAt P oD wd → (∀ p ∈ [(x, instObj 449 d), (d, oD), a, b, c], p.1 ≠ k) → News h₀ L h [(k, ok), (x, instObj 449 d), (d, oD), a, b, c] → G) : G := go _ hl hne (news_swap2 N)
theorem ClR.use {c : Int} {lvl : Nat} {f : Addr} {vs : List Value} {dp un : Nat} {gd : Option (List Code)} {cn : Str} {cs : Scope} {a : Addr} {ccd : Value} {cl : List (Str × Addr)} {outer : List Env} {A₀ : Around} {base h₀ : Heap} {L : Addr} {m : Str → Option Value} {s : Shared} {tc : Tok} {n : Nat} {Q E : Value → Shared → Prop}
    (C : ClR w lvl f news kt sl c vs) (B : Below A₀ base outer h₀) (F : Fr h₀ L s.heap m) (X : (K w.params).In h₀) (N : News h₀ L s.heap ((kt, kelO sl c tc n) :: news)) (hn : ∀ p ∈ news, p.1 ≠ kt) (T : Top p loose mean mg mb h₀) (hk : cs.kind = .function) (hd : dp + lvl < recursionLimit) (hu : un + 8 * lvl < cLine)
    (ret : ∀ (c' : Int) (tc' : Tok) (n' : Nat) (h' : Heap) (tk' : Nat), c ≤ c' ∧ c' ≤ c + 4 → Fr h₀ L h' m → News h₀ L h' ((kt, kelO sl c' tc' n') :: news) → Q (.bool true) { s with heap := h', toks := tk' }) : wpAny (model PR w) (ktrTop dp un gd cn cs L a ccd cl outer) (call (.ref f) vs) Q E s :=
  C _ _ _ _ _ _ _ _ _ _ _ _ _ _ _ _ _ _ _ B F X N hn T hk hd hu ret
theorem c_amount' {c wd : Int} {tm : Tok} {vs : List Value} {ns : List Int} {nn : Nat} (hsl : (sl, listOf vs.toArray nn) ∈ news) (hi : IntsAre vs ns) (hl : ns.length ≤ 100) (hc : 0 ≤ c ∧ c ≤ 900 ∧ 4 ≤ wd ∧ wd ≤ 64) : ClK w 2 470 news kt sl c 2 [.ref kt, .int wd tm] (fun v => ∃ x t, v = .int x t ∧ (-hp wd ≤ x ∧ x < hp wd) ∧ -9223372036854775808 ≤ x ∧ x < 9223372036854775808 ∧ ntV (numT x) wd = x ∧ (numT x).length ≤ 21) := by
  dsimp only [ClK]
  intro p loose mean mg mb dp un gd cn cs a ccd cl outer A₀ base h₀ L m s tc n Q E B F X N hne T hk hd hu hret
  refine c_amount hsl hi hl ⟨hc.1, hc.2.1, by omega, hc.2.2.2⟩ _ _ _ _ _ _ _ _ _ _ _ _ _ _ _ _ _ _ _ B F X N hne T hk hd hu ?_
  rintro v tc' n' h' tk' ⟨x, t, rfl, h1, h2⟩ F' N'
  have q := hp_le hc.2.2.2
  refine hret _ _ _ _ _ ⟨x, t, rfl, ⟨h1, h2⟩, by omega, by omega, (law_num hc.2.2 ⟨h1, h2⟩).1, (numT_len (N := x) ⟨by omega, by omega⟩).2⟩ F' N'
theorem c_op_add0 {a wd : Int} {v : Value} {t1 : Tok} {lx : Addr} (hw : 4 ≤ wd ∧ wd ≤ 64) (ha : -hp wd ≤ a ∧ a < hp wd) (h2 : NA wd v 0) (hL : LimIn w.params news lx wd) : Cl w 8 375 news [.int a t1, v, .ref lx] (fun t => .int a t) := by
  have q := hp_le hw.2
  have e : wrapN (a + 0) wd = a := by rw [Int.add_zero]; exact wrap_in ha.1 ha.2
  have q2 : (fun t => Value.int a t) = fun t => Value.int (wrapN (a + 0) wd) t := by funext t; rw [e]
  rw [q2]
  intro p loose mean mg mb
  exact c_op_add ⟨by omega, hw.2, by omega, by omega, by omega, by omega⟩ (NA.int _ _) h2 hL
end
local macro_rules | `(tactic| walk_at "eval Call") => `(tactic| k_dflt (refine Call_ ?_))
local macro_rules | `(tactic| k_mem) => `(tactic| first | assumption | exact List.Mem.tail _ (by assumption) | exact List.Mem.tail _ (List.Mem.tail _ (by assumption)))
local macro_rules | `(tactic| k_all) => `(tactic| assumption)
local macro_rules | `(tactic| k_ne) => `(tactic| (refine neN ?_; (try dsimp only); first | with_reducible assumption | exact Ne.symm (by with_reducible assumption) | fail))
local macro_rules | `(tactic| walk_at "CompRest") => `(tactic| (with_unfolding_all (refine LCg.CompRest.succ ?_; intro v' I' oI' C' oC' D' m' h' tk' E' hv' hC' hx' F' N' off' ne'; (first | lcg_open hv' | (obtain ⟨t9', hv9'⟩ := hv'; subst hv9')); (try simp only [LCg.Off3, and_true] at off'); (obtain ⟨⟨a1', a2', a3'⟩, ⟨b1', b2', b3'⟩, ⟨c1', c2', c3'⟩, ⟨d1', d2', d3'⟩, ⟨f1', f2', f3'⟩, g1', g2', g3'⟩ := off'); (obtain ⟨n1', n2', n3'⟩ := ne'))))
local macro_rules | `(tactic| walk_at "call ref") => `(tactic| (k_here; (with_reducible show wpAny _ _ (call (Value.ref 463) _) _ _ _); k_dflt ((refine' ClK.use (c_stir ?ks ?ki ?kz ?kp) ?k1 ?k2 ?k3 ?k4 ?kn ?k5 ?kK ?kd ?ku ?_); (case k1 => k_asm); (case k2 => k_asm); (case k3 => k_asm); (case k4 => first | k_asm | exact news_swap (by k_asm) | exact news_swap2 (by k_asm) | exact news_pull3 (by k_asm) | exact news_pull5 (by k_asm)); (case kn => k_all); (case k5 => k_asm); (case kK => first | exact rfl | assumption); (case kd => ktr_room); (case ku => ktr_units); (case ki => assumption); (case ks => first | assumption | k_mem); (case kz => omega); (case kp => exact ⟨by omega, by omega, by omega, by omega⟩); intro v9 tc9 n9 h9 tk9 P9 F9 N9; obtain ⟨x9, t9, e9, lo9, hi9⟩ := P9; subst e9; (try dsimp only); (try k_sweep); (try k_fold))))
local macro_rules | `(tactic| walk_at "call ref") => `(tactic| (k_here; (with_reducible show wpAny _ _ (call (Value.ref 470) _) _ _ _); k_dflt ((refine' ClK.use (c_amount' ?ks ?ki ?kz ?kp) ?k1 ?k2 ?k3 ?k4 ?kn ?k5 ?kK ?kd ?ku ?_); (case k1 => k_asm); (case k2 => k_asm); (case k3 => k_asm); (case k4 => first | k_asm | exact news_swap (by k_asm) | exact news_swap2 (by k_asm) | exact news_pull3 (by k_asm) | exact news_pull5 (by k_asm)); (case kn => k_all); (case k5 => k_asm); (case kK => first | exact rfl | assumption); (case kd => ktr_room); (case ku => ktr_units); (case ki => assumption); (case ks => first | assumption | k_mem); (case kz => omega); (case kp => exact ⟨by omega, by omega, by omega, by omega⟩); intro v9 tc9 n9 h9 tk9 P9 F9 N9; obtain ⟨x9, t9, e9, P9, lo9, hi9, nt9, nl9⟩ := P9; subst e9; (try dsimp only); (try k_sweep); (try k_fold))))
local macro_rules | `(tactic| walk_at "call ref") => `(tactic| (k_here; (with_reducible show wpAny _ _ (call (Value.ref 491) _) _ _ _); k_dflt ((refine' ClR.use (c_is_read ?ks ?ki ?kz ?kc ?kw ?ka ?kl) ?k1 ?k2 ?k3 ?k4 ?kn ?k5 ?kK ?kd ?ku ?_); (case k1 => k_asm); (case k2 => k_asm); (case k3 => k_asm); (case k4 => first | k_asm | exact news_swap (by k_asm) | exact news_swap2 (by k_asm) | exact news_pull3 (by k_asm) | exact news_pull5 (by k_asm)); (case kn => k_all); (case k5 => k_asm); (case kK => first | exact rfl | assumption); (case kd => ktr_room); (case ku => ktr_units); (case kl => first | with_reducible assumption | exact lim_of (by with_reducible assumption) (by (repeat (first | exact List.Mem.head _ | with_reducible apply List.mem_append_right | with_reducible apply List.mem_cons_of_mem))) (by (repeat (first | exact List.Mem.head _ | with_reducible apply List.mem_append_right | with_reducible apply List.mem_cons_of_mem)))); (case ki => assumption); (case ks => first | assumption | k_mem); (case kz => omega); (case ka => with_reducible assumption); (case kc => exact ⟨by omega, by omega⟩); (case kw => exact ⟨by omega, by omega⟩); intro c9 tc9 n9 h9 tk9 lo9 F9 N9; (try dsimp only); (try k_sweep); (try k_fold))))
local macro_rules | `(tactic| walk_at "call ref") => `(tactic| (k_here; (with_reducible show wpAny _ _ (call (Value.ref 498) _) _ _ _); k_dflt ((refine' Cl.use (c_is_ordered ?kw ?ka ?kb ?kc ?kl) ?k1 ?k2 ?k3 ?k4 ?k5 ?kK ?kd ?ku ?_); (case k1 => k_asm); (case k2 => k_asm); (case k3 => k_asm); (case k4 => k_asm); (case k5 => k_asm); (case kK => first | exact rfl | assumption); (case kd => ktr_room); (case ku => ktr_units); (case kl => first | with_reducible assumption | exact lim_of (by with_reducible assumption) (by (repeat (first | exact List.Mem.head _ | with_reducible apply List.mem_append_right | with_reducible apply List.mem_cons_of_mem))) (by (repeat (first | exact List.Mem.head _ | with_reducible apply List.mem_append_right | with_reducible apply List.mem_cons_of_mem)))); (case ka => with_reducible assumption); (case kb => with_reducible assumption); (case kc => with_reducible assumption); (case kw => exact ⟨by omega, by omega⟩); intro t9 h9 tk9 F9 N9; (try dsimp only); (try k_sweep); (try k_fold))))
local macro_rules | `(tactic| walk_at "call ref") => `(tactic| (k_here; (with_reducible show wpAny _ _ (call (Value.ref 505) _) _ _ _); k_dflt ((refine' Cl.use (c_is_joined ?kw ?kl) ?k1 ?k2 ?k3 ?k4 ?k5 ?kK ?kd ?ku ?_); (case k1 => k_asm); (case k2 => k_asm); (case k3 => k_asm); (case k4 => k_asm); (case k5 => k_asm); (case kK => first | exact rfl | assumption); (case kd => ktr_room); (case ku => ktr_units); (case kl => first | with_reducible assumption | exact lim_of (by with_reducible assumption) (by (repeat (first | exact List.Mem.head _ | with_reducible apply List.mem_append_right | with_reducible apply List.mem_cons_of_mem))) (by (repeat (first | exact List.Mem.head _ | with_reducible apply List.mem_append_right | with_reducible apply List.mem_cons_of_mem)))); (case kw => exact ⟨by omega, by omega⟩); intro t9 h9 tk9 F9 N9; (try dsimp only); (try k_sweep); (try k_fold))))
local macro_rules | `(tactic| walk_at "call ref") => `(tactic| (k_here; (with_reducible show wpAny _ _ (call (Value.ref 284) _) _ _ _); k_dflt ((refine' Cl.use (c_to_text ?kt) ?k1 ?k2 ?k3 ?k4 ?k5 ?kK ?kd ?ku ?_); (case k1 => k_asm); (case k2 => k_asm); (case k3 => k_asm); (case k4 => k_asm); (case k5 => k_asm); (case kK => first | exact rfl | assumption); (case kd => ktr_room); (case ku => ktr_units); (case kt => exact TA.int _ _ ⟨by omega, by omega⟩); intro t9 h9 tk9 F9 N9; (try dsimp only); (try k_sweep); (try k_fold))))
local macro_rules | `(tactic| walk_at "call ref") => `(tactic| (k_here; (with_reducible show wpAny _ _ (call (Value.ref 484) _) _ _ _); k_dflt ((refine' Cl0.use (c_reck ?ko ?kw ?ka ?kb ?kx ?ky ?kl) ?k1 ?k2 ?k3 ?k4 ?k5 ?kK ?kd ?ku ?_); (case k1 => k_asm); (case k2 => k_asm); (case k3 => k_asm); (case k4 => k_asm); (case k5 => k_asm); (case kK => first | exact rfl | assumption); (case kd => ktr_room); (case ku => ktr_units); (case kl => first | with_reducible assumption | exact lim_of (by with_reducible assumption) (by (repeat (first | exact List.Mem.head _ | with_reducible apply List.mem_append_right | with_reducible apply List.mem_cons_of_mem))) (by (repeat (first | exact List.Mem.head _ | with_reducible apply List.mem_append_right | with_reducible apply List.mem_cons_of_mem)))); (case ko => with_reducible assumption); (case kw => exact ⟨by omega, by omega⟩); (case ka => first | with_reducible assumption | with_reducible exact NA.int _ _ | exact NA.none | exact naTxt (by with_reducible assumption) ⟨by omega, by omega, by omega⟩); (case kb => first | with_reducible assumption | with_reducible exact NA.int _ _ | exact NA.none | exact naTxt (by with_reducible assumption) ⟨by omega, by omega, by omega⟩); (case kx => exact ⟨by omega, by omega⟩); (case ky => exact ⟨by omega, by omega⟩); intro t9 h9 tk9 F9 N9; (try dsimp only); (try k_sweep); (try k_fold))))
local macro_rules | `(tactic| walk_at "call ref") => `(tactic| (k_here; (with_reducible show wpAny _ _ (call (Value.ref 291) _) _ _ _); k_dflt ((refine' Cl.use (c_to_number ?kn ?kl) ?k1 ?k2 ?k3 ?k4 ?k5 ?kK ?kd ?ku ?_); (case k1 => k_asm); (case k2 => k_asm); (case k3 => k_asm); (case k4 => k_asm); (case k5 => k_asm); (case kK => first | exact rfl | assumption); (case kd => ktr_room); (case ku => ktr_units); (case kl => first | with_reducible assumption | exact lim_of (by with_reducible assumption) (by (repeat (first | exact List.Mem.head _ | with_reducible apply List.mem_append_right | with_reducible apply List.mem_cons_of_mem))) (by (repeat (first | exact List.Mem.head _ | with_reducible apply List.mem_append_right | with_reducible apply List.mem_cons_of_mem)))); (case kn => first | with_reducible assumption | with_reducible exact NA.int _ _ | exact NA.none | exact naTxt (by with_reducible assumption) ⟨by omega, by omega, by omega⟩); intro t9 h9 tk9 F9 N9; (try dsimp only); (try k_sweep); (try k_fold))))
local macro_rules | `(tactic| walk_at "call ref") => `(tactic| (k_here; (with_reducible show wpAny _ _ (call (Value.ref 130) _) _ _ _); k_dflt ((refine' Cl.use (c_looks' ?kh ?kb) ?k1 ?k2 ?k3 ?k4 ?k5 ?kK ?kd ?ku ?_); (case k1 => k_asm); (case k2 => k_asm); (case k3 => k_asm); (case k4 => k_asm); (case k5 => k_asm); (case kK => first | exact rfl | assumption); (case kd => ktr_room); (case ku => ktr_units); (case kh => with_reducible assumption); (case kb => first | with_reducible assumption | omega); intro t9 h9 tk9 F9 N9; (try dsimp only); (try k_sweep); (try k_fold))))
local macro_rules | `(tactic| walk_at "call ref") => `(tactic| (k_here; (with_reducible show wpAny _ _ (call (Value.ref 298) _) _ _ _); k_dflt ((refine' Cl.use (c_truth_str' ?kh) ?k1 ?k2 ?k3 ?k4 ?k5 ?kK ?kd ?ku ?_); (case k1 => k_asm); (case k2 => k_asm); (case k3 => k_asm); (case k4 => k_asm); (case k5 => k_asm); (case kK => first | exact rfl | assumption); (case kd => ktr_room); (case ku => ktr_units); (case kh => with_reducible assumption); intro t9 h9 tk9 F9 N9; (try dsimp only); (try k_sweep); (try k_fold))))
local macro_rules | `(tactic| walk_at "call ref") => `(tactic| (k_here; (with_reducible show wpAny _ _ (call (Value.ref 298) [Value.none]) _ _ _); k_dflt ((refine' Cl.use (c_truth_none) ?k1 ?k2 ?k3 ?k4 ?k5 ?kK ?kd ?ku ?_); (case k1 => k_asm); (case k2 => k_asm); (case k3 => k_asm); (case k4 => k_asm); (case k5 => k_asm); (case kK => first | exact rfl | assumption); (case kd => ktr_room); (case ku => ktr_units); intro t9 h9 tk9 F9 N9; (try dsimp only); (try k_sweep); (try k_fold))))
local macro_rules | `(tactic| walk_at "call ref") => `(tactic| (k_here; (with_reducible show wpAny _ _ (call (Value.ref 375) _) _ _ _); k_dflt ((refine' Cl.use (c_op_add0 ?kw ?ka ?kb ?kl) ?k1 ?k2 ?k3 ?k4 ?k5 ?kK ?kd ?ku ?_); (case k1 => k_asm); (case k2 => k_asm); (case k3 => k_asm); (case k4 => k_asm); (case k5 => k_asm); (case kK => first | exact rfl | assumption); (case kd => ktr_room); (case ku => ktr_units); (case kl => first | with_reducible assumption | exact lim_of (by with_reducible assumption) (by (repeat (first | exact List.Mem.head _ | with_reducible apply List.mem_append_right | with_reducible apply List.mem_cons_of_mem))) (by (repeat (first | exact List.Mem.head _ | with_reducible apply List.mem_append_right | with_reducible apply List.mem_cons_of_mem)))); (case ka => with_reducible assumption); (case kb => exact naTxt (by with_reducible assumption) ⟨by omega, by omega, by omega⟩); (case kw => exact ⟨by omega, by omega⟩); intro t9 h9 tk9 F9 N9; (try dsimp only); (try k_sweep); (try k_fold))))
local macro_rules | `(tactic| walk_at "call ref") => `(tactic| (k_here; (with_reducible show wpAny _ _ (call (Value.ref 417) _) _ _ _); k_dflt ((refine' ClO.use c_ops ?k1 ?k2 ?k3 ?k4 ?k5 ?kK ?kd ?ku ?_); (case k1 => k_asm); (case k2 => k_asm); (case k3 => k_asm); (case k4 => k_asm); (case k5 => k_asm); (case kK => first | exact rfl | assumption); (case kd => ktr_room); (case ku => ktr_units); intro D9 o9 h9 tk9 F9 M9 N9 I9; (try dsimp only); (try k_sweep); (try k_fold))))
local macro_rules | `(tactic| walk_at "getItem ref str") => `(tactic| (k_here; k_dflt (refine kdt_getItem (knd := PySem.strKind _ _) (by k_asm) (by exact List.Mem.head _) (by k_asm) (strKind_is _ _ _ _) (OpAt.val (by assumption)) ?_)))
local macro_rules | `(tactic| walk_at "subscriptTail") => `(tactic| (k_here; ((with_reducible show wpAny _ _ (subscriptTail _ _ (Value.ref _) (Value.str _ _)) _ _ _); k_dflt (refine kdt_tail (knd := PySem.strKind _ _) (by k_asm) (by exact List.Mem.head _) (by k_asm) ?_))))
local macro_rules | `(tactic| walk_at "callWith ref") => `(tactic| (k_here; (with_reducible show wpAny _ _ (callWith (Value.ref 375) _) _ _ _); k_dflt (refine' callWith_K ?k1 ?kk ?_; (case k1 => k_asm); (case kk => exact OpAt.keep (by assumption)); k_whole)))
local macro_rules | `(tactic| walk_at "subscriptTail") => `(tactic| (k_here; (with_reducible show wpAny _ _ (subscriptTail _ _ (Value.ref 454) (Value.int _ _)) _ _ _); k_dflt (refine' tab_strs wordsS ?F ?X ?l ?s ?a ?b ?_; (case F => k_asm); (case X => k_asm); (case l => k_is); (case s => exact words_all); (case a => exact ⟨by omega, by omega⟩); (case b => exact ltLen (j := 6) (by omega) rfl); k_whole); intro x9 t9 hx9; obtain ⟨wa9, wb9, wc9, wd9⟩ := word_facts hx9 _))
local macro_rules | `(tactic| walk_at "CompSrc") => `(tactic| (k_here; k_dflt (refine LCg.CompSrc.range (by rfl) (by k_asm) (by k_asm) (by assumption) (by first | decide | rfl) (by first | rfl | decide) (by first | size_fits | exact Nat.le_of_ble_eq_true rfl) ?_; intro g'; lcg_lit)))
local macro_rules | `(tactic| walk_at "compareOp NotEq") => `(tactic| with_reducible refine rk_same ?_)
local macro_rules | `(tactic| walk_at "compareOp NotEq int int") => `(tactic| with_reducible refine same_ne_int ?_)
local macro_rules | `(tactic| walk_at "compareOp Eq int int") => `(tactic| with_reducible refine same_eq_int ?_)
local macro_rules | `(tactic| walk_at "exec For Name Tuple cons nil") => `(tactic| (k_here; (rename Fr _ _ _ _ => lF'); (with_unfolding_all refine' For_invVF lF' ?k1 ?k2 ?_; (case k1 => exact rfl); (case k2 => exact rfl); k_whole)))
local macro_rules | `(tactic| walk_at "TxEnd") => `(tactic| (refine' txend_of ?F ?N ?e; (case F => k_asm); (case N => first | assumption | exact cb_drop (by assumption) (fun p hp => List.Mem.tail _ hp)); (case e => exact chain3_in (fun y a b c => by simp only [if_neg a, if_neg b, if_neg c]))))
local macro_rules | `(tactic| walk_at "pyIter ref") => `(tactic| (k_here; (with_reducible show wpAny _ _ (pyIter (Value.ref _)) (fun it s₂ => LoopAtV _ _ _ _ _ _ _ _ _ it s₂) _ _); k_dflt (refine' for_texts fiveOps (Str.ofString "sign") (Str.ofString "first") (Str.ofString "second") ?hh ?hm ?hs ?F ?N (fun x9 t9 u9 v9 h9 tk9 o9 hx9 F9 N9 => ?_) (fun u9 v9 w9 h9 tk9 F9 N9 => ?_); (case F => k_asm); (case N => k_asm); (case hm => k_mem); (case hs => exact fiveOps_all); (case hh => rfl))))
section
variable {w : World} {s : Shared} {p : Program} {loose : List Str} {mean : ExcName → Option Value} {mg mb : Str → Option Value} {R : Result → Shared → Prop}
theorem c_law {lst : Addr} {vs : List Value} {ns : List Int} (X : (K w.params).In s.heap) (T : Top p loose mean mg mb s.heap) (hlst : s.heap.IsList lst vs.toArray) (hi : IntsAre vs ns) (hl : ns.length ≤ 63)
    (ret : ∀ h' tk', (∀ b o, s.heap.get? b = some o → h'.get? b = some o) → R (.ok (.ret (.bool true))) { s with heap := h', toks := tk' }) : codeAny (model PR w) callerA (.call (.ref 510) ⟨[.ref lst], []⟩) R s := by
  have K0 := below_caller s.heap
  k_dflt (refine' code_top (binds := [(Str.ofString "script", .ref lst)]) (m := fun y => if y = Str.ofString "script" then some (.ref lst) else none) ?x ?t ?r ?ho ?hcd ?hb ?hk ?hn ?hm ?hc ?hcf ?_ ?g1 ?g2 ?g3; (case x => exact X); (case t => exact T); (case ho => exact rfl); (case r => decide); (case hcd => exact rfl); (case hb => exact rfl); (case hk => kernel_rfl); (case hn => decide +kernel); (case hm => intro L; exact rfl); (case hc => intro L; exact rfl); (case hcf => intro n; exact rfl); (case g1 => exact rfl); (case g2 => exact rfl); (case g3 => exact rfl))
  intro L h₁ tk o1 o2 F N d2 d1
  obtain ⟨o8, hob8, hdb8⟩ := id hlst
  have hA8 : OpAt w (Str.ofString "+") 375 := at_add
  have w0 : (Str.ofString "" != Str.ofString "" && Str.ofString "" != Str.ofString "0") = false := by decide +kernel
  have w1 : (Str.ofString "0" != Str.ofString "" && Str.ofString "0" != Str.ofString "0") = false := by decide +kernel
  repeat' (first | (k_unfold; (try dsimp only)) | ((fail_if_success (with_reducible show wpAny _ _ (eval (Expr.ListComp _ _ _ _) _) _ _ _)); (first | walk1 | (dsimp only; walk1) | (leave1; walk_say "STEP leave1"; try dsimp only))))
  refine abs_led (by assumption) ⟨_, _, _, _, _, _, _, _, _, _, rfl⟩ (by k_all) fun oD8 hL8 hA8 N8 => ?_
  k_steps
  all_goals (rw [beq_self_eq_true]; exact ret _ _ (Fr.keep (by assumption)))
end
end Mine
end
section
open PySem PySem.W PyProof.Rows
set_option Elab.async false
set_option maxRecDepth 100000
set_option maxHeartbeats 4000000
namespace Mine
open Hd
theorem m_chains : chainsOk QX = true := by decide +kernel
theorem m_opens : opensWell RX.prog = true := by decide +kernel
theorem m_frees : (frees RX.toRowW && RX.within.isEmpty) = true := by decide +kernel
theorem m_bare : RX.prog.bare := ⟨rfl, rfl, rfl, rfl, rfl, by decide +kernel⟩
theorem m_prom : RX.toRowW.promised := by w_witness2
theorem m_walk (d : DefRec) (kwd : List (Str × Expr)) (hn : d.name = Str.ofString "law") : WalkO QX looseX (XL QX []) HX.says RX.toRowW d kwd fun f vs => PySem.call f vs := by
  intro w s₀ s₁ mg mb G Y fa o pm cd doc dV kV ho hd hcd hD hmg hg args vals as hpre hlay hrd hwl hlo
  have KX := kIn_of Y
  refine Ground.open G ?_
  intro T B D TE TW
  have e : fa = 510 := by
    have e1 := mg_of (n := Str.ofString "law") (v := .ref 510) KX T.g (by kernel_rfl)
    rw [hn] at hmg
    rw [hmg] at e1
    injection e1 with e2
    injection e2 with e3
  subst e
  clear hmg D TE TW B ho hd hcd hD
  wrow_args hpre hlay hrd hwl hlo
  all_goals (
    refine enter_call (c_law KX T (by assumption) (by assumption) (by omega) fun h' tk' keep => ?_)
    exact GoodW.toG ⟨.inl ⟨.bool true, .bool true, [], rfl, fun cls => rfl, readsW_of_reads (.bool true), by first | exact postW_of (by wrow_shape) (by wtm_val) (by first | rfl | (str_meet; first | done | w_fin)) | kernel_rfl, fun _ => ⟨.nil, fun _ ha => nomatch ha⟩⟩, keep, rfl, hg⟩)
theorem m_ok : (chainsOk QX && opensWell RX.prog && (frees RX.toRowW && RX.within.isEmpty)) = true := by rw [m_chains, m_opens, m_frees]; rfl
end Mine
end
end Mine
open Mine Mine.Mine Mine.Mine.Hd
theorem PySem.Challenge.cw_sa0532_01_holds : PySem.Challenge.rw_sa0532_01.Holds := by
  refine holds_law m_said fun said => ?_
  exact holds_open (q := QX) (loose := looseX) (Xt := XtX) (XP := XL QX []) (Yf := HX.obs) (Ya := HX.val) (YP := HX.says) (N := 4000) h_left (Hook.of HX) (Hook.keeps HX) (fun s e => xl_of s (Bool.and_eq_true_iff.mp e).1) XL.keeps (by rfl) (by rfl) (by rfl) (fun s e => recFacts_of (Bool.and_eq_true_iff.mp e).2) (by rfl) said m_ok m_bare m_prom (m_walk _ _ rfl)
