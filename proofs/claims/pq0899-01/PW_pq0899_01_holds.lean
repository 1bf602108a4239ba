import PyProof.Rows.All
import Wide.All
import OpenK.AllK
import Wide.FinOn
import Lean
import PySem.Challenge.RW_pq0899_01
open PySem PySem.W PySem.Calls PySem.Spec PyProof.Rows
set_option Elab.async false
set_option maxRecDepth 100000
set_option maxHeartbeats 8000000
set_option rowWalk.seconds 0
set_option linter.unusedVariables false

-- part B0
namespace Mine
noncomputable section
/-- the defs of the text, by their place in it -/
def stPass : Stmt := .Pass ⟨0, 0, 0, 0⟩
def fA : Stmt → Arguments | .FunctionDef _ a _ _ _ _ _ _ _ _ => a | _ => { posonlyargs := [], args := [], vararg := none, kwonlyargs := [], kw_defaults := [], kwarg := none, defaults := [] }
def fB : Stmt → List Stmt | .FunctionDef _ _ b _ _ _ _ _ _ _ => b | _ => []
def fS : Stmt → Scope | .FunctionDef _ _ _ _ _ _ s _ _ _ => s | _ => { kind := .function, names := [], isGenerator := false, isCoroutine := false, more := [] }
def cB : Stmt → List Stmt | .ClassDef (body := b) .. => b | _ => []
def t1 (i : Nat) : Stmt := PySem.Challenge.pw_pq0899_01.main.body.getD i stPass
def t2 (i j : Nat) : Stmt := (cB (t1 i)).getD j stPass
theorem eA_21_0 : fA (t1 21) = (by refine' (fun (b : Arguments) (_ : b = fA (t1 21)) => b) _ ?h; (case h => conv => rhs; whnf)) := rfl
theorem eA_22_0 : fA (t1 22) = (by refine' (fun (b : Arguments) (_ : b = fA (t1 22)) => b) _ ?h; (case h => conv => rhs; whnf)) := rfl
theorem eA_23_0 : fA (t1 23) = (by refine' (fun (b : Arguments) (_ : b = fA (t1 23)) => b) _ ?h; (case h => conv => rhs; whnf)) := rfl
theorem eA_24_0 : fA (t1 24) = (by refine' (fun (b : Arguments) (_ : b = fA (t1 24)) => b) _ ?h; (case h => conv => rhs; whnf)) := rfl
theorem eA_25_0 : fA (t1 25) = (by refine' (fun (b : Arguments) (_ : b = fA (t1 25)) => b) _ ?h; (case h => conv => rhs; whnf)) := rfl
theorem eA_26_0 : fA (t1 26) = (by refine' (fun (b : Arguments) (_ : b = fA (t1 26)) => b) _ ?h; (case h => conv => rhs; whnf)) := rfl
theorem eA_27_0 : fA (t1 27) = (by refine' (fun (b : Arguments) (_ : b = fA (t1 27)) => b) _ ?h; (case h => conv => rhs; whnf)) := rfl
theorem eA_28_0 : fA (t1 28) = (by refine' (fun (b : Arguments) (_ : b = fA (t1 28)) => b) _ ?h; (case h => conv => rhs; whnf)) := rfl
theorem eA_29_0 : fA (t1 29) = (by refine' (fun (b : Arguments) (_ : b = fA (t1 29)) => b) _ ?h; (case h => conv => rhs; whnf)) := rfl
theorem eA_30_0 : fA (t1 30) = (by refine' (fun (b : Arguments) (_ : b = fA (t1 30)) => b) _ ?h; (case h => conv => rhs; whnf)) := rfl
theorem eA_32_0 : fA (t1 32) = (by refine' (fun (b : Arguments) (_ : b = fA (t1 32)) => b) _ ?h; (case h => conv => rhs; whnf)) := rfl
theorem eA_33_0 : fA (t1 33) = (by refine' (fun (b : Arguments) (_ : b = fA (t1 33)) => b) _ ?h; (case h => conv => rhs; whnf)) := rfl
theorem eA_34_0 : fA (t1 34) = (by refine' (fun (b : Arguments) (_ : b = fA (t1 34)) => b) _ ?h; (case h => conv => rhs; whnf)) := rfl
theorem eA_35_0 : fA (t1 35) = (by refine' (fun (b : Arguments) (_ : b = fA (t1 35)) => b) _ ?h; (case h => conv => rhs; whnf)) := rfl
theorem eA_36_0 : fA (t1 36) = (by refine' (fun (b : Arguments) (_ : b = fA (t1 36)) => b) _ ?h; (case h => conv => rhs; whnf)) := rfl
theorem eA_37_0 : fA (t1 37) = (by refine' (fun (b : Arguments) (_ : b = fA (t1 37)) => b) _ ?h; (case h => conv => rhs; whnf)) := rfl
theorem eA_1_0 : fA (t2 1 0) = (by refine' (fun (b : Arguments) (_ : b = fA (t2 1 0)) => b) _ ?h; (case h => conv => rhs; whnf)) := rfl
theorem eA_16_0 : fA (t2 16 0) = (by refine' (fun (b : Arguments) (_ : b = fA (t2 16 0)) => b) _ ?h; (case h => conv => rhs; whnf)) := rfl
theorem eA_17_0 : fA (t2 17 0) = (by refine' (fun (b : Arguments) (_ : b = fA (t2 17 0)) => b) _ ?h; (case h => conv => rhs; whnf)) := rfl
theorem eA_18_0 : fA (t2 18 0) = (by refine' (fun (b : Arguments) (_ : b = fA (t2 18 0)) => b) _ ?h; (case h => conv => rhs; whnf)) := rfl
theorem eA_19_0 : fA (t2 19 0) = (by refine' (fun (b : Arguments) (_ : b = fA (t2 19 0)) => b) _ ?h; (case h => conv => rhs; whnf)) := rfl
theorem eA_20_0 : fA (t2 20 0) = (by refine' (fun (b : Arguments) (_ : b = fA (t2 20 0)) => b) _ ?h; (case h => conv => rhs; whnf)) := rfl
theorem eA_20_1 : fA (t2 20 1) = (by refine' (fun (b : Arguments) (_ : b = fA (t2 20 1)) => b) _ ?h; (case h => conv => rhs; whnf)) := rfl
theorem eA_20_2 : fA (t2 20 2) = (by refine' (fun (b : Arguments) (_ : b = fA (t2 20 2)) => b) _ ?h; (case h => conv => rhs; whnf)) := rfl
theorem eA_20_3 : fA (t2 20 3) = (by refine' (fun (b : Arguments) (_ : b = fA (t2 20 3)) => b) _ ?h; (case h => conv => rhs; whnf)) := rfl
theorem eA_20_4 : fA (t2 20 4) = (by refine' (fun (b : Arguments) (_ : b = fA (t2 20 4)) => b) _ ?h; (case h => conv => rhs; whnf)) := rfl
theorem eA_20_5 : fA (t2 20 5) = (by refine' (fun (b : Arguments) (_ : b = fA (t2 20 5)) => b) _ ?h; (case h => conv => rhs; whnf)) := rfl
theorem eA_20_6 : fA (t2 20 6) = (by refine' (fun (b : Arguments) (_ : b = fA (t2 20 6)) => b) _ ?h; (case h => conv => rhs; whnf)) := rfl
theorem eA_20_7 : fA (t2 20 7) = (by refine' (fun (b : Arguments) (_ : b = fA (t2 20 7)) => b) _ ?h; (case h => conv => rhs; whnf)) := rfl
theorem eA_3_0 : fA (t2 3 0) = (by refine' (fun (b : Arguments) (_ : b = fA (t2 3 0)) => b) _ ?h; (case h => conv => rhs; whnf)) := rfl
theorem eB_21_0 : fB (t1 21) = (by refine' (fun (b : List Stmt) (_ : b = fB (t1 21)) => b) _ ?h; (case h => conv => rhs; whnf)) := rfl
theorem eB_22_0 : fB (t1 22) = (by refine' (fun (b : List Stmt) (_ : b = fB (t1 22)) => b) _ ?h; (case h => conv => rhs; whnf)) := rfl
theorem eB_23_0 : fB (t1 23) = (by refine' (fun (b : List Stmt) (_ : b = fB (t1 23)) => b) _ ?h; (case h => conv => rhs; whnf)) := rfl
theorem eB_24_0 : fB (t1 24) = (by refine' (fun (b : List Stmt) (_ : b = fB (t1 24)) => b) _ ?h; (case h => conv => rhs; whnf)) := rfl
theorem eB_25_0 : fB (t1 25) = (by refine' (fun (b : List Stmt) (_ : b = fB (t1 25)) => b) _ ?h; (case h => conv => rhs; whnf)) := rfl
theorem eB_26_0 : fB (t1 26) = (by refine' (fun (b : List Stmt) (_ : b = fB (t1 26)) => b) _ ?h; (case h => conv => rhs; whnf)) := rfl
theorem eB_27_0 : fB (t1 27) = (by refine' (fun (b : List Stmt) (_ : b = fB (t1 27)) => b) _ ?h; (case h => conv => rhs; whnf)) := rfl
theorem eB_28_0 : fB (t1 28) = (by refine' (fun (b : List Stmt) (_ : b = fB (t1 28)) => b) _ ?h; (case h => conv => rhs; whnf)) := rfl
theorem eB_29_0 : fB (t1 29) = (by refine' (fun (b : List Stmt) (_ : b = fB (t1 29)) => b) _ ?h; (case h => conv => rhs; whnf)) := rfl
theorem eB_30_0 : fB (t1 30) = (by refine' (fun (b : List Stmt) (_ : b = fB (t1 30)) => b) _ ?h; (case h => conv => rhs; whnf)) := rfl
theorem eB_32_0 : fB (t1 32) = (by refine' (fun (b : List Stmt) (_ : b = fB (t1 32)) => b) _ ?h; (case h => conv => rhs; whnf)) := rfl
theorem eB_33_0 : fB (t1 33) = (by refine' (fun (b : List Stmt) (_ : b = fB (t1 33)) => b) _ ?h; (case h => conv => rhs; whnf)) := rfl
theorem eB_34_0 : fB (t1 34) = (by refine' (fun (b : List Stmt) (_ : b = fB (t1 34)) => b) _ ?h; (case h => conv => rhs; whnf)) := rfl
theorem eB_35_0 : fB (t1 35) = (by refine' (fun (b : List Stmt) (_ : b = fB (t1 35)) => b) _ ?h; (case h => conv => rhs; whnf)) := rfl
theorem eB_36_0 : fB (t1 36) = (by refine' (fun (b : List Stmt) (_ : b = fB (t1 36)) => b) _ ?h; (case h => conv => rhs; whnf)) := rfl
theorem eB_37_0 : fB (t1 37) = (by refine' (fun (b : List Stmt) (_ : b = fB (t1 37)) => b) _ ?h; (case h => conv => rhs; whnf)) := rfl
theorem eB_1_0 : fB (t2 1 0) = (by refine' (fun (b : List Stmt) (_ : b = fB (t2 1 0)) => b) _ ?h; (case h => conv => rhs; whnf)) := rfl
theorem eB_16_0 : fB (t2 16 0) = (by refine' (fun (b : List Stmt) (_ : b = fB (t2 16 0)) => b) _ ?h; (case h => conv => rhs; whnf)) := rfl
theorem eB_17_0 : fB (t2 17 0) = (by refine' (fun (b : List Stmt) (_ : b = fB (t2 17 0)) => b) _ ?h; (case h => conv => rhs; whnf)) := rfl
theorem eB_18_0 : fB (t2 18 0) = (by refine' (fun (b : List Stmt) (_ : b = fB (t2 18 0)) => b) _ ?h; (case h => conv => rhs; whnf)) := rfl
theorem eB_19_0 : fB (t2 19 0) = (by refine' (fun (b : List Stmt) (_ : b = fB (t2 19 0)) => b) _ ?h; (case h => conv => rhs; whnf)) := rfl
theorem eB_20_0 : fB (t2 20 0) = (by refine' (fun (b : List Stmt) (_ : b = fB (t2 20 0)) => b) _ ?h; (case h => conv => rhs; whnf)) := rfl
theorem eB_20_1 : fB (t2 20 1) = (by refine' (fun (b : List Stmt) (_ : b = fB (t2 20 1)) => b) _ ?h; (case h => conv => rhs; whnf)) := rfl
theorem eB_20_2 : fB (t2 20 2) = (by refine' (fun (b : List Stmt) (_ : b = fB (t2 20 2)) => b) _ ?h; (case h => conv => rhs; whnf)) := rfl
theorem eB_20_3 : fB (t2 20 3) = (by refine' (fun (b : List Stmt) (_ : b = fB (t2 20 3)) => b) _ ?h; (case h => conv => rhs; whnf)) := rfl
theorem eB_20_4 : fB (t2 20 4) = (by refine' (fun (b : List Stmt) (_ : b = fB (t2 20 4)) => b) _ ?h; (case h => conv => rhs; whnf)) := rfl
theorem eB_20_5 : fB (t2 20 5) = (by refine' (fun (b : List Stmt) (_ : b = fB (t2 20 5)) => b) _ ?h; (case h => conv => rhs; whnf)) := rfl
theorem eB_20_6 : fB (t2 20 6) = (by refine' (fun (b : List Stmt) (_ : b = fB (t2 20 6)) => b) _ ?h; (case h => conv => rhs; whnf)) := rfl
theorem eB_20_7 : fB (t2 20 7) = (by refine' (fun (b : List Stmt) (_ : b = fB (t2 20 7)) => b) _ ?h; (case h => conv => rhs; whnf)) := rfl
theorem eB_3_0 : fB (t2 3 0) = (by refine' (fun (b : List Stmt) (_ : b = fB (t2 3 0)) => b) _ ?h; (case h => conv => rhs; whnf)) := rfl
theorem eS_21_0 : fS (t1 21) = (by refine' (fun (b : Scope) (_ : b = fS (t1 21)) => b) _ ?h; (case h => conv => rhs; whnf)) := rfl
theorem eS_22_0 : fS (t1 22) = (by refine' (fun (b : Scope) (_ : b = fS (t1 22)) => b) _ ?h; (case h => conv => rhs; whnf)) := rfl
theorem eS_23_0 : fS (t1 23) = (by refine' (fun (b : Scope) (_ : b = fS (t1 23)) => b) _ ?h; (case h => conv => rhs; whnf)) := rfl
theorem eS_24_0 : fS (t1 24) = (by refine' (fun (b : Scope) (_ : b = fS (t1 24)) => b) _ ?h; (case h => conv => rhs; whnf)) := rfl
theorem eS_25_0 : fS (t1 25) = (by refine' (fun (b : Scope) (_ : b = fS (t1 25)) => b) _ ?h; (case h => conv => rhs; whnf)) := rfl
theorem eS_26_0 : fS (t1 26) = (by refine' (fun (b : Scope) (_ : b = fS (t1 26)) => b) _ ?h; (case h => conv => rhs; whnf)) := rfl
theorem eS_27_0 : fS (t1 27) = (by refine' (fun (b : Scope) (_ : b = fS (t1 27)) => b) _ ?h; (case h => conv => rhs; whnf)) := rfl
theorem eS_28_0 : fS (t1 28) = (by refine' (fun (b : Scope) (_ : b = fS (t1 28)) => b) _ ?h; (case h => conv => rhs; whnf)) := rfl
theorem eS_29_0 : fS (t1 29) = (by refine' (fun (b : Scope) (_ : b = fS (t1 29)) => b) _ ?h; (case h => conv => rhs; whnf)) := rfl
theorem eS_30_0 : fS (t1 30) = (by refine' (fun (b : Scope) (_ : b = fS (t1 30)) => b) _ ?h; (case h => conv => rhs; whnf)) := rfl
theorem eS_32_0 : fS (t1 32) = (by refine' (fun (b : Scope) (_ : b = fS (t1 32)) => b) _ ?h; (case h => conv => rhs; whnf)) := rfl
theorem eS_33_0 : fS (t1 33) = (by refine' (fun (b : Scope) (_ : b = fS (t1 33)) => b) _ ?h; (case h => conv => rhs; whnf)) := rfl
theorem eS_34_0 : fS (t1 34) = (by refine' (fun (b : Scope) (_ : b = fS (t1 34)) => b) _ ?h; (case h => conv => rhs; whnf)) := rfl
theorem eS_35_0 : fS (t1 35) = (by refine' (fun (b : Scope) (_ : b = fS (t1 35)) => b) _ ?h; (case h => conv => rhs; whnf)) := rfl
theorem eS_36_0 : fS (t1 36) = (by refine' (fun (b : Scope) (_ : b = fS (t1 36)) => b) _ ?h; (case h => conv => rhs; whnf)) := rfl
theorem eS_37_0 : fS (t1 37) = (by refine' (fun (b : Scope) (_ : b = fS (t1 37)) => b) _ ?h; (case h => conv => rhs; whnf)) := rfl
theorem eS_1_0 : fS (t2 1 0) = (by refine' (fun (b : Scope) (_ : b = fS (t2 1 0)) => b) _ ?h; (case h => conv => rhs; whnf)) := rfl
theorem eS_16_0 : fS (t2 16 0) = (by refine' (fun (b : Scope) (_ : b = fS (t2 16 0)) => b) _ ?h; (case h => conv => rhs; whnf)) := rfl
theorem eS_17_0 : fS (t2 17 0) = (by refine' (fun (b : Scope) (_ : b = fS (t2 17 0)) => b) _ ?h; (case h => conv => rhs; whnf)) := rfl
theorem eS_18_0 : fS (t2 18 0) = (by refine' (fun (b : Scope) (_ : b = fS (t2 18 0)) => b) _ ?h; (case h => conv => rhs; whnf)) := rfl
theorem eS_19_0 : fS (t2 19 0) = (by refine' (fun (b : Scope) (_ : b = fS (t2 19 0)) => b) _ ?h; (case h => conv => rhs; whnf)) := rfl
theorem eS_20_0 : fS (t2 20 0) = (by refine' (fun (b : Scope) (_ : b = fS (t2 20 0)) => b) _ ?h; (case h => conv => rhs; whnf)) := rfl
theorem eS_20_1 : fS (t2 20 1) = (by refine' (fun (b : Scope) (_ : b = fS (t2 20 1)) => b) _ ?h; (case h => conv => rhs; whnf)) := rfl
theorem eS_20_2 : fS (t2 20 2) = (by refine' (fun (b : Scope) (_ : b = fS (t2 20 2)) => b) _ ?h; (case h => conv => rhs; whnf)) := rfl
theorem eS_20_3 : fS (t2 20 3) = (by refine' (fun (b : Scope) (_ : b = fS (t2 20 3)) => b) _ ?h; (case h => conv => rhs; whnf)) := rfl
theorem eS_20_4 : fS (t2 20 4) = (by refine' (fun (b : Scope) (_ : b = fS (t2 20 4)) => b) _ ?h; (case h => conv => rhs; whnf)) := rfl
theorem eS_20_5 : fS (t2 20 5) = (by refine' (fun (b : Scope) (_ : b = fS (t2 20 5)) => b) _ ?h; (case h => conv => rhs; whnf)) := rfl
theorem eS_20_6 : fS (t2 20 6) = (by refine' (fun (b : Scope) (_ : b = fS (t2 20 6)) => b) _ ?h; (case h => conv => rhs; whnf)) := rfl
theorem eS_20_7 : fS (t2 20 7) = (by refine' (fun (b : Scope) (_ : b = fS (t2 20 7)) => b) _ ?h; (case h => conv => rhs; whnf)) := rfl
theorem eS_3_0 : fS (t2 3 0) = (by refine' (fun (b : Scope) (_ : b = fS (t2 3 0)) => b) _ ?h; (case h => conv => rhs; whnf)) := rfl
/-- the objects that stand when the top has run -/
noncomputable def heapK : Params → Frag := fun P =>
  (nat_lit 2, (Obj.mk Value.none none (Data.dict (List.toArray []) 0) (List.toArray []))) ::
  (nat_lit 3, (Obj.mk (Value.type "dict") none (Data.dict (List.toArray [(DictEntry.mk (PyData.keyHash P (Str.ofString "__name__")) (Value.str (Str.ofString "__name__") 165) (Value.str (Str.ofString "law_pq0899_01") 573)), (DictEntry.mk (PyData.keyHash P (Str.ofString "__doc__")) (Value.str (Str.ofString "__doc__") 166) Value.none), (DictEntry.mk (PyData.keyHash P (Str.ofString "__package__")) (Value.str (Str.ofString "__package__") 167) Value.none), (DictEntry.mk (PyData.keyHash P (Str.ofString "__loader__")) (Value.str (Str.ofString "__loader__") 168) (Value.builtin "__main__.__loader__#opaque")), (DictEntry.mk (PyData.keyHash P (Str.ofString "__spec__")) (Value.str (Str.ofString "__spec__") 169) Value.none), (DictEntry.mk (PyData.keyHash P (Str.ofString "__annotations__")) (Value.str (Str.ofString "__annotations__") 170) (Value.ref 6)), (DictEntry.mk (PyData.keyHash P (Str.ofString "__builtins__")) (Value.str (Str.ofString "__builtins__") 171) (Value.ref 4)), (DictEntry.mk (PyData.keyHash P (Str.ofString "__file__")) (Value.str (Str.ofString "__file__") 173) (Value.str (Str.ofString "/claim/cut.py") 172)), (DictEntry.mk (PyData.keyHash P (Str.ofString "__cached__")) (Value.str (Str.ofString "__cached__") 174) Value.none), (DictEntry.mk (PyData.keyHash P (Str.ofString "BoardError")) (Value.str (Str.ofString "BoardError") 216) (Value.ref 32)), (DictEntry.mk (PyData.keyHash P (Str.ofString "BadArgument")) (Value.str (Str.ofString "BadArgument") 232) (Value.ref 45)), (DictEntry.mk (PyData.keyHash P (Str.ofString "BadText")) (Value.str (Str.ofString "BadText") 258) (Value.ref 64)), (DictEntry.mk (PyData.keyHash P (Str.ofString "BLANKS")) (Value.str (Str.ofString "BLANKS") 262) (Value.str (Str.ofString " \t\x0d\n\x0b") 261)), (DictEntry.mk (PyData.keyHash P (Str.ofString "SIGNS")) (Value.str (Str.ofString "SIGNS") 264) (Value.str (Str.ofString "<|>&;()") 263)), (DictEntry.mk (PyData.keyHash P (Str.ofString "MOST_ARGUMENTS")) (Value.str (Str.ofString "MOST_ARGUMENTS") 266) (Value.int 10 265)), (DictEntry.mk (PyData.keyHash P (Str.ofString "READ")) (Value.str (Str.ofString "READ") 268) (Value.int 0 267)), (DictEntry.mk (PyData.keyHash P (Str.ofString "WRITE")) (Value.str (Str.ofString "WRITE") 270) (Value.int 1 269)), (DictEntry.mk (PyData.keyHash P (Str.ofString "CREATE")) (Value.str (Str.ofString "CREATE") 272) (Value.int 512 271)), (DictEntry.mk (PyData.keyHash P (Str.ofString "EMPTY")) (Value.str (Str.ofString "EMPTY") 274) (Value.int 1024 273)), (DictEntry.mk (PyData.keyHash P (Str.ofString "AT_END")) (Value.str (Str.ofString "AT_END") 276) (Value.int 2048 275)), (DictEntry.mk (PyData.keyHash P (Str.ofString "INPUT")) (Value.str (Str.ofString "INPUT") 278) (Value.int 0 277)), (DictEntry.mk (PyData.keyHash P (Str.ofString "OUTPUT")) (Value.str (Str.ofString "OUTPUT") 280) (Value.int 1 279)), (DictEntry.mk (PyData.keyHash P (Str.ofString "DEEPEST")) (Value.str (Str.ofString "DEEPEST") 282) (Value.int 30 281)), (DictEntry.mk (PyData.keyHash P (Str.ofString "Run")) (Value.str (Str.ofString "Run") 311) (Value.ref 83)), (DictEntry.mk (PyData.keyHash P (Str.ofString "Redirect")) (Value.str (Str.ofString "Redirect") 346) (Value.ref 104)), (DictEntry.mk (PyData.keyHash P (Str.ofString "Pair")) (Value.str (Str.ofString "Pair") 379) (Value.ref 125)), (DictEntry.mk (PyData.keyHash P (Str.ofString "Back")) (Value.str (Str.ofString "Back") 408) (Value.ref 146)), (DictEntry.mk (PyData.keyHash P (Str.ofString "Scanner")) (Value.str (Str.ofString "Scanner") 491) (Value.ref 216)), (DictEntry.mk (PyData.keyHash P (Str.ofString "fault")) (Value.str (Str.ofString "fault") 498) (Value.ref 227)), (DictEntry.mk (PyData.keyHash P (Str.ofString "parse")) (Value.str (Str.ofString "parse") 504) (Value.ref 232)), (DictEntry.mk (PyData.keyHash P (Str.ofString "parse_line")) (Value.str (Str.ofString "parse_line") 513) (Value.ref 239)), (DictEntry.mk (PyData.keyHash P (Str.ofString "parse_pipe")) (Value.str (Str.ofString "parse_pipe") 522) (Value.ref 246)), (DictEntry.mk (PyData.keyHash P (Str.ofString "parse_redirects")) (Value.str (Str.ofString "parse_redirects") 532) (Value.ref 253)), (DictEntry.mk (PyData.keyHash P (Str.ofString "parse_block")) (Value.str (Str.ofString "parse_block") 540) (Value.ref 260)), (DictEntry.mk (PyData.keyHash P (Str.ofString "parse_command")) (Value.str (Str.ofString "parse_command") 549) (Value.ref 267)), (DictEntry.mk (PyData.keyHash P (Str.ofString "text_of")) (Value.str (Str.ofString "text_of") 558) (Value.ref 274)), (DictEntry.mk (PyData.keyHash P (Str.ofString "grouped")) (Value.str (Str.ofString "grouped") 565) (Value.ref 281)), (DictEntry.mk (PyData.keyHash P (Str.ofString "piped")) (Value.str (Str.ofString "piped") 572) (Value.ref 288)), (DictEntry.mk (PyData.keyHash P (Str.ofString "_law_take")) (Value.str (Str.ofString "_law_take") 584) (Value.ref 295)), (DictEntry.mk (PyData.keyHash P (Str.ofString "_law_line")) (Value.str (Str.ofString "_law_line") 592) (Value.ref 302)), (DictEntry.mk (PyData.keyHash P (Str.ofString "_law_deepest")) (Value.str (Str.ofString "_law_deepest") 599) (Value.ref 309)), (DictEntry.mk (PyData.keyHash P (Str.ofString "_law_levels")) (Value.str (Str.ofString "_law_levels") 607) (Value.ref 316)), (DictEntry.mk (PyData.keyHash P (Str.ofString "_law_read")) (Value.str (Str.ofString "_law_read") 614) (Value.ref 323)), (DictEntry.mk (PyData.keyHash P (Str.ofString "law")) (Value.str (Str.ofString "law") 629) (Value.ref 330))]) 44) (List.toArray []))) ::
  (nat_lit 15, (Obj.mk (Value.type "tuple") none (Data.seq (List.toArray [(Value.type "ValueError")]) 0) (List.toArray []))) ::
  (nat_lit 22, (Obj.mk (Value.type "tuple") none (Data.seq (List.toArray [(Value.str (Str.ofString "") 201)]) 0) (List.toArray []))) ::
  (nat_lit 23, (Obj.mk (Value.type "tuple") none (Data.seq (List.toArray []) 0) (List.toArray []))) ::
  (nat_lit 25, (Obj.mk (Value.type "tuple") none (Data.seq (List.toArray [(Value.str (Str.ofString "self") 205), (Value.str (Str.ofString "reason") 206)]) 0) (List.toArray []))) ::
  (nat_lit 26, (Obj.mk (Value.type "tuple") none (Data.seq (List.toArray []) 0) (List.toArray []))) ::
  (nat_lit 28, (Obj.mk (Value.type "code") none (Data.fields (List.toArray [(Value.str (Str.ofString "__init__") 202), (Value.str (Str.ofString "BoardError.__init__") 203), (Value.str (Str.ofString "/claim/cut.py") 204), (Value.int 4 0), (Value.int 2 0), (Value.int 0 0), (Value.int 0 0), (Value.int 3 0), (Value.ref 23), (Value.bool true), (Value.int 181 0), (Value.ref 24), Value.none, (Value.ref 25), (Value.ref 26), (Value.ref 27), (Value.int 207 0), (Value.int 4 0), (Value.str (Str.ofString "/claim/cut.py") 208)])) (List.toArray []))) ::
  (nat_lit 29, (by refine' (fun (o : Obj) (_ : o = (Obj.mk (Value.type "function") none (Data.func (FuncData.mk (Str.ofString "__init__") (Str.ofString "BoardError.__init__") (fA (t2 1 0)) (FuncBody.stmts (fB (t2 1 0))) (fS (t2 1 0)) 3 [] (Value.ref 22) Value.none Value.none (Value.str (Str.ofString "pipeboard.errors") 187) none (Value.ref 28) Value.none 0)) (List.toArray []))) => o) _ ?h; (case h => (simp only [eA_1_0, eB_1_0, eS_1_0]; exact rfl)))) ::
  (nat_lit 30, (Obj.mk (Value.type "tuple") none (Data.seq (List.toArray [(Value.str (Str.ofString "reason") 210)]) 0) (List.toArray []))) ::
  (nat_lit 31, (Obj.mk (Value.type "dict") none (Data.dict (List.toArray [(DictEntry.mk (PyData.keyHash P (Str.ofString "__module__")) (Value.str (Str.ofString "__module__") 196) (Value.str (Str.ofString "pipeboard.errors") 187)), (DictEntry.mk (PyData.keyHash P (Str.ofString "__firstlineno__")) (Value.str (Str.ofString "__firstlineno__") 200) (Value.int 2 199)), (DictEntry.mk (PyData.keyHash P (Str.ofString "__init__")) (Value.str (Str.ofString "__init__") 209) (Value.ref 29)), (DictEntry.mk (PyData.keyHash P (Str.ofString "__static_attributes__")) (Value.str (Str.ofString "__static_attributes__") 211) (Value.ref 30)), (DictEntry.mk (PyData.keyHash P (Str.ofString "__weakref__")) (Value.str (Str.ofString "__weakref__") 213) (Value.ref 33)), (DictEntry.mk (PyData.keyHash P (Str.ofString "__doc__")) (Value.str (Str.ofString "__doc__") 214) Value.none)]) 3) (List.toArray []))) ::
  (nat_lit 32, (Obj.mk (Value.type "type") none (Data.cls (ClassData.mk (Str.ofString "BoardError") [(Value.type "ValueError")] [(Value.ref 32), (Value.type "ValueError"), (Value.type "Exception"), (Value.type "BaseException"), (Value.type "object")] 31 (Str.ofString "BoardError") true [] [(Value.ref 45), (Value.ref 64)] false none false)) (List.toArray [(some (Value.ref 15)), none, (some (Value.str (Str.ofString "BoardError") 189)), (some (Value.str (Str.ofString "BoardError") 197)), (some (Value.builtin "ValueError.__new__")), (some (Value.bool true))]))) ::
  (nat_lit 33, (Obj.mk (Value.type "getset_descriptor") none (Data.fields (List.toArray [(Value.str (Str.ofString "__weakref__") 212), (Value.ref 32), (Value.builtin "ExceptionGroup.__weakref__"), Value.none])) (List.toArray []))) ::
  (nat_lit 36, (Obj.mk (Value.type "tuple") none (Data.seq (List.toArray [(Value.ref 32)]) 0) (List.toArray []))) ::
  (nat_lit 43, (Obj.mk (Value.type "tuple") none (Data.seq (List.toArray []) 0) (List.toArray []))) ::
  (nat_lit 44, (Obj.mk (Value.type "dict") none (Data.dict (List.toArray [(DictEntry.mk (PyData.keyHash P (Str.ofString "__module__")) (Value.str (Str.ofString "__module__") 224) (Value.str (Str.ofString "pipeboard.errors") 187)), (DictEntry.mk (PyData.keyHash P (Str.ofString "__firstlineno__")) (Value.str (Str.ofString "__firstlineno__") 228) (Value.int 7 227)), (DictEntry.mk (PyData.keyHash P (Str.ofString "__static_attributes__")) (Value.str (Str.ofString "__static_attributes__") 229) (Value.ref 43)), (DictEntry.mk (PyData.keyHash P (Str.ofString "__doc__")) (Value.str (Str.ofString "__doc__") 230) Value.none)]) 2) (List.toArray []))) ::
  (nat_lit 45, (Obj.mk (Value.type "type") none (Data.cls (ClassData.mk (Str.ofString "BadArgument") [(Value.ref 32)] [(Value.ref 45), (Value.ref 32), (Value.type "ValueError"), (Value.type "Exception"), (Value.type "BaseException"), (Value.type "object")] 44 (Str.ofString "BadArgument") true [] [] false none false)) (List.toArray [(some (Value.ref 36)), none, (some (Value.str (Str.ofString "BadArgument") 217)), (some (Value.str (Str.ofString "BadArgument") 225)), (some (Value.builtin "ValueError.__new__")), (some (Value.bool true))]))) ::
  (nat_lit 48, (Obj.mk (Value.type "tuple") none (Data.seq (List.toArray [(Value.ref 32)]) 0) (List.toArray []))) ::
  (nat_lit 55, (Obj.mk (Value.type "tuple") none (Data.seq (List.toArray []) 0) (List.toArray []))) ::
  (nat_lit 57, (Obj.mk (Value.type "tuple") none (Data.seq (List.toArray [(Value.str (Str.ofString "self") 248), (Value.str (Str.ofString "line") 249), (Value.str (Str.ofString "reason") 250)]) 0) (List.toArray []))) ::
  (nat_lit 58, (Obj.mk (Value.type "tuple") none (Data.seq (List.toArray []) 0) (List.toArray []))) ::
  (nat_lit 60, (Obj.mk (Value.type "code") none (Data.fields (List.toArray [(Value.str (Str.ofString "__init__") 245), (Value.str (Str.ofString "BadText.__init__") 246), (Value.str (Str.ofString "/claim/cut.py") 247), (Value.int 11 0), (Value.int 3 0), (Value.int 0 0), (Value.int 0 0), (Value.int 3 0), (Value.ref 55), (Value.bool true), (Value.int 181 0), (Value.ref 56), Value.none, (Value.ref 57), (Value.ref 58), (Value.ref 59), (Value.int 251 0), (Value.int 11 0), (Value.str (Str.ofString "/claim/cut.py") 252)])) (List.toArray []))) ::
  (nat_lit 61, (by refine' (fun (o : Obj) (_ : o = (Obj.mk (Value.type "function") none (Data.func (FuncData.mk (Str.ofString "__init__") (Str.ofString "BadText.__init__") (fA (t2 3 0)) (FuncBody.stmts (fB (t2 3 0))) (fS (t2 3 0)) 3 [] Value.none Value.none Value.none (Value.str (Str.ofString "pipeboard.errors") 187) none (Value.ref 60) Value.none 0)) (List.toArray []))) => o) _ ?h; (case h => (simp only [eA_3_0, eB_3_0, eS_3_0]; exact rfl)))) ::
  (nat_lit 62, (Obj.mk (Value.type "tuple") none (Data.seq (List.toArray [(Value.str (Str.ofString "line") 254)]) 0) (List.toArray []))) ::
  (nat_lit 63, (Obj.mk (Value.type "dict") none (Data.dict (List.toArray [(DictEntry.mk (PyData.keyHash P (Str.ofString "__module__")) (Value.str (Str.ofString "__module__") 240) (Value.str (Str.ofString "pipeboard.errors") 187)), (DictEntry.mk (PyData.keyHash P (Str.ofString "__firstlineno__")) (Value.str (Str.ofString "__firstlineno__") 244) (Value.int 9 243)), (DictEntry.mk (PyData.keyHash P (Str.ofString "__init__")) (Value.str (Str.ofString "__init__") 253) (Value.ref 61)), (DictEntry.mk (PyData.keyHash P (Str.ofString "__static_attributes__")) (Value.str (Str.ofString "__static_attributes__") 255) (Value.ref 62)), (DictEntry.mk (PyData.keyHash P (Str.ofString "__doc__")) (Value.str (Str.ofString "__doc__") 256) Value.none)]) 2) (List.toArray []))) ::
  (nat_lit 64, (Obj.mk (Value.type "type") none (Data.cls (ClassData.mk (Str.ofString "BadText") [(Value.ref 32)] [(Value.ref 64), (Value.ref 32), (Value.type "ValueError"), (Value.type "Exception"), (Value.type "BaseException"), (Value.type "object")] 63 (Str.ofString "BadText") true [] [] false none false)) (List.toArray [(some (Value.ref 48)), none, (some (Value.str (Str.ofString "BadText") 233)), (some (Value.str (Str.ofString "BadText") 241)), (some (Value.builtin "ValueError.__new__")), (some (Value.bool true))]))) ::
  (nat_lit 74, (Obj.mk (Value.type "tuple") none (Data.seq (List.toArray []) 0) (List.toArray []))) ::
  (nat_lit 76, (Obj.mk (Value.type "tuple") none (Data.seq (List.toArray [(Value.str (Str.ofString "self") 298), (Value.str (Str.ofString "arguments") 299)]) 0) (List.toArray []))) ::
  (nat_lit 77, (Obj.mk (Value.type "tuple") none (Data.seq (List.toArray []) 0) (List.toArray []))) ::
  (nat_lit 79, (Obj.mk (Value.type "code") none (Data.fields (List.toArray [(Value.str (Str.ofString "__init__") 295), (Value.str (Str.ofString "Run.__init__") 296), (Value.str (Str.ofString "/claim/cut.py") 297), (Value.int 28 0), (Value.int 2 0), (Value.int 0 0), (Value.int 0 0), (Value.int 3 0), (Value.ref 74), (Value.bool true), (Value.int 181 0), (Value.ref 75), Value.none, (Value.ref 76), (Value.ref 77), (Value.ref 78), (Value.int 300 0), (Value.int 28 0), (Value.str (Str.ofString "/claim/cut.py") 301)])) (List.toArray []))) ::
  (nat_lit 80, (by refine' (fun (o : Obj) (_ : o = (Obj.mk (Value.type "function") none (Data.func (FuncData.mk (Str.ofString "__init__") (Str.ofString "Run.__init__") (fA (t2 16 0)) (FuncBody.stmts (fB (t2 16 0))) (fS (t2 16 0)) 3 [] Value.none Value.none Value.none (Value.str (Str.ofString "pipeboard.shell") 259) none (Value.ref 79) Value.none 0)) (List.toArray []))) => o) _ ?h; (case h => (simp only [eA_16_0, eB_16_0, eS_16_0]; exact rfl)))) ::
  (nat_lit 81, (Obj.mk (Value.type "tuple") none (Data.seq (List.toArray [(Value.str (Str.ofString "arguments") 303)]) 0) (List.toArray []))) ::
  (nat_lit 82, (Obj.mk (Value.type "dict") none (Data.dict (List.toArray [(DictEntry.mk (PyData.keyHash P (Str.ofString "__module__")) (Value.str (Str.ofString "__module__") 290) (Value.str (Str.ofString "pipeboard.shell") 259)), (DictEntry.mk (PyData.keyHash P (Str.ofString "__firstlineno__")) (Value.str (Str.ofString "__firstlineno__") 294) (Value.int 26 293)), (DictEntry.mk (PyData.keyHash P (Str.ofString "__init__")) (Value.str (Str.ofString "__init__") 302) (Value.ref 80)), (DictEntry.mk (PyData.keyHash P (Str.ofString "__static_attributes__")) (Value.str (Str.ofString "__static_attributes__") 304) (Value.ref 81)), (DictEntry.mk (PyData.keyHash P (Str.ofString "__dict__")) (Value.str (Str.ofString "__dict__") 306) (Value.ref 84)), (DictEntry.mk (PyData.keyHash P (Str.ofString "__weakref__")) (Value.str (Str.ofString "__weakref__") 308) (Value.ref 85)), (DictEntry.mk (PyData.keyHash P (Str.ofString "__doc__")) (Value.str (Str.ofString "__doc__") 309) Value.none)]) 4) (List.toArray []))) ::
  (nat_lit 83, (Obj.mk (Value.type "type") none (Data.cls (ClassData.mk (Str.ofString "Run") [(Value.type "object")] [(Value.ref 83), (Value.type "object")] 82 (Str.ofString "Run") true [] [] false none false)) (List.toArray [none, none, (some (Value.str (Str.ofString "Run") 283)), (some (Value.str (Str.ofString "Run") 291)), (some (Value.builtin "object.__new__")), (some (Value.bool true))]))) ::
  (nat_lit 84, (Obj.mk (Value.type "getset_descriptor") none (Data.fields (List.toArray [(Value.str (Str.ofString "__dict__") 305), (Value.ref 83), (Value.builtin "function.__dict__"), (Value.builtin "function.__dict__#set")])) (List.toArray []))) ::
  (nat_lit 85, (Obj.mk (Value.type "getset_descriptor") none (Data.fields (List.toArray [(Value.str (Str.ofString "__weakref__") 307), (Value.ref 83), (Value.builtin "ExceptionGroup.__weakref__"), Value.none])) (List.toArray []))) ::
  (nat_lit 95, (Obj.mk (Value.type "tuple") none (Data.seq (List.toArray []) 0) (List.toArray []))) ::
  (nat_lit 97, (Obj.mk (Value.type "tuple") none (Data.seq (List.toArray [(Value.str (Str.ofString "self") 327), (Value.str (Str.ofString "command") 328), (Value.str (Str.ofString "path") 329), (Value.str (Str.ofString "mode") 330), (Value.str (Str.ofString "descriptor") 331)]) 0) (List.toArray []))) ::
  (nat_lit 98, (Obj.mk (Value.type "tuple") none (Data.seq (List.toArray []) 0) (List.toArray []))) ::
  (nat_lit 100, (Obj.mk (Value.type "code") none (Data.fields (List.toArray [(Value.str (Str.ofString "__init__") 324), (Value.str (Str.ofString "Redirect.__init__") 325), (Value.str (Str.ofString "/claim/cut.py") 326), (Value.int 32 0), (Value.int 5 0), (Value.int 0 0), (Value.int 0 0), (Value.int 3 0), (Value.ref 95), (Value.bool true), (Value.int 181 0), (Value.ref 96), Value.none, (Value.ref 97), (Value.ref 98), (Value.ref 99), (Value.int 332 0), (Value.int 32 0), (Value.str (Str.ofString "/claim/cut.py") 333)])) (List.toArray []))) ::
  (nat_lit 101, (by refine' (fun (o : Obj) (_ : o = (Obj.mk (Value.type "function") none (Data.func (FuncData.mk (Str.ofString "__init__") (Str.ofString "Redirect.__init__") (fA (t2 17 0)) (FuncBody.stmts (fB (t2 17 0))) (fS (t2 17 0)) 3 [] Value.none Value.none Value.none (Value.str (Str.ofString "pipeboard.shell") 259) none (Value.ref 100) Value.none 0)) (List.toArray []))) => o) _ ?h; (case h => (simp only [eA_17_0, eB_17_0, eS_17_0]; exact rfl)))) ::
  (nat_lit 102, (Obj.mk (Value.type "tuple") none (Data.seq (List.toArray [(Value.str (Str.ofString "command") 335), (Value.str (Str.ofString "descriptor") 336), (Value.str (Str.ofString "mode") 337), (Value.str (Str.ofString "path") 338)]) 0) (List.toArray []))) ::
  (nat_lit 103, (Obj.mk (Value.type "dict") none (Data.dict (List.toArray [(DictEntry.mk (PyData.keyHash P (Str.ofString "__module__")) (Value.str (Str.ofString "__module__") 319) (Value.str (Str.ofString "pipeboard.shell") 259)), (DictEntry.mk (PyData.keyHash P (Str.ofString "__firstlineno__")) (Value.str (Str.ofString "__firstlineno__") 323) (Value.int 30 322)), (DictEntry.mk (PyData.keyHash P (Str.ofString "__init__")) (Value.str (Str.ofString "__init__") 334) (Value.ref 101)), (DictEntry.mk (PyData.keyHash P (Str.ofString "__static_attributes__")) (Value.str (Str.ofString "__static_attributes__") 339) (Value.ref 102)), (DictEntry.mk (PyData.keyHash P (Str.ofString "__dict__")) (Value.str (Str.ofString "__dict__") 341) (Value.ref 105)), (DictEntry.mk (PyData.keyHash P (Str.ofString "__weakref__")) (Value.str (Str.ofString "__weakref__") 343) (Value.ref 106)), (DictEntry.mk (PyData.keyHash P (Str.ofString "__doc__")) (Value.str (Str.ofString "__doc__") 344) Value.none)]) 4) (List.toArray []))) ::
  (nat_lit 104, (Obj.mk (Value.type "type") none (Data.cls (ClassData.mk (Str.ofString "Redirect") [(Value.type "object")] [(Value.ref 104), (Value.type "object")] 103 (Str.ofString "Redirect") true [] [] false none false)) (List.toArray [none, none, (some (Value.str (Str.ofString "Redirect") 312)), (some (Value.str (Str.ofString "Redirect") 320)), (some (Value.builtin "object.__new__")), (some (Value.bool true))]))) ::
  (nat_lit 105, (Obj.mk (Value.type "getset_descriptor") none (Data.fields (List.toArray [(Value.str (Str.ofString "__dict__") 340), (Value.ref 104), (Value.builtin "function.__dict__"), (Value.builtin "function.__dict__#set")])) (List.toArray []))) ::
  (nat_lit 106, (Obj.mk (Value.type "getset_descriptor") none (Data.fields (List.toArray [(Value.str (Str.ofString "__weakref__") 342), (Value.ref 104), (Value.builtin "ExceptionGroup.__weakref__"), Value.none])) (List.toArray []))) ::
  (nat_lit 116, (Obj.mk (Value.type "tuple") none (Data.seq (List.toArray []) 0) (List.toArray []))) ::
  (nat_lit 118, (Obj.mk (Value.type "tuple") none (Data.seq (List.toArray [(Value.str (Str.ofString "self") 362), (Value.str (Str.ofString "sign") 363), (Value.str (Str.ofString "left") 364), (Value.str (Str.ofString "right") 365)]) 0) (List.toArray []))) ::
  (nat_lit 119, (Obj.mk (Value.type "tuple") none (Data.seq (List.toArray []) 0) (List.toArray []))) ::
  (nat_lit 121, (Obj.mk (Value.type "code") none (Data.fields (List.toArray [(Value.str (Str.ofString "__init__") 359), (Value.str (Str.ofString "Pair.__init__") 360), (Value.str (Str.ofString "/claim/cut.py") 361), (Value.int 39 0), (Value.int 4 0), (Value.int 0 0), (Value.int 0 0), (Value.int 3 0), (Value.ref 116), (Value.bool true), (Value.int 181 0), (Value.ref 117), Value.none, (Value.ref 118), (Value.ref 119), (Value.ref 120), (Value.int 366 0), (Value.int 39 0), (Value.str (Str.ofString "/claim/cut.py") 367)])) (List.toArray []))) ::
  (nat_lit 122, (by refine' (fun (o : Obj) (_ : o = (Obj.mk (Value.type "function") none (Data.func (FuncData.mk (Str.ofString "__init__") (Str.ofString "Pair.__init__") (fA (t2 18 0)) (FuncBody.stmts (fB (t2 18 0))) (fS (t2 18 0)) 3 [] Value.none Value.none Value.none (Value.str (Str.ofString "pipeboard.shell") 259) none (Value.ref 121) Value.none 0)) (List.toArray []))) => o) _ ?h; (case h => (simp only [eA_18_0, eB_18_0, eS_18_0]; exact rfl)))) ::
  (nat_lit 123, (Obj.mk (Value.type "tuple") none (Data.seq (List.toArray [(Value.str (Str.ofString "left") 369), (Value.str (Str.ofString "right") 370), (Value.str (Str.ofString "sign") 371)]) 0) (List.toArray []))) ::
  (nat_lit 124, (Obj.mk (Value.type "dict") none (Data.dict (List.toArray [(DictEntry.mk (PyData.keyHash P (Str.ofString "__module__")) (Value.str (Str.ofString "__module__") 354) (Value.str (Str.ofString "pipeboard.shell") 259)), (DictEntry.mk (PyData.keyHash P (Str.ofString "__firstlineno__")) (Value.str (Str.ofString "__firstlineno__") 358) (Value.int 37 357)), (DictEntry.mk (PyData.keyHash P (Str.ofString "__init__")) (Value.str (Str.ofString "__init__") 368) (Value.ref 122)), (DictEntry.mk (PyData.keyHash P (Str.ofString "__static_attributes__")) (Value.str (Str.ofString "__static_attributes__") 372) (Value.ref 123)), (DictEntry.mk (PyData.keyHash P (Str.ofString "__dict__")) (Value.str (Str.ofString "__dict__") 374) (Value.ref 126)), (DictEntry.mk (PyData.keyHash P (Str.ofString "__weakref__")) (Value.str (Str.ofString "__weakref__") 376) (Value.ref 127)), (DictEntry.mk (PyData.keyHash P (Str.ofString "__doc__")) (Value.str (Str.ofString "__doc__") 377) Value.none)]) 4) (List.toArray []))) ::
  (nat_lit 125, (Obj.mk (Value.type "type") none (Data.cls (ClassData.mk (Str.ofString "Pair") [(Value.type "object")] [(Value.ref 125), (Value.type "object")] 124 (Str.ofString "Pair") true [] [] false none false)) (List.toArray [none, none, (some (Value.str (Str.ofString "Pair") 347)), (some (Value.str (Str.ofString "Pair") 355)), (some (Value.builtin "object.__new__")), (some (Value.bool true))]))) ::
  (nat_lit 126, (Obj.mk (Value.type "getset_descriptor") none (Data.fields (List.toArray [(Value.str (Str.ofString "__dict__") 373), (Value.ref 125), (Value.builtin "function.__dict__"), (Value.builtin "function.__dict__#set")])) (List.toArray []))) ::
  (nat_lit 127, (Obj.mk (Value.type "getset_descriptor") none (Data.fields (List.toArray [(Value.str (Str.ofString "__weakref__") 375), (Value.ref 125), (Value.builtin "ExceptionGroup.__weakref__"), Value.none])) (List.toArray []))) ::
  (nat_lit 137, (Obj.mk (Value.type "tuple") none (Data.seq (List.toArray []) 0) (List.toArray []))) ::
  (nat_lit 139, (Obj.mk (Value.type "tuple") none (Data.seq (List.toArray [(Value.str (Str.ofString "self") 395), (Value.str (Str.ofString "command") 396)]) 0) (List.toArray []))) ::
  (nat_lit 140, (Obj.mk (Value.type "tuple") none (Data.seq (List.toArray []) 0) (List.toArray []))) ::
  (nat_lit 142, (Obj.mk (Value.type "code") none (Data.fields (List.toArray [(Value.str (Str.ofString "__init__") 392), (Value.str (Str.ofString "Back.__init__") 393), (Value.str (Str.ofString "/claim/cut.py") 394), (Value.int 45 0), (Value.int 2 0), (Value.int 0 0), (Value.int 0 0), (Value.int 3 0), (Value.ref 137), (Value.bool true), (Value.int 181 0), (Value.ref 138), Value.none, (Value.ref 139), (Value.ref 140), (Value.ref 141), (Value.int 397 0), (Value.int 45 0), (Value.str (Str.ofString "/claim/cut.py") 398)])) (List.toArray []))) ::
  (nat_lit 143, (by refine' (fun (o : Obj) (_ : o = (Obj.mk (Value.type "function") none (Data.func (FuncData.mk (Str.ofString "__init__") (Str.ofString "Back.__init__") (fA (t2 19 0)) (FuncBody.stmts (fB (t2 19 0))) (fS (t2 19 0)) 3 [] Value.none Value.none Value.none (Value.str (Str.ofString "pipeboard.shell") 259) none (Value.ref 142) Value.none 0)) (List.toArray []))) => o) _ ?h; (case h => (simp only [eA_19_0, eB_19_0, eS_19_0]; exact rfl)))) ::
  (nat_lit 144, (Obj.mk (Value.type "tuple") none (Data.seq (List.toArray [(Value.str (Str.ofString "command") 400)]) 0) (List.toArray []))) ::
  (nat_lit 145, (Obj.mk (Value.type "dict") none (Data.dict (List.toArray [(DictEntry.mk (PyData.keyHash P (Str.ofString "__module__")) (Value.str (Str.ofString "__module__") 387) (Value.str (Str.ofString "pipeboard.shell") 259)), (DictEntry.mk (PyData.keyHash P (Str.ofString "__firstlineno__")) (Value.str (Str.ofString "__firstlineno__") 391) (Value.int 43 390)), (DictEntry.mk (PyData.keyHash P (Str.ofString "__init__")) (Value.str (Str.ofString "__init__") 399) (Value.ref 143)), (DictEntry.mk (PyData.keyHash P (Str.ofString "__static_attributes__")) (Value.str (Str.ofString "__static_attributes__") 401) (Value.ref 144)), (DictEntry.mk (PyData.keyHash P (Str.ofString "__dict__")) (Value.str (Str.ofString "__dict__") 403) (Value.ref 147)), (DictEntry.mk (PyData.keyHash P (Str.ofString "__weakref__")) (Value.str (Str.ofString "__weakref__") 405) (Value.ref 148)), (DictEntry.mk (PyData.keyHash P (Str.ofString "__doc__")) (Value.str (Str.ofString "__doc__") 406) Value.none)]) 4) (List.toArray []))) ::
  (nat_lit 146, (Obj.mk (Value.type "type") none (Data.cls (ClassData.mk (Str.ofString "Back") [(Value.type "object")] [(Value.ref 146), (Value.type "object")] 145 (Str.ofString "Back") true [] [] false none false)) (List.toArray [none, none, (some (Value.str (Str.ofString "Back") 380)), (some (Value.str (Str.ofString "Back") 388)), (some (Value.builtin "object.__new__")), (some (Value.bool true))]))) ::
  (nat_lit 147, (Obj.mk (Value.type "getset_descriptor") none (Data.fields (List.toArray [(Value.str (Str.ofString "__dict__") 402), (Value.ref 146), (Value.builtin "function.__dict__"), (Value.builtin "function.__dict__#set")])) (List.toArray []))) ::
  (nat_lit 148, (Obj.mk (Value.type "getset_descriptor") none (Data.fields (List.toArray [(Value.str (Str.ofString "__weakref__") 404), (Value.ref 146), (Value.builtin "ExceptionGroup.__weakref__"), Value.none])) (List.toArray []))) ::
  (nat_lit 158, (Obj.mk (Value.type "tuple") none (Data.seq (List.toArray []) 0) (List.toArray []))) ::
  (nat_lit 160, (Obj.mk (Value.type "tuple") none (Data.seq (List.toArray [(Value.str (Str.ofString "self") 424), (Value.str (Str.ofString "line") 425)]) 0) (List.toArray []))) ::
  (nat_lit 161, (Obj.mk (Value.type "tuple") none (Data.seq (List.toArray []) 0) (List.toArray []))) ::
  (nat_lit 163, (Obj.mk (Value.type "code") none (Data.fields (List.toArray [(Value.str (Str.ofString "__init__") 421), (Value.str (Str.ofString "Scanner.__init__") 422), (Value.str (Str.ofString "/claim/cut.py") 423), (Value.int 49 0), (Value.int 2 0), (Value.int 0 0), (Value.int 0 0), (Value.int 3 0), (Value.ref 158), (Value.bool true), (Value.int 181 0), (Value.ref 159), Value.none, (Value.ref 160), (Value.ref 161), (Value.ref 162), (Value.int 426 0), (Value.int 49 0), (Value.str (Str.ofString "/claim/cut.py") 427)])) (List.toArray []))) ::
  (nat_lit 164, (by refine' (fun (o : Obj) (_ : o = (Obj.mk (Value.type "function") none (Data.func (FuncData.mk (Str.ofString "__init__") (Str.ofString "Scanner.__init__") (fA (t2 20 0)) (FuncBody.stmts (fB (t2 20 0))) (fS (t2 20 0)) 3 [] Value.none Value.none Value.none (Value.str (Str.ofString "pipeboard.shell") 259) none (Value.ref 163) Value.none 0)) (List.toArray []))) => o) _ ?h; (case h => (simp only [eA_20_0, eB_20_0, eS_20_0]; exact rfl)))) ::
  (nat_lit 165, (Obj.mk (Value.type "tuple") none (Data.seq (List.toArray []) 0) (List.toArray []))) ::
  (nat_lit 167, (Obj.mk (Value.type "tuple") none (Data.seq (List.toArray [(Value.str (Str.ofString "self") 432)]) 0) (List.toArray []))) ::
  (nat_lit 168, (Obj.mk (Value.type "tuple") none (Data.seq (List.toArray []) 0) (List.toArray []))) ::
  (nat_lit 170, (Obj.mk (Value.type "code") none (Data.fields (List.toArray [(Value.str (Str.ofString "enter") 429), (Value.str (Str.ofString "Scanner.enter") 430), (Value.str (Str.ofString "/claim/cut.py") 431), (Value.int 54 0), (Value.int 1 0), (Value.int 0 0), (Value.int 0 0), (Value.int 3 0), (Value.ref 165), (Value.bool true), (Value.int 181 0), (Value.ref 166), Value.none, (Value.ref 167), (Value.ref 168), (Value.ref 169), (Value.int 433 0), (Value.int 54 0), (Value.str (Str.ofString "/claim/cut.py") 434)])) (List.toArray []))) ::
  (nat_lit 171, (by refine' (fun (o : Obj) (_ : o = (Obj.mk (Value.type "function") none (Data.func (FuncData.mk (Str.ofString "enter") (Str.ofString "Scanner.enter") (fA (t2 20 1)) (FuncBody.stmts (fB (t2 20 1))) (fS (t2 20 1)) 3 [] Value.none Value.none Value.none (Value.str (Str.ofString "pipeboard.shell") 259) none (Value.ref 170) Value.none 0)) (List.toArray []))) => o) _ ?h; (case h => (simp only [eA_20_1, eB_20_1, eS_20_1]; exact rfl)))) ::
  (nat_lit 172, (Obj.mk (Value.type "tuple") none (Data.seq (List.toArray []) 0) (List.toArray []))) ::
  (nat_lit 174, (Obj.mk (Value.type "tuple") none (Data.seq (List.toArray [(Value.str (Str.ofString "self") 439)]) 0) (List.toArray []))) ::
  (nat_lit 175, (Obj.mk (Value.type "tuple") none (Data.seq (List.toArray []) 0) (List.toArray []))) ::
  (nat_lit 177, (Obj.mk (Value.type "code") none (Data.fields (List.toArray [(Value.str (Str.ofString "blanks") 436), (Value.str (Str.ofString "Scanner.blanks") 437), (Value.str (Str.ofString "/claim/cut.py") 438), (Value.int 60 0), (Value.int 1 0), (Value.int 0 0), (Value.int 0 0), (Value.int 3 0), (Value.ref 172), (Value.bool true), (Value.int 181 0), (Value.ref 173), Value.none, (Value.ref 174), (Value.ref 175), (Value.ref 176), (Value.int 440 0), (Value.int 60 0), (Value.str (Str.ofString "/claim/cut.py") 441)])) (List.toArray []))) ::
  (nat_lit 178, (by refine' (fun (o : Obj) (_ : o = (Obj.mk (Value.type "function") none (Data.func (FuncData.mk (Str.ofString "blanks") (Str.ofString "Scanner.blanks") (fA (t2 20 2)) (FuncBody.stmts (fB (t2 20 2))) (fS (t2 20 2)) 3 [] Value.none Value.none Value.none (Value.str (Str.ofString "pipeboard.shell") 259) none (Value.ref 177) Value.none 0)) (List.toArray []))) => o) _ ?h; (case h => (simp only [eA_20_2, eB_20_2, eS_20_2]; exact rfl)))) ::
  (nat_lit 179, (Obj.mk (Value.type "tuple") none (Data.seq (List.toArray []) 0) (List.toArray []))) ::
  (nat_lit 181, (Obj.mk (Value.type "tuple") none (Data.seq (List.toArray [(Value.str (Str.ofString "self") 446), (Value.str (Str.ofString "signs") 447)]) 0) (List.toArray []))) ::
  (nat_lit 182, (Obj.mk (Value.type "tuple") none (Data.seq (List.toArray []) 0) (List.toArray []))) ::
  (nat_lit 184, (Obj.mk (Value.type "code") none (Data.fields (List.toArray [(Value.str (Str.ofString "next_is") 443), (Value.str (Str.ofString "Scanner.next_is") 444), (Value.str (Str.ofString "/claim/cut.py") 445), (Value.int 64 0), (Value.int 2 0), (Value.int 0 0), (Value.int 0 0), (Value.int 3 0), (Value.ref 179), (Value.bool true), (Value.int 181 0), (Value.ref 180), Value.none, (Value.ref 181), (Value.ref 182), (Value.ref 183), (Value.int 448 0), (Value.int 64 0), (Value.str (Str.ofString "/claim/cut.py") 449)])) (List.toArray []))) ::
  (nat_lit 185, (by refine' (fun (o : Obj) (_ : o = (Obj.mk (Value.type "function") none (Data.func (FuncData.mk (Str.ofString "next_is") (Str.ofString "Scanner.next_is") (fA (t2 20 3)) (FuncBody.stmts (fB (t2 20 3))) (fS (t2 20 3)) 3 [] Value.none Value.none Value.none (Value.str (Str.ofString "pipeboard.shell") 259) none (Value.ref 184) Value.none 0)) (List.toArray []))) => o) _ ?h; (case h => (simp only [eA_20_3, eB_20_3, eS_20_3]; exact rfl)))) ::
  (nat_lit 186, (Obj.mk (Value.type "tuple") none (Data.seq (List.toArray []) 0) (List.toArray []))) ::
  (nat_lit 188, (Obj.mk (Value.type "tuple") none (Data.seq (List.toArray [(Value.str (Str.ofString "self") 454)]) 0) (List.toArray []))) ::
  (nat_lit 189, (Obj.mk (Value.type "tuple") none (Data.seq (List.toArray []) 0) (List.toArray []))) ::
  (nat_lit 191, (Obj.mk (Value.type "code") none (Data.fields (List.toArray [(Value.str (Str.ofString "at_end") 451), (Value.str (Str.ofString "Scanner.at_end") 452), (Value.str (Str.ofString "/claim/cut.py") 453), (Value.int 68 0), (Value.int 1 0), (Value.int 0 0), (Value.int 0 0), (Value.int 3 0), (Value.ref 186), (Value.bool true), (Value.int 181 0), (Value.ref 187), Value.none, (Value.ref 188), (Value.ref 189), (Value.ref 190), (Value.int 455 0), (Value.int 68 0), (Value.str (Str.ofString "/claim/cut.py") 456)])) (List.toArray []))) ::
  (nat_lit 192, (by refine' (fun (o : Obj) (_ : o = (Obj.mk (Value.type "function") none (Data.func (FuncData.mk (Str.ofString "at_end") (Str.ofString "Scanner.at_end") (fA (t2 20 4)) (FuncBody.stmts (fB (t2 20 4))) (fS (t2 20 4)) 3 [] Value.none Value.none Value.none (Value.str (Str.ofString "pipeboard.shell") 259) none (Value.ref 191) Value.none 0)) (List.toArray []))) => o) _ ?h; (case h => (simp only [eA_20_4, eB_20_4, eS_20_4]; exact rfl)))) ::
  (nat_lit 193, (Obj.mk (Value.type "tuple") none (Data.seq (List.toArray []) 0) (List.toArray []))) ::
  (nat_lit 195, (Obj.mk (Value.type "tuple") none (Data.seq (List.toArray [(Value.str (Str.ofString "self") 461), (Value.str (Str.ofString "found") 462)]) 0) (List.toArray []))) ::
  (nat_lit 196, (Obj.mk (Value.type "tuple") none (Data.seq (List.toArray []) 0) (List.toArray []))) ::
  (nat_lit 198, (Obj.mk (Value.type "code") none (Data.fields (List.toArray [(Value.str (Str.ofString "sign") 458), (Value.str (Str.ofString "Scanner.sign") 459), (Value.str (Str.ofString "/claim/cut.py") 460), (Value.int 72 0), (Value.int 1 0), (Value.int 0 0), (Value.int 0 0), (Value.int 3 0), (Value.ref 193), (Value.bool true), (Value.int 181 0), (Value.ref 194), Value.none, (Value.ref 195), (Value.ref 196), (Value.ref 197), (Value.int 463 0), (Value.int 72 0), (Value.str (Str.ofString "/claim/cut.py") 464)])) (List.toArray []))) ::
  (nat_lit 199, (by refine' (fun (o : Obj) (_ : o = (Obj.mk (Value.type "function") none (Data.func (FuncData.mk (Str.ofString "sign") (Str.ofString "Scanner.sign") (fA (t2 20 5)) (FuncBody.stmts (fB (t2 20 5))) (fS (t2 20 5)) 3 [] Value.none Value.none Value.none (Value.str (Str.ofString "pipeboard.shell") 259) none (Value.ref 198) Value.none 0)) (List.toArray []))) => o) _ ?h; (case h => (simp only [eA_20_5, eB_20_5, eS_20_5]; exact rfl)))) ::
  (nat_lit 200, (Obj.mk (Value.type "tuple") none (Data.seq (List.toArray []) 0) (List.toArray []))) ::
  (nat_lit 202, (Obj.mk (Value.type "tuple") none (Data.seq (List.toArray [(Value.str (Str.ofString "self") 469)]) 0) (List.toArray []))) ::
  (nat_lit 203, (Obj.mk (Value.type "tuple") none (Data.seq (List.toArray []) 0) (List.toArray []))) ::
  (nat_lit 205, (Obj.mk (Value.type "code") none (Data.fields (List.toArray [(Value.str (Str.ofString "is_word") 466), (Value.str (Str.ofString "Scanner.is_word") 467), (Value.str (Str.ofString "/claim/cut.py") 468), (Value.int 80 0), (Value.int 1 0), (Value.int 0 0), (Value.int 0 0), (Value.int 3 0), (Value.ref 200), (Value.bool true), (Value.int 181 0), (Value.ref 201), Value.none, (Value.ref 202), (Value.ref 203), (Value.ref 204), (Value.int 470 0), (Value.int 80 0), (Value.str (Str.ofString "/claim/cut.py") 471)])) (List.toArray []))) ::
  (nat_lit 206, (by refine' (fun (o : Obj) (_ : o = (Obj.mk (Value.type "function") none (Data.func (FuncData.mk (Str.ofString "is_word") (Str.ofString "Scanner.is_word") (fA (t2 20 6)) (FuncBody.stmts (fB (t2 20 6))) (fS (t2 20 6)) 3 [] Value.none Value.none Value.none (Value.str (Str.ofString "pipeboard.shell") 259) none (Value.ref 205) Value.none 0)) (List.toArray []))) => o) _ ?h; (case h => (simp only [eA_20_6, eB_20_6, eS_20_6]; exact rfl)))) ::
  (nat_lit 207, (Obj.mk (Value.type "tuple") none (Data.seq (List.toArray []) 0) (List.toArray []))) ::
  (nat_lit 209, (Obj.mk (Value.type "tuple") none (Data.seq (List.toArray [(Value.str (Str.ofString "self") 476), (Value.str (Str.ofString "begin") 477)]) 0) (List.toArray []))) ::
  (nat_lit 210, (Obj.mk (Value.type "tuple") none (Data.seq (List.toArray []) 0) (List.toArray []))) ::
  (nat_lit 212, (Obj.mk (Value.type "code") none (Data.fields (List.toArray [(Value.str (Str.ofString "word") 473), (Value.str (Str.ofString "Scanner.word") 474), (Value.str (Str.ofString "/claim/cut.py") 475), (Value.int 83 0), (Value.int 1 0), (Value.int 0 0), (Value.int 0 0), (Value.int 3 0), (Value.ref 207), (Value.bool true), (Value.int 181 0), (Value.ref 208), Value.none, (Value.ref 209), (Value.ref 210), (Value.ref 211), (Value.int 478 0), (Value.int 83 0), (Value.str (Str.ofString "/claim/cut.py") 479)])) (List.toArray []))) ::
  (nat_lit 213, (by refine' (fun (o : Obj) (_ : o = (Obj.mk (Value.type "function") none (Data.func (FuncData.mk (Str.ofString "word") (Str.ofString "Scanner.word") (fA (t2 20 7)) (FuncBody.stmts (fB (t2 20 7))) (fS (t2 20 7)) 3 [] Value.none Value.none Value.none (Value.str (Str.ofString "pipeboard.shell") 259) none (Value.ref 212) Value.none 0)) (List.toArray []))) => o) _ ?h; (case h => (simp only [eA_20_7, eB_20_7, eS_20_7]; exact rfl)))) ::
  (nat_lit 214, (Obj.mk (Value.type "tuple") none (Data.seq (List.toArray [(Value.str (Str.ofString "deep") 481), (Value.str (Str.ofString "line") 482), (Value.str (Str.ofString "place") 483)]) 0) (List.toArray []))) ::
  (nat_lit 215, (Obj.mk (Value.type "dict") none (Data.dict (List.toArray [(DictEntry.mk (PyData.keyHash P (Str.ofString "__module__")) (Value.str (Str.ofString "__module__") 416) (Value.str (Str.ofString "pipeboard.shell") 259)), (DictEntry.mk (PyData.keyHash P (Str.ofString "__firstlineno__")) (Value.str (Str.ofString "__firstlineno__") 420) (Value.int 47 419)), (DictEntry.mk (PyData.keyHash P (Str.ofString "__init__")) (Value.str (Str.ofString "__init__") 428) (Value.ref 164)), (DictEntry.mk (PyData.keyHash P (Str.ofString "enter")) (Value.str (Str.ofString "enter") 435) (Value.ref 171)), (DictEntry.mk (PyData.keyHash P (Str.ofString "blanks")) (Value.str (Str.ofString "blanks") 442) (Value.ref 178)), (DictEntry.mk (PyData.keyHash P (Str.ofString "next_is")) (Value.str (Str.ofString "next_is") 450) (Value.ref 185)), (DictEntry.mk (PyData.keyHash P (Str.ofString "at_end")) (Value.str (Str.ofString "at_end") 457) (Value.ref 192)), (DictEntry.mk (PyData.keyHash P (Str.ofString "sign")) (Value.str (Str.ofString "sign") 465) (Value.ref 199)), (DictEntry.mk (PyData.keyHash P (Str.ofString "is_word")) (Value.str (Str.ofString "is_word") 472) (Value.ref 206)), (DictEntry.mk (PyData.keyHash P (Str.ofString "word")) (Value.str (Str.ofString "word") 480) (Value.ref 213)), (DictEntry.mk (PyData.keyHash P (Str.ofString "__static_attributes__")) (Value.str (Str.ofString "__static_attributes__") 484) (Value.ref 214)), (DictEntry.mk (PyData.keyHash P (Str.ofString "__dict__")) (Value.str (Str.ofString "__dict__") 486) (Value.ref 217)), (DictEntry.mk (PyData.keyHash P (Str.ofString "__weakref__")) (Value.str (Str.ofString "__weakref__") 488) (Value.ref 218)), (DictEntry.mk (PyData.keyHash P (Str.ofString "__doc__")) (Value.str (Str.ofString "__doc__") 489) Value.none)]) 4) (List.toArray []))) ::
  (nat_lit 216, (Obj.mk (Value.type "type") none (Data.cls (ClassData.mk (Str.ofString "Scanner") [(Value.type "object")] [(Value.ref 216), (Value.type "object")] 215 (Str.ofString "Scanner") true [] [] false none false)) (List.toArray [none, none, (some (Value.str (Str.ofString "Scanner") 409)), (some (Value.str (Str.ofString "Scanner") 417)), (some (Value.builtin "object.__new__")), (some (Value.bool true))]))) ::
  (nat_lit 217, (Obj.mk (Value.type "getset_descriptor") none (Data.fields (List.toArray [(Value.str (Str.ofString "__dict__") 485), (Value.ref 216), (Value.builtin "function.__dict__"), (Value.builtin "function.__dict__#set")])) (List.toArray []))) ::
  (nat_lit 218, (Obj.mk (Value.type "getset_descriptor") none (Data.fields (List.toArray [(Value.str (Str.ofString "__weakref__") 487), (Value.ref 216), (Value.builtin "ExceptionGroup.__weakref__"), Value.none])) (List.toArray []))) ::
  (nat_lit 221, (Obj.mk (Value.type "tuple") none (Data.seq (List.toArray []) 0) (List.toArray []))) ::
  (nat_lit 223, (Obj.mk (Value.type "tuple") none (Data.seq (List.toArray [(Value.str (Str.ofString "reason") 495)]) 0) (List.toArray []))) ::
  (nat_lit 224, (Obj.mk (Value.type "tuple") none (Data.seq (List.toArray []) 0) (List.toArray []))) ::
  (nat_lit 226, (Obj.mk (Value.type "code") none (Data.fields (List.toArray [(Value.str (Str.ofString "fault") 492), (Value.str (Str.ofString "fault") 493), (Value.str (Str.ofString "/claim/cut.py") 494), (Value.int 89 0), (Value.int 1 0), (Value.int 0 0), (Value.int 0 0), (Value.int 3 0), (Value.ref 221), (Value.bool true), (Value.int 181 0), (Value.ref 222), Value.none, (Value.ref 223), (Value.ref 224), (Value.ref 225), (Value.int 496 0), (Value.int 89 0), (Value.str (Str.ofString "/claim/cut.py") 497)])) (List.toArray []))) ::
  (nat_lit 227, (by refine' (fun (o : Obj) (_ : o = (Obj.mk (Value.type "function") none (Data.func (FuncData.mk (Str.ofString "fault") (Str.ofString "fault") (fA (t1 21)) (FuncBody.stmts (fB (t1 21))) (fS (t1 21)) 3 [] Value.none Value.none Value.none (Value.str (Str.ofString "pipeboard.shell") 259) none (Value.ref 226) Value.none 0)) (List.toArray []))) => o) _ ?h; (case h => (simp only [eA_21_0, eB_21_0, eS_21_0]; exact rfl)))) ::
  (nat_lit 228, (Obj.mk (Value.type "tuple") none (Data.seq (List.toArray []) 0) (List.toArray []))) ::
  (nat_lit 231, (Obj.mk (Value.type "code") none (Data.fields (List.toArray [(Value.str (Str.ofString "parse") 499), (Value.str (Str.ofString "parse") 500), (Value.str (Str.ofString "/claim/cut.py") 501), (Value.int 91 0), (Value.int 1 0), (Value.int 0 0), (Value.int 0 0), (Value.int 3 0), (Value.ref 228), (Value.bool true), (Value.int 181 0), (Value.ref 229), Value.none, Value.none, Value.none, (Value.ref 230), (Value.int 502 0), (Value.int 91 0), (Value.str (Str.ofString "/claim/cut.py") 503)])) (List.toArray []))) ::
  (nat_lit 232, (by refine' (fun (o : Obj) (_ : o = (Obj.mk (Value.type "function") none (Data.func (FuncData.mk (Str.ofString "parse") (Str.ofString "parse") (fA (t1 22)) (FuncBody.stmts (fB (t1 22))) (fS (t1 22)) 3 [] Value.none Value.none Value.none (Value.str (Str.ofString "pipeboard.shell") 259) none (Value.ref 231) Value.none 0)) (List.toArray []))) => o) _ ?h; (case h => (simp only [eA_22_0, eB_22_0, eS_22_0]; exact rfl)))) ::
  (nat_lit 233, (Obj.mk (Value.type "tuple") none (Data.seq (List.toArray []) 0) (List.toArray []))) ::
  (nat_lit 235, (Obj.mk (Value.type "tuple") none (Data.seq (List.toArray [(Value.str (Str.ofString "scanner") 508), (Value.str (Str.ofString "deep") 509), (Value.str (Str.ofString "found") 510)]) 0) (List.toArray []))) ::
  (nat_lit 236, (Obj.mk (Value.type "tuple") none (Data.seq (List.toArray []) 0) (List.toArray []))) ::
  (nat_lit 238, (Obj.mk (Value.type "code") none (Data.fields (List.toArray [(Value.str (Str.ofString "parse_line") 505), (Value.str (Str.ofString "parse_line") 506), (Value.str (Str.ofString "/claim/cut.py") 507), (Value.int 101 0), (Value.int 1 0), (Value.int 0 0), (Value.int 0 0), (Value.int 3 0), (Value.ref 233), (Value.bool true), (Value.int 181 0), (Value.ref 234), Value.none, (Value.ref 235), (Value.ref 236), (Value.ref 237), (Value.int 511 0), (Value.int 101 0), (Value.str (Str.ofString "/claim/cut.py") 512)])) (List.toArray []))) ::
  (nat_lit 239, (by refine' (fun (o : Obj) (_ : o = (Obj.mk (Value.type "function") none (Data.func (FuncData.mk (Str.ofString "parse_line") (Str.ofString "parse_line") (fA (t1 23)) (FuncBody.stmts (fB (t1 23))) (fS (t1 23)) 3 [] Value.none Value.none Value.none (Value.str (Str.ofString "pipeboard.shell") 259) none (Value.ref 238) Value.none 0)) (List.toArray []))) => o) _ ?h; (case h => (simp only [eA_23_0, eB_23_0, eS_23_0]; exact rfl)))) ::
  (nat_lit 240, (Obj.mk (Value.type "tuple") none (Data.seq (List.toArray []) 0) (List.toArray []))) ::
  (nat_lit 242, (Obj.mk (Value.type "tuple") none (Data.seq (List.toArray [(Value.str (Str.ofString "scanner") 517), (Value.str (Str.ofString "deep") 518), (Value.str (Str.ofString "found") 519)]) 0) (List.toArray []))) ::
  (nat_lit 243, (Obj.mk (Value.type "tuple") none (Data.seq (List.toArray []) 0) (List.toArray []))) ::
  (nat_lit 245, (Obj.mk (Value.type "code") none (Data.fields (List.toArray [(Value.str (Str.ofString "parse_pipe") 514), (Value.str (Str.ofString "parse_pipe") 515), (Value.str (Str.ofString "/claim/cut.py") 516), (Value.int 114 0), (Value.int 1 0), (Value.int 0 0), (Value.int 0 0), (Value.int 3 0), (Value.ref 240), (Value.bool true), (Value.int 181 0), (Value.ref 241), Value.none, (Value.ref 242), (Value.ref 243), (Value.ref 244), (Value.int 520 0), (Value.int 114 0), (Value.str (Str.ofString "/claim/cut.py") 521)])) (List.toArray []))) ::
  (nat_lit 246, (by refine' (fun (o : Obj) (_ : o = (Obj.mk (Value.type "function") none (Data.func (FuncData.mk (Str.ofString "parse_pipe") (Str.ofString "parse_pipe") (fA (t1 24)) (FuncBody.stmts (fB (t1 24))) (fS (t1 24)) 3 [] Value.none Value.none Value.none (Value.str (Str.ofString "pipeboard.shell") 259) none (Value.ref 245) Value.none 0)) (List.toArray []))) => o) _ ?h; (case h => (simp only [eA_24_0, eB_24_0, eS_24_0]; exact rfl)))) ::
  (nat_lit 247, (Obj.mk (Value.type "tuple") none (Data.seq (List.toArray []) 0) (List.toArray []))) ::
  (nat_lit 249, (Obj.mk (Value.type "tuple") none (Data.seq (List.toArray [(Value.str (Str.ofString "scanner") 526), (Value.str (Str.ofString "command") 527), (Value.str (Str.ofString "sign") 528), (Value.str (Str.ofString "path") 529)]) 0) (List.toArray []))) ::
  (nat_lit 250, (Obj.mk (Value.type "tuple") none (Data.seq (List.toArray []) 0) (List.toArray []))) ::
  (nat_lit 252, (Obj.mk (Value.type "code") none (Data.fields (List.toArray [(Value.str (Str.ofString "parse_redirects") 523), (Value.str (Str.ofString "parse_redirects") 524), (Value.str (Str.ofString "/claim/cut.py") 525), (Value.int 123 0), (Value.int 2 0), (Value.int 0 0), (Value.int 0 0), (Value.int 3 0), (Value.ref 247), (Value.bool true), (Value.int 181 0), (Value.ref 248), Value.none, (Value.ref 249), (Value.ref 250), (Value.ref 251), (Value.int 530 0), (Value.int 123 0), (Value.str (Str.ofString "/claim/cut.py") 531)])) (List.toArray []))) ::
  (nat_lit 253, (by refine' (fun (o : Obj) (_ : o = (Obj.mk (Value.type "function") none (Data.func (FuncData.mk (Str.ofString "parse_redirects") (Str.ofString "parse_redirects") (fA (t1 25)) (FuncBody.stmts (fB (t1 25))) (fS (t1 25)) 3 [] Value.none Value.none Value.none (Value.str (Str.ofString "pipeboard.shell") 259) none (Value.ref 252) Value.none 0)) (List.toArray []))) => o) _ ?h; (case h => (simp only [eA_25_0, eB_25_0, eS_25_0]; exact rfl)))) ::
  (nat_lit 254, (Obj.mk (Value.type "tuple") none (Data.seq (List.toArray []) 0) (List.toArray []))) ::
  (nat_lit 256, (Obj.mk (Value.type "tuple") none (Data.seq (List.toArray [(Value.str (Str.ofString "scanner") 536), (Value.str (Str.ofString "found") 537)]) 0) (List.toArray []))) ::
  (nat_lit 257, (Obj.mk (Value.type "tuple") none (Data.seq (List.toArray []) 0) (List.toArray []))) ::
  (nat_lit 259, (Obj.mk (Value.type "code") none (Data.fields (List.toArray [(Value.str (Str.ofString "parse_block") 533), (Value.str (Str.ofString "parse_block") 534), (Value.str (Str.ofString "/claim/cut.py") 535), (Value.int 137 0), (Value.int 1 0), (Value.int 0 0), (Value.int 0 0), (Value.int 3 0), (Value.ref 254), (Value.bool true), (Value.int 181 0), (Value.ref 255), Value.none, (Value.ref 256), (Value.ref 257), (Value.ref 258), (Value.int 538 0), (Value.int 137 0), (Value.str (Str.ofString "/claim/cut.py") 539)])) (List.toArray []))) ::
  (nat_lit 260, (by refine' (fun (o : Obj) (_ : o = (Obj.mk (Value.type "function") none (Data.func (FuncData.mk (Str.ofString "parse_block") (Str.ofString "parse_block") (fA (t1 26)) (FuncBody.stmts (fB (t1 26))) (fS (t1 26)) 3 [] Value.none Value.none Value.none (Value.str (Str.ofString "pipeboard.shell") 259) none (Value.ref 259) Value.none 0)) (List.toArray []))) => o) _ ?h; (case h => (simp only [eA_26_0, eB_26_0, eS_26_0]; exact rfl)))) ::
  (nat_lit 261, (Obj.mk (Value.type "tuple") none (Data.seq (List.toArray []) 0) (List.toArray []))) ::
  (nat_lit 263, (Obj.mk (Value.type "tuple") none (Data.seq (List.toArray [(Value.str (Str.ofString "scanner") 544), (Value.str (Str.ofString "program") 545), (Value.str (Str.ofString "found") 546)]) 0) (List.toArray []))) ::
  (nat_lit 264, (Obj.mk (Value.type "tuple") none (Data.seq (List.toArray []) 0) (List.toArray []))) ::
  (nat_lit 266, (Obj.mk (Value.type "code") none (Data.fields (List.toArray [(Value.str (Str.ofString "parse_command") 541), (Value.str (Str.ofString "parse_command") 542), (Value.str (Str.ofString "/claim/cut.py") 543), (Value.int 144 0), (Value.int 1 0), (Value.int 0 0), (Value.int 0 0), (Value.int 3 0), (Value.ref 261), (Value.bool true), (Value.int 181 0), (Value.ref 262), Value.none, (Value.ref 263), (Value.ref 264), (Value.ref 265), (Value.int 547 0), (Value.int 144 0), (Value.str (Str.ofString "/claim/cut.py") 548)])) (List.toArray []))) ::
  (nat_lit 267, (by refine' (fun (o : Obj) (_ : o = (Obj.mk (Value.type "function") none (Data.func (FuncData.mk (Str.ofString "parse_command") (Str.ofString "parse_command") (fA (t1 27)) (FuncBody.stmts (fB (t1 27))) (fS (t1 27)) 3 [] Value.none Value.none Value.none (Value.str (Str.ofString "pipeboard.shell") 259) none (Value.ref 266) Value.none 0)) (List.toArray []))) => o) _ ?h; (case h => (simp only [eA_27_0, eB_27_0, eS_27_0]; exact rfl)))) ::
  (nat_lit 268, (Obj.mk (Value.type "tuple") none (Data.seq (List.toArray []) 0) (List.toArray []))) ::
  (nat_lit 270, (Obj.mk (Value.type "tuple") none (Data.seq (List.toArray [(Value.str (Str.ofString "tree") 553), (Value.str (Str.ofString "sign") 554), (Value.str (Str.ofString "left") 555)]) 0) (List.toArray []))) ::
  (nat_lit 271, (Obj.mk (Value.type "tuple") none (Data.seq (List.toArray []) 0) (List.toArray []))) ::
  (nat_lit 273, (Obj.mk (Value.type "code") none (Data.fields (List.toArray [(Value.str (Str.ofString "text_of") 550), (Value.str (Str.ofString "text_of") 551), (Value.str (Str.ofString "/claim/cut.py") 552), (Value.int 157 0), (Value.int 1 0), (Value.int 0 0), (Value.int 0 0), (Value.int 3 0), (Value.ref 268), (Value.bool true), (Value.int 181 0), (Value.ref 269), Value.none, (Value.ref 270), (Value.ref 271), (Value.ref 272), (Value.int 556 0), (Value.int 157 0), (Value.str (Str.ofString "/claim/cut.py") 557)])) (List.toArray []))) ::
  (nat_lit 274, (by refine' (fun (o : Obj) (_ : o = (Obj.mk (Value.type "function") none (Data.func (FuncData.mk (Str.ofString "text_of") (Str.ofString "text_of") (fA (t1 28)) (FuncBody.stmts (fB (t1 28))) (fS (t1 28)) 3 [] Value.none Value.none Value.none (Value.str (Str.ofString "pipeboard.shell") 259) none (Value.ref 273) Value.none 0)) (List.toArray []))) => o) _ ?h; (case h => (simp only [eA_28_0, eB_28_0, eS_28_0]; exact rfl)))) ::
  (nat_lit 275, (Obj.mk (Value.type "tuple") none (Data.seq (List.toArray []) 0) (List.toArray []))) ::
  (nat_lit 277, (Obj.mk (Value.type "tuple") none (Data.seq (List.toArray [(Value.str (Str.ofString "tree") 562)]) 0) (List.toArray []))) ::
  (nat_lit 278, (Obj.mk (Value.type "tuple") none (Data.seq (List.toArray []) 0) (List.toArray []))) ::
  (nat_lit 280, (Obj.mk (Value.type "code") none (Data.fields (List.toArray [(Value.str (Str.ofString "grouped") 559), (Value.str (Str.ofString "grouped") 560), (Value.str (Str.ofString "/claim/cut.py") 561), (Value.int 169 0), (Value.int 1 0), (Value.int 0 0), (Value.int 0 0), (Value.int 3 0), (Value.ref 275), (Value.bool true), (Value.int 181 0), (Value.ref 276), Value.none, (Value.ref 277), (Value.ref 278), (Value.ref 279), (Value.int 563 0), (Value.int 169 0), (Value.str (Str.ofString "/claim/cut.py") 564)])) (List.toArray []))) ::
  (nat_lit 281, (by refine' (fun (o : Obj) (_ : o = (Obj.mk (Value.type "function") none (Data.func (FuncData.mk (Str.ofString "grouped") (Str.ofString "grouped") (fA (t1 29)) (FuncBody.stmts (fB (t1 29))) (fS (t1 29)) 3 [] Value.none Value.none Value.none (Value.str (Str.ofString "pipeboard.shell") 259) none (Value.ref 280) Value.none 0)) (List.toArray []))) => o) _ ?h; (case h => (simp only [eA_29_0, eB_29_0, eS_29_0]; exact rfl)))) ::
  (nat_lit 282, (Obj.mk (Value.type "tuple") none (Data.seq (List.toArray []) 0) (List.toArray []))) ::
  (nat_lit 284, (Obj.mk (Value.type "tuple") none (Data.seq (List.toArray [(Value.str (Str.ofString "tree") 569)]) 0) (List.toArray []))) ::
  (nat_lit 285, (Obj.mk (Value.type "tuple") none (Data.seq (List.toArray []) 0) (List.toArray []))) ::
  (nat_lit 287, (Obj.mk (Value.type "code") none (Data.fields (List.toArray [(Value.str (Str.ofString "piped") 566), (Value.str (Str.ofString "piped") 567), (Value.str (Str.ofString "/claim/cut.py") 568), (Value.int 171 0), (Value.int 1 0), (Value.int 0 0), (Value.int 0 0), (Value.int 3 0), (Value.ref 282), (Value.bool true), (Value.int 181 0), (Value.ref 283), Value.none, (Value.ref 284), (Value.ref 285), (Value.ref 286), (Value.int 570 0), (Value.int 171 0), (Value.str (Str.ofString "/claim/cut.py") 571)])) (List.toArray []))) ::
  (nat_lit 288, (by refine' (fun (o : Obj) (_ : o = (Obj.mk (Value.type "function") none (Data.func (FuncData.mk (Str.ofString "piped") (Str.ofString "piped") (fA (t1 30)) (FuncBody.stmts (fB (t1 30))) (fS (t1 30)) 3 [] Value.none Value.none Value.none (Value.str (Str.ofString "pipeboard.shell") 259) none (Value.ref 287) Value.none 0)) (List.toArray []))) => o) _ ?h; (case h => (simp only [eA_30_0, eB_30_0, eS_30_0]; exact rfl)))) ::
  (nat_lit 289, (Obj.mk (Value.type "tuple") none (Data.seq (List.toArray []) 0) (List.toArray []))) ::
  (nat_lit 291, (Obj.mk (Value.type "tuple") none (Data.seq (List.toArray [(Value.str (Str.ofString "box") 578), (Value.str (Str.ofString "many") 579), (Value.str (Str.ofString "place") 580), (Value.str (Str.ofString "number") 581)]) 0) (List.toArray []))) ::
  (nat_lit 292, (Obj.mk (Value.type "tuple") none (Data.seq (List.toArray []) 0) (List.toArray []))) ::
  (nat_lit 294, (Obj.mk (Value.type "code") none (Data.fields (List.toArray [(Value.str (Str.ofString "_law_take") 575), (Value.str (Str.ofString "_law_take") 576), (Value.str (Str.ofString "/claim/cut.py") 577), (Value.int 176 0), (Value.int 2 0), (Value.int 0 0), (Value.int 0 0), (Value.int 3 0), (Value.ref 289), (Value.bool true), (Value.int 181 0), (Value.ref 290), Value.none, (Value.ref 291), (Value.ref 292), (Value.ref 293), (Value.int 582 0), (Value.int 176 0), (Value.str (Str.ofString "/claim/cut.py") 583)])) (List.toArray []))) ::
  (nat_lit 295, (by refine' (fun (o : Obj) (_ : o = (Obj.mk (Value.type "function") none (Data.func (FuncData.mk (Str.ofString "_law_take") (Str.ofString "_law_take") (fA (t1 32)) (FuncBody.stmts (fB (t1 32))) (fS (t1 32)) 3 [] Value.none Value.none Value.none (Value.str (Str.ofString "law_pq0899_01") 573) none (Value.ref 294) Value.none 0)) (List.toArray []))) => o) _ ?h; (case h => (simp only [eA_32_0, eB_32_0, eS_32_0]; exact rfl)))) ::
  (nat_lit 296, (Obj.mk (Value.type "tuple") none (Data.seq (List.toArray []) 0) (List.toArray []))) ::
  (nat_lit 298, (Obj.mk (Value.type "tuple") none (Data.seq (List.toArray [(Value.str (Str.ofString "kind") 588), (Value.str (Str.ofString "many") 589)]) 0) (List.toArray []))) ::
  (nat_lit 299, (Obj.mk (Value.type "tuple") none (Data.seq (List.toArray []) 0) (List.toArray []))) ::
  (nat_lit 301, (Obj.mk (Value.type "code") none (Data.fields (List.toArray [(Value.str (Str.ofString "_law_line") 585), (Value.str (Str.ofString "_law_line") 586), (Value.str (Str.ofString "/claim/cut.py") 587), (Value.int 181 0), (Value.int 2 0), (Value.int 0 0), (Value.int 0 0), (Value.int 3 0), (Value.ref 296), (Value.bool true), (Value.int 181 0), (Value.ref 297), Value.none, (Value.ref 298), (Value.ref 299), (Value.ref 300), (Value.int 590 0), (Value.int 181 0), (Value.str (Str.ofString "/claim/cut.py") 591)])) (List.toArray []))) ::
  (nat_lit 302, (by refine' (fun (o : Obj) (_ : o = (Obj.mk (Value.type "function") none (Data.func (FuncData.mk (Str.ofString "_law_line") (Str.ofString "_law_line") (fA (t1 33)) (FuncBody.stmts (fB (t1 33))) (fS (t1 33)) 3 [] Value.none Value.none Value.none (Value.str (Str.ofString "law_pq0899_01") 573) none (Value.ref 301) Value.none 0)) (List.toArray []))) => o) _ ?h; (case h => (simp only [eA_33_0, eB_33_0, eS_33_0]; exact rfl)))) ::
  (nat_lit 303, (Obj.mk (Value.type "tuple") none (Data.seq (List.toArray []) 0) (List.toArray []))) ::
  (nat_lit 305, (Obj.mk (Value.type "tuple") none (Data.seq (List.toArray [(Value.str (Str.ofString "kind") 596)]) 0) (List.toArray []))) ::
  (nat_lit 306, (Obj.mk (Value.type "tuple") none (Data.seq (List.toArray []) 0) (List.toArray []))) ::
  (nat_lit 308, (Obj.mk (Value.type "code") none (Data.fields (List.toArray [(Value.str (Str.ofString "_law_deepest") 593), (Value.str (Str.ofString "_law_deepest") 594), (Value.str (Str.ofString "/claim/cut.py") 595), (Value.int 187 0), (Value.int 1 0), (Value.int 0 0), (Value.int 0 0), (Value.int 3 0), (Value.ref 303), (Value.bool true), (Value.int 181 0), (Value.ref 304), Value.none, (Value.ref 305), (Value.ref 306), (Value.ref 307), (Value.int 597 0), (Value.int 187 0), (Value.str (Str.ofString "/claim/cut.py") 598)])) (List.toArray []))) ::
  (nat_lit 309, (by refine' (fun (o : Obj) (_ : o = (Obj.mk (Value.type "function") none (Data.func (FuncData.mk (Str.ofString "_law_deepest") (Str.ofString "_law_deepest") (fA (t1 34)) (FuncBody.stmts (fB (t1 34))) (fS (t1 34)) 3 [] Value.none Value.none Value.none (Value.str (Str.ofString "law_pq0899_01") 573) none (Value.ref 308) Value.none 0)) (List.toArray []))) => o) _ ?h; (case h => (simp only [eA_34_0, eB_34_0, eS_34_0]; exact rfl)))) ::
  (nat_lit 310, (Obj.mk (Value.type "tuple") none (Data.seq (List.toArray []) 0) (List.toArray []))) ::
  (nat_lit 312, (Obj.mk (Value.type "tuple") none (Data.seq (List.toArray [(Value.str (Str.ofString "tree") 603), (Value.str (Str.ofString "found") 604)]) 0) (List.toArray []))) ::
  (nat_lit 313, (Obj.mk (Value.type "tuple") none (Data.seq (List.toArray []) 0) (List.toArray []))) ::
  (nat_lit 315, (Obj.mk (Value.type "code") none (Data.fields (List.toArray [(Value.str (Str.ofString "_law_levels") 600), (Value.str (Str.ofString "_law_levels") 601), (Value.str (Str.ofString "/claim/cut.py") 602), (Value.int 189 0), (Value.int 1 0), (Value.int 0 0), (Value.int 0 0), (Value.int 3 0), (Value.ref 310), (Value.bool true), (Value.int 181 0), (Value.ref 311), Value.none, (Value.ref 312), (Value.ref 313), (Value.ref 314), (Value.int 605 0), (Value.int 189 0), (Value.str (Str.ofString "/claim/cut.py") 606)])) (List.toArray []))) ::
  (nat_lit 316, (by refine' (fun (o : Obj) (_ : o = (Obj.mk (Value.type "function") none (Data.func (FuncData.mk (Str.ofString "_law_levels") (Str.ofString "_law_levels") (fA (t1 35)) (FuncBody.stmts (fB (t1 35))) (fS (t1 35)) 3 [] Value.none Value.none Value.none (Value.str (Str.ofString "law_pq0899_01") 573) none (Value.ref 315) Value.none 0)) (List.toArray []))) => o) _ ?h; (case h => (simp only [eA_35_0, eB_35_0, eS_35_0]; exact rfl)))) ::
  (nat_lit 317, (Obj.mk (Value.type "tuple") none (Data.seq (List.toArray []) 0) (List.toArray []))) ::
  (nat_lit 319, (Obj.mk (Value.type "tuple") none (Data.seq (List.toArray [(Value.str (Str.ofString "line") 611)]) 0) (List.toArray []))) ::
  (nat_lit 320, (Obj.mk (Value.type "tuple") none (Data.seq (List.toArray []) 0) (List.toArray []))) ::
  (nat_lit 322, (Obj.mk (Value.type "code") none (Data.fields (List.toArray [(Value.str (Str.ofString "_law_read") 608), (Value.str (Str.ofString "_law_read") 609), (Value.str (Str.ofString "/claim/cut.py") 610), (Value.int 202 0), (Value.int 1 0), (Value.int 0 0), (Value.int 0 0), (Value.int 3 0), (Value.ref 317), (Value.bool true), (Value.int 181 0), (Value.ref 318), Value.none, (Value.ref 319), (Value.ref 320), (Value.ref 321), (Value.int 612 0), (Value.int 202 0), (Value.str (Str.ofString "/claim/cut.py") 613)])) (List.toArray []))) ::
  (nat_lit 323, (by refine' (fun (o : Obj) (_ : o = (Obj.mk (Value.type "function") none (Data.func (FuncData.mk (Str.ofString "_law_read") (Str.ofString "_law_read") (fA (t1 36)) (FuncBody.stmts (fB (t1 36))) (fS (t1 36)) 3 [] Value.none Value.none Value.none (Value.str (Str.ofString "law_pq0899_01") 573) none (Value.ref 322) Value.none 0)) (List.toArray []))) => o) _ ?h; (case h => (simp only [eA_36_0, eB_36_0, eS_36_0]; exact rfl)))) ::
  (nat_lit 324, (Obj.mk (Value.type "tuple") none (Data.seq (List.toArray []) 0) (List.toArray []))) ::
  (nat_lit 326, (Obj.mk (Value.type "tuple") none (Data.seq (List.toArray [(Value.str (Str.ofString "script") 618), (Value.str (Str.ofString "box") 619), (Value.str (Str.ofString "turn") 620), (Value.str (Str.ofString "kind") 621), (Value.str (Str.ofString "many") 622), (Value.str (Str.ofString "tree") 623), (Value.str (Str.ofString "due") 624), (Value.str (Str.ofString "beside") 625), (Value.str (Str.ofString "odd") 626)]) 0) (List.toArray []))) ::
  (nat_lit 327, (Obj.mk (Value.type "tuple") none (Data.seq (List.toArray []) 0) (List.toArray []))) ::
  (nat_lit 329, (Obj.mk (Value.type "code") none (Data.fields (List.toArray [(Value.str (Str.ofString "law") 615), (Value.str (Str.ofString "law") 616), (Value.str (Str.ofString "/claim/cut.py") 617), (Value.int 207 0), (Value.int 1 0), (Value.int 0 0), (Value.int 0 0), (Value.int 3 0), (Value.ref 324), (Value.bool true), (Value.int 181 0), (Value.ref 325), Value.none, (Value.ref 326), (Value.ref 327), (Value.ref 328), (Value.int 627 0), (Value.int 207 0), (Value.str (Str.ofString "/claim/cut.py") 628)])) (List.toArray []))) ::
  (nat_lit 330, (by refine' (fun (o : Obj) (_ : o = (Obj.mk (Value.type "function") none (Data.func (FuncData.mk (Str.ofString "law") (Str.ofString "law") (fA (t1 37)) (FuncBody.stmts (fB (t1 37))) (fS (t1 37)) 3 [] Value.none Value.none Value.none (Value.str (Str.ofString "law_pq0899_01") 573) none (Value.ref 329) Value.none 0)) (List.toArray []))) => o) _ ?h; (case h => (simp only [eA_37_0, eB_37_0, eS_37_0]; exact rfl)))) :: []
abbrev PR : Program := PySem.Challenge.rw_pq0899_01.row.prog

/-- the scanner's own dict -/
abbrev scDict (w : World) (t1 t2 t3 tl tp td : Tok) (line : Str) (place deep : Int) : Obj :=
  dictOf [⟨PyData.keyHash w.params (Str.ofString "line"), .str (Str.ofString "line") t1, .str line tl⟩,
    ⟨PyData.keyHash w.params (Str.ofString "place"), .str (Str.ofString "place") t2, .int place tp⟩,
    ⟨PyData.keyHash w.params (Str.ofString "deep"), .str (Str.ofString "deep") t3, .int deep td⟩] 3
abbrev scObj (d : Addr) : Obj := instObj 216 d
end

end Mine

-- part B1
namespace Mine
def isB (c : Nat) : Bool := (#[32, 9, 13, 10, 11] : Array Nat).toList.contains c
def isS (c : Nat) : Bool := (#[60, 124, 62, 38, 59, 40, 41] : Array Nat).toList.contains c
def skip : List Nat → List Nat
  | [] => []
  | c :: r => if isB c then skip r else c :: r
def wordOf : List Nat → List Nat
  | [] => []
  | c :: r => if isB c || isS c then [] else c :: wordOf r
def wordRest : List Nat → List Nat
  | [] => []
  | c :: r => if isB c || isS c then c :: r else wordRest r

theorem skip_b {c : Nat} {r : List Nat} (h : isB c = true) : skip (c :: r) = skip r := by simp [skip, h]
theorem skip_n {c : Nat} {r : List Nat} (h : isB c = false) : skip (c :: r) = c :: r := by simp [skip, h]
theorem skip_cases : ∀ r : List Nat, skip r = [] ∨ ∃ c q, skip r = c :: q ∧ isB c = false
  | [] => .inl rfl
  | c :: r => by
    cases h : isB c with
    | true => rw [skip_b h]; exact skip_cases r
    | false => exact .inr ⟨c, r, skip_n h, h⟩
theorem skip_skip (r : List Nat) : skip (skip r) = skip r := by
  rcases skip_cases r with h | ⟨c, q, h, hc⟩
  · rw [h]; rfl
  · rw [h, skip_n hc]

/-- the scanner stands at r -/
structure AtZ (line : Str) (place : Int) (r : List Nat) : Prop where
  nn : 0 ≤ place
  le : place ≤ (line.length : Int)
  dr : line.cps.toList.drop place.toNat = r
theorem AtZ.len {line : Str} {p : Int} {r : List Nat} (h : AtZ line p r) : (line.length : Int) = p + r.length := by
  obtain ⟨a, b, c⟩ := h
  have := congrArg List.length c
  rw [List.length_drop] at this
  have e : line.length = line.cps.toList.length := by simp [Str.length]
  rw [← e] at this
  omega
theorem AtZ.nil_ge {line : Str} {p : Int} (h : AtZ line p []) : ¬ p < (line.length : Int) := by
  have := h.len
  simp at this
  omega
theorem AtZ.nil_eq {line : Str} {p : Int} (h : AtZ line p []) : p = (line.length : Int) := by
  have := h.len
  simp at this
  omega
theorem AtZ.lt {line : Str} {p : Int} {c : Nat} {r : List Nat} (h : AtZ line p (c :: r)) : p < (line.length : Int) := by
  have := h.len
  simp at this
  omega
theorem AtZ.get {line : Str} {p : Int} {c : Nat} {r : List Nat} (h : AtZ line p (c :: r)) : line.cps[p.toNat]? = some c := by
  have e := h.dr
  have : (line.cps.toList.drop p.toNat)[0]? = some c := by rw [e]; rfl
  rw [List.getElem?_drop] at this
  simpa using this
theorem AtZ.next {line : Str} {p : Int} {c : Nat} {r : List Nat} (h : AtZ line p (c :: r)) : AtZ line (p + 1) r := by
  refine ⟨by have := h.nn; omega, by have := h.lt; omega, ?_⟩
  have e := h.dr
  have q : (p + 1).toNat = p.toNat + 1 := by have := h.nn; omega
  rw [q, ← List.drop_drop, e]
  rfl

section
variable {prog : Program} {w : World} {A : Around} {E : Value → Shared → Prop} {s : Shared}
/-- a sign of the line -/
theorem sub_at {value slice : PySem.Expr} {line : Str} {t u : Tok} {p : Int} {c : Nat} {r : List Nat} {Q : Value → Shared → Prop} (hz : AtZ line p (c :: r)) (hlen : line.length ≤ 100000)
    (h : Q (.str ⟨#[c]⟩ s.toks) { s with toks := s.toks + 1 })
    (hs : subscripted slice false (.str line t) (.int p u) = operate [.str line t, .int p u] (getItem (.str line t) (.int p u)) := by with_unfolding_all rfl)
    (ht : ∀ r, letTemporaryGo value (.str line t) r = pure () := by intro _; with_unfolding_all rfl) :
    wpAny (model prog w) A (subscriptTail value slice (.str line t) (.int p u)) Q E s := by
  have h0 := hz.nn
  have h1 := hz.lt
  refine item_str (fitsSsize_of (N := 200000) (by omega) (by omega) (by decide)) (by omega) h1 (fun _ => ?_) hs ht
  have e : Txt.item line p = ⟨#[c]⟩ := by
    have g := hz.get
    unfold Txt.item Txt.charAt
    have : seqIndex? p line.length = some p.toNat := by
      unfold seqIndex?
      have a1 : ¬ p < 0 := by omega
      have a2 : p < (line.length : Int) := h1
      simp [a1, h0, a2]
    rw [this]
    simp [g]
  rw [e]; exact h
theorem in_yes {c : Nat} {signs : Str} {t u : Tok} {Q : Value → Shared → Prop} (hc : signs.cps.toList.contains c = true) (h : Q (.bool true) s) : wpAny (model prog w) A (compareOp .In (.str ⟨#[c]⟩ u) (.str signs t)) Q E s := by
  refine PyProof.Rows.in_str ?_
  rw [StrLaws.found_one]
  rw [show decide (c ∈ signs.cps.toList) = true from by simpa using hc]
  exact h
theorem in_no {c : Nat} {signs : Str} {t u : Tok} {Q : Value → Shared → Prop} (hc : signs.cps.toList.contains c = false) (h : Q (.bool false) s) : wpAny (model prog w) A (compareOp .In (.str ⟨#[c]⟩ u) (.str signs t)) Q E s := by
  refine PyProof.Rows.in_str ?_
  rw [StrLaws.found_one]
  rw [show decide (c ∈ signs.cps.toList) = false from by simpa using hc]
  exact h
end

/-- a place where the walk stops -/
def Stp (P : Prop) : Prop := P
theorem stp {P : Prop} (h : Stp P) : P := h
theorem unstp {P : Prop} (h : P) : Stp P := h

theorem bl_is : Str.ofString " \t\x0d\n\x0b" = ⟨#[32, 9, 13, 10, 11]⟩ := by decide +kernel
theorem sg_is : Str.ofString "<|>&;()" = ⟨#[60, 124, 62, 38, 59, 40, 41]⟩ := by decide +kernel
section
variable {prog : Program} {w : World} {A : Around} {E : Value → Shared → Prop} {s : Shared} {c : Nat} {t u : Tok} {Q : Value → Shared → Prop}
theorem in_bl_yes (hc : isB c = true) (h : Q (.bool true) s) : wpAny (model prog w) A (compareOp .In (.str ⟨#[c]⟩ u) (.str (Str.ofString " \t\x0d\n\x0b") t)) Q E s := by
  rw [bl_is]; exact in_yes hc h
theorem in_bl_no (hc : isB c = false) (h : Q (.bool false) s) : wpAny (model prog w) A (compareOp .In (.str ⟨#[c]⟩ u) (.str (Str.ofString " \t\x0d\n\x0b") t)) Q E s := by
  rw [bl_is]; exact in_no hc h
theorem nin_yes {signs : Str} (hc : signs.cps.toList.contains c = false) (h : Q (.bool true) s) : wpAny (model prog w) A (compareOp .NotIn (.str ⟨#[c]⟩ u) (.str signs t)) Q E s := by
  refine SB.notContains ?_
  have e : Txt.contains signs ⟨#[c]⟩ = decide (c ∈ signs.cps.toList) := StrLaws.found_one signs c
  rw [e, show decide (c ∈ signs.cps.toList) = false from by simpa using hc]
  exact h
theorem nin_no {signs : Str} (hc : signs.cps.toList.contains c = true) (h : Q (.bool false) s) : wpAny (model prog w) A (compareOp .NotIn (.str ⟨#[c]⟩ u) (.str signs t)) Q E s := by
  refine SB.notContains ?_
  have e : Txt.contains signs ⟨#[c]⟩ = decide (c ∈ signs.cps.toList) := StrLaws.found_one signs c
  rw [e, show decide (c ∈ signs.cps.toList) = true from by simpa using hc]
  exact h
theorem nin_sg_yes (hc : isS c = false) (h : Q (.bool true) s) : wpAny (model prog w) A (compareOp .NotIn (.str ⟨#[c]⟩ u) (.str (Str.ofString "<|>&;()") t)) Q E s := by
  rw [sg_is]; exact nin_yes hc h
theorem nin_sg_no (hc : isS c = true) (h : Q (.bool false) s) : wpAny (model prog w) A (compareOp .NotIn (.str ⟨#[c]⟩ u) (.str (Str.ofString "<|>&;()") t)) Q E s := by
  rw [sg_is]; exact nin_no hc h
theorem bs_is : Str.ofString " \t\x0d\n\x0b" ++ Str.ofString "<|>&;()" = ⟨#[32, 9, 13, 10, 11, 60, 124, 62, 38, 59, 40, 41]⟩ := by decide +kernel
theorem bs_c (c : Nat) : (#[32, 9, 13, 10, 11, 60, 124, 62, 38, 59, 40, 41] : Array Nat).toList.contains c = (isB c || isS c) := by
  simp only [isB, isS, List.contains_cons, List.contains_nil, Bool.or_false, Bool.or_assoc]
theorem nin_bs_yes (hc : (isB c || isS c) = false) (h : Q (.bool true) s) : wpAny (model prog w) A (compareOp .NotIn (.str ⟨#[c]⟩ u) (.str (Str.ofString " \t\x0d\n\x0b" ++ Str.ofString "<|>&;()") t)) Q E s := by
  rw [bs_is]; exact nin_yes (by show (#[32, 9, 13, 10, 11, 60, 124, 62, 38, 59, 40, 41] : Array Nat).toList.contains c = false; rw [bs_c]; exact hc) h
theorem nin_bs_no (hc : (isB c || isS c) = true) (h : Q (.bool false) s) : wpAny (model prog w) A (compareOp .NotIn (.str ⟨#[c]⟩ u) (.str (Str.ofString " \t\x0d\n\x0b" ++ Str.ofString "<|>&;()") t)) Q E s := by
  rw [bs_is]; exact nin_no (by show (#[32, 9, 13, 10, 11, 60, 124, 62, 38, 59, 40, 41] : Array Nat).toList.contains c = true; rw [bs_c]; exact hc) h
end

/-- the place against the length, as the rest of the line says -/
def AtF (line : Str) (place : Int) : List Nat → Prop
  | [] => ¬ place < (line.length : Int)
  | _ :: _ => place < (line.length : Int)
theorem AtZ.f {line : Str} {p : Int} : ∀ {r : List Nat}, AtZ line p r → AtF line p r
  | [], h => h.nil_ge
  | _ :: _, h => h.lt
def headIn (signs : Str) : List Nat → Bool
  | [] => false
  | c :: _ => signs.cps.toList.contains c
def endR : List Nat → Bool
  | [] => true
  | _ :: _ => false
def headW : List Nat → Bool
  | [] => false
  | c :: _ => !isS c
theorem skip_headB {r : List Nat} {c : Nat} {q : List Nat} (h : skip r = c :: q) : isB c = false := by
  rcases skip_cases r with e | ⟨c', q', e, hc⟩
  · rw [e] at h; cases h
  · rw [e] at h; cases h; exact hc

theorem dec_f {p : Prop} [Decidable p] {P : Bool → Prop} (h : ¬p) (q : P false) : P (decide p) := by rw [decide_eq_false h]; exact q
theorem dec_t {p : Prop} [Decidable p] {P : Bool → Prop} (h : p) (q : P true) : P (decide p) := by rw [decide_eq_true h]; exact q

theorem beqi_f {a b : Int} {P : Bool → Prop} (h : a < b) (q : P false) : P (a == b) := by
  rw [show (a == b) = false from by simp; omega]; exact q
theorem word_split : ∀ r : List Nat, wordOf r ++ wordRest r = r
  | [] => rfl
  | c :: r => by
    unfold wordOf wordRest
    split
    · rfl
    · rw [List.cons_append, word_split r]
theorem word_slice {line : Str} {b p : Int} {r : List Nat} (hb : AtZ line b r) (hp : AtZ line p (wordRest r)) : Txt.slice line (some b) (some p) = ⟨(wordOf r).toArray⟩ := by
  have h1 := hb.len
  have h2 := hp.len
  have h3 := congrArg List.length (word_split r)
  rw [List.length_append] at h3
  have hle : b ≤ p := by omega
  have e := beq_iff_eq.mp (slice_closesL (x := line) (i := b) (j := p) hb.nn hle (by have := hp.le; exact this))
  rw [e, hb.dr]
  have q : (p - b).toNat = (wordOf r).length := by omega
  rw [q]
  have z : List.take (wordOf r).length r = wordOf r := by
    have := List.take_left (l₁ := wordOf r) (l₂ := wordRest r)
    rwa [word_split r] at this
  rw [z]
theorem wr_stop {c : Nat} {r : List Nat} (h : (isB c || isS c) = true) : wordRest (c :: r) = c :: r := by unfold wordRest; rw [if_pos h]
theorem wr_go {c : Nat} {r : List Nat} (h : (isB c || isS c) = false) : wordRest (c :: r) = wordRest r := by
  conv => lhs; unfold wordRest
  rw [h]; rfl
section
variable {prog : Program} {w : World} {A : Around} {E : Value → Shared → Prop} {s : Shared} {c : Nat} {t u : Tok} {Q : Value → Shared → Prop}
theorem gt_is : Str.ofString ">" = ⟨#[62]⟩ := by decide +kernel
theorem one_eq (c d : Nat) : ((⟨#[c]⟩ : Str) == ⟨#[d]⟩) = (c == d) := by
  rw [Bool.eq_iff_iff, beq_iff_eq, beq_iff_eq]
  constructor
  · intro h; injection h with h; simpa using h
  · rintro rfl; rfl
theorem eq_gt_yes (hc : c = 62) (h : Q (.bool true) s) : wpAny (model prog w) A (compareOp .Eq (.str ⟨#[c]⟩ u) (.str (Str.ofString ">") t)) Q E s := by
  refine PyProof.Rows.eq_str ?_
  rw [gt_is, one_eq, show (c == 62) = true from by simp [hc]]; exact h
theorem eq_gt_no (hc : c ≠ 62) (h : Q (.bool false) s) : wpAny (model prog w) A (compareOp .Eq (.str ⟨#[c]⟩ u) (.str (Str.ofString ">") t)) Q E s := by
  refine PyProof.Rows.eq_str ?_
  rw [gt_is, one_eq, show (c == 62) = false from by simp [hc]]; exact h
end

theorem endR_nil : endR [] = true := rfl
theorem endR_cons {c : Nat} {q : List Nat} : endR (c :: q) = false := rfl

theorem lt_is : Str.ofString "<" = ⟨#[60]⟩ := by decide +kernel
theorem eq_lt_no {prog : Program} {w : World} {A : Around} {E : Value → Shared → Prop} {s : Shared} {c : Nat} {t u : Tok} {Q : Value → Shared → Prop} (hc : (c == 60) = false) (h : Q (.bool false) s) : wpAny (model prog w) A (compareOp .Eq (.str ⟨#[c]⟩ u) (.str (Str.ofString "<") t)) Q E s := by
  refine PyProof.Rows.eq_str ?_
  rw [lt_is, one_eq, hc]; exact h
end Mine

-- part B2
namespace Mine
inductive Res (α : Type) where
  | ok (a : α)
  | bad
  | out
inductive T where
  | run (as : List (List Nat))
  | redirect (c : T) (path : List Nat)
  | pair (semi : Bool) (l r : T)
  | back (c : T)
def hdc (cs : List Nat) : List Nat → Bool
  | [] => false
  | c :: _ => cs.contains c

def redir : Nat → T → List Nat → Nat → Res (T × List Nat × Nat)
  | 0, _, _, _ => .out
  | n + 1, c, r, d =>
    match hdc [60, 62] (skip r) with
    | false => .ok (c, skip r, d)
    | true =>
      match Nat.ble (d + 1) 30 with
      | false => .bad
      | true =>
        match hdc [62] (skip r) && !hdc [62] (skip r).tail && headW (skip (skip r).tail) with
        | true => redir n (.redirect c (wordOf (skip (skip r).tail))) (wordRest (skip (skip r).tail)) (d + 1)
        | false => .out

def cmdLoop : Nat → List (List Nat) → List Nat → Nat → Res (T × List Nat × Nat)
  | 0, _, _, _ => .out
  | n + 1, as, r, d =>
    match endR (skip r) || hdc [124, 41, 38, 59] (skip r) with
    | true => .ok (.run as, skip r, d)
    | false =>
      match headW (skip r) && Nat.blt as.length 9 with
      | false => .out
      | true =>
        match hdc [60, 62] (skip (wordRest (skip r))) with
        | false => cmdLoop n (as ++ [wordOf (skip r)]) (skip (wordRest (skip r))) d
        | true =>
          match redir n (.run (as ++ [wordOf (skip r)])) (wordRest (skip r)) d with
          | .bad => .bad
          | .out => .out
          | .ok (t, r3, d3) =>
            match endR (skip r3) || hdc [124, 41, 38, 59] (skip r3) with
            | true => .ok (t, skip r3, d3)
            | false => .out

def backs : Nat → T → List Nat → Nat → Res (T × List Nat × Nat)
  | 0, _, _, _ => .out
  | n + 1, c, r, d =>
    match hdc [38] (skip r) with
    | false => .ok (c, skip r, d)
    | true =>
      match Nat.ble (d + 1) 30 with
      | false => .bad
      | true => backs n (.back c) (skip r).tail (d + 1)

mutual
def pLine : Nat → List Nat → Nat → Res (T × List Nat × Nat)
  | 0, _, _ => .out
  | n + 1, r, d =>
    match Nat.ble (d + 1) 30 with
    | false => .bad
    | true =>
      match pPipe n r (d + 1) with
      | .bad => .bad
      | .out => .out
      | .ok (t, r1, d1) =>
        match backs n t r1 d1 with
        | .bad => .bad
        | .out => .out
        | .ok (t2, r2, _) =>
          match hdc [59] (skip r2) with
          | false => .ok (t2, skip r2, d)
          | true =>
            match pLine n (skip r2).tail (d + 1) with
            | .bad => .bad
            | .out => .out
            | .ok (t3, r3, _) => .ok (.pair true t2 t3, r3, d)
def pPipe : Nat → List Nat → Nat → Res (T × List Nat × Nat)
  | 0, _, _ => .out
  | n + 1, r, d =>
    match Nat.ble (d + 1) 30 with
    | false => .bad
    | true =>
      match pCmd n r (d + 1) with
      | .bad => .bad
      | .out => .out
      | .ok (t, r1, _) =>
        match hdc [124] (skip r1) with
        | false => .ok (t, skip r1, d)
        | true =>
          match pPipe n (skip r1).tail (d + 1) with
          | .bad => .bad
          | .out => .out
          | .ok (t2, r2, _) => .ok (.pair false t t2, r2, d)
def pCmd : Nat → List Nat → Nat → Res (T × List Nat × Nat)
  | 0, _, _ => .out
  | n + 1, r, d =>
    match hdc [40] (skip r) with
    | true =>
      match pLine n (skip r).tail d with
      | .bad => .bad
      | .out => .out
      | .ok (t, r2, d2) =>
        match hdc [41] (skip r2) with
        | false => .out
        | true => redir n t (skip r2).tail d2
    | false =>
      match hdc [60, 62] (skip r) with
      | true => .out
      | false => cmdLoop n [] (skip r) d
end

/-- what parse makes of a line -/
def pWhole (cs : List Nat) : Res T :=
  match cs.any fun c => Nat.blt 255 c with
  | true => .bad
  | false =>
    match pLine 64 cs 0 with
    | .bad => .bad
    | .out => .out
    | .ok (t, r, _) => match endR (skip r) with | true => .ok t | false => .out

def levels : T → Option Nat
  | .run as => if as = [[97]] then some 0 else none
  | .redirect c _ => (levels c).map (· + 1)
  | .back c => (levels c).map (· + 1)
  | .pair _ l r => match l with
    | .run as => if as = [[97]] then (levels r).map (· + 1) else none
    | _ => none

def lineOf (kind many : Nat) : List Nat :=
  match kind with
  | 0 => (List.replicate many [97]).intersperse [32, 59, 32] |>.flatten
  | 1 => (List.replicate many [97]).intersperse [124] |>.flatten
  | 2 => List.replicate many 40 ++ [97] ++ List.replicate many 41
  | 3 => 97 :: (List.replicate many [32, 38]).flatten
  | _ => 97 :: (List.replicate many [32, 62, 32, 102]).flatten
def deepest : Nat → Nat
  | 0 => 29
  | 1 => 29
  | 2 => 14
  | 3 => 29
  | _ => 28
def okT : Res T → Bool
  | .ok _ => true
  | _ => false
def isBad : Res T → Bool
  | .bad => true
  | _ => false
def chk (kind many : Nat) : Bool :=
  match pWhole (lineOf kind many) with
  | .ok t => Nat.ble many (deepest kind) && levels t == some (match kind with | 0 => many - 1 | 1 => many - 1 | 2 => 0 | _ => many)
  | .bad => Nat.blt (deepest kind) many
  | .out => false
theorem chk_all : ((List.range 5).all fun k => (List.range (if k = 2 then 18 else 45)).all fun m => chk k (m + 1)) = true := by decide +kernel
end Mine

-- part B3
namespace Mine
/-- words as values -/
inductive Words : List Value → List (List Nat) → Prop
  | nil : Words [] []
  | cons {x : List Nat} {t : Tok} {vs : List Value} {as : List (List Nat)} : Words vs as → Words (.str ⟨x.toArray⟩ t :: vs) (x :: as)
theorem Words.push {vs : List Value} {as : List (List Nat)} {x : List Nat} {t : Tok} (h : Words vs as) : Words (vs ++ [.str ⟨x.toArray⟩ t]) (as ++ [x]) := by
  induction h with
  | nil => exact .cons .nil
  | cons _ ih => exact .cons ih
theorem Words.len {vs : List Value} {as : List (List Nat)} (h : Words vs as) : vs.length = as.length := by
  induction h with
  | nil => rfl
  | cons _ ih => simp [ih]

noncomputable section
abbrev kv (w : World) (n : String) (t : Tok) (v : Value) : DictEntry := ⟨PyData.keyHash w.params (Str.ofString n), .str (Str.ofString n) t, v⟩
abbrev runD (w : World) (t1 : Tok) (l : Addr) : Obj := dictOf [kv w "arguments" t1 (.ref l)] 1
abbrev redD (w : World) (t1 t2 t3 t4 tp tm td : Tok) (v : Value) (p : List Nat) : Obj :=
  dictOf [kv w "command" t1 v, kv w "path" t2 (.str ⟨p.toArray⟩ tp), kv w "mode" t3 (.int 1537 tm), kv w "descriptor" t4 (.int 1 td)] 4
abbrev pairD (w : World) (t1 t2 t3 ts : Tok) (sign : String) (l r : Value) : Obj :=
  dictOf [kv w "sign" t1 (.str (Str.ofString sign) ts), kv w "left" t2 l, kv w "right" t3 r] 3
abbrev backD (w : World) (t1 : Tok) (v : Value) : Obj := dictOf [kv w "command" t1 v] 1
inductive TreeIn (w : World) (led : List (Addr × Obj)) : Value → T → Prop
  | run {a d l : Addr} {n : Nat} {vs : List Value} {as : List (List Nat)} {t1 : Tok} : (a, instObj 83 d) ∈ led → (d, runD w t1 l) ∈ led → (l, listOf vs.toArray n) ∈ led → Words vs as → TreeIn w led (.ref a) (.run as)
  | redirect {a d : Addr} {t1 t2 t3 t4 tp tm td : Tok} {v : Value} {p : List Nat} {c : T} : (a, instObj 104 d) ∈ led → (d, redD w t1 t2 t3 t4 tp tm td v p) ∈ led → TreeIn w led v c → TreeIn w led (.ref a) (.redirect c p)
  | pipe {a d : Addr} {t1 t2 t3 ts : Tok} {x y : Value} {l r : T} : (a, instObj 125 d) ∈ led → (d, pairD w t1 t2 t3 ts "|" x y) ∈ led → TreeIn w led x l → TreeIn w led y r → TreeIn w led (.ref a) (.pair false l r)
  | semi {a d : Addr} {t1 t2 t3 ts : Tok} {x y : Value} {l r : T} : (a, instObj 125 d) ∈ led → (d, pairD w t1 t2 t3 ts ";" x y) ∈ led → TreeIn w led x l → TreeIn w led y r → TreeIn w led (.ref a) (.pair true l r)
  | back {a d : Addr} {t1 : Tok} {v : Value} {c : T} : (a, instObj 146 d) ∈ led → (d, backD w t1 v) ∈ led → TreeIn w led v c → TreeIn w led (.ref a) (.back c)
end
theorem TreeIn.mono {w : World} {led led' : List (Addr × Obj)} {v : Value} {t : T} (h : TreeIn w led v t) (hs : ∀ p ∈ led, p ∈ led') : TreeIn w led' v t := by
  induction h with
  | run a b c d => exact .run (hs _ a) (hs _ b) (hs _ c) d
  | redirect a b _ ih => exact .redirect (hs _ a) (hs _ b) ih
  | pipe a b _ _ i1 i2 => exact .pipe (hs _ a) (hs _ b) i1 i2
  | semi a b _ _ i1 i2 => exact .semi (hs _ a) (hs _ b) i1 i2
  | back a b _ ih => exact .back (hs _ a) (hs _ b) ih
theorem TreeIn.app {w : World} {led tl : List (Addr × Obj)} {v : Value} {t : T} (h : TreeIn w led v t) : TreeIn w (tl ++ led) v t := h.mono fun _ hp => List.mem_append.mpr (.inr hp)

theorem hd_redir (r : List Nat) : headIn (Str.ofString "<>") r = hdc [60, 62] r := by
  rw [show Str.ofString "<>" = ⟨#[60, 62]⟩ from by decide +kernel]; cases r <;> rfl
theorem hd_pipe (r : List Nat) : headIn (Str.ofString "|") r = hdc [124] r := by
  rw [show Str.ofString "|" = ⟨#[124]⟩ from by decide +kernel]; cases r <;> rfl
theorem hd_amp (r : List Nat) : headIn (Str.ofString "&") r = hdc [38] r := by
  rw [show Str.ofString "&" = ⟨#[38]⟩ from by decide +kernel]; cases r <;> rfl
theorem hd_semi (r : List Nat) : headIn (Str.ofString ";") r = hdc [59] r := by
  rw [show Str.ofString ";" = ⟨#[59]⟩ from by decide +kernel]; cases r <;> rfl
theorem hd_open (r : List Nat) : headIn (Str.ofString "(") r = hdc [40] r := by
  rw [show Str.ofString "(" = ⟨#[40]⟩ from by decide +kernel]; cases r <;> rfl
theorem hd_close (r : List Nat) : headIn (Str.ofString ")") r = hdc [41] r := by
  rw [show Str.ofString ")" = ⟨#[41]⟩ from by decide +kernel]; cases r <;> rfl
theorem hd_ends (r : List Nat) : headIn (Str.ofString "|)&;") r = hdc [124, 41, 38, 59] r := by
  rw [show Str.ofString "|)&;" = ⟨#[124, 41, 38, 59]⟩ from by decide +kernel]; cases r <;> rfl
end Mine

-- part S1
namespace Mine
theorem fillS1 : (fun (_ : OpenLaw) (_ : Params → Frag) => True) PySem.Challenge.rw_pq0899_01 heapK := by w_top off; k_fill; trivial
local macro_rules | `(tactic| k_all) => `(tactic| assumption)
local macro_rules | `(tactic| walk_at "subscriptTail") => `(tactic| (k_here; (with_reducible show wpAny _ _ (subscriptTail _ _ (Value.str _ _) (Value.int _ _)) _ _ _); (refine sub_at (by assumption) (by assumption) ?_)))
local macro_rules | `(tactic| walk_at "compareOp In str str") => `(tactic| (k_here; first | refine in_bl_yes (by assumption) ?_ | refine in_bl_no (by assumption) ?_ | refine in_yes (by assumption) ?_ | refine in_no (by assumption) ?_))
local macro_rules | `(tactic| walk_at "exec While BoolOp cons nil") => `(tactic| (k_here; refine whl_start 0 (stp ?_)))
local macro_rules | `(tactic| walk_at "WhlRest") => `(tactic| refine stp ?_)

section
variable {w : World} {mean : ExcName → Option Value} {mg mb : Str → Option Value} {dp un : Nat} {gd : Option (List Code)} {cn : Str} {cs : Scope} {a : Addr} {ccd : Value} {cl : List (Str × Addr)} {outer : List Env} {A₀ : Around} {base h₀ : Heap} {L : Addr} {m : Str → Option Value} {rest : List (Addr × Obj)} {s : Shared} {sc dsc : Addr} {t1 t2 t3 tl tp td : Tok} {line : Str} {place deep : Int} {Q E : Value → Shared → Prop} {r : List Nat}

theorem blanks_c (B : Below A₀ base outer h₀) (F : Fr h₀ L s.heap m) (X : (heapK w.params).In h₀) (T : Top vw9 ln9 mean mg mb h₀) (hk : cs.kind = .function)
    (N : News h₀ L s.heap ((sc, scObj dsc) :: (dsc, scDict w t1 t2 t3 tl tp td line place deep) :: rest)) (hne : ∀ p ∈ rest, p.1 ≠ dsc) (hlt : @LT.lt Nat _ dsc sc)
    (hroom : dp + 10 < recursionLimit) (hun : un + 80 < cLine) (hlen : line.length ≤ 100000) (hz : AtZ line place r) {r' : List Nat} (hs : skip r = r')
    (hret : ∀ place' tp' h' tk', AtZ line place' r' → AtF line place' r' → Fr h₀ L h' m → News h₀ L h' ((sc, scObj dsc) :: (dsc, scDict w t1 t2 t3 tl tp' td line place' deep) :: rest) → Q .none { s with heap := h', toks := tk' }) :
    wpAny (model PR w) (ktrTop dp un gd cn cs L a ccd cl outer) (call (.ref 178) [.ref sc]) Q E s := by
  have _h := fillS1
  refine wpAny_call ?_
  k_dflt ktr_enter
  clear N
  k_steps
  rename_i g' L' h' FG' F' N' B' X' T'
  clear F
  induction r generalizing place tp h' tk r' with
  | nil =>
    refine unstp (whl_turn (k := 0) ?hE ?_)
    case hE => passes_own
    have hge := hz.nil_ge
    k_steps
    subst hs
    exact hret _ _ _ _ hz hz.f (by assumption) (by assumption)
  | cons c r ih =>
    have hl := hz.lt
    refine unstp (whl_turn (k := 0) ?hE ?_)
    case hE => passes_own
    cases hb : isB c with
    | true =>
      have hn := hz.next
      rw [skip_b hb] at hs
      k_steps
      first | exact ih hn hs hret _ (by assumption) (by assumption) | exact ih hn hs hret _ (by assumption) (by assumption) _ | exact ih hn hs hret _ _ (by assumption) (by assumption)
    | false =>
      rw [skip_n hb] at hs; subst hs
      k_steps
      exact hret _ _ _ _ hz hz.f (by assumption) (by assumption)
end

end Mine

-- part S2
namespace Mine
theorem fillS2 : (fun (_ : OpenLaw) (_ : Params → Frag) => True) PySem.Challenge.rw_pq0899_01 heapK := by w_top off; k_fill; trivial
local macro_rules | `(tactic| k_all) => `(tactic| assumption)
local macro_rules | `(tactic| walk_at "subscriptTail") => `(tactic| (k_here; (with_reducible show wpAny _ _ (subscriptTail _ _ (Value.str _ _) (Value.int _ _)) _ _ _); (refine sub_at (by assumption) (by assumption) ?_)))
local macro_rules | `(tactic| walk_at "compareOp In str str") => `(tactic| (k_here; first | refine in_bl_yes (by assumption) ?_ | refine in_bl_no (by assumption) ?_ | refine in_yes (by assumption) ?_ | refine in_no (by assumption) ?_))
local macro_rules | `(tactic| walk_at "compareOp NotIn str str") => `(tactic| (k_here; first | refine nin_sg_yes (by assumption) ?_ | refine nin_sg_no (by assumption) ?_ | refine nin_bs_yes (by assumption) ?_ | refine nin_bs_no (by assumption) ?_))
local macro_rules | `(tactic| walk_at "exec While BoolOp cons nil") => `(tactic| (k_here; refine whl_start 0 (stp ?_)))
local macro_rules | `(tactic| walk_at "WhlRest") => `(tactic| refine stp ?_)
local macro_rules | `(tactic| walk_at "call ref") => `(tactic| (k_here; k_dflt (refine' blanks_c ?k1 ?k2 ?k3 ?k4 ?k5 ?k6 ?k7 ?k8 ?k9 ?k10 ?k11 ?k12 ?k13 ?_; (case k1 => k_asm); (case k2 => k_asm); (case k3 => k_asm); (case k4 => k_asm); (case k5 => first | exact rfl | assumption); (case k6 => k_asm); (case k7 => assumption); (case k8 => assumption); (case k9 => ktr_room); (case k10 => ktr_units); (case k11 => assumption); (case k12 => assumption); (case k13 => first | assumption | exact rfl)); intro place' tp' h' tk' hz' hf' F' N'; (try dsimp only [AtF] at hf'); (try dsimp only); (try k_sweep); (try k_fold)))
local macro_rules | `(tactic| walk_at "subscriptTail") => `(tactic| (k_here; (with_reducible show wpAny _ _ (subscriptTail _ (Expr.Slice (some _) (some _) none _) (Value.str _ _) (Value.ref _)) _ _ _); (with_reducible rename Fr _ _ _ _ => F'); (with_reducible rename News _ _ _ _ => N'); (refine slice_strN_ss (hsz := ?hsz) (s := ⟨_, _, _, _, _⟩) F' N' ?_); (case hsz => (have hl9 : sizeLine = 16777216 := sizeLine_eq); omega); intro _ _ _ _ _))
local macro_rules | `(tactic| walk_at "compareOp Eq str str") => `(tactic| (k_here; first | refine eq_gt_yes (by assumption) ?_ | refine eq_gt_no (by assumption) ?_))
section
variable {w : World} {mean : ExcName → Option Value} {mg mb : Str → Option Value} {dp un : Nat} {gd : Option (List Code)} {cn : Str} {cs : Scope} {a : Addr} {ccd : Value} {cl : List (Str × Addr)} {outer : List Env} {A₀ : Around} {base h₀ : Heap} {L : Addr} {m : Str → Option Value} {rest : List (Addr × Obj)} {s : Shared} {sc dsc : Addr} {t1 t2 t3 tl tp td : Tok} {line : Str} {place deep : Int} {Q E : Value → Shared → Prop} {r : List Nat}
theorem next_is_c (B : Below A₀ base outer h₀) (F : Fr h₀ L s.heap m) (X : (heapK w.params).In h₀) (T : Top vw9 ln9 mean mg mb h₀) (hk : cs.kind = .function)
    (N : News h₀ L s.heap ((sc, scObj dsc) :: (dsc, scDict w t1 t2 t3 tl tp td line place deep) :: rest)) (hne : ∀ p ∈ rest, p.1 ≠ dsc) (hlt : @LT.lt Nat _ dsc sc)
    (hroom : dp + 12 < recursionLimit) (hun : un + 96 < cLine) (hlen : line.length ≤ 100000) (hz : AtZ line place r) {r' : List Nat} (hs : skip r = r') {signs : Str} {ts : Tok} {b : Bool} (hb : headIn signs r' = b)
    (hret : ∀ place' tp' h' tk', AtZ line place' r' → AtF line place' r' → Fr h₀ L h' m → News h₀ L h' ((sc, scObj dsc) :: (dsc, scDict w t1 t2 t3 tl tp' td line place' deep) :: rest) → Q (.bool b) { s with heap := h', toks := tk' }) :
    wpAny (model PR w) (ktrTop dp un gd cn cs L a ccd cl outer) (call (.ref 185) [.ref sc, .str signs ts]) Q E s := by
  have _h := fillS2
  refine wpAny_call ?_
  k_dflt ktr_enter
  clear N
  cases r' with
  | nil =>
    subst hb
    k_steps
    refine dec_f (P := fun b => Q (.bool b) _) (by assumption) (hret _ _ _ _ (by assumption) (by assumption) (by assumption) (by assumption))
  | cons c q =>
    cases b with
    | true =>
      have hc : signs.cps.toList.contains c = true := hb
      k_steps
      exact hret _ _ _ _ (by assumption) (by assumption) (by assumption) (by assumption)
    | false =>
      have hc : signs.cps.toList.contains c = false := hb
      k_steps
      exact hret _ _ _ _ (by assumption) (by assumption) (by assumption) (by assumption)

theorem at_end_c (B : Below A₀ base outer h₀) (F : Fr h₀ L s.heap m) (X : (heapK w.params).In h₀) (T : Top vw9 ln9 mean mg mb h₀) (hk : cs.kind = .function)
    (N : News h₀ L s.heap ((sc, scObj dsc) :: (dsc, scDict w t1 t2 t3 tl tp td line place deep) :: rest)) (hne : ∀ p ∈ rest, p.1 ≠ dsc) (hlt : @LT.lt Nat _ dsc sc)
    (hroom : dp + 12 < recursionLimit) (hun : un + 96 < cLine) (hlen : line.length ≤ 100000) (hz : AtZ line place r) {r' : List Nat} (hs : skip r = r') {b : Bool} (hb : endR r' = b)
    (hret : ∀ place' tp' h' tk', AtZ line place' r' → AtF line place' r' → Fr h₀ L h' m → News h₀ L h' ((sc, scObj dsc) :: (dsc, scDict w t1 t2 t3 tl tp' td line place' deep) :: rest) → Q (.bool b) { s with heap := h', toks := tk' }) :
    wpAny (model PR w) (ktrTop dp un gd cn cs L a ccd cl outer) (call (.ref 192) [.ref sc]) Q E s := by
  have _h := fillS2
  refine wpAny_call ?_
  k_dflt ktr_enter
  clear N
  cases r' with
  | nil =>
    subst hb
    k_steps
    all_goals (
      rename_i hz' _ _ _ _ _ _ _
      have he := hz'.nil_eq
      refine dec_t (P := fun b => Q (.bool b) _) he (hret _ _ _ _ (by assumption) (by assumption) (by assumption) (by assumption)))
  | cons c q =>
    subst hb
    k_steps
    refine beqi_f (P := fun b => Q (.bool b) _) (by assumption) (hret _ _ _ _ (by assumption) (by assumption) (by assumption) (by assumption))

end
local macro_rules | `(tactic| walk_at "call ref") => `(tactic| (k_here; k_dflt (refine' at_end_c ?k1 ?k2 ?k3 ?k4 ?k5 ?k6 ?k7 ?k8 ?k9 ?k10 ?k11 ?k12 ?k13 ?k14 ?_; (case k1 => k_asm); (case k2 => k_asm); (case k3 => k_asm); (case k4 => k_asm); (case k5 => first | exact rfl | assumption); (case k6 => k_asm); (case k7 => assumption); (case k8 => assumption); (case k9 => ktr_room); (case k10 => ktr_units); (case k11 => assumption); (case k12 => assumption); (case k13 => first | assumption | exact rfl); (case k14 => first | assumption | exact endR_nil | exact endR_cons)); intro place' tp' h' tk' hz' hf' F' N'; (try dsimp only [AtF] at hf'); (try dsimp only); (try k_sweep); (try k_fold)))
section
variable {w : World} {mean : ExcName → Option Value} {mg mb : Str → Option Value} {dp un : Nat} {gd : Option (List Code)} {cn : Str} {cs : Scope} {a : Addr} {ccd : Value} {cl : List (Str × Addr)} {outer : List Env} {A₀ : Around} {base h₀ : Heap} {L : Addr} {m : Str → Option Value} {rest : List (Addr × Obj)} {s : Shared} {sc dsc : Addr} {t1 t2 t3 tl tp td : Tok} {line : Str} {place deep : Int} {Q E : Value → Shared → Prop} {r : List Nat}
theorem is_word_c (B : Below A₀ base outer h₀) (F : Fr h₀ L s.heap m) (X : (heapK w.params).In h₀) (T : Top vw9 ln9 mean mg mb h₀) (hk : cs.kind = .function)
    (N : News h₀ L s.heap ((sc, scObj dsc) :: (dsc, scDict w t1 t2 t3 tl tp td line place deep) :: rest)) (hne : ∀ p ∈ rest, p.1 ≠ dsc) (hlt : @LT.lt Nat _ dsc sc)
    (hroom : dp + 14 < recursionLimit) (hun : un + 112 < cLine) (hlen : line.length ≤ 100000) (hz : AtZ line place r) {r' : List Nat} (hs : skip r = r') {b : Bool} (hb : headW r' = b)
    (hret : ∀ place' tp' h' tk', AtZ line place' r' → AtF line place' r' → Fr h₀ L h' m → News h₀ L h' ((sc, scObj dsc) :: (dsc, scDict w t1 t2 t3 tl tp' td line place' deep) :: rest) → Q (.bool b) { s with heap := h', toks := tk' }) :
    wpAny (model PR w) (ktrTop dp un gd cn cs L a ccd cl outer) (call (.ref 206) [.ref sc]) Q E s := by
  have _h := fillS2
  refine wpAny_call ?_
  k_dflt ktr_enter
  clear N
  cases r' with
  | nil =>
    subst hb
    k_steps
    exact hret _ _ _ _ (by assumption) (by assumption) (by assumption) (by assumption)
  | cons c q =>
    cases b with
    | true =>
      have hc : isS c = false := by simpa [headW] using hb
      k_steps
      exact hret _ _ _ _ (by assumption) (by assumption) (by assumption) (by assumption)
    | false =>
      have hc : isS c = true := by simpa [headW] using hb
      k_steps
      exact hret _ _ _ _ (by assumption) (by assumption) (by assumption) (by assumption)

theorem sign_c (B : Below A₀ base outer h₀) (F : Fr h₀ L s.heap m) (X : (heapK w.params).In h₀) (T : Top vw9 ln9 mean mg mb h₀) (hk : cs.kind = .function)
    (N : News h₀ L s.heap ((sc, scObj dsc) :: (dsc, scDict w t1 t2 t3 tl tp td line place deep) :: rest)) (hne : ∀ p ∈ rest, p.1 ≠ dsc) (hlt : @LT.lt Nat _ dsc sc)
    (hroom : dp + 12 < recursionLimit) (hun : un + 96 < cLine) (hlen : line.length ≤ 100000) (hz : AtZ line place r) {c : Nat} {q : List Nat} (hr : r = c :: q) (hc : c ≠ 62)
    (hret : ∀ tk₁ place' tp' h' tk', AtZ line place' q → AtF line place' q → Fr h₀ L h' m → News h₀ L h' ((sc, scObj dsc) :: (dsc, scDict w t1 t2 t3 tl tp' td line place' deep) :: rest) → Q (.str ⟨#[c]⟩ tk₁) { s with heap := h', toks := tk' }) :
    wpAny (model PR w) (ktrTop dp un gd cn cs L a ccd cl outer) (call (.ref 199) [.ref sc]) Q E s := by
  have _h := fillS2
  refine wpAny_call ?_
  k_dflt ktr_enter
  clear N
  subst hr
  have hl := hz.lt
  have hn := hz.next
  k_steps
  all_goals exact hret _ _ _ _ _ hn hn.f (by assumption) (by assumption)

theorem sign_gt (B : Below A₀ base outer h₀) (F : Fr h₀ L s.heap m) (X : (heapK w.params).In h₀) (T : Top vw9 ln9 mean mg mb h₀) (hk : cs.kind = .function)
    (N : News h₀ L s.heap ((sc, scObj dsc) :: (dsc, scDict w t1 t2 t3 tl tp td line place deep) :: rest)) (hne : ∀ p ∈ rest, p.1 ≠ dsc) (hlt : @LT.lt Nat _ dsc sc)
    (hroom : dp + 12 < recursionLimit) (hun : un + 96 < cLine) (hlen : line.length ≤ 100000) (hz : AtZ line place r) {q : List Nat} (hr : r = 62 :: q) (hq : ∀ d q', q = d :: q' → d ≠ 62)
    (hret : ∀ tk₁ place' tp' h' tk', AtZ line place' q → AtF line place' q → Fr h₀ L h' m → News h₀ L h' ((sc, scObj dsc) :: (dsc, scDict w t1 t2 t3 tl tp' td line place' deep) :: rest) → Q (.str ⟨#[62]⟩ tk₁) { s with heap := h', toks := tk' }) :
    wpAny (model PR w) (ktrTop dp un gd cn cs L a ccd cl outer) (call (.ref 199) [.ref sc]) Q E s := by
  have _h := fillS2
  refine wpAny_call ?_
  k_dflt ktr_enter
  clear N
  subst hr
  have hl := hz.lt
  have hn := hz.next
  have h62 : (62 : Nat) = 62 := rfl
  cases q with
  | nil =>
    have hge := hn.nil_ge
    k_steps
    all_goals exact hret _ _ _ _ _ hn hn.f (by assumption) (by assumption)
  | cons d q' =>
    have hd := hq d q' rfl
    have hl2 := hn.lt
    k_steps
    all_goals exact hret _ _ _ _ _ hn hn.f (by assumption) (by assumption)

end
local macro_rules | `(tactic| walk_at "call ref") => `(tactic| (k_here; k_dflt (refine' blanks_c ?k1 ?k2 ?k3 ?k4 ?k5 ?k6 ?k7 ?k8 ?k9 ?k10 ?k11 ?k12 ?k13 ?_; (case k1 => k_asm); (case k2 => k_asm); (case k3 => k_asm); (case k4 => k_asm); (case k5 => first | exact rfl | assumption); (case k6 => k_asm); (case k7 => assumption); (case k8 => assumption); (case k9 => ktr_room); (case k10 => ktr_units); (case k11 => assumption); (case k12 => assumption); (case k13 => first | assumption | exact rfl)); intro place' tp' h' tk' hz' hf' F' N'; (try dsimp only [AtF] at hf'); (try dsimp only); (try k_sweep); (try k_fold)))
section
variable {w : World} {mean : ExcName → Option Value} {mg mb : Str → Option Value} {dp un : Nat} {gd : Option (List Code)} {cn : Str} {cs : Scope} {a : Addr} {ccd : Value} {cl : List (Str × Addr)} {outer : List Env} {A₀ : Around} {base h₀ : Heap} {L : Addr} {m : Str → Option Value} {rest : List (Addr × Obj)} {s : Shared} {sc dsc : Addr} {t1 t2 t3 tl tp td : Tok} {line : Str} {place deep : Int} {Q E : Value → Shared → Prop} {r : List Nat}
theorem word_c (B : Below A₀ base outer h₀) (F : Fr h₀ L s.heap m) (X : (heapK w.params).In h₀) (T : Top vw9 ln9 mean mg mb h₀) (hk : cs.kind = .function)
    (N : News h₀ L s.heap ((sc, scObj dsc) :: (dsc, scDict w t1 t2 t3 tl tp td line place deep) :: rest)) (hne : ∀ p ∈ rest, p.1 ≠ dsc) (hlt : @LT.lt Nat _ dsc sc)
    (hroom : dp + 14 < recursionLimit) (hun : un + 112 < cLine) (hlen : line.length ≤ 100000) (hz : AtZ line place r) {r' : List Nat} (hs : skip r = r')
    (hret : ∀ tk₁ place' tp' h' tk', AtZ line place' (wordRest r') → AtF line place' (wordRest r') → Fr h₀ L h' m → News h₀ L h' ((sc, scObj dsc) :: (dsc, scDict w t1 t2 t3 tl tp' td line place' deep) :: rest) → Q (.str ⟨(wordOf r').toArray⟩ tk₁) { s with heap := h', toks := tk' }) :
    wpAny (model PR w) (ktrTop dp un gd cn cs L a ccd cl outer) (call (.ref 213) [.ref sc]) Q E s := by
  have _h := fillS2
  refine wpAny_call ?_
  k_dflt ktr_enter
  clear N
  k_steps
  all_goals (
    rename_i g' L' h1 FG' B' X' T' pl tp1 h2 tk1 hz1 hf1 h3 F1 N1
    clear hf1 F
    obtain ⟨pc, hpc⟩ : ∃ pc, pc = pl := ⟨_, rfl⟩
    obtain ⟨tpc, htp⟩ : ∃ t, t = tp1 := ⟨_, rfl⟩
    obtain ⟨rc, hrc⟩ : ∃ t, t = r' := ⟨_, rfl⟩
    rw [← hpc, ← htp] at N1
    have hzc : AtZ line pc rc := by rw [hpc, hrc]; exact hz1
    have hw : wordRest r' = wordRest rc := by rw [hrc]
    clear hpc htp hrc
    generalize tk1 + 1 + 1 = tk2
    clear tk1 h2 h1
    induction rc generalizing pc tpc h3 tk2 with
    | nil =>
      refine unstp (whl_turn (k := 0) ?hE ?_)
      case hE => passes_own
      have hge := hzc.nil_ge
      have hfin : AtZ line pc (wordRest r') := by rw [hw]; exact hzc
      k_steps
      all_goals (rw [word_slice hz1 hfin]; exact hret _ _ _ _ _ hfin hfin.f (by assumption) (by assumption))
    | cons c q ih =>
      have hl := hzc.lt
      refine unstp (whl_turn (k := 0) ?hE ?_)
      case hE => passes_own
      cases hb : (isB c || isS c) with
      | true =>
        have hfin : AtZ line pc (wordRest r') := by rw [hw, wr_stop hb]; exact hzc
        k_steps
        all_goals (rw [word_slice hz1 hfin]; exact hret _ _ _ _ _ hfin hfin.f (by assumption) (by assumption))
      | false =>
        have hn := hzc.next
        rw [wr_go hb] at hw
        k_steps
        refine unstp ?_
        apply ih
        all_goals first | assumption | exact hn | exact hw)

end

end Mine

-- part E1
namespace Mine
theorem fillE1 : (fun (_ : OpenLaw) (_ : Params → Frag) => True) PySem.Challenge.rw_pq0899_01 heapK := by w_top off; k_fill; trivial
noncomputable section
abbrev bm64 : List Value := [.ref 32, .type "ValueError", .type "Exception", .type "BaseException", .type "object"]
abbrev o64 : Obj := excClassObj (Str.ofString "BadText") (Str.ofString "BadText") 64 63 [.ref 32] bm64 true [] [] false none none (some (.ref 48)) none (some (.str (Str.ofString "BadText") 233)) (some (.str (Str.ofString "BadText") 241)) (some (.bool true)) "ValueError.__new__"
theorem cls64 {w : World} {h : Heap} (X : (heapK w.params).In h) : h.get? 64 = some o64 := by
  have _h := fillE1
  exact X 64 _ (by k_is)
theorem new64 {prog : Program} {w : World} {A : Around} {R : Result → Shared → Prop} {h : Heap} {g : Array GenState} {d : Drawn} {t : Nat} {os : OsState} {rest : List Value}
    (X : (heapK w.params).In h)
    (hq : R (.ok (.ret (.ref (h.objs.size + 1)))) ⟨(h.push { cls := .type "tuple", data := .seq rest.toArray }).push
      { cls := .ref 64, data := .fields #[.ref h.objs.size, .none, .none, .none, .bool false, .none] }, g, d, t, os⟩) (hrest : rest.length ≤ sizeLine) :
    codeAny (model prog w) A (.builtin "ValueError.__new__" ⟨.ref 64 :: rest, []⟩) R ⟨h, g, d, t, os⟩ := by
  have hC := cls64 X
  have F := PySem.F.excBase_ValueError
  have hends := F.ends
  have hcB : (Value.ref 64 :: bm64).contains (.type "ValueError") = true := by decide +kernel
  have hcA : (Value.ref 64 :: bm64).contains (.type "AttributeError") = false := by decide +kernel
  have hcN : (Value.ref 64 :: bm64).contains (.type "NameError") = false := by decide +kernel
  refine PySem.codeAny_builtinAt F.entry ?_
  unfold Builtin.«BaseException.__new__»
  refine PySem.wpAt_bind ?_
  show PySem.wpAt _ _ _ (stack >>= _) _ _ _
  refine PySem.wpAt_bind (PySem.wpAt_stack fun p below => PySem.wpAt_of_wpAny ?_)
  wp_walk
  refine PySem.wpAt_of_wpAny ?_
  rw [F.owner]
  repeat (first | with_reducible refine wpAny_madeHere_exc F.canon hC ?_ | with_reducible refine wpAny_loadPart_at hC ?_ | (with_reducible refine wpAny_isSubtype_exc hC ?_; first | rw [hcB] | rw [hcA] | rw [hcN]) | wp_step)
  show R _ _
  rw [Heap.size_push]
  exact hq

theorem check64 {M : Model} {A : Around} {E : Value → Shared → Prop} {h : Heap} {g : Array GenState} {d : Drawn} {t : Nat} {os : OsState} {w : World} {rest : List Value} {Q : Unit → Shared → Prop}
    (X : (heapK w.params).In h) (hq : Q () ⟨h, g, d, t, os⟩) : wpAny M A (checkBuiltinCall "ValueError.__new__" ⟨.ref 64 :: rest, []⟩) Q E ⟨h, g, d, t, os⟩ := by
  have hC := cls64 X
  have F := PySem.F.excBase_ValueError
  have hcont : (Value.ref 64 :: bm64).contains (.type "ValueError") = true := by decide +kernel
  have hstar := F.noStar
  simp only [checkBuiltinCall, F.newKind, F.newSplit, F.newRow]
  repeat (first | refine wpAny_loadPart_at hC ?_ | (refine wpAny_isSubtype_exc hC ?_; rw [hcont]) | refine wpAny_staticBase_exc hC ?_ | refine wpAny_madeBy_exc hC ?_ | simp only [bne_self_eq_false, Bool.false_eq_true, if_false] | wp_step)
  exact hq

abbrev exc0 (t : Addr) : Obj := { cls := .ref 64, data := .fields #[.ref t, .none, .none, .none, .bool false, .none] }
abbrev tup0 (vs : List Value) : Obj := { cls := .type "tuple", data := .seq vs.toArray }

theorem make64 {prog : Program} {w : World} {A : Around} {R : Result → Shared → Prop} {h : Heap} {g : Array GenState} {d : Drawn} {t : Nat} {os : OsState} {rest : List Value}
    (X : (heapK w.params).In h) (hrest : rest.length ≤ sizeLine)
    (hq : codeAny (model prog w) (A.under (.builtin "type.__call__" ⟨.ref 64 :: rest, []⟩)) (.call (.ref 61) ⟨.ref (h.objs.size + 1) :: rest, []⟩) (InitBack (h.objs.size + 1) R) ⟨(h.push (tup0 rest)).push (exc0 h.objs.size), g, d, t, os⟩) :
    codeAny (model prog w) A (.call (.ref 64) ⟨rest, []⟩) R ⟨h, g, d, t, os⟩ := by
  have _h := fillE1
  have hC := cls64 X
  have F := PySem.F.excBase_ValueError
  have f1 := tc_lookup
  have f2 := tc_bind (.ref 64)
  have hT : (⟨h, g, d, t, os⟩ : Shared).TypeIs (.ref 64) "type" := ⟨_, hC, rfl⟩
  refine codeAny_of_tree ?_
  show wpAny _ _ (callAny (.ref 64) _) _ _ _
  repeat (any_goals (first | assumption | with_reducible refine wpAny_loadPart_at hC ?_ | wp_step))
  refine ⟨rfl, ?_⟩
  refine codeAny_call_builtin_at (Code.quiet_builtin _ (by decide +kernel)) entry_typeCall (wpAny_check_type_call_sub hC ?_)
  repeat (first | with_reducible refine wpAny_loadPart_at hC ?_ | with_reducible refine wpAny_madeBy_exc hC ?_ | wp_step)
  refine codeAny_call_builtin_code (Code.quiet_builtin _ F.quiet) (check64 X ?_)
  refine new64 X ?_ hrest
  have k : ∀ b o, h.get? b = some o → ((h.push (tup0 rest)).push (exc0 h.objs.size)).get? b = some o := fun b o e => Heap.get?_push_of_some _ (Heap.get?_push_of_some _ e)
  have X2 : (heapK w.params).In ((h.push (tup0 rest)).push (exc0 h.objs.size)) := X.keeps k
  have hx : ((h.push (tup0 rest)).push (exc0 h.objs.size)).get? (h.objs.size + 1) = some (exc0 h.objs.size) := by heap_get
  have t1 : Looks (model prog w) ((h.push (tup0 rest)).push (exc0 h.objs.size)) (typeOf (.ref (h.objs.size + 1))) (.ref 64) := (Looks.ld hx).andThen .now
  have s1 : Looks (model prog w) ((h.push (tup0 rest)).push (exc0 h.objs.size)) (isSubtype (.ref 64) (.ref 64)) true := looks_subIn X2 (by k_is)
  have i1 : Looks (model prog w) ((h.push (tup0 rest)).push (exc0 h.objs.size)) (typeLookup (.ref 64) "__init__") (some (.ref 61)) := looks_findIn X2 (by k_is)
  have b1 : Looks (model prog w) ((h.push (tup0 rest)).push (exc0 h.objs.size)) (bindSpecial (.ref 61) (.ref (h.objs.size + 1))) (.ref 61, [.ref (h.objs.size + 1)]) := bind_fn X2 _ (by k_is)
  dsimp only
  refine wpAny_bind ?_
  unfold isInstance
  refine wpAny_bind (t1.here ?_)
  refine s1.here ?_
  simp only [Bool.not_true, Bool.false_eq_true, if_false]
  refine wpAny_bind (wpAny_holding ?_)
  unfold callSpecial? specialOf
  refine wpAny_bind (wpAny_bind (t1.here (i1.here ?_)))
  refine wpAny_holding (wpAny_bind (b1.here ?_))
  dsimp only
  refine wpAny_bind (wpAny_call ?_)
  refine codeAny_mono hq fun r s' z => ?_
  rcases r with e | (v | _ | _ | _) <;> first | exact z | exact z.elim | skip
  all_goals (
    obtain ⟨rfl, z⟩ := z
    refine wpAny_pure ?_
    dsimp only
    rw [if_neg (by decide)]
    exact wpAny_pure z)
end

end Mine

-- part E2
namespace Mine
theorem fillE2 : (fun (_ : OpenLaw) (_ : Params → Frag) => True) PySem.Challenge.rw_pq0899_01 heapK := by w_top off; k_fill; trivial
noncomputable section
abbrev excD (t : Addr) (od : Option Addr) : Obj := { cls := .ref 64, dict := od, data := .fields #[.ref t, .none, .none, .none, .bool false, .none] }
theorem refuse64 (self : Value) : PySem.refuseLoop self "__setattr__" (.ref 64 :: bm64) = pure () := by
  rw [PySem.refuseLoop_ref, PySem.refuseLoop_ref]; exact PySem.F.store_ValueError.passes self

section
variable {prog : Program} {w : World} {A : Around} {s : Shared} {R : Result → Shared → Prop} {e : Addr} {oe : Obj} {od : Option Obj} {name : Str} {tk : Tok} {v : Value}
theorem osa64 (X : (heapK w.params).In s.heap) (I : InstAt s.heap e oe 64 od) (ht : takerIn (heapK w.params) 64 name = some none)
    (h : ∀ b, wpAny (model prog w) A.in1 (Builtin.ObjectAttr.storeInOwnDict (.ref e) (.ref 64) (.str name tk) name v b)
      (fun fin s' => match fin with | .done f => R (.ok f) s' | .again c' => c'.quiet = true ∧ codeAny (model prog w) A c' R s') (fun e s' => R (.error e) s') s) :
    codeAny (model prog w) A (.call (.builtin "object.__setattr__") ⟨[.ref e, .str name tk, v], []⟩) R s := by
  have _h := fillE2
  have SF := PySem.F.store_object
  have sub : Looks (model prog w) s.heap (isInstance (.ref e) (.type "object")) true := I.type.andThen (looks_mroIn X (by k_is))
  refine codeAny_call_builtin SF.slot.plain SF.entry (@check_slot (model prog w) _ _ s "object.__setattr__" "object" "__setattr__" (.ref e) [.str name tk, v] [] _ SF.kind SF.split sub (SF.args (.ref e) (.str name tk) v) ?_)
  obtain ⟨attr, ha, hr⟩ := Option.bind_eq_some_iff.mp ht
  have hm : Looks (model prog w) s.heap (mroOf (.ref 64)) (.ref 64 :: bm64) := by
    intro A Q E s k q
    obtain ⟨hh, g, d, t, os⟩ := s
    exact wpAny_mroOf_exc (k _ _ (cls64 X)) q
  have L3 : Looks (model prog w) s.heap (Builtin.ObjectAttr.storeTaker? attr) none := by
    cases attr with
    | none => exact .now
    | some a =>
      obtain ⟨b, hb, q⟩ := Option.map_eq_some_iff.mp hr
      cases b with
      | true => cases q
      | false => exact (looks_takesIn X hb).andThen .now
  rw [osa_eq, PySem.refuse_eq]
  refine wpAny_bind (wpAny_bind (I.type.here (wpAny_bind (hm.here ?_))))
  rw [refuse64]
  refine wpAny_pure (wpAny_bind (I.type.here (wpAny_bind ((looks_findIn X ha).here (wpAny_bind (L3.here ?_))))))
  exact h _

theorem set64 {E : Value → Shared → Prop} {Q : Unit → Shared → Prop} (X : (heapK w.params).In s.heap) (I : InstAt s.heap e oe 64 od)
    (h : codeAny (model prog w) A (.call (.builtin "object.__setattr__") ⟨[.ref e, .str name s.toks, v], []⟩) (fun r s' => match r with | .ok (.ret _) => Q () s' | .ok _ => False | .error e => E e s') { s with toks := s.toks + 1 }) :
    wpAny (model prog w) A (setAttr (.ref e) name v) Q E s := by
  have _h := fillE2
  exact set_plain X I (by k_is) h
end

section
variable {prog : Program} {w : World} {A : Around} {s : Shared} {E : Value → Shared → Prop} {e t : Addr} {name : Str} {v : Value} {h₀ : Heap} {L : Addr} {m : Str → Option Value} {rest : List (Addr × Obj)}
theorem set64_new {Q : Unit → Shared → Prop} (F : Fr h₀ L s.heap m) (N : News h₀ L s.heap ((e, excD t none) :: rest)) (X₀ : (heapK w.params).In h₀) (hne : ∀ p ∈ rest, p.1 ≠ e) (ht : takerIn (heapK w.params) 64 name = some none)
    (h : ∀ d h' tk, Fr h₀ L h' m → News h₀ L h' ((e, excD t (some d)) :: (d, dictOf [⟨PyData.keyHash w.params name, .str name tk, v⟩] 1) :: rest) → @LT.lt Nat _ e d → (∀ p ∈ rest, p.1 < d) → Q () { s with heap := h', toks := s.toks + 2 }) :
    wpAny (model prog w) A (setAttr (.ref e) name v) Q E s := by
  have _h := fillE2
  have X := X₀.keeps F.keep
  have he := (N _ (.head _)).1
  have I : W.InstAt s.heap e (excD t none) 64 none := ⟨he, rfl, rfl, trivial⟩
  refine set64 X I ?_
  refine osa64 (s := { s with toks := s.toks + 1 }) X I ht fun b => ?_
  obtain ⟨hh, g, dr, tk, os⟩ := s
  dsimp only at F N X he I ⊢
  have hC := cls64 X
  refine wpAny_bind (wpAny_pure (wpAny_bind ?_))
  have F1 := F.push emptyDict
  have N1 := N.push F emptyDict
  have hlt : ∀ p ∈ ((e, excD t none) :: rest), p.1 < hh.objs.size := fun p hp => Heap.lt_size (N p hp).1
  have hed : e ≠ hh.objs.size := Nat.ne_of_lt (hlt _ (.head _))
  obtain ⟨F2, N2⟩ := news_upd (pre := [(hh.objs.size, emptyDict)]) (post := rest) (f := fun o => { o with dict := some hh.objs.size }) (o := excD t none) (o' := excD t (some hh.objs.size)) F1 N1
    (fun p hp => by rw [List.mem_singleton.mp hp]; exact fun q => hed q.symm) hne rfl rfl
  obtain ⟨F3, N3⟩ := news_upd (pre := []) (post := (e, excD t (some hh.objs.size)) :: rest) (f := Obj.putName name (PyData.keyHash w.params name) (.str name (tk + 1)) v) (o := emptyDict) (o' := dictOf [⟨PyData.keyHash w.params name, .str name (tk + 1), v⟩] 1) F2 N2
    (fun p hp => (nomatch hp)) (fun p hp => by
      rcases List.mem_cons.mp hp with rfl | hp
      · exact hed
      · exact Nat.ne_of_lt (hlt p (.tail _ hp))) (by rw [show emptyDict = dictOf [] 0 from rfl, putName_dict]; rfl) rfl
  have D := (N2 _ (.head _)).1
  have D' := (N3 _ (.head _)).1
  unfold Builtin.ObjectAttr.ownDictForStores instanceDict
  refine wpAny_bind (wpAny_loadPart he (wpAny_bind (wpAny_bind ?_)))
  refine wpAny_load hC (wpAny_pure ?_)
  rw [if_neg (by decide)]
  dsimp only
  rw [if_neg (by simp [typeHasDict])]
  refine wpAny_bind (wpAny_alloc (wpAny_bind (wpAny_update (Heap.get?_push_of_some _ he) ?_)))
  refine wpAny_bind (wpAny_pure ?_)
  refine wpAny_pure ?_
  dsimp only
  unfold Builtin.ObjectAttr.storeInDict
  refine wpAny_bind (wpAny_pure (wpAny_bind ?_))
  unfold nsSet
  refine wpAny_bind (wpAny_bind (wpAny_askSetting (wpAny_pure (wpAny_bind (wpAny_mkText (wpAny_bind (wpAny_loadPart D ?_)))))))
  dsimp only
  rw [if_neg (by rw [aRefKeyMayBeTheName_at]; simp)]
  refine wpAny_updatePart D ?_
  refine wpAny_bind (wpAny_lookBehind D' (pastItsLine_dict (by rw [List.size_toArray, sizeLine_eq, List.length_singleton]; omega)) ?_)
  refine wpAny_pure (h hh.objs.size _ (tk + 1) F3 (fun p hp => N3 p ?_) (Heap.lt_size he) (fun p hp => hlt p (.tail _ hp)))
  rcases List.mem_cons.mp hp with rfl | hp
  · exact .tail _ (.head _)
  · rcases List.mem_cons.mp hp with rfl | hp
    · exact .head _
    · exact .tail _ (.tail _ hp)

theorem set64_old {Q : Unit → Shared → Prop} {d : Addr} {es es' : List DictEntry} {n n' : Nat} (F : Fr h₀ L s.heap m) (N : News h₀ L s.heap ((e, excD t (some d)) :: (d, dictOf es n) :: rest)) (X₀ : (heapK w.params).In h₀) (hne : ∀ p ∈ rest, p.1 ≠ d) (hed : e ≠ d) (ht : takerIn (heapK w.params) 64 name = some none)
    (hl : (getL name es).isSome = true) (hq : (putL name (PyData.keyHash w.params name) (.str name (s.toks + 1)) v es, putN name es n) = (es', n')) (hz : es'.length ≤ 1000)
    (h : ∀ h', Fr h₀ L h' m → News h₀ L h' ((e, excD t (some d)) :: (d, dictOf es' n') :: rest) → Q () { s with heap := h', toks := s.toks + 2 }) :
    wpAny (model prog w) A (setAttr (.ref e) name v) Q E s := by
  have _h := fillE2
  have X := X₀.keeps F.keep
  have he := (N _ (.head _)).1
  have hdd := (N _ (.tail _ (.head _))).1
  have I : W.InstAt s.heap e (excD t (some d)) 64 (some (dictOf es n)) := ⟨he, rfl, rfl, hdd⟩
  refine set64 X I ?_
  refine osa64 (s := { s with toks := s.toks + 1 }) X I ht fun b => ?_
  obtain ⟨hh, g, dr, tk, os⟩ := s
  dsimp only at F N X he hdd I hq h ⊢
  have hC := cls64 X
  obtain ⟨e1, e2⟩ := Prod.mk.inj hq
  obtain ⟨F3, N3⟩ := news_upd (pre := [(e, excD t (some d))]) (post := rest) (f := Obj.putName name (PyData.keyHash w.params name) (.str name (tk + 1)) v) (o := dictOf es n) (o' := dictOf es' n') F N
    (fun p hp => by rw [List.mem_singleton.mp hp]; exact hed) hne (by rw [putName_dict, e1, e2]) rfl
  have D' := (N3 _ (.tail _ (.head _))).1
  refine wpAny_bind (wpAny_pure (wpAny_bind ?_))
  unfold Builtin.ObjectAttr.ownDictForStores instanceDict
  refine wpAny_bind (wpAny_loadPart he (wpAny_bind (wpAny_bind ?_)))
  refine wpAny_load hC (wpAny_pure ?_)
  rw [if_neg (by decide)]
  dsimp only
  refine wpAny_pure ?_
  dsimp only
  unfold Builtin.ObjectAttr.storeInDict
  refine wpAny_bind (wpAny_pure (wpAny_bind ?_))
  unfold nsSet
  refine wpAny_bind (wpAny_bind (wpAny_askSetting (wpAny_pure (wpAny_bind (wpAny_mkText (wpAny_bind (wpAny_loadPart hdd ?_)))))))
  dsimp only
  have c : (!es.toArray.any (·.key.isStr name) && es.toArray.any (·.refKey)) = false := by
    rw [← Array.any_toList, ← Array.any_toList]
    unfold getL at hl
    split at hl
    · rename_i en he
      rw [List.any_eq_true.mpr ⟨en, List.mem_of_find?_eq_some he, List.find?_some he⟩]; rfl
    · split at hl
      · cases hl
      · rename_i z; rw [Bool.not_eq_true] at z
        rw [show es.toArray.toList = es from rfl, z, Bool.and_false]
  rw [aRefKeyMayBeTheName_at, c]
  refine wpAny_updatePart hdd ?_
  refine wpAny_bind (wpAny_lookBehind D' (pastItsLine_dict (by rw [List.size_toArray, sizeLine_eq]; omega)) ?_)
  exact wpAny_pure (h _ F3 N3)

theorem init64 {Q : Value → Shared → Prop} {u : Value} (F : Fr h₀ L s.heap m) (N : News h₀ L s.heap ((e, excD t none) :: rest)) (X₀ : (heapK w.params).In h₀) (hne : ∀ p ∈ rest, p.1 ≠ e)
    (h : ∀ t2 h', Fr h₀ L h' m → News h₀ L h' ((e, excD t2 none) :: (t2, tup0 [u]) :: rest) → @LT.lt Nat _ e t2 → (∀ p ∈ rest, p.1 < t2) → Q .none { s with heap := h' }) :
    wpAny (model prog w) A (call (.builtin "ValueError.__init__") [.ref e, u]) Q E s := by
  have X := X₀.keeps F.keep
  obtain ⟨hh, g, dr, tk, os⟩ := s
  dsimp only at F N X h ⊢
  have he := (N _ (.head _)).1
  have hC := cls64 X
  have F64 := PySem.F.excBase_ValueError
  have hcB : (Value.ref 64 :: bm64).contains (.type "ValueError") = true := by decide +kernel
  have hshort := F64.noStar
  have N1 := N.push F (tup0 [u])
  have hlt : ∀ p ∈ ((e, excD t none) :: rest), p.1 < hh.objs.size := fun p hp => Heap.lt_size (N p hp).1
  have hed : e ≠ hh.objs.size := Nat.ne_of_lt (hlt _ (.head _))
  refine wpAny_call (codeAny_call_builtin F64.init.plain F64.initEntry ?_)
  simp only [checkBuiltinCall, F64.initKind, F64.initSplit, F64.initRow]
  repeat (first | with_reducible refine wpAny_loadPart_at he ?_ | with_reducible refine wpAny_loadPart_at hC ?_ | (with_reducible refine wpAny_isSubtype_exc hC ?_; rw [hcB]) | wp_step)
  obtain ⟨F2, N2⟩ := news_upd (pre := [(hh.objs.size, tup0 [u])]) (post := rest) (f := Obj.mapFields fun x => x.setIfInBounds 0 (Value.ref hh.objs.size)) (o := excD t none) (o' := excD hh.objs.size none) (F.push _) N1
    (fun p hp => by rw [List.mem_singleton.mp hp]; exact fun q => hed q.symm) hne rfl rfl
  refine h hh.objs.size _ F2 (fun p hp => N2 p ?_) (Heap.lt_size he) (fun p hp => hlt p (.tail _ hp))
  rcases List.mem_cons.mp hp with rfl | hp
  · exact .tail _ (.head _)
  · rcases List.mem_cons.mp hp with rfl | hp
    · exact .head _
    · exact .tail _ (.tail _ hp)

theorem call64 {Q : Value → Shared → Prop} {vs : List Value} (F : Fr h₀ L s.heap m) (N : News h₀ L s.heap rest) (X₀ : (heapK w.params).In h₀) (hvs : vs.length ≤ sizeLine)
    (h : ∀ e t h', Fr h₀ L h' m → News h₀ L h' ((e, excD t none) :: (t, tup0 vs) :: rest) → (∀ p ∈ rest, p.1 < t) → @LT.lt Nat _ t e →
      codeAny (model prog w) (A.under (.builtin "type.__call__" ⟨.ref 64 :: vs, []⟩)) (.call (.ref 61) ⟨.ref e :: vs, []⟩) (InitBack e (fun r s' => match r with | .ok (.ret v) => Q v s' | .ok _ => False | .error x => E x s')) { s with heap := h' }) :
    wpAny (model prog w) A (call (.ref 64) vs) Q E s := by
  have X := X₀.keeps F.keep
  obtain ⟨hh, g, dr, tk, os⟩ := s
  dsimp only at F N X h ⊢
  have N2 := (N.push F (tup0 vs)).push (F.push _) (exc0 hh.objs.size)
  rw [Heap.size_push] at N2
  refine wpAny_call (make64 X hvs ?_)
  exact h _ hh.objs.size _ ((F.push _).push _) N2 (fun p hp => Heap.lt_size (N p hp).1) (Nat.lt_succ_self _)

theorem raise64 {M : Model} {A : Around} {E : Value → Shared → Prop} {s : Shared} {x : Sem Value} {env : Env} {Q : Flow → Shared → Prop} (hh : A.handled = none)
    (h : wpAny M A x (fun v s₁ => ∃ e t od, v = .ref e ∧ s₁.heap.get? 64 = some o64 ∧ s₁.heap.get? e = some (excD t od) ∧ E (.ref e) s₁) E s) :
    wpAny M A (raiseStmt env (some x) none) Q E s := by
  have hcB : (Value.ref 64 :: bm64).contains (.type "BaseException") = true := by decide +kernel
  unfold raiseStmt
  refine wpAny_bind (wpAny_mono h (fun v s₁ h₁ => ?_) fun _ _ x => x)
  obtain ⟨e, t, od, rfl, hC, he, hE⟩ := h₁
  obtain ⟨hp, g, d, tk, os⟩ := s₁
  repeat (first | with_reducible refine wpAny_loadPart_at he ?_ | with_reducible refine wpAny_loadPart_at hC ?_ | (with_reducible refine wpAny_isSubtype_exc hC ?_; rw [hcB]) | wp_step)
  exact wpAny_raiseNew_none hh hE
end
end

end Mine

-- part E3
namespace Mine
theorem fillE3 : (fun (_ : OpenLaw) (_ : Params → Frag) => True) PySem.Challenge.rw_pq0899_01 heapK := by w_top off; k_fill; trivial
theorem exec_raise64 {M : Model} {A : Around} {E : Value → Shared → Prop} {s : Shared} {x : PySem.Expr} {pos : Pos} {env : Env} {Q : Flow → Shared → Prop} (hh : A.handled = none)
    (h : wpAny M A (eval x env) (fun v s₁ => ∃ e t od, v = .ref e ∧ s₁.heap.get? 64 = some o64 ∧ s₁.heap.get? e = some (excD t od) ∧ E (.ref e) s₁) E s) :
    wpAny M A (exec (.Raise (some x) none pos) env) Q E s := by
  rw [arm_exec_Raise]
  first
    | exact wpAny_bind (wpAny_standAt (raise64 hh h))
    | (simp only [evalOpt, Option.map]; exact wpAny_bind (wpAny_standAt (raise64 hh h)))
    | (refine wpAny_bind (wpAny_standAt (raise64 hh ?_)); exact wpAny_bind (wpAny_mono h (fun v s₃ h₃ => wpAny_bind (wpAny_standAt (wpAny_pure h₃))) fun _ _ x => x))
    | (simp only [evalOpt, Option.map]; refine wpAny_bind (wpAny_standAt (raise64 hh ?_)); exact wpAny_bind (wpAny_mono h (fun v s₃ h₃ => wpAny_bind (wpAny_standAt (wpAny_pure h₃))) fun _ _ x => x))

section
variable {M : Model} {A : Around} {E : Value → Shared → Prop} {s : Shared} {base g : Heap} {outer : List Env} {L a e t : Addr} {od : Option Addr} {m : Str → Option Value} {name : Str} {scope : Scope} {cd : Value} {Q : Unit → Shared → Prop} {news : List (Addr × Obj)}
theorem leave_first64 (K : Below A base outer g) (F : Fr g L s.heap m) (N : News g L s.heap ((e, excD t od) :: news))
    (hQ : ∀ h' a0, Heap.FlyingW base outer e (.ref 64) a0 h' → g.UpToSlots h' → Q () { s with heap := h' }) (hk : scope.kind = .function := by rfl) :
    wpAny M (A.deeper (envOf name scope L a cd)) (leaving (envOf name scope L a cd) (.ref e)) Q E s := by
  have K' := K.push (name := name) (a := a) (cd := cd) F hk
  have Ne := N _ (.head _)
  have hen := fresh_of_stays K.stays Ne.2.2
  refine wpAny_leaving_firstW (a0 := .ref t) K'.stack K'.frames rfl Ne.1 K'.stays hen rfl rfl rfl fun h' hL => ?_
  obtain ⟨k1, ⟨_, _, k2⟩, k3, k4⟩ := hL
  exact hQ h' _ ⟨k1, hen, k2, k3⟩ ((Heap.UpToSlots.of_keeps F.keep).trans k4)
theorem leave_next64 {a0 : Value} (K : Below A base outer g) (fl : Heap.FlyingW base (envOf name scope L a cd :: outer) e (.ref 64) a0 s.heap) (hsm : g.UpToSlots s.heap)
    (hQ : ∀ h' a0, Heap.FlyingW base outer e (.ref 64) a0 h' → g.UpToSlots h' → Q () { s with heap := h' }) :
    wpAny M (A.deeper (envOf name scope L a cd)) (leaving (envOf name scope L a cd) (.ref e)) Q E s :=
  wpAny_leaves_onW (Around.frames_deeper K.stack) rfl fl fun h' x1 x2 => hQ h' a0 x1 (hsm.trans x2)
end
theorem meta_VE : typeOf (.type "ValueError") = pure (.type "type") := by kernel_rfl
theorem ne_up {e t : Addr} {l : List (Addr × Obj)} (h : ∀ p ∈ l, p.1 < t) (q : @LT.lt Nat _ t e) : ∀ p ∈ l, p.1 ≠ e := fun p hp => Nat.ne_of_lt (Nat.lt_trans (h p hp) q)
local macro_rules | `(tactic| k_all) => `(tactic| assumption)
local macro_rules | `(tactic| walk_at "subscriptTail") => `(tactic| (k_here; (with_reducible show wpAny _ _ (subscriptTail _ _ (Value.str _ _) (Value.int _ _)) _ _ _); (refine sub_at (by assumption) (by assumption) ?_)))
local macro_rules | `(tactic| walk_at "compareOp In str str") => `(tactic| (k_here; first | refine in_bl_yes (by assumption) ?_ | refine in_bl_no (by assumption) ?_ | refine in_yes (by assumption) ?_ | refine in_no (by assumption) ?_))
local macro_rules | `(tactic| walk_at "compareOp NotIn str str") => `(tactic| (k_here; first | refine nin_sg_yes (by assumption) ?_ | refine nin_sg_no (by assumption) ?_ | refine nin_bs_yes (by assumption) ?_ | refine nin_bs_no (by assumption) ?_))
local macro_rules | `(tactic| walk_at "exec While BoolOp cons nil") => `(tactic| (k_here; refine whl_start 0 (stp ?_)))
local macro_rules | `(tactic| walk_at "WhlRest") => `(tactic| refine stp ?_)
local macro_rules | `(tactic| k_room) => `(tactic| ktr_room)
local macro_rules | `(tactic| walk_at "call ref") => `(tactic| (k_here; k_dflt (refine' call64 ?k1 ?k2 ?k3 ?k4 ?_; (case k1 => k_asm); (case k2 => k_asm); (case k3 => k_asm); (case k4 => size_fits); k_whole); intro e' t' h' F' N' l1 l2; (have hn9 := ne_up l1 l2); (try k_lt l1); (try k_lt2 l2); (try k_sweep); k_enter))
local macro_rules | `(tactic| walk_at "setAttr ref") => `(tactic| (k_here; k_dflt (first
  | (refine' set64_new ?k1 ?k2 ?k3 ?k4 ?k5 ?_; (case k1 => k_asm); (case k2 => k_asm); (case k3 => k_asm); (case k4 => k_all); (case k5 => k_is); k_whole; intro d' h' tk' F' N' l1 l2; (try k_lt l2); (try k_lt2 l1); (try k_sweep))
  | (refine' set64_old ?k1 ?k2 ?k3 ?k4 ?k5 ?k6 ?k7 ?k8 ?k9 ?_; (case k1 => k_asm); (case k2 => k_asm); (case k3 => k_asm); (case k4 => k_all); (case k5 => k_ne); (case k6 => k_is); (case k7 => k_get); (case k8 => k_put); (case k9 => exact Nat.le_of_ble_eq_true rfl); k_whole; intro h' F' N'; (try k_sweep)))))
local macro_rules | `(tactic| walk_at "call builtin:ValueError.__init__") => `(tactic| (k_here; k_dflt (refine' init64 ?k1 ?k2 ?k3 ?k4 ?_; (case k1 => k_asm); (case k2 => k_asm); (case k3 => k_asm); (case k4 => k_all); k_whole; intro t2' h' F' N' l1 l2; (try k_lt l2); (try k_lt2 l1); (try k_sweep))))

local macro_rules | `(tactic| walk_at "getMethod type:ValueError") => `(tactic| (k_here; k_dflt (refine' method_type ?F ?X ?m (by decide +kernel) ?e ?h ?_; (case F => k_asm); (case X => k_asm); (case m => exact meta_VE); (case e => k_is); (case h => k_handed))))
section
variable {w : World} {mean : ExcName → Option Value} {mg mb : Str → Option Value} {dp un : Nat} {gd : Option (List Code)} {cn : Str} {cs : Scope} {a : Addr} {ccd : Value} {cl : List (Str × Addr)} {outer : List Env} {A₀ : Around} {base h₀ : Heap} {L : Addr} {m : Str → Option Value} {rest : List (Addr × Obj)} {s : Shared} {sc dsc : Addr} {t1 t2 t3 tl tp td : Tok} {line : Str} {place deep : Int} {Q E : Value → Shared → Prop} {r : List Nat}
theorem fault_c {reason : Str} {tr : Tok} (B : Below A₀ base outer h₀) (F : Fr h₀ L s.heap m) (X : (heapK w.params).In h₀) (T : Top vw9 ln9 mean mg mb h₀) (hk : cs.kind = .function)
    (N : News h₀ L s.heap rest) (hroom : dp + 12 < recursionLimit) (hun : un + 100 < cLine) (hlr : reason.length ≤ 1000)
    (hret : ∀ e t d h' tk' more, Fr h₀ L h' m → News h₀ L h' ((e, excD t (some d)) :: (more ++ rest)) → Q (.ref e) { s with heap := h', toks := tk' }) :
    wpAny (model PR w) (ktrTop dp un gd cn cs L a ccd cl outer) (call (.ref 227) [.str reason tr]) Q E s := by
  have _h := fillE3
  refine wpAny_call ?_
  k_dflt ktr_enter
  clear N
  k_steps
  exact hret _ _ _ _ _ [_, _, _] (by assumption) (by assumption)
end
local macro_rules | `(tactic| walk_at "exec Raise") => `(tactic| (k_here; with_unfolding_all refine exec_raise64 (by rfl) ?_))
local macro_rules | `(tactic| walk_at "exec Raise some none") => `(tactic| (k_here; with_unfolding_all refine exec_raise64 (by rfl) ?_))
local macro_rules | `(tactic| walk_at "call ref") => `(tactic| (k_here; k_dflt (refine' fault_c ?k1 ?k2 ?k3 ?k4 ?k5 ?k6 ?k7 ?k8 ?k9 ?_; (case k1 => k_asm); (case k2 => k_asm); (case k3 => k_asm); (case k4 => k_asm); (case k5 => first | exact rfl | assumption); (case k6 => k_asm); (case k7 => ktr_room); (case k8 => ktr_units); (case k9 => first | decide +kernel | assumption); k_whole); intro e' t' d' h' tk' more' F' N'; (try dsimp only); (try k_sweep); refine stp ?_))
section
variable {w : World} {mean : ExcName → Option Value} {mg mb : Str → Option Value} {dp un : Nat} {gd : Option (List Code)} {cn : Str} {cs : Scope} {a : Addr} {ccd : Value} {cl : List (Str × Addr)} {outer : List Env} {A₀ : Around} {base h₀ : Heap} {L : Addr} {m : Str → Option Value} {rest : List (Addr × Obj)} {s : Shared} {sc dsc : Addr} {t1 t2 t3 tl tp td : Tok} {line : Str} {place deep : Int} {Q E : Value → Shared → Prop} {r : List Nat}
theorem enter_bad (B : Below A₀ base outer h₀) (F : Fr h₀ L s.heap m) (X : (heapK w.params).In h₀) (T : Top vw9 ln9 mean mg mb h₀) (hk : cs.kind = .function)
    (N : News h₀ L s.heap ((sc, scObj dsc) :: (dsc, scDict w t1 t2 t3 tl tp td line place deep) :: rest)) (hne : ∀ p ∈ rest, p.1 ≠ dsc) (hlt : @LT.lt Nat _ dsc sc)
    (hroom : dp + 20 < recursionLimit) (hun : un + 160 < cLine) (hd : ¬ deep + 1 ≤ 30)
    (hexc : ∀ e h' tk' a0, Heap.FlyingW base (envX cn cs L a ccd cl :: outer) e (.ref 64) a0 h' → h₀.UpToSlots h' → h'.Ns L m → E (.ref e) { s with heap := h', toks := tk' }) :
    wpAny (model PR w) (ktrTop dp un gd cn cs L a ccd cl outer) (call (.ref 171) [.ref sc]) Q E s := by
  have _h := fillE3
  refine wpAny_call ?_
  k_dflt ktr_enter
  clear N
  k_steps
  rename_i _ _ _ FG B' X' T' _ _ e' t' d' h' tk' more' F' N'
  refine unstp ⟨e', t', some d', rfl, cls64 (X'.keeps F'.keep), (N' _ (.head _)).1, ?_⟩
  k_unfold
  refine leave_first64 B' F' N' fun h2 a0 fl up => ?_
  exact hexc _ _ _ _ fl ((Heap.UpToSlots.of_keeps FG.keep).trans up) (up.ns FG.ns)
theorem enter_ok (B : Below A₀ base outer h₀) (F : Fr h₀ L s.heap m) (X : (heapK w.params).In h₀) (T : Top vw9 ln9 mean mg mb h₀) (hk : cs.kind = .function)
    (N : News h₀ L s.heap ((sc, scObj dsc) :: (dsc, scDict w t1 t2 t3 tl tp td line place deep) :: rest)) (hne : ∀ p ∈ rest, p.1 ≠ dsc) (hlt : @LT.lt Nat _ dsc sc)
    (hroom : dp + 20 < recursionLimit) (hun : un + 160 < cLine) (hd : deep + 1 ≤ 30)
    (hret : ∀ tk₁ td' h' tk', Fr h₀ L h' m → News h₀ L h' ((sc, scObj dsc) :: (dsc, scDict w t1 t2 t3 tl tp td' line place (deep + 1)) :: rest) → Q (.int deep tk₁) { s with heap := h', toks := tk' }) :
    wpAny (model PR w) (ktrTop dp un gd cn cs L a ccd cl outer) (call (.ref 171) [.ref sc]) Q E s := by
  have _h := fillE3
  refine wpAny_call ?_
  k_dflt ktr_enter
  clear N
  k_steps
  rw [show deep + 1 - 1 = deep from by omega]
  exact hret _ _ _ _ (by assumption) (by assumption)
end

end Mine

-- part P1
namespace Mine
theorem fillP1 : (fun (_ : OpenLaw) (_ : Params → Frag) => True) PySem.Challenge.rw_pq0899_01 heapK := by w_top off; k_fill; trivial
theorem fr_eq {g h : Heap} {L : Addr} {m m' : Str → Option Value} (F : Fr g L h m) (e : ∀ y, m y = m' y) : Fr g L h m' := by
  have : m = m' := funext e
  rw [← this]; exact F
abbrev rdMap (sc : Addr) (v : Value) (p s : Option Value) : Str → Option Value := fun y => if y = Str.ofString "command" then some v else if y = Str.ofString "path" then p else if y = Str.ofString "sign" then s else if y = Str.ofString "scanner" then some (.ref sc) else none
theorem rdMap_0 {sc : Addr} {v : Value} (y : Str) : List.lookup y [(Str.ofString "command", v), (Str.ofString "scanner", .ref sc)] = rdMap sc v none none y := by
  have e1 : (Str.ofString "path") ≠ Str.ofString "command" := by decide +kernel
  have e2 : (Str.ofString "path") ≠ Str.ofString "scanner" := by decide +kernel
  have e3 : (Str.ofString "sign") ≠ Str.ofString "command" := by decide +kernel
  have e4 : (Str.ofString "sign") ≠ Str.ofString "scanner" := by decide +kernel
  unfold rdMap
  by_cases h1 : y = Str.ofString "command"
  · subst h1; simp [List.lookup]
  · by_cases h2 : y = Str.ofString "scanner"
    · subst h2
      have : (Str.ofString "scanner" == Str.ofString "command") = false := by simpa using h1
      simp [List.lookup, this, h1, e2.symm, e4.symm]
    · have a1 : (y == Str.ofString "command") = false := by simpa using h1
      have a2 : (y == Str.ofString "scanner") = false := by simpa using h2
      simp [List.lookup, a1, a2, h1, h2]
local macro_rules | `(tactic| k_all) => `(tactic| assumption)
local macro_rules | `(tactic| walk_at "subscriptTail") => `(tactic| (k_here; (with_reducible show wpAny _ _ (subscriptTail _ _ (Value.str _ _) (Value.int _ _)) _ _ _); (refine sub_at (by assumption) (by assumption) ?_)))
local macro_rules | `(tactic| walk_at "compareOp In str str") => `(tactic| (k_here; first | refine in_bl_yes (by assumption) ?_ | refine in_bl_no (by assumption) ?_ | refine in_yes (by assumption) ?_ | refine in_no (by assumption) ?_))
local macro_rules | `(tactic| walk_at "compareOp NotIn str str") => `(tactic| (k_here; first | refine nin_sg_yes (by assumption) ?_ | refine nin_sg_no (by assumption) ?_ | refine nin_bs_yes (by assumption) ?_ | refine nin_bs_no (by assumption) ?_))
local macro_rules | `(tactic| walk_at "exec While BoolOp cons nil") => `(tactic| (k_here; refine whl_start 0 (stp ?_)))
local macro_rules | `(tactic| walk_at "WhlRest") => `(tactic| refine stp ?_)
local macro_rules | `(tactic| k_room) => `(tactic| ktr_room)
local macro_rules | `(tactic| walk_at "exec While Call cons nil") => `(tactic| (k_here; refine whl_start 0 (stp ?_)))
local macro_rules | `(tactic| walk_at "compareOp Eq str str") => `(tactic| (k_here; first | refine eq_gt_yes rfl ?_ | refine eq_gt_no (by assumption) ?_ | refine eq_lt_no rfl ?_))
local macro_rules | `(tactic| walk_at "call ref") => `(tactic| (k_here; k_dflt (refine' next_is_c ?k1 ?k2 ?k3 ?k4 ?k5 ?k6 ?k7 ?k8 ?k9 ?k10 ?k11 ?k12 ?k13 ?k14 ?_; (case k1 => k_asm); (case k2 => k_asm); (case k3 => k_asm); (case k4 => k_asm); (case k5 => first | exact rfl | assumption); (case k6 => k_asm); (case k7 => assumption); (case k8 => assumption); (case k9 => ktr_room); (case k10 => ktr_units); (case k11 => assumption); (case k12 => assumption); (case k13 => exact rfl); (case k14 => assumption)); intro place' tp' h' tk' hz' hf' F' N'; (try dsimp only [AtF] at hf'); (try dsimp only); (try k_sweep); (try k_fold)))
local macro_rules | `(tactic| walk_at "call ref") => `(tactic| (k_here; k_dflt (refine' enter_ok ?k1 ?k2 ?k3 ?k4 ?k5 ?k6 ?k7 ?k8 ?k9 ?k10 ?k11 ?_; (case k1 => k_asm); (case k2 => k_asm); (case k3 => k_asm); (case k4 => k_asm); (case k5 => first | exact rfl | assumption); (case k6 => k_asm); (case k7 => assumption); (case k8 => assumption); (case k9 => ktr_room); (case k10 => ktr_units); (case k11 => assumption)); intro tk1' td' h' tk' F' N'; (try dsimp only); (try k_sweep); (try k_fold)))
local macro_rules | `(tactic| walk_at "call ref") => `(tactic| (k_here; k_dflt (refine' enter_bad ?k1 ?k2 ?k3 ?k4 ?k5 ?k6 ?k7 ?k8 ?k9 ?k10 ?k11 ?_; (case k1 => k_asm); (case k2 => k_asm); (case k3 => k_asm); (case k4 => k_asm); (case k5 => first | exact rfl | assumption); (case k6 => k_asm); (case k7 => assumption); (case k8 => assumption); (case k9 => ktr_room); (case k10 => ktr_units); (case k11 => assumption)); intro e' h' tk' a0' fl' up' ns'; refine stp ?_))
local macro_rules | `(tactic| walk_at "call ref") => `(tactic| (k_here; k_dflt (refine' sign_gt ?k1 ?k2 ?k3 ?k4 ?k5 ?k6 ?k7 ?k8 ?k9 ?k10 ?k11 ?k12 ?k13 ?k14 ?_; (case k1 => k_asm); (case k2 => k_asm); (case k3 => k_asm); (case k4 => k_asm); (case k5 => first | exact rfl | assumption); (case k6 => k_asm); (case k7 => assumption); (case k8 => assumption); (case k9 => ktr_room); (case k10 => ktr_units); (case k11 => assumption); (case k12 => assumption); (case k13 => assumption); (case k14 => assumption)); intro tk1' place' tp' h' tk' hz' hf' F' N'; (try dsimp only [AtF] at hf'); (try dsimp only); (try k_sweep); (try k_fold)))
local macro_rules | `(tactic| walk_at "call ref") => `(tactic| (k_here; k_dflt (refine' is_word_c ?k1 ?k2 ?k3 ?k4 ?k5 ?k6 ?k7 ?k8 ?k9 ?k10 ?k11 ?k12 ?k13 ?k14 ?_; (case k1 => k_asm); (case k2 => k_asm); (case k3 => k_asm); (case k4 => k_asm); (case k5 => first | exact rfl | assumption); (case k6 => k_asm); (case k7 => assumption); (case k8 => assumption); (case k9 => ktr_room); (case k10 => ktr_units); (case k11 => assumption); (case k12 => assumption); (case k13 => first | exact skip_skip _ | exact rfl); (case k14 => assumption)); intro place' tp' h' tk' hz' hf' F' N'; (try dsimp only [AtF] at hf'); (try dsimp only); (try k_sweep); (try k_fold)))
local macro_rules | `(tactic| walk_at "call ref") => `(tactic| (k_here; k_dflt (refine' word_c ?k1 ?k2 ?k3 ?k4 ?k5 ?k6 ?k7 ?k8 ?k9 ?k10 ?k11 ?k12 ?k13 ?_; (case k1 => k_asm); (case k2 => k_asm); (case k3 => k_asm); (case k4 => k_asm); (case k5 => first | exact rfl | assumption); (case k6 => k_asm); (case k7 => assumption); (case k8 => assumption); (case k9 => ktr_room); (case k10 => ktr_units); (case k11 => assumption); (case k12 => assumption); (case k13 => first | exact skip_skip _ | exact rfl)); intro tk1' place' tp' h' tk' hz' hf' F' N'; (try dsimp only [AtF] at hf'); (try dsimp only); (try k_sweep); (try k_fold)))
theorem rdMap_1 {sc : Addr} {v v2 : Value} {p q : Option Value} {p2 q2 : Value} (y : Str) : (if y = Str.ofString "command" then some v2 else if y = Str.ofString "path" then some p2 else if y = Str.ofString "sign" then some q2 else rdMap sc v p q y) = rdMap sc v2 (some p2) (some q2) y := by
  unfold rdMap
  by_cases h1 : y = Str.ofString "command"
  · simp [h1]
  · by_cases h2 : y = Str.ofString "path"
    · simp [h1, h2]
    · by_cases h3 : y = Str.ofString "sign"
      · simp [h1, h2, h3]
      · simp [h1, h2, h3]
theorem news_two {g h : Heap} {L : Addr} {x y a b : Addr × Obj} {tl rest : List (Addr × Obj)} (N : News g L h (x :: y :: a :: b :: (tl ++ rest))) : News g L h (a :: b :: ((x :: y :: tl) ++ rest)) := fun p hp => N p (by
  rcases List.mem_cons.mp hp with rfl | hp
  · exact .tail _ (.tail _ (.head _))
  rcases List.mem_cons.mp hp with rfl | hp
  · exact .tail _ (.tail _ (.tail _ (.head _)))
  rcases List.mem_cons.mp hp with rfl | hp
  · exact .head _
  rcases List.mem_cons.mp hp with rfl | hp
  · exact .tail _ (.head _)
  exact .tail _ (.tail _ (.tail _ (.tail _ hp))))
theorem ne_two {d : Addr} {x y : Addr × Obj} {tl rest : List (Addr × Obj)} (h : ∀ p ∈ tl ++ rest, p.1 ≠ d) (hx : x.1 ≠ d) (hy : y.1 ≠ d) : ∀ p ∈ (x :: y :: tl) ++ rest, p.1 ≠ d := fun p hp => by
  rcases List.mem_cons.mp hp with rfl | hp
  · exact hx
  rcases List.mem_cons.mp hp with rfl | hp
  · exact hy
  exact h p hp
section
variable {w : World} {mean : ExcName → Option Value} {mg mb : Str → Option Value} {dp un : Nat} {gd : Option (List Code)} {cn : Str} {cs : Scope} {a : Addr} {ccd : Value} {cl : List (Str × Addr)} {outer : List Env} {A₀ : Around} {base h₀ : Heap} {L : Addr} {m : Str → Option Value} {rest : List (Addr × Obj)} {s : Shared} {sc dsc : Addr} {t1 t2 t3 tl tp td : Tok} {line : Str} {place deep : Int} {Q E : Value → Shared → Prop} {r : List Nat}
theorem redirects_c {v : Value} {c : T} {d : Nat} {n : Nat} (B : Below A₀ base outer h₀) (F : Fr h₀ L s.heap m) (X : (heapK w.params).In h₀) (T0 : Top vw9 ln9 mean mg mb h₀) (hk : cs.kind = .function)
    (N : News h₀ L s.heap ((sc, scObj dsc) :: (dsc, scDict w t1 t2 t3 tl tp td line place d) :: rest)) (hne : ∀ p ∈ rest, p.1 ≠ dsc) (hlt : @LT.lt Nat _ dsc sc)
    (hroom : dp + 40 < recursionLimit) (hun : un + 320 < cLine) (hlen : line.length ≤ 100000) (hz : AtZ line place r)
    (hv : TreeIn w rest v c)
    (hret : ∀ t r' d', redir n c r d = .ok (t, r', d') → ∀ v' place' tp' td' h' tk' tl', AtZ line place' r' → AtF line place' r' → Fr h₀ L h' m →
      News h₀ L h' ((sc, scObj dsc) :: (dsc, scDict w t1 t2 t3 tl tp' td' line place' (d' : Nat)) :: (tl' ++ rest)) → (∀ p ∈ tl' ++ rest, p.1 ≠ dsc) →
      TreeIn w (tl' ++ rest) v' t → Q v' { s with heap := h', toks := tk' })
    (hexc : redir n c r d = .bad → ∀ e h' tk' a0, Heap.FlyingW base (envX cn cs L a ccd cl :: outer) e (.ref 64) a0 h' → h₀.UpToSlots h' → h'.Ns L m → E (.ref e) { s with heap := h', toks := tk' })
    (hout : redir n c r d ≠ .out) :
    wpAny (model PR w) (ktrTop dp un gd cn cs L a ccd cl outer) (call (.ref 253) [.ref sc, v]) Q E s := by
  have _h := fillP1
  refine wpAny_call ?_
  k_dflt ktr_enter
  clear N
  k_steps
  rename_i g' L' h1 FG F1 N1 B' X' T'
  obtain ⟨pO, sO, F2⟩ : ∃ p q, Fr g' L' h1 (rdMap sc v p q) := ⟨none, none, fr_eq F1 (fun y => rdMap_0 y)⟩
  obtain ⟨tl₀, N2, hne2, hv2⟩ : ∃ tl₀, News g' L' h1 ((sc, scObj dsc) :: (dsc, scDict w t1 t2 t3 tl tp td line place d) :: (tl₀ ++ rest)) ∧ (∀ p ∈ tl₀ ++ rest, p.1 ≠ dsc) ∧ TreeIn w (tl₀ ++ rest) v c := ⟨[], N1, hne, hv⟩
  clear F F1 N1 hv
  induction n generalizing v c r d place tp td h1 tk pO sO tl₀ with
  | zero => exact absurd rfl hout
  | succ n ih =>
    cases hq : hdc [60, 62] (skip r) with
    | false =>
      have hh : headIn (Str.ofString "<>") (skip r) = false := by rw [hd_redir]; exact hq
      have e : redir (n + 1) c r d = .ok (c, skip r, d) := by simp only [redir, hq]
      refine unstp (whl_turn (k := 0) ?hE ?_)
      case hE => passes_own
      k_steps
      exact hret _ _ _ e _ _ _ _ _ _ _ (by assumption) (AtZ.f (by assumption)) (by assumption) (by assumption) (by assumption) (by assumption)
    | true =>
      have hh : headIn (Str.ofString "<>") (skip r) = true := by rw [hd_redir]; exact hq
      cases h30 : Nat.ble (d + 1) 30 with
      | false =>
        have e : redir (n + 1) c r d = .bad := by simp only [redir, hq, h30]
        have hbig : ¬ (d : Int) + 1 ≤ 30 := by
          intro z
          have : Nat.ble (d + 1) 30 = true := Nat.ble_eq_true_of_le (by omega)
          rw [h30] at this; cases this
        refine unstp (whl_turn (k := 0) ?hE ?_)
        case hE => passes_own
        k_steps
        rename_i e' h' tk' a0' fl' up' ns'
        refine unstp ?_
        k_unfold
        refine leave_next64 B' fl' up' fun h2 a1 fl up => ?_
        exact hexc e _ _ _ _ fl ((Heap.UpToSlots.of_keeps FG.keep).trans up) (up.ns FG.ns)
      | true =>
        have hsmall : (d : Int) + 1 ≤ 30 := by
          have := Nat.le_of_ble_eq_true h30
          omega
        cases hc : (hdc [62] (skip r) && !hdc [62] (skip r).tail && headW (skip (skip r).tail)) with
        | false => exact absurd (by simp only [redir, hq, h30, hc]) hout
        | true =>
          have e : redir (n + 1) c r d = redir n (.redirect c (wordOf (skip (skip r).tail))) (wordRest (skip (skip r).tail)) (d + 1) := by
            conv => lhs; simp only [redir, hq, h30, hc]
          rw [e] at hret hexc hout
          cases hsk : skip r with
          | nil => rw [hsk] at hq; cases hq
          | cons c0 q =>
            rw [hsk] at hc
            simp only [Bool.and_eq_true, List.tail_cons] at hc
            obtain ⟨⟨hc1, hc2⟩, hw⟩ := hc
            have h62 : c0 = 62 := by simpa [hdc] using hc1
            subst h62
            have hnx : ∀ x q', q = x :: q' → x ≠ 62 := by
              rintro x q' rfl rfl
              simp [hdc] at hc2
            rw [hsk, List.tail_cons] at hret hexc hout
            refine unstp (whl_turn (k := 0) ?hE ?_)
            case hE => passes_own
            k_steps
            rename_i x' d' _ l1 l2 _ _ _ _ _ _ _ _ _ _ _ _ _ _ _ h' F9 N9
            dsimp only at N9
            rw [show Builtin.bitOr (Builtin.bitOr 1 512) 1024 = 1537 from by decide +kernel] at N9
            have F10 := fr_eq F9 (rdMap_1 (sc := sc) (v := v) (p := pO) (q := sO))
            have N10 := news_two N9
            refine unstp ?_
            apply ih
            case F2 => exact F10
            case N2 => exact N10
            case hne2 => exact ne_two hne2 (Nat.ne_of_gt (Nat.lt_trans l1.2.1 l2)) (Nat.ne_of_gt l1.2.1)
            case hv2 => exact TreeIn.redirect (.head _) (.tail _ (.head _)) (hv2.mono fun p hp => .tail _ (.tail _ hp))
            all_goals first | assumption | exact hret | exact hexc | exact hout
end

end Mine

-- part P2
namespace Mine
theorem fillP2 : (fun (_ : OpenLaw) (_ : Params → Frag) => True) PySem.Challenge.rw_pq0899_01 heapK := by w_top off; k_fill; trivial
section
variable {w : World} {mean : ExcName → Option Value} {mg mb : Str → Option Value} {dp un : Nat} {gd : Option (List Code)} {cn : Str} {cs : Scope} {a : Addr} {ccd : Value} {cl : List (Str × Addr)} {outer : List Env} {A₀ : Around} {base h₀ : Heap} {L : Addr} {m : Str → Option Value} {rest : List (Addr × Obj)} {s : Shared} {sc dsc : Addr} {t1 t2 t3 tl tp td : Tok} {line : Str} {place deep : Int} {Q E : Value → Shared → Prop} {r : List Nat}
theorem redirects_ok {v : Value} {c t : T} {d d' n : Nat} {r' : List Nat} (e : redir n c r d = .ok (t, r', d')) (B : Below A₀ base outer h₀) (F : Fr h₀ L s.heap m) (X : (heapK w.params).In h₀) (T0 : Top vw9 ln9 mean mg mb h₀) (hk : cs.kind = .function)
    (N : News h₀ L s.heap ((sc, scObj dsc) :: (dsc, scDict w t1 t2 t3 tl tp td line place (d : Nat)) :: rest)) (hne : ∀ p ∈ rest, p.1 ≠ dsc) (hlt : @LT.lt Nat _ dsc sc)
    (hroom : dp + 40 < recursionLimit) (hun : un + 320 < cLine) (hlen : line.length ≤ 100000) (hz : AtZ line place r) (hv : TreeIn w rest v c)
    (hret : ∀ v' place' tp' td' h' tk' tl', AtZ line place' r' → AtF line place' r' → Fr h₀ L h' m →
      News h₀ L h' ((sc, scObj dsc) :: (dsc, scDict w t1 t2 t3 tl tp' td' line place' (d' : Nat)) :: (tl' ++ rest)) → (∀ p ∈ tl' ++ rest, p.1 ≠ dsc) →
      TreeIn w (tl' ++ rest) v' t → Q v' { s with heap := h', toks := tk' }) :
    wpAny (model PR w) (ktrTop dp un gd cn cs L a ccd cl outer) (call (.ref 253) [.ref sc, v]) Q E s :=
  redirects_c (n := n) B F X T0 hk N hne hlt hroom hun hlen hz hv (fun t2 r2 d2 e2 => by rw [e] at e2; cases e2; exact hret) (fun e2 => by rw [e] at e2; cases e2) (by rw [e]; nofun)
theorem redirects_bad {v : Value} {c : T} {d n : Nat} (e : redir n c r d = .bad) (B : Below A₀ base outer h₀) (F : Fr h₀ L s.heap m) (X : (heapK w.params).In h₀) (T0 : Top vw9 ln9 mean mg mb h₀) (hk : cs.kind = .function)
    (N : News h₀ L s.heap ((sc, scObj dsc) :: (dsc, scDict w t1 t2 t3 tl tp td line place (d : Nat)) :: rest)) (hne : ∀ p ∈ rest, p.1 ≠ dsc) (hlt : @LT.lt Nat _ dsc sc)
    (hroom : dp + 40 < recursionLimit) (hun : un + 320 < cLine) (hlen : line.length ≤ 100000) (hz : AtZ line place r) (hv : TreeIn w rest v c)
    (hexc : ∀ e h' tk' a0, Heap.FlyingW base (envX cn cs L a ccd cl :: outer) e (.ref 64) a0 h' → h₀.UpToSlots h' → h'.Ns L m → E (.ref e) { s with heap := h', toks := tk' }) :
    wpAny (model PR w) (ktrTop dp un gd cn cs L a ccd cl outer) (call (.ref 253) [.ref sc, v]) Q E s :=
  redirects_c (n := n) B F X T0 hk N hne hlt hroom hun hlen hz hv (fun t2 r2 d2 e2 => by rw [e] at e2; cases e2) (fun _ => hexc) (by rw [e]; nofun)
end
/-- what a call of the parser's makes -/
def Con (w : World) (mean : ExcName → Option Value) (mg mb : Str → Option Value) (f : Addr) (n : Nat) (res : List Nat → Nat → Res (T × List Nat × Nat)) : Prop :=
  ∀ {vw9 : Program} {ln9 : List Str} (r : List Nat) (d : Nat) {dp un : Nat} {gd : Option (List Code)} {cn : Str} {cs : Scope} {a : Addr} {ccd : Value} {cl : List (Str × Addr)} {outer : List Env} {A₀ : Around} {base h₀ : Heap} {L : Addr} {m : Str → Option Value} {rest : List (Addr × Obj)} {s : Shared} {sc dsc : Addr} {t1 t2 t3 tl tp td : Tok} {line : Str} {place : Int} {Q E : Value → Shared → Prop}
    (B : Below A₀ base outer h₀) (F : Fr h₀ L s.heap m) (X : (heapK w.params).In h₀) (T0 : Top vw9 ln9 mean mg mb h₀) (hk : cs.kind = .function)
    (N : News h₀ L s.heap ((sc, scObj dsc) :: (dsc, scDict w t1 t2 t3 tl tp td line place (d : Nat)) :: rest)) (hne : ∀ p ∈ rest, p.1 ≠ dsc) (hlt : @LT.lt Nat _ dsc sc)
    (hroom : dp + (6 * n + 60) < recursionLimit) (hun : un + (48 * n + 480) < cLine) (hlen : line.length ≤ 100000) (hz : AtZ line place r)
    (_ : ∀ t r' d', res r d = .ok (t, r', d') → ∀ v' place' tp' td' h' tk' tl', AtZ line place' r' → AtF line place' r' → Fr h₀ L h' m →
      News h₀ L h' ((sc, scObj dsc) :: (dsc, scDict w t1 t2 t3 tl tp' td' line place' (d' : Nat)) :: (tl' ++ rest)) → (∀ p ∈ tl' ++ rest, p.1 ≠ dsc) →
      TreeIn w (tl' ++ rest) v' t → Q v' { s with heap := h', toks := tk' })
    (_ : res r d = .bad → ∀ e h' tk' a0, Heap.FlyingW base (envX cn cs L a ccd cl :: outer) e (.ref 64) a0 h' → h₀.UpToSlots h' → h'.Ns L m → E (.ref e) { s with heap := h', toks := tk' })
    (_ : res r d ≠ .out),
    wpAny (model PR w) (ktrTop dp un gd cn cs L a ccd cl outer) (call (.ref f) [.ref sc]) Q E s
section
variable {w : World} {mean : ExcName → Option Value} {mg mb : Str → Option Value} {dp un : Nat} {gd : Option (List Code)} {cn : Str} {cs : Scope} {a : Addr} {ccd : Value} {cl : List (Str × Addr)} {outer : List Env} {A₀ : Around} {base h₀ : Heap} {L : Addr} {m : Str → Option Value} {rest : List (Addr × Obj)} {s : Shared} {sc dsc : Addr} {t1 t2 t3 tl tp td : Tok} {line : Str} {place deep : Int} {Q E : Value → Shared → Prop} {r : List Nat}
theorem con_ok {f : Addr} {n d d' : Nat} {res : List Nat → Nat → Res (T × List Nat × Nat)} {t : T} {r' : List Nat} (H : Con w mean mg mb f n res) (e : res r d = .ok (t, r', d')) (B : Below A₀ base outer h₀) (F : Fr h₀ L s.heap m) (X : (heapK w.params).In h₀) (T0 : Top vw9 ln9 mean mg mb h₀) (hk : cs.kind = .function)
    (N : News h₀ L s.heap ((sc, scObj dsc) :: (dsc, scDict w t1 t2 t3 tl tp td line place (d : Nat)) :: rest)) (hne : ∀ p ∈ rest, p.1 ≠ dsc) (hlt : @LT.lt Nat _ dsc sc)
    (hroom : dp + (6 * n + 60) < recursionLimit) (hun : un + (48 * n + 480) < cLine) (hlen : line.length ≤ 100000) (hz : AtZ line place r)
    (hret : ∀ v' place' tp' td' h' tk' tl', AtZ line place' r' → AtF line place' r' → Fr h₀ L h' m →
      News h₀ L h' ((sc, scObj dsc) :: (dsc, scDict w t1 t2 t3 tl tp' td' line place' (d' : Nat)) :: (tl' ++ rest)) → (∀ p ∈ tl' ++ rest, p.1 ≠ dsc) →
      TreeIn w (tl' ++ rest) v' t → Q v' { s with heap := h', toks := tk' }) :
    wpAny (model PR w) (ktrTop dp un gd cn cs L a ccd cl outer) (call (.ref f) [.ref sc]) Q E s :=
  H r d B F X T0 hk N hne hlt hroom hun hlen hz (fun t2 r2 d2 e2 => by rw [e] at e2; cases e2; exact hret) (fun e2 => by rw [e] at e2; cases e2) (by rw [e]; nofun)
theorem con_bad {f : Addr} {n d : Nat} {res : List Nat → Nat → Res (T × List Nat × Nat)} (H : Con w mean mg mb f n res) (e : res r d = .bad) (B : Below A₀ base outer h₀) (F : Fr h₀ L s.heap m) (X : (heapK w.params).In h₀) (T0 : Top vw9 ln9 mean mg mb h₀) (hk : cs.kind = .function)
    (N : News h₀ L s.heap ((sc, scObj dsc) :: (dsc, scDict w t1 t2 t3 tl tp td line place (d : Nat)) :: rest)) (hne : ∀ p ∈ rest, p.1 ≠ dsc) (hlt : @LT.lt Nat _ dsc sc)
    (hroom : dp + (6 * n + 60) < recursionLimit) (hun : un + (48 * n + 480) < cLine) (hlen : line.length ≤ 100000) (hz : AtZ line place r)
    (hexc : ∀ e h' tk' a0, Heap.FlyingW base (envX cn cs L a ccd cl :: outer) e (.ref 64) a0 h' → h₀.UpToSlots h' → h'.Ns L m → E (.ref e) { s with heap := h', toks := tk' }) :
    wpAny (model PR w) (ktrTop dp un gd cn cs L a ccd cl outer) (call (.ref f) [.ref sc]) Q E s :=
  H r d B F X T0 hk N hne hlt hroom hun hlen hz (fun t2 r2 d2 e2 => by rw [e] at e2; cases e2) (fun _ => hexc) (by rw [e]; nofun)
end
local macro_rules | `(tactic| k_all) => `(tactic| assumption)
local macro_rules | `(tactic| walk_at "subscriptTail") => `(tactic| (k_here; (with_reducible show wpAny _ _ (subscriptTail _ _ (Value.str _ _) (Value.int _ _)) _ _ _); (refine sub_at (by assumption) (by assumption) ?_)))
local macro_rules | `(tactic| walk_at "compareOp In str str") => `(tactic| (k_here; first | refine in_bl_yes (by assumption) ?_ | refine in_bl_no (by assumption) ?_ | refine in_yes (by assumption) ?_ | refine in_no (by assumption) ?_))
local macro_rules | `(tactic| walk_at "compareOp NotIn str str") => `(tactic| (k_here; first | refine nin_sg_yes (by assumption) ?_ | refine nin_sg_no (by assumption) ?_ | refine nin_bs_yes (by assumption) ?_ | refine nin_bs_no (by assumption) ?_))
local macro_rules | `(tactic| walk_at "exec While BoolOp cons nil") => `(tactic| (k_here; refine whl_start 0 (stp ?_)))
local macro_rules | `(tactic| walk_at "WhlRest") => `(tactic| refine stp ?_)
local macro_rules | `(tactic| k_room) => `(tactic| ktr_room)
local macro_rules | `(tactic| walk_at "exec While Call cons nil") => `(tactic| (k_here; refine whl_start 0 (stp ?_)))
local macro_rules | `(tactic| walk_at "call ref") => `(tactic| (k_here; k_dflt (refine' next_is_c ?k1 ?k2 ?k3 ?k4 ?k5 ?k6 ?k7 ?k8 ?k9 ?k10 ?k11 ?k12 ?k13 ?k14 ?_; (case k1 => k_asm); (case k2 => k_asm); (case k3 => k_asm); (case k4 => k_asm); (case k5 => first | exact rfl | assumption); (case k6 => k_asm); (case k7 => assumption); (case k8 => assumption); (case k9 => ktr_room); (case k10 => ktr_units); (case k11 => assumption); (case k12 => assumption); (case k13 => exact rfl); (case k14 => assumption)); intro place' tp' h' tk' hz' hf' F' N'; (try dsimp only [AtF] at hf'); (try dsimp only); (try k_sweep); (try k_fold)))
section
variable {w : World} {mean : ExcName → Option Value} {mg mb : Str → Option Value} {dp un : Nat} {gd : Option (List Code)} {cn : Str} {cs : Scope} {a : Addr} {ccd : Value} {cl : List (Str × Addr)} {outer : List Env} {A₀ : Around} {base h₀ : Heap} {L : Addr} {m : Str → Option Value} {rest : List (Addr × Obj)} {s : Shared} {sc dsc : Addr} {t1 t2 t3 tl tp td : Tok} {line : Str} {place deep : Int} {Q E : Value → Shared → Prop} {r : List Nat}
theorem redirects_none {v : Value} {d : Nat} (B : Below A₀ base outer h₀) (F : Fr h₀ L s.heap m) (X : (heapK w.params).In h₀) (T0 : Top vw9 ln9 mean mg mb h₀) (hk : cs.kind = .function)
    (N : News h₀ L s.heap ((sc, scObj dsc) :: (dsc, scDict w t1 t2 t3 tl tp td line place (d : Nat)) :: rest)) (hne : ∀ p ∈ rest, p.1 ≠ dsc) (hlt : @LT.lt Nat _ dsc sc)
    (hroom : dp + 40 < recursionLimit) (hun : un + 320 < cLine) (hlen : line.length ≤ 100000) (hz : AtZ line place r) (hq : hdc [60, 62] (skip r) = false)
    (hret : ∀ place' tp' h' tk', AtZ line place' (skip r) → AtF line place' (skip r) → Fr h₀ L h' m → News h₀ L h' ((sc, scObj dsc) :: (dsc, scDict w t1 t2 t3 tl tp' td line place' (d : Nat)) :: rest) → Q v { s with heap := h', toks := tk' }) :
    wpAny (model PR w) (ktrTop dp un gd cn cs L a ccd cl outer) (call (.ref 253) [.ref sc, v]) Q E s := by
  have _h := fillP2
  refine wpAny_call ?_
  k_dflt ktr_enter
  clear N
  have hh : headIn (Str.ofString "<>") (skip r) = false := by rw [hd_redir]; exact hq
  k_steps
  refine unstp (whl_turn (k := 0) ?hE ?_)
  case hE => passes_own
  k_steps
  exact hret _ _ _ _ (by assumption) (AtZ.f (by assumption)) (by assumption) (by assumption)
end
theorem ble30 {d : Nat} (h : Nat.ble (d + 1) 30 = false) : ¬ (d : Int) + 1 ≤ 30 := by
  intro z
  have : Nat.ble (d + 1) 30 = true := Nat.ble_eq_true_of_le (by omega)
  rw [h] at this; cases this
theorem ble30' {d : Nat} (h : Nat.ble (d + 1) 30 = true) : (d : Int) + 1 ≤ 30 := by
  have := Nat.le_of_ble_eq_true h
  omega
theorem mem_mid {p : Addr × Obj} {a b c : List (Addr × Obj)} (h : p ∈ b ++ c) : p ∈ (a ++ b) ++ c := by
  rw [List.append_assoc]; exact List.mem_append.mpr (.inr h)
theorem hdc1 {x : Nat} {r : List Nat} (h : hdc [x] r = true) : ∃ q, r = x :: q := by
  cases r with
  | nil => cases h
  | cons c q => exact ⟨q, by rw [show c = x from by simpa [hdc] using h]⟩

end Mine

-- part P3
namespace Mine
theorem fillP3 : (fun (_ : OpenLaw) (_ : Params → Frag) => True) PySem.Challenge.rw_pq0899_01 heapK := by w_top off; k_fill; trivial
local macro_rules | `(tactic| k_all) => `(tactic| assumption)
local macro_rules | `(tactic| walk_at "subscriptTail") => `(tactic| (k_here; (with_reducible show wpAny _ _ (subscriptTail _ _ (Value.str _ _) (Value.int _ _)) _ _ _); (refine sub_at (by assumption) (by assumption) ?_)))
local macro_rules | `(tactic| walk_at "compareOp In str str") => `(tactic| (k_here; first | refine in_bl_yes (by assumption) ?_ | refine in_bl_no (by assumption) ?_ | refine in_yes (by assumption) ?_ | refine in_no (by assumption) ?_))
local macro_rules | `(tactic| walk_at "compareOp NotIn str str") => `(tactic| (k_here; first | refine nin_sg_yes (by assumption) ?_ | refine nin_sg_no (by assumption) ?_ | refine nin_bs_yes (by assumption) ?_ | refine nin_bs_no (by assumption) ?_))
local macro_rules | `(tactic| walk_at "exec While BoolOp cons nil") => `(tactic| (k_here; refine whl_start 0 (stp ?_)))
local macro_rules | `(tactic| walk_at "WhlRest") => `(tactic| refine stp ?_)
local macro_rules | `(tactic| k_room) => `(tactic| ktr_room)
local macro_rules | `(tactic| walk_at "call ref") => `(tactic| (k_here; k_dflt (refine' next_is_c ?k1 ?k2 ?k3 ?k4 ?k5 ?k6 ?k7 ?k8 ?k9 ?k10 ?k11 ?k12 ?k13 ?k14 ?_; (case k1 => k_asm); (case k2 => k_asm); (case k3 => k_asm); (case k4 => k_asm); (case k5 => first | exact rfl | assumption); (case k6 => k_asm); (case k7 => assumption); (case k8 => assumption); (case k9 => ktr_room); (case k10 => ktr_units); (case k11 => assumption); (case k12 => assumption); (case k13 => exact rfl); (case k14 => assumption)); intro place' tp' h' tk' hz' hf' F' N'; (try dsimp only [AtF] at hf'); (try dsimp only); (try k_sweep); (try k_fold)))
local macro_rules | `(tactic| walk_at "call ref") => `(tactic| (k_here; k_dflt (refine' enter_ok ?k1 ?k2 ?k3 ?k4 ?k5 ?k6 ?k7 ?k8 ?k9 ?k10 ?k11 ?_; (case k1 => k_asm); (case k2 => k_asm); (case k3 => k_asm); (case k4 => k_asm); (case k5 => first | exact rfl | assumption); (case k6 => k_asm); (case k7 => assumption); (case k8 => assumption); (case k9 => ktr_room); (case k10 => ktr_units); (case k11 => assumption)); intro tk1' td' h' tk' F' N'; (try dsimp only); (try k_sweep); (try k_fold)))
local macro_rules | `(tactic| walk_at "call ref") => `(tactic| (k_here; k_dflt (refine' enter_bad ?k1 ?k2 ?k3 ?k4 ?k5 ?k6 ?k7 ?k8 ?k9 ?k10 ?k11 ?_; (case k1 => k_asm); (case k2 => k_asm); (case k3 => k_asm); (case k4 => k_asm); (case k5 => first | exact rfl | assumption); (case k6 => k_asm); (case k7 => assumption); (case k8 => assumption); (case k9 => ktr_room); (case k10 => ktr_units); (case k11 => assumption)); intro e' h' tk' a0' fl' up' ns'; refine stp ?_))
local macro_rules | `(tactic| walk_at "call ref") => `(tactic| (k_here; k_dflt (refine' sign_c ?k1 ?k2 ?k3 ?k4 ?k5 ?k6 ?k7 ?k8 ?k9 ?k10 ?k11 ?k12 ?k13 ?k14 ?_; (case k1 => k_asm); (case k2 => k_asm); (case k3 => k_asm); (case k4 => k_asm); (case k5 => first | exact rfl | assumption); (case k6 => k_asm); (case k7 => assumption); (case k8 => assumption); (case k9 => ktr_room); (case k10 => ktr_units); (case k11 => assumption); (case k12 => assumption); (case k13 => assumption); (case k14 => first | assumption | decide)); intro tk1' place' tp' h' tk' hz' hf' F' N'; (try dsimp only [AtF] at hf'); (try dsimp only); (try k_sweep); (try k_fold)))
local macro_rules | `(tactic| walk_at "call ref") => `(tactic| (k_here; (rename Con _ _ _ _ 267 _ _ => hX9); k_dflt (refine' con_ok hX9 ?e ?k1 ?k2 ?k3 ?k4 ?k5 ?k6 ?k7 ?k8 ?k9 ?k10 ?k11 ?k12 ?_; (case e => assumption); (case k1 => k_asm); (case k2 => k_asm); (case k3 => k_asm); (case k4 => k_asm); (case k5 => first | exact rfl | assumption); (case k6 => k_asm); (case k7 => assumption); (case k8 => assumption); (case k9 => ktr_room); (case k10 => ktr_units); (case k11 => assumption); (case k12 => assumption)); intro v' place' tp' td' h' tk' tl' hz' hf' F' N' hne' hv'; (try dsimp only [AtF] at hf'); (try dsimp only); (try k_sweep); (try k_fold)))
local macro_rules | `(tactic| walk_at "call ref") => `(tactic| (k_here; (rename Con _ _ _ _ 267 _ _ => hX9); k_dflt (refine' con_bad hX9 ?e ?k1 ?k2 ?k3 ?k4 ?k5 ?k6 ?k7 ?k8 ?k9 ?k10 ?k11 ?k12 ?_; (case e => assumption); (case k1 => k_asm); (case k2 => k_asm); (case k3 => k_asm); (case k4 => k_asm); (case k5 => first | exact rfl | assumption); (case k6 => k_asm); (case k7 => assumption); (case k8 => assumption); (case k9 => ktr_room); (case k10 => ktr_units); (case k11 => assumption); (case k12 => assumption)); intro e' h' tk' a0' fl' up' ns'; refine stp ?_))
local macro_rules | `(tactic| walk_at "call ref") => `(tactic| (k_here; (rename Con _ _ _ _ 246 _ _ => hX9); k_dflt (refine' con_ok hX9 ?e ?k1 ?k2 ?k3 ?k4 ?k5 ?k6 ?k7 ?k8 ?k9 ?k10 ?k11 ?k12 ?_; (case e => assumption); (case k1 => k_asm); (case k2 => k_asm); (case k3 => k_asm); (case k4 => k_asm); (case k5 => first | exact rfl | assumption); (case k6 => k_asm); (case k7 => assumption); (case k8 => assumption); (case k9 => ktr_room); (case k10 => ktr_units); (case k11 => assumption); (case k12 => assumption)); intro v' place' tp' td' h' tk' tl' hz' hf' F' N' hne' hv'; (try dsimp only [AtF] at hf'); (try dsimp only); (try k_sweep); (try k_fold)))
local macro_rules | `(tactic| walk_at "call ref") => `(tactic| (k_here; (rename Con _ _ _ _ 246 _ _ => hX9); k_dflt (refine' con_bad hX9 ?e ?k1 ?k2 ?k3 ?k4 ?k5 ?k6 ?k7 ?k8 ?k9 ?k10 ?k11 ?k12 ?_; (case e => assumption); (case k1 => k_asm); (case k2 => k_asm); (case k3 => k_asm); (case k4 => k_asm); (case k5 => first | exact rfl | assumption); (case k6 => k_asm); (case k7 => assumption); (case k8 => assumption); (case k9 => ktr_room); (case k10 => ktr_units); (case k11 => assumption); (case k12 => assumption)); intro e' h' tk' a0' fl' up' ns'; refine stp ?_))
section
variable {w : World} {mean : ExcName → Option Value} {mg mb : Str → Option Value} {dp un : Nat} {gd : Option (List Code)} {cn : Str} {cs : Scope} {a : Addr} {ccd : Value} {cl : List (Str × Addr)} {outer : List Env} {A₀ : Around} {base h₀ : Heap} {L : Addr} {m : Str → Option Value} {rest : List (Addr × Obj)} {s : Shared} {sc dsc : Addr} {t1 t2 t3 tl tp td : Tok} {line : Str} {place deep : Int} {Q E : Value → Shared → Prop} {r : List Nat}
theorem pipe_step {n : Nat} (HC : Con w mean mg mb 267 n (pCmd n)) (HP : Con w mean mg mb 246 n (pPipe n)) : Con w mean mg mb 246 (n + 1) (pPipe (n + 1)) := by
  intro vw9 ln9 r d dp un gd cn cs a ccd cl outer A₀ base h₀ L m rest s sc dsc t1 t2 t3 tl tp td line place Q E B F X T0 hk N hne hlt hroom hun hlen hz hret hexc hout
  have _h := fillP3
  refine wpAny_call ?_
  k_dflt ktr_enter
  rename_i g' L' h1 FG F1 N1 B' X' T'
  clear N F
  cases h30 : Nat.ble (d + 1) 30 with
  | false =>
    have e : pPipe (n + 1) r d = .bad := by simp only [pPipe, h30]
    have hbig := ble30 h30
    k_steps
    rename_i e' h' tk' a0' fl' up' ns'
    refine unstp ?_
    repeat k_unfold
    refine leave_next64 B' fl' up' fun h2 a1 fl up => ?_
    exact hexc e _ _ _ _ fl ((Heap.UpToSlots.of_keeps FG.keep).trans up) (up.ns FG.ns)
  | true =>
    have hsmall := ble30' h30
    cases hc : pCmd n r (d + 1) with
    | out => exact absurd (by simp only [pPipe, h30, hc]) hout
    | bad =>
      have e : pPipe (n + 1) r d = .bad := by simp only [pPipe, h30, hc]
      k_steps
      rename_i e' h' tk' a0' fl' up' ns'
      refine unstp ?_
      repeat k_unfold
      refine leave_next64 B' fl' up' fun h2 a1 fl up => ?_
      exact hexc e _ _ _ _ fl ((Heap.UpToSlots.of_keeps FG.keep).trans up) (up.ns FG.ns)
    | ok p =>
      obtain ⟨t, r1, d1⟩ := p
      cases hp : hdc [124] (skip r1) with
      | false =>
        have e : pPipe (n + 1) r d = .ok (t, skip r1, d) := by simp only [pPipe, h30, hc, hp]
        have hh : headIn (Str.ofString "|") (skip r1) = false := by rw [hd_pipe]; exact hp
        k_steps
        refine' hret _ _ _ e _ _ _ _ _ _ _ ?z1 ?f1 ?F1 ?N1 ?n1 ?t1
        case N1 => assumption
        case F1 => assumption
        case z1 => assumption
        case f1 => exact AtZ.f (by assumption)
        case n1 => assumption
        case t1 => assumption
      | true =>
        have hh : headIn (Str.ofString "|") (skip r1) = true := by rw [hd_pipe]; exact hp
        obtain ⟨q, hsk⟩ := hdc1 hp
        have hq1 : (skip r1).tail = q := by rw [hsk]; rfl
        cases hc2 : pPipe n q (d + 1) with
        | out => exact absurd (by simp only [pPipe, h30, hc, hp, hq1, hc2]) hout
        | bad =>
          have e : pPipe (n + 1) r d = .bad := by simp only [pPipe, h30, hc, hp, hq1, hc2]
          k_steps
          rename_i e' h' tk' a0' fl' up' ns'
          refine unstp ?_
          repeat k_unfold
          refine leave_next64 B' fl' up' fun h2 a1 fl up => ?_
          exact hexc e _ _ _ _ fl ((Heap.UpToSlots.of_keeps FG.keep).trans up) (up.ns FG.ns)
        | ok p2 =>
          obtain ⟨t2', r2, d2⟩ := p2
          have e : pPipe (n + 1) r d = .ok (.pair false t t2', r2, d) := by simp only [pPipe, h30, hc, hp, hq1, hc2]
          k_steps
          (rename _ ∧ _ => l1)
          (rename @LT.lt Nat _ _ _ => l2)
          rename_i kF kN _ _
          (rename TreeIn w (_ ++ (_ ++ rest)) _ t2' => hv2)
          (rename TreeIn w (_ ++ rest) _ t => hv1)
          (rename ∀ p ∈ _ ++ (_ ++ rest), p.1 ≠ dsc => hne2)
          rw [← List.append_assoc] at kN hne2 hv2
          refine' hret _ _ _ e _ _ _ _ _ _ _ ?z2 ?f2 ?F2 ?N2 ?n2 ?t2
          case N2 => exact news_two kN
          case F2 => assumption
          case z2 => assumption
          case f2 => exact AtZ.f (by assumption)
          case n2 => exact ne_two hne2 (Nat.ne_of_gt (Nat.lt_trans l1.2.1 l2)) (Nat.ne_of_gt l1.2.1)
          case t2 => exact TreeIn.pipe (.head _) (.tail _ (.head _)) (hv1.mono fun p hp => .tail _ (.tail _ (mem_mid hp))) (hv2.mono fun p hp => .tail _ (.tail _ hp))
end

end Mine

-- part P4
namespace Mine
theorem fillP4 : (fun (_ : OpenLaw) (_ : Params → Frag) => True) PySem.Challenge.rw_pq0899_01 heapK := by w_top off; k_fill; trivial
/-- what parse_line does behind its loop -/
def contLine (n d : Nat) : Res (T × List Nat × Nat) → Res (T × List Nat × Nat)
  | .bad => .bad
  | .out => .out
  | .ok (t2, r2, _) =>
    match hdc [59] (skip r2) with
    | false => .ok (t2, skip r2, d)
    | true =>
      match pLine n (skip r2).tail (d + 1) with
      | .bad => .bad
      | .out => .out
      | .ok (t3, r3, _) => .ok (.pair true t2 t3, r3, d)
theorem pLine_eq {n d : Nat} {r : List Nat} {t : T} {r1 : List Nat} {d1 : Nat} (h30 : Nat.ble (d + 1) 30 = true) (hc : pPipe n r (d + 1) = .ok (t, r1, d1)) : pLine (n + 1) r d = contLine n d (backs n t r1 d1) := by
  simp only [pLine, h30, hc]
  cases backs n t r1 d1 with
  | bad => rfl
  | out => rfl
  | ok p => rfl
theorem map_over {f : Str} {a b : Value} {R : Str → Option Value} (y : Str) : (if y = f then some a else if y = f then some b else R y) = (if y = f then some a else R y) := by
  by_cases h : y = f
  · rw [if_pos h, if_pos h]
  · rw [if_neg h, if_neg h, if_neg h]
local macro_rules | `(tactic| k_all) => `(tactic| assumption)
local macro_rules | `(tactic| walk_at "subscriptTail") => `(tactic| (k_here; (with_reducible show wpAny _ _ (subscriptTail _ _ (Value.str _ _) (Value.int _ _)) _ _ _); (refine sub_at (by assumption) (by assumption) ?_)))
local macro_rules | `(tactic| walk_at "compareOp In str str") => `(tactic| (k_here; first | refine in_bl_yes (by assumption) ?_ | refine in_bl_no (by assumption) ?_ | refine in_yes (by assumption) ?_ | refine in_no (by assumption) ?_))
local macro_rules | `(tactic| walk_at "compareOp NotIn str str") => `(tactic| (k_here; first | refine nin_sg_yes (by assumption) ?_ | refine nin_sg_no (by assumption) ?_ | refine nin_bs_yes (by assumption) ?_ | refine nin_bs_no (by assumption) ?_))
local macro_rules | `(tactic| walk_at "exec While BoolOp cons nil") => `(tactic| (k_here; refine whl_start 0 (stp ?_)))
local macro_rules | `(tactic| walk_at "WhlRest") => `(tactic| refine stp ?_)
local macro_rules | `(tactic| k_room) => `(tactic| ktr_room)
local macro_rules | `(tactic| walk_at "exec While Call cons nil") => `(tactic| (k_here; refine whl_start 0 (stp ?_)))
local macro_rules | `(tactic| walk_at "call ref") => `(tactic| (k_here; k_dflt (refine' next_is_c ?k1 ?k2 ?k3 ?k4 ?k5 ?k6 ?k7 ?k8 ?k9 ?k10 ?k11 ?k12 ?k13 ?k14 ?_; (case k1 => k_asm); (case k2 => k_asm); (case k3 => k_asm); (case k4 => k_asm); (case k5 => first | exact rfl | assumption); (case k6 => k_asm); (case k7 => assumption); (case k8 => assumption); (case k9 => ktr_room); (case k10 => ktr_units); (case k11 => assumption); (case k12 => assumption); (case k13 => exact rfl); (case k14 => assumption)); intro place' tp' h' tk' hz' hf' F' N'; (try dsimp only [AtF] at hf'); (try dsimp only); (try k_sweep); (try k_fold)))
local macro_rules | `(tactic| walk_at "call ref") => `(tactic| (k_here; k_dflt (refine' enter_ok ?k1 ?k2 ?k3 ?k4 ?k5 ?k6 ?k7 ?k8 ?k9 ?k10 ?k11 ?_; (case k1 => k_asm); (case k2 => k_asm); (case k3 => k_asm); (case k4 => k_asm); (case k5 => first | exact rfl | assumption); (case k6 => k_asm); (case k7 => assumption); (case k8 => assumption); (case k9 => ktr_room); (case k10 => ktr_units); (case k11 => assumption)); intro tk1' td' h' tk' F' N'; (try dsimp only); (try k_sweep); (try k_fold)))
local macro_rules | `(tactic| walk_at "call ref") => `(tactic| (k_here; k_dflt (refine' enter_bad ?k1 ?k2 ?k3 ?k4 ?k5 ?k6 ?k7 ?k8 ?k9 ?k10 ?k11 ?_; (case k1 => k_asm); (case k2 => k_asm); (case k3 => k_asm); (case k4 => k_asm); (case k5 => first | exact rfl | assumption); (case k6 => k_asm); (case k7 => assumption); (case k8 => assumption); (case k9 => ktr_room); (case k10 => ktr_units); (case k11 => assumption)); intro e' h' tk' a0' fl' up' ns'; refine stp ?_))
local macro_rules | `(tactic| walk_at "call ref") => `(tactic| (k_here; k_dflt (refine' sign_c ?k1 ?k2 ?k3 ?k4 ?k5 ?k6 ?k7 ?k8 ?k9 ?k10 ?k11 ?k12 ?k13 ?k14 ?_; (case k1 => k_asm); (case k2 => k_asm); (case k3 => k_asm); (case k4 => k_asm); (case k5 => first | exact rfl | assumption); (case k6 => k_asm); (case k7 => assumption); (case k8 => assumption); (case k9 => ktr_room); (case k10 => ktr_units); (case k11 => assumption); (case k12 => assumption); (case k13 => assumption); (case k14 => first | assumption | decide)); intro tk1' place' tp' h' tk' hz' hf' F' N'; (try dsimp only [AtF] at hf'); (try dsimp only); (try k_sweep); (try k_fold)))
local macro_rules | `(tactic| walk_at "call ref") => `(tactic| (k_here; (rename Con _ _ _ _ 239 _ _ => hX9); k_dflt (refine' con_ok hX9 ?e ?k1 ?k2 ?k3 ?k4 ?k5 ?k6 ?k7 ?k8 ?k9 ?k10 ?k11 ?k12 ?_; (case e => assumption); (case k1 => k_asm); (case k2 => k_asm); (case k3 => k_asm); (case k4 => k_asm); (case k5 => first | exact rfl | assumption); (case k6 => k_asm); (case k7 => assumption); (case k8 => assumption); (case k9 => ktr_room); (case k10 => ktr_units); (case k11 => assumption); (case k12 => assumption)); intro v' place' tp' td' h' tk' tl' hz' hf' F' N' hne' hv'; (try dsimp only [AtF] at hf'); (try dsimp only); (try k_sweep); (try k_fold)))
local macro_rules | `(tactic| walk_at "call ref") => `(tactic| (k_here; (rename Con _ _ _ _ 239 _ _ => hX9); k_dflt (refine' con_bad hX9 ?e ?k1 ?k2 ?k3 ?k4 ?k5 ?k6 ?k7 ?k8 ?k9 ?k10 ?k11 ?k12 ?_; (case e => assumption); (case k1 => k_asm); (case k2 => k_asm); (case k3 => k_asm); (case k4 => k_asm); (case k5 => first | exact rfl | assumption); (case k6 => k_asm); (case k7 => assumption); (case k8 => assumption); (case k9 => ktr_room); (case k10 => ktr_units); (case k11 => assumption); (case k12 => assumption)); intro e' h' tk' a0' fl' up' ns'; refine stp ?_))
local macro_rules | `(tactic| walk_at "call ref") => `(tactic| (k_here; (rename Con _ _ _ _ 246 _ _ => hX9); k_dflt (refine' con_ok hX9 ?e ?k1 ?k2 ?k3 ?k4 ?k5 ?k6 ?k7 ?k8 ?k9 ?k10 ?k11 ?k12 ?_; (case e => assumption); (case k1 => k_asm); (case k2 => k_asm); (case k3 => k_asm); (case k4 => k_asm); (case k5 => first | exact rfl | assumption); (case k6 => k_asm); (case k7 => assumption); (case k8 => assumption); (case k9 => ktr_room); (case k10 => ktr_units); (case k11 => assumption); (case k12 => assumption)); intro v' place' tp' td' h' tk' tl' hz' hf' F' N' hne' hv'; (try dsimp only [AtF] at hf'); (try dsimp only); (try k_sweep); (try k_fold)))
local macro_rules | `(tactic| walk_at "call ref") => `(tactic| (k_here; (rename Con _ _ _ _ 246 _ _ => hX9); k_dflt (refine' con_bad hX9 ?e ?k1 ?k2 ?k3 ?k4 ?k5 ?k6 ?k7 ?k8 ?k9 ?k10 ?k11 ?k12 ?_; (case e => assumption); (case k1 => k_asm); (case k2 => k_asm); (case k3 => k_asm); (case k4 => k_asm); (case k5 => first | exact rfl | assumption); (case k6 => k_asm); (case k7 => assumption); (case k8 => assumption); (case k9 => ktr_room); (case k10 => ktr_units); (case k11 => assumption); (case k12 => assumption)); intro e' h' tk' a0' fl' up' ns'; refine stp ?_))
section
variable {w : World} {mean : ExcName → Option Value} {mg mb : Str → Option Value} {dp un : Nat} {gd : Option (List Code)} {cn : Str} {cs : Scope} {a : Addr} {ccd : Value} {cl : List (Str × Addr)} {outer : List Env} {A₀ : Around} {base h₀ : Heap} {L : Addr} {m : Str → Option Value} {rest : List (Addr × Obj)} {s : Shared} {sc dsc : Addr} {t1 t2 t3 tl tp td : Tok} {line : Str} {place deep : Int} {Q E : Value → Shared → Prop} {r : List Nat}
theorem line_step {n : Nat} (HP : Con w mean mg mb 246 n (pPipe n)) (HL : Con w mean mg mb 239 n (pLine n)) : Con w mean mg mb 239 (n + 1) (pLine (n + 1)) := by
  intro vw9 ln9 r d dp un gd cn cs a ccd cl outer A₀ base h₀ L m rest s sc dsc t1 t2 t3 tl tp td line place Q E B F X T0 hk N hne hlt hroom hun hlen hz hret hexc hout
  have _h := fillP4
  refine wpAny_call ?_
  k_dflt ktr_enter
  rename_i g' L' h1 FG F1 N1 B' X' T'
  clear N F
  cases h30 : Nat.ble (d + 1) 30 with
  | false =>
    have e : pLine (n + 1) r d = .bad := by simp only [pLine, h30]
    have hbig := ble30 h30
    k_steps
    rename_i e' h' tk' a0' fl' up' ns'
    refine unstp ?_
    repeat k_unfold
    refine leave_next64 B' fl' up' fun h2 a1 fl up => ?_
    exact hexc e _ _ _ _ fl ((Heap.UpToSlots.of_keeps FG.keep).trans up) (up.ns FG.ns)
  | true =>
    have hsmall := ble30' h30
    cases hc : pPipe n r (d + 1) with
    | out => exact absurd (by simp only [pLine, h30, hc]) hout
    | bad =>
      have e : pLine (n + 1) r d = .bad := by simp only [pLine, h30, hc]
      k_steps
      rename_i e' h' tk' a0' fl' up' ns'
      refine unstp ?_
      repeat k_unfold
      refine leave_next64 B' fl' up' fun h2 a1 fl up => ?_
      exact hexc e _ _ _ _ fl ((Heap.UpToSlots.of_keeps FG.keep).trans up) (up.ns FG.ns)
    | ok p =>
      obtain ⟨t, r1, d1⟩ := p
      rw [pLine_eq h30 hc] at hret hexc hout
      k_steps
      rename_i v1 place1 tp1 td1 h2 tk2 tl₀ hz1 hf1 hne1 hv1 h3 F9 N9
      clear hf1 hz
      obtain ⟨k, hkn⟩ : ∃ k, k = n := ⟨n, rfl⟩
      rw [show backs n t r1 d1 = backs k t r1 d1 from by rw [hkn]] at hret hexc hout
      clear hkn hc
      induction k generalizing v1 t r1 d1 place1 tp1 td1 h3 tk tl₀ with
      | zero => exact absurd rfl hout
      | succ k ih =>
        cases hq : hdc [38] (skip r1) with
        | false =>
          have hh : headIn (Str.ofString "&") (skip r1) = false := by rw [hd_amp]; exact hq
          have e0 : backs (k + 1) t r1 d1 = .ok (t, skip r1, d1) := by simp only [backs, hq]
          rw [e0] at hret hexc hout
          cases hs : hdc [59] (skip (skip r1)) with
          | false =>
            have hh2 : headIn (Str.ofString ";") (skip (skip r1)) = false := by rw [hd_semi]; exact hs
            have e : contLine n d (.ok (t, skip r1, d1)) = .ok (t, skip (skip r1), d) := by simp only [contLine, hs]
            refine unstp (whl_turn (k := 0) ?hE ?_)
            case hE => passes_own
            k_steps
            refine' hret _ _ _ e _ _ _ _ _ _ _ ?z1 ?f1 ?F1 ?N1 ?n1 ?t1
            case N1 => assumption
            case F1 => assumption
            case z1 => assumption
            case f1 => exact AtZ.f (by assumption)
            case n1 => assumption
            case t1 => assumption
          | true =>
            have hh2 : headIn (Str.ofString ";") (skip (skip r1)) = true := by rw [hd_semi]; exact hs
            obtain ⟨q, hsk⟩ := hdc1 hs
            have hq1 : (skip (skip r1)).tail = q := by rw [hsk]; rfl
            cases hc2 : pLine n q (d + 1) with
            | out => exact absurd (by simp only [contLine, hs, hq1, hc2]) hout
            | bad =>
              have e : contLine n d (.ok (t, skip r1, d1)) = .bad := by simp only [contLine, hs, hq1, hc2]
              refine unstp (whl_turn (k := 0) ?hE ?_)
              case hE => passes_own
              k_steps
              rename_i e' h' tk' a0' fl' up' ns'
              refine unstp ?_
              repeat k_unfold
              refine leave_next64 B' fl' up' fun h2 a1 fl up => ?_
              exact hexc e _ _ _ _ fl ((Heap.UpToSlots.of_keeps FG.keep).trans up) (up.ns FG.ns)
            | ok p2 =>
              obtain ⟨t2', r2, d2⟩ := p2
              have e : contLine n d (.ok (t, skip r1, d1)) = .ok (.pair true t t2', r2, d) := by simp only [contLine, hs, hq1, hc2]
              refine unstp (whl_turn (k := 0) ?hE ?_)
              case hE => passes_own
              k_steps
              (rename _ ∧ _ => l1)
              (rename @LT.lt Nat _ _ _ => l2)
              rename_i kF kN _ _
              (rename TreeIn w (_ ++ (_ ++ rest)) _ t2' => hv2)
              (rename ∀ p ∈ _ ++ (_ ++ rest), p.1 ≠ dsc => hne2)
              rw [← List.append_assoc] at kN hne2 hv2
              refine' hret _ _ _ e _ _ _ _ _ _ _ ?z2 ?f2 ?F2 ?N2 ?n2 ?t2
              case N2 => exact news_two kN
              case F2 => assumption
              case z2 => assumption
              case f2 => exact AtZ.f (by assumption)
              case n2 => exact ne_two hne2 (Nat.ne_of_gt (Nat.lt_trans l1.2.1 l2)) (Nat.ne_of_gt l1.2.1)
              case t2 => exact TreeIn.semi (.head _) (.tail _ (.head _)) (hv1.mono fun p hp => .tail _ (.tail _ (mem_mid hp))) (hv2.mono fun p hp => .tail _ (.tail _ hp))
        | true =>
          have hh : headIn (Str.ofString "&") (skip r1) = true := by rw [hd_amp]; exact hq
          obtain ⟨q, hsk⟩ := hdc1 hq
          have hq1 : (skip r1).tail = q := by rw [hsk]; rfl
          cases h30b : Nat.ble (d1 + 1) 30 with
          | false =>
            have e : contLine n d (backs (k + 1) t r1 d1) = .bad := by simp only [backs, hq, h30b]; rfl
            have hbig := ble30 h30b
            refine unstp (whl_turn (k := 0) ?hE ?_)
            case hE => passes_own
            k_steps
            rename_i e' h' tk' a0' fl' up' ns'
            refine unstp ?_
            repeat k_unfold
            refine leave_next64 B' fl' up' fun h2 a1 fl up => ?_
            exact hexc e _ _ _ _ fl ((Heap.UpToSlots.of_keeps FG.keep).trans up) (up.ns FG.ns)
          | true =>
            have hsmall1 := ble30' h30b
            have e0 : backs (k + 1) t r1 d1 = backs k (.back t) q (d1 + 1) := by
              conv => lhs; simp only [backs, hq, h30b, hq1]
            rw [e0] at hret hexc hout
            refine unstp (whl_turn (k := 0) ?hE ?_)
            case hE => passes_own
            k_steps
            (rename _ ∧ _ => l1)
            (rename @LT.lt Nat _ _ _ => l2)
            rename_i F8 N8
            have F10 := fr_eq F8 map_over
            have N10 := news_two N8
            refine unstp ?_
            apply ih
            case F9 => exact F10
            case N9 => exact N10
            case hne1 => exact ne_two hne1 (Nat.ne_of_gt (Nat.lt_trans l1.2.1 l2)) (Nat.ne_of_gt l1.2.1)
            case hv1 => exact TreeIn.back (.head _) (.tail _ (.head _)) (hv1.mono fun p hp => .tail _ (.tail _ hp))
            all_goals first | assumption | exact hret | exact hexc | exact hout
end

end Mine

-- part P5
namespace Mine
theorem fillP5 : (fun (_ : OpenLaw) (_ : Params → Frag) => True) PySem.Challenge.rw_pq0899_01 heapK := by w_top off; k_fill; trivial
def pBlk (n : Nat) (q : List Nat) (d : Nat) : Res (T × List Nat × Nat) :=
  match pLine n q d with
  | .bad => .bad
  | .out => .out
  | .ok (t, r2, d2) =>
    match hdc [41] (skip r2) with
    | false => .out
    | true => redir n t (skip r2).tail d2
local macro_rules | `(tactic| k_all) => `(tactic| assumption)
local macro_rules | `(tactic| walk_at "subscriptTail") => `(tactic| (k_here; (with_reducible show wpAny _ _ (subscriptTail _ _ (Value.str _ _) (Value.int _ _)) _ _ _); (refine sub_at (by assumption) (by assumption) ?_)))
local macro_rules | `(tactic| walk_at "compareOp In str str") => `(tactic| (k_here; first | refine in_bl_yes (by assumption) ?_ | refine in_bl_no (by assumption) ?_ | refine in_yes (by assumption) ?_ | refine in_no (by assumption) ?_))
local macro_rules | `(tactic| walk_at "compareOp NotIn str str") => `(tactic| (k_here; first | refine nin_sg_yes (by assumption) ?_ | refine nin_sg_no (by assumption) ?_ | refine nin_bs_yes (by assumption) ?_ | refine nin_bs_no (by assumption) ?_))
local macro_rules | `(tactic| walk_at "exec While BoolOp cons nil") => `(tactic| (k_here; refine whl_start 0 (stp ?_)))
local macro_rules | `(tactic| walk_at "WhlRest") => `(tactic| refine stp ?_)
local macro_rules | `(tactic| k_room) => `(tactic| ktr_room)
local macro_rules | `(tactic| walk_at "call ref") => `(tactic| (k_here; k_dflt (refine' next_is_c ?k1 ?k2 ?k3 ?k4 ?k5 ?k6 ?k7 ?k8 ?k9 ?k10 ?k11 ?k12 ?k13 ?k14 ?_; (case k1 => k_asm); (case k2 => k_asm); (case k3 => k_asm); (case k4 => k_asm); (case k5 => first | exact rfl | assumption); (case k6 => k_asm); (case k7 => assumption); (case k8 => assumption); (case k9 => ktr_room); (case k10 => ktr_units); (case k11 => assumption); (case k12 => assumption); (case k13 => exact rfl); (case k14 => assumption)); intro place' tp' h' tk' hz' hf' F' N'; (try dsimp only [AtF] at hf'); (try dsimp only); (try k_sweep); (try k_fold)))
local macro_rules | `(tactic| walk_at "call ref") => `(tactic| (k_here; k_dflt (refine' sign_c ?k1 ?k2 ?k3 ?k4 ?k5 ?k6 ?k7 ?k8 ?k9 ?k10 ?k11 ?k12 ?k13 ?k14 ?_; (case k1 => k_asm); (case k2 => k_asm); (case k3 => k_asm); (case k4 => k_asm); (case k5 => first | exact rfl | assumption); (case k6 => k_asm); (case k7 => assumption); (case k8 => assumption); (case k9 => ktr_room); (case k10 => ktr_units); (case k11 => assumption); (case k12 => assumption); (case k13 => assumption); (case k14 => first | assumption | decide)); intro tk1' place' tp' h' tk' hz' hf' F' N'; (try dsimp only [AtF] at hf'); (try dsimp only); (try k_sweep); (try k_fold)))
local macro_rules | `(tactic| walk_at "call ref") => `(tactic| (k_here; (rename Con _ _ _ _ 239 _ _ => hX9); k_dflt (refine' con_ok hX9 ?e ?k1 ?k2 ?k3 ?k4 ?k5 ?k6 ?k7 ?k8 ?k9 ?k10 ?k11 ?k12 ?_; (case e => assumption); (case k1 => k_asm); (case k2 => k_asm); (case k3 => k_asm); (case k4 => k_asm); (case k5 => first | exact rfl | assumption); (case k6 => k_asm); (case k7 => assumption); (case k8 => assumption); (case k9 => ktr_room); (case k10 => ktr_units); (case k11 => assumption); (case k12 => assumption)); intro v' place' tp' td' h' tk' tl' hz' hf' F' N' hne' hv'; (try dsimp only [AtF] at hf'); (try dsimp only); (try k_sweep); (try k_fold)))
local macro_rules | `(tactic| walk_at "call ref") => `(tactic| (k_here; (rename Con _ _ _ _ 239 _ _ => hX9); k_dflt (refine' con_bad hX9 ?e ?k1 ?k2 ?k3 ?k4 ?k5 ?k6 ?k7 ?k8 ?k9 ?k10 ?k11 ?k12 ?_; (case e => assumption); (case k1 => k_asm); (case k2 => k_asm); (case k3 => k_asm); (case k4 => k_asm); (case k5 => first | exact rfl | assumption); (case k6 => k_asm); (case k7 => assumption); (case k8 => assumption); (case k9 => ktr_room); (case k10 => ktr_units); (case k11 => assumption); (case k12 => assumption)); intro e' h' tk' a0' fl' up' ns'; refine stp ?_))
local macro_rules | `(tactic| walk_at "call ref") => `(tactic| (k_here; k_dflt (refine' redirects_ok ?e ?k1 ?k2 ?k3 ?k4 ?k5 ?k6 ?k7 ?k8 ?k9 ?k10 ?k11 ?k12 ?k13 ?_; (case e => assumption); (case k1 => k_asm); (case k2 => k_asm); (case k3 => k_asm); (case k4 => k_asm); (case k5 => first | exact rfl | assumption); (case k6 => k_asm); (case k7 => assumption); (case k8 => assumption); (case k9 => ktr_room); (case k10 => ktr_units); (case k11 => assumption); (case k12 => assumption); (case k13 => assumption)); intro v' place' tp' td' h' tk' tl' hz' hf' F' N' hne' hv'; (try dsimp only [AtF] at hf'); (try dsimp only); (try k_sweep); (try k_fold)))
local macro_rules | `(tactic| walk_at "call ref") => `(tactic| (k_here; k_dflt (refine' redirects_bad ?e ?k1 ?k2 ?k3 ?k4 ?k5 ?k6 ?k7 ?k8 ?k9 ?k10 ?k11 ?k12 ?k13 ?_; (case e => assumption); (case k1 => k_asm); (case k2 => k_asm); (case k3 => k_asm); (case k4 => k_asm); (case k5 => first | exact rfl | assumption); (case k6 => k_asm); (case k7 => assumption); (case k8 => assumption); (case k9 => ktr_room); (case k10 => ktr_units); (case k11 => assumption); (case k12 => assumption); (case k13 => assumption)); intro e' h' tk' a0' fl' up' ns'; refine stp ?_))
section
variable {w : World} {mean : ExcName → Option Value} {mg mb : Str → Option Value} {dp un : Nat} {gd : Option (List Code)} {cn : Str} {cs : Scope} {a : Addr} {ccd : Value} {cl : List (Str × Addr)} {outer : List Env} {A₀ : Around} {base h₀ : Heap} {L : Addr} {m : Str → Option Value} {rest : List (Addr × Obj)} {s : Shared} {sc dsc : Addr} {t1 t2 t3 tl tp td : Tok} {line : Str} {place deep : Int} {Q E : Value → Shared → Prop} {r : List Nat}
theorem block_c {n d : Nat} {q : List Nat} (HL : Con w mean mg mb 239 n (pLine n)) (B : Below A₀ base outer h₀) (F : Fr h₀ L s.heap m) (X : (heapK w.params).In h₀) (T0 : Top vw9 ln9 mean mg mb h₀) (hk : cs.kind = .function)
    (N : News h₀ L s.heap ((sc, scObj dsc) :: (dsc, scDict w t1 t2 t3 tl tp td line place (d : Nat)) :: rest)) (hne : ∀ p ∈ rest, p.1 ≠ dsc) (hlt : @LT.lt Nat _ dsc sc)
    (hroom : dp + (6 * n + 64) < recursionLimit) (hun : un + (48 * n + 512) < cLine) (hlen : line.length ≤ 100000) (hz : AtZ line place r) (hr : r = 40 :: q)
    (hret : ∀ t r' d', pBlk n q d = .ok (t, r', d') → ∀ v' place' tp' td' h' tk' tl', AtZ line place' r' → AtF line place' r' → Fr h₀ L h' m →
      News h₀ L h' ((sc, scObj dsc) :: (dsc, scDict w t1 t2 t3 tl tp' td' line place' (d' : Nat)) :: (tl' ++ rest)) → (∀ p ∈ tl' ++ rest, p.1 ≠ dsc) →
      TreeIn w (tl' ++ rest) v' t → Q v' { s with heap := h', toks := tk' })
    (hexc : pBlk n q d = .bad → ∀ e h' tk' a0, Heap.FlyingW base (envX cn cs L a ccd cl :: outer) e (.ref 64) a0 h' → h₀.UpToSlots h' → h'.Ns L m → E (.ref e) { s with heap := h', toks := tk' }) (hout : pBlk n q d ≠ .out) :
    wpAny (model PR w) (ktrTop dp un gd cn cs L a ccd cl outer) (call (.ref 260) [.ref sc]) Q E s := by
  have _h := fillP5
  refine wpAny_call ?_
  k_dflt ktr_enter
  rename_i g' L' h1 FG F1 N1 B' X' T'
  clear N F
  cases hc : pLine n q d with
  | out => exact absurd (by simp only [pBlk, hc]) hout
  | bad =>
    have e : pBlk n q d = .bad := by simp only [pBlk, hc]
    k_steps
    rename_i e' h' tk' a0' fl' up' ns'
    refine unstp ?_
    repeat k_unfold
    refine leave_next64 B' fl' up' fun h2 a1 fl up => ?_
    exact hexc e _ _ _ _ fl ((Heap.UpToSlots.of_keeps FG.keep).trans up) (up.ns FG.ns)
  | ok p =>
    obtain ⟨t, r2, d2⟩ := p
    cases hs : hdc [41] (skip r2) with
    | false => exact absurd (by simp only [pBlk, hc, hs]) hout
    | true =>
      have hh : headIn (Str.ofString ")") (skip r2) = true := by rw [hd_close]; exact hs
      obtain ⟨q2, hsk⟩ := hdc1 hs
      have hq1 : (skip r2).tail = q2 := by rw [hsk]; rfl
      cases hc2 : redir n t q2 d2 with
      | out => exact absurd (by simp only [pBlk, hc, hs, hq1, hc2]) hout
      | bad =>
        have e : pBlk n q d = .bad := by simp only [pBlk, hc, hs, hq1, hc2]
        k_steps
        rename_i e' h' tk' a0' fl' up' ns'
        refine unstp ?_
        repeat k_unfold
        refine leave_next64 B' fl' up' fun h2 a1 fl up => ?_
        exact hexc e _ _ _ _ fl ((Heap.UpToSlots.of_keeps FG.keep).trans up) (up.ns FG.ns)
      | ok p3 =>
        obtain ⟨u3, r3, d3⟩ := p3
        have e : pBlk n q d = .ok (u3, r3, d3) := by simp only [pBlk, hc, hs, hq1, hc2]
        k_steps
        (rename ∀ p ∈ _ ++ (_ ++ rest), p.1 ≠ dsc => hne2)
        (rename TreeIn w (_ ++ (_ ++ rest)) _ u3 => hv2)
        rename_i kF kN _ _
        rw [← List.append_assoc] at kN hne2 hv2
        refine' hret _ _ _ e _ _ _ _ _ _ _ ?z1 ?f1 ?F1 ?N1 ?n1 ?t1
        case N1 => exact kN
        case F1 => assumption
        case z1 => assumption
        case f1 => exact AtZ.f (by assumption)
        case n1 => exact hne2
        case t1 => exact hv2
end
theorem news_rot4 {g h : Heap} {L : Addr} {a b c e x y : Addr × Obj} {rest : List (Addr × Obj)} (N : News g L h (a :: b :: c :: e :: x :: y :: rest)) : News g L h (x :: y :: a :: b :: c :: e :: rest) := fun p hp => N p (by
  rcases List.mem_cons.mp hp with rfl | hp
  · exact .tail _ (.tail _ (.tail _ (.tail _ (.head _))))
  rcases List.mem_cons.mp hp with rfl | hp
  · exact .tail _ (.tail _ (.tail _ (.tail _ (.tail _ (.head _)))))
  rcases List.mem_cons.mp hp with rfl | hp
  · exact .head _
  rcases List.mem_cons.mp hp with rfl | hp
  · exact .tail _ (.head _)
  rcases List.mem_cons.mp hp with rfl | hp
  · exact .tail _ (.tail _ (.head _))
  rcases List.mem_cons.mp hp with rfl | hp
  · exact .tail _ (.tail _ (.tail _ (.head _)))
  exact .tail _ (.tail _ (.tail _ (.tail _ (.tail _ (.tail _ hp))))))

end Mine

-- part P6
namespace Mine
theorem fillP6 : (fun (_ : OpenLaw) (_ : Params → Frag) => True) PySem.Challenge.rw_pq0899_01 heapK := by w_top off; k_fill; trivial
theorem ne4 {d : Addr} {a b c e : Addr × Obj} {rest : List (Addr × Obj)} (h : ∀ p ∈ rest, p.1 ≠ d) (ha : a.1 ≠ d) (hb : b.1 ≠ d) (hc : c.1 ≠ d) (he : e.1 ≠ d) : ∀ p ∈ a :: b :: c :: e :: rest, p.1 ≠ d := fun p hp => by
  rcases List.mem_cons.mp hp with rfl | hp
  · exact ha
  rcases List.mem_cons.mp hp with rfl | hp
  · exact hb
  rcases List.mem_cons.mp hp with rfl | hp
  · exact hc
  rcases List.mem_cons.mp hp with rfl | hp
  · exact he
  exact h p hp
theorem app4 {tl rest : List (Addr × Obj)} {a b c e : Addr × Obj} : tl ++ (a :: b :: c :: e :: rest) = (tl ++ [a, b, c, e]) ++ rest := by simp
theorem len_led {prog : Program} {w : World} {A : Around} {E : Value → Shared → Prop} {s : Shared} {h₀ : Heap} {L l : Addr} {news : List (Addr × Obj)} {vs : List Value} {n : Nat} {Q : Value → Shared → Prop} (N : News h₀ L s.heap news) (hm : (l, W.listOf vs.toArray n) ∈ news) (hl : vs.length < 9)
    (h : ∀ (k : Int) t tk, k < 9 → Q (.int k t) { s with toks := tk }) : wpAny (model prog w) A (call (.builtin "len") [.ref l]) Q E s := by
  have e : (List.toArray vs).size = vs.length := by rw [List.size_toArray]
  exact call_len_list ⟨_, (N _ hm).1, rfl, n, rfl⟩ (by rw [e]; omega) (h _ _ _ (by rw [e]; omega))
theorem append_led {prog : Program} {w : World} {A : Around} {E : Value → Shared → Prop} {s : Shared} {h₀ : Heap} {L D : Addr} {m : Str → Option Value} {a b : Addr × Obj} {rest : List (Addr × Obj)} {vs : List Value} {n : Nat} {x : Value} {Q : Value → Shared → Prop} (F : Fr h₀ L s.heap m) (N : News h₀ L s.heap (a :: b :: (D, W.listOf vs.toArray n) :: rest)) (ha : a.1 ≠ D) (hb : b.1 ≠ D) (hr : ∀ p ∈ rest, p.1 ≠ D) (hl : vs.length < 9)
    (h : ∀ h', Fr h₀ L h' m → News h₀ L h' (a :: b :: (D, W.listOf (vs ++ [x]).toArray (n + 1)) :: rest) → Q .none { s with heap := h' }) : wpAny (model prog w) A (call (.builtin "list.append") [.ref D, x]) Q E s := by
  refine append_K (its := vs.toArray) F N (.tail ha (.tail hb (.head hr))) (fun h' F' N' => h h' F' ?_) (by rw [List.size_toArray, sizeLine_eq]; omega)
  rw [← List.push_toArray]; exact N'
theorem eq_int_lt {prog : Program} {w : World} {A : Around} {E : Value → Shared → Prop} {s : Shared} {a b : Int} {t u : Tok} {Q : Value → Shared → Prop} (hab : a < b) (h : Q (.bool false) s) : wpAny (model prog w) A (compareOp .Eq (.int a t) (.int b u)) Q E s := by
  refine PyProof.Rows.eq_int ?_
  rw [show (a == b) = false from by simp; omega]; exact h
local macro_rules | `(tactic| k_all) => `(tactic| assumption)
local macro_rules | `(tactic| walk_at "subscriptTail") => `(tactic| (k_here; (with_reducible show wpAny _ _ (subscriptTail _ _ (Value.str _ _) (Value.int _ _)) _ _ _); (refine sub_at (by assumption) (by assumption) ?_)))
local macro_rules | `(tactic| walk_at "compareOp In str str") => `(tactic| (k_here; first | refine in_bl_yes (by assumption) ?_ | refine in_bl_no (by assumption) ?_ | refine in_yes (by assumption) ?_ | refine in_no (by assumption) ?_))
local macro_rules | `(tactic| walk_at "compareOp NotIn str str") => `(tactic| (k_here; first | refine nin_sg_yes (by assumption) ?_ | refine nin_sg_no (by assumption) ?_ | refine nin_bs_yes (by assumption) ?_ | refine nin_bs_no (by assumption) ?_))
local macro_rules | `(tactic| walk_at "exec While BoolOp cons nil") => `(tactic| (k_here; refine whl_start 0 (stp ?_)))
local macro_rules | `(tactic| walk_at "WhlRest") => `(tactic| refine stp ?_)
local macro_rules | `(tactic| k_room) => `(tactic| ktr_room)
local macro_rules | `(tactic| walk_at "compareOp Eq int int") => `(tactic| (k_here; refine eq_int_lt (by omega) ?_))
local macro_rules | `(tactic| walk_at "call builtin:list.append") => `(tactic| (k_here; k_dflt (refine' append_led ?F ?N ?a ?b ?c ?l ?_; (case F => k_asm); (case N => k_asm); (case a => k_ne); (case b => k_ne); (case c => k_all); (case l => omega)); intro h' F' N'; (try dsimp only); (try k_sweep)))
local macro_rules | `(tactic| walk_at "call builtin:len") => `(tactic| (k_here; (with_reducible show wpAny _ _ (call (Value.builtin "len") [Value.ref _]) _ _ _); k_dflt (refine' len_led ?N ?m ?l ?_; (case N => k_asm); (case m => k_mem); (case l => omega); k_whole); intro kk' tt' tk' hk'; (try dsimp only)))
local macro_rules | `(tactic| walk_at "exec While BoolOp cons nil") => `(tactic| (k_here; refine whl_start 0 (stp ?_)))
local macro_rules | `(tactic| walk_at "call ref") => `(tactic| (k_here; k_dflt (refine' next_is_c ?k1 ?k2 ?k3 ?k4 ?k5 ?k6 ?k7 ?k8 ?k9 ?k10 ?k11 ?k12 ?k13 ?k14 ?_; (case k1 => k_asm); (case k2 => k_asm); (case k3 => k_asm); (case k4 => k_asm); (case k5 => first | exact rfl | assumption); (case k6 => first | k_asm | exact news_rot4 (by assumption)); (case k7 => first | assumption | k_all); (case k8 => assumption); (case k9 => ktr_room); (case k10 => ktr_units); (case k11 => assumption); (case k12 => assumption); (case k13 => first | exact skip_skip _ | exact rfl); (case k14 => assumption)); intro place' tp' h' tk' hz' hf' F' N'; (try dsimp only [AtF] at hf'); (try dsimp only); (try k_sweep); (try k_fold)))
local macro_rules | `(tactic| walk_at "call ref") => `(tactic| (k_here; k_dflt (refine' at_end_c ?k1 ?k2 ?k3 ?k4 ?k5 ?k6 ?k7 ?k8 ?k9 ?k10 ?k11 ?k12 ?k13 ?k14 ?_; (case k1 => k_asm); (case k2 => k_asm); (case k3 => k_asm); (case k4 => k_asm); (case k5 => first | exact rfl | assumption); (case k6 => first | k_asm | exact news_rot4 (by assumption)); (case k7 => first | assumption | k_all); (case k8 => assumption); (case k9 => ktr_room); (case k10 => ktr_units); (case k11 => assumption); (case k12 => assumption); (case k13 => first | exact skip_skip _ | exact rfl); (case k14 => assumption)); intro place' tp' h' tk' hz' hf' F' N'; (try dsimp only [AtF] at hf'); (try dsimp only); (try k_sweep); (try k_fold)))
local macro_rules | `(tactic| walk_at "call ref") => `(tactic| (k_here; k_dflt (refine' is_word_c ?k1 ?k2 ?k3 ?k4 ?k5 ?k6 ?k7 ?k8 ?k9 ?k10 ?k11 ?k12 ?k13 ?k14 ?_; (case k1 => k_asm); (case k2 => k_asm); (case k3 => k_asm); (case k4 => k_asm); (case k5 => first | exact rfl | assumption); (case k6 => first | k_asm | exact news_rot4 (by assumption)); (case k7 => first | assumption | k_all); (case k8 => assumption); (case k9 => ktr_room); (case k10 => ktr_units); (case k11 => assumption); (case k12 => assumption); (case k13 => first | exact skip_skip _ | exact rfl); (case k14 => assumption)); intro place' tp' h' tk' hz' hf' F' N'; (try dsimp only [AtF] at hf'); (try dsimp only); (try k_sweep); (try k_fold)))
local macro_rules | `(tactic| walk_at "call ref") => `(tactic| (k_here; k_dflt (refine' word_c ?k1 ?k2 ?k3 ?k4 ?k5 ?k6 ?k7 ?k8 ?k9 ?k10 ?k11 ?k12 ?k13 ?_; (case k1 => k_asm); (case k2 => k_asm); (case k3 => k_asm); (case k4 => k_asm); (case k5 => first | exact rfl | assumption); (case k6 => first | k_asm | exact news_rot4 (by assumption)); (case k7 => first | assumption | k_all); (case k8 => assumption); (case k9 => ktr_room); (case k10 => ktr_units); (case k11 => assumption); (case k12 => assumption); (case k13 => first | exact skip_skip _ | exact rfl)); intro tk1' place' tp' h' tk' hz' hf' F' N'; (try dsimp only [AtF] at hf'); (try dsimp only); (try k_sweep); (try k_fold)))
local macro_rules | `(tactic| walk_at "call ref") => `(tactic| (k_here; k_dflt (refine' redirects_none ?k1 ?k2 ?k3 ?k4 ?k5 ?k6 ?k7 ?k8 ?k9 ?k10 ?k11 ?k12 ?k13 ?_; (case k1 => k_asm); (case k2 => k_asm); (case k3 => k_asm); (case k4 => k_asm); (case k5 => first | exact rfl | assumption); (case k6 => first | k_asm | exact news_rot4 (by assumption)); (case k7 => first | assumption | k_all); (case k8 => assumption); (case k9 => ktr_room); (case k10 => ktr_units); (case k11 => assumption); (case k12 => assumption); (case k13 => assumption)); intro place' tp' h' tk' hz' hf' F' N'; (try dsimp only [AtF] at hf'); (try dsimp only); (try k_sweep); (try k_fold)))
section
variable {w : World} {mean : ExcName → Option Value} {mg mb : Str → Option Value} {dp un : Nat} {gd : Option (List Code)} {cn : Str} {cs : Scope} {a : Addr} {ccd : Value} {cl : List (Str × Addr)} {outer : List Env} {A₀ : Around} {base h₀ : Heap} {L : Addr} {m : Str → Option Value} {rest : List (Addr × Obj)} {s : Shared} {sc dsc : Addr} {t1 t2 t3 tl tp td : Tok} {line : Str} {place deep : Int} {Q E : Value → Shared → Prop} {r : List Nat}
theorem block_ok {n d d' : Nat} {q r' : List Nat} {t : T} (HL : Con w mean mg mb 239 n (pLine n)) (e : pBlk n q d = .ok (t, r', d')) (B : Below A₀ base outer h₀) (F : Fr h₀ L s.heap m) (X : (heapK w.params).In h₀) (T0 : Top vw9 ln9 mean mg mb h₀) (hk : cs.kind = .function)
    (N : News h₀ L s.heap ((sc, scObj dsc) :: (dsc, scDict w t1 t2 t3 tl tp td line place (d : Nat)) :: rest)) (hne : ∀ p ∈ rest, p.1 ≠ dsc) (hlt : @LT.lt Nat _ dsc sc)
    (hroom : dp + (6 * n + 64) < recursionLimit) (hun : un + (48 * n + 512) < cLine) (hlen : line.length ≤ 100000) (hz : AtZ line place r) (hr : r = 40 :: q)
    (hret : ∀ v' place' tp' td' h' tk' tl', AtZ line place' r' → AtF line place' r' → Fr h₀ L h' m →
      News h₀ L h' ((sc, scObj dsc) :: (dsc, scDict w t1 t2 t3 tl tp' td' line place' (d' : Nat)) :: (tl' ++ rest)) → (∀ p ∈ tl' ++ rest, p.1 ≠ dsc) →
      TreeIn w (tl' ++ rest) v' t → Q v' { s with heap := h', toks := tk' }) :
    wpAny (model PR w) (ktrTop dp un gd cn cs L a ccd cl outer) (call (.ref 260) [.ref sc]) Q E s :=
  block_c HL B F X T0 hk N hne hlt hroom hun hlen hz hr (fun t2 r2 d2 e2 => by rw [e] at e2; cases e2; exact hret) (fun e2 => by rw [e] at e2; cases e2) (by rw [e]; nofun)
theorem block_bad {n d : Nat} {q : List Nat} (HL : Con w mean mg mb 239 n (pLine n)) (e : pBlk n q d = .bad) (B : Below A₀ base outer h₀) (F : Fr h₀ L s.heap m) (X : (heapK w.params).In h₀) (T0 : Top vw9 ln9 mean mg mb h₀) (hk : cs.kind = .function)
    (N : News h₀ L s.heap ((sc, scObj dsc) :: (dsc, scDict w t1 t2 t3 tl tp td line place (d : Nat)) :: rest)) (hne : ∀ p ∈ rest, p.1 ≠ dsc) (hlt : @LT.lt Nat _ dsc sc)
    (hroom : dp + (6 * n + 64) < recursionLimit) (hun : un + (48 * n + 512) < cLine) (hlen : line.length ≤ 100000) (hz : AtZ line place r) (hr : r = 40 :: q)
    (hexc : ∀ e h' tk' a0, Heap.FlyingW base (envX cn cs L a ccd cl :: outer) e (.ref 64) a0 h' → h₀.UpToSlots h' → h'.Ns L m → E (.ref e) { s with heap := h', toks := tk' }) :
    wpAny (model PR w) (ktrTop dp un gd cn cs L a ccd cl outer) (call (.ref 260) [.ref sc]) Q E s :=
  block_c HL B F X T0 hk N hne hlt hroom hun hlen hz hr (fun t2 r2 d2 e2 => by rw [e] at e2; cases e2) (fun _ => hexc) (by rw [e]; nofun)
end
local macro_rules | `(tactic| walk_at "call ref") => `(tactic| (k_here; (rename Con _ _ _ _ 239 _ _ => hX9); k_dflt (refine' block_ok hX9 ?e ?k1 ?k2 ?k3 ?k4 ?k5 ?k6 ?k7 ?k8 ?k9 ?k10 ?k11 ?k12 ?k13 ?_; (case e => assumption); (case k1 => k_asm); (case k2 => k_asm); (case k3 => k_asm); (case k4 => k_asm); (case k5 => first | exact rfl | assumption); (case k6 => k_asm); (case k7 => assumption); (case k8 => assumption); (case k9 => ktr_room); (case k10 => ktr_units); (case k11 => assumption); (case k12 => assumption); (case k13 => assumption)); intro v' place' tp' td' h' tk' tl' hz' hf' F' N' hne' hv'; (try dsimp only [AtF] at hf'); (try dsimp only); (try k_sweep); (try k_fold)))
local macro_rules | `(tactic| walk_at "call ref") => `(tactic| (k_here; (rename Con _ _ _ _ 239 _ _ => hX9); k_dflt (refine' block_bad hX9 ?e ?k1 ?k2 ?k3 ?k4 ?k5 ?k6 ?k7 ?k8 ?k9 ?k10 ?k11 ?k12 ?k13 ?_; (case e => assumption); (case k1 => k_asm); (case k2 => k_asm); (case k3 => k_asm); (case k4 => k_asm); (case k5 => first | exact rfl | assumption); (case k6 => k_asm); (case k7 => assumption); (case k8 => assumption); (case k9 => ktr_room); (case k10 => ktr_units); (case k11 => assumption); (case k12 => assumption); (case k13 => assumption)); intro e' h' tk' a0' fl' up' ns'; refine stp ?_))
local macro_rules | `(tactic| walk_at "call ref") => `(tactic| (k_here; k_dflt (refine' redirects_ok ?e ?k1 ?k2 ?k3 ?k4 ?k5 ?k6 ?k7 ?k8 ?k9 ?k10 ?k11 ?k12 ?k13 ?_; (case e => assumption); (case k1 => k_asm); (case k2 => k_asm); (case k3 => k_asm); (case k4 => k_asm); (case k5 => first | exact rfl | assumption); (case k6 => k_asm); (case k7 => first | assumption | k_all); (case k8 => assumption); (case k9 => ktr_room); (case k10 => ktr_units); (case k11 => assumption); (case k12 => assumption); (case k13 => first | assumption | exact TreeIn.run (.tail _ (.head _)) (.tail _ (.tail _ (.head _))) (.head _) (Words.push (by assumption)))); intro v' place' tp' td' h' tk' tl' hz' hf' F' N' hne' hv'; (try dsimp only [AtF] at hf'); (try dsimp only); (try k_sweep); (try k_fold)))
local macro_rules | `(tactic| walk_at "call ref") => `(tactic| (k_here; k_dflt (refine' redirects_bad ?e ?k1 ?k2 ?k3 ?k4 ?k5 ?k6 ?k7 ?k8 ?k9 ?k10 ?k11 ?k12 ?k13 ?_; (case e => assumption); (case k1 => k_asm); (case k2 => k_asm); (case k3 => k_asm); (case k4 => k_asm); (case k5 => first | exact rfl | assumption); (case k6 => k_asm); (case k7 => first | assumption | k_all); (case k8 => assumption); (case k9 => ktr_room); (case k10 => ktr_units); (case k11 => assumption); (case k12 => assumption); (case k13 => first | assumption | exact TreeIn.run (.tail _ (.head _)) (.tail _ (.tail _ (.head _))) (.head _) (Words.push (by assumption)))); intro e' h' tk' a0' fl' up' ns'; refine stp ?_))
section
variable {w : World} {mean : ExcName → Option Value} {mg mb : Str → Option Value} {dp un : Nat} {gd : Option (List Code)} {cn : Str} {cs : Scope} {a : Addr} {ccd : Value} {cl : List (Str × Addr)} {outer : List Env} {A₀ : Around} {base h₀ : Heap} {L : Addr} {m : Str → Option Value} {rest : List (Addr × Obj)} {s : Shared} {sc dsc : Addr} {t1 t2 t3 tl tp td : Tok} {line : Str} {place deep : Int} {Q E : Value → Shared → Prop} {r : List Nat}
theorem cmd_step {n : Nat} (HL : Con w mean mg mb 239 n (pLine n)) : Con w mean mg mb 267 (n + 1) (pCmd (n + 1)) := by
  intro vw9 ln9 r d dp un gd cn cs a ccd cl outer A₀ base h₀ L m rest s sc dsc t1 t2 t3 tl tp td line place Q E B F X T0 hk N hne hlt hroom hun hlen hz hret hexc hout
  have _h := fillP6
  refine wpAny_call ?_
  k_dflt ktr_enter
  rename_i g' L' h1 FG F1 N1 B' X' T'
  clear N F
  cases ho : hdc [40] (skip r) with
  | true =>
    have hh : headIn (Str.ofString "(") (skip r) = true := by rw [hd_open]; exact ho
    obtain ⟨q, hsk⟩ := hdc1 ho
    have hq1 : (skip r).tail = q := by rw [hsk]; rfl
    have eB : pCmd (n + 1) r d = pBlk n q d := by
      conv => lhs; simp only [pCmd, ho, hq1]
      rfl
    rw [eB] at hret hexc hout
    cases hc : pBlk n q d with
    | out => exact absurd hc hout
    | bad =>
      k_steps
      rename_i e' h' tk' a0' fl' up' ns'
      refine unstp ?_
      repeat k_unfold
      refine leave_next64 B' fl' up' fun h2 a1 fl up => ?_
      exact hexc hc _ _ _ _ fl ((Heap.UpToSlots.of_keeps FG.keep).trans up) (up.ns FG.ns)
    | ok p =>
      obtain ⟨t, r1, d1⟩ := p
      k_steps
      refine' hret _ _ _ hc _ _ _ _ _ _ _ ?z1 ?f1 ?F1 ?N1 ?n1 ?t1
      case N1 => assumption
      case F1 => assumption
      case z1 => assumption
      case f1 => exact AtZ.f (by assumption)
      case n1 => assumption
      case t1 => assumption
  | false =>
    have hh : headIn (Str.ofString "(") (skip r) = false := by rw [hd_open]; exact ho
    cases hr : hdc [60, 62] (skip r) with
    | true => exact absurd (by simp only [pCmd, ho, hr]) hout
    | false =>
      have hrr : hdc [60, 62] (skip (skip r)) = false := by rw [skip_skip]; exact hr
      have eC : pCmd (n + 1) r d = cmdLoop n [] (skip r) d := by
        conv => lhs; simp only [pCmd, ho, hr]
      rw [eC] at hret hexc hout
      k_steps
      rename_i l9 h7 q0 x9 d9 h6 q1 q2 g2 L2 h5 B2 X2 T2 qkx ekx tk2 D9 c9 h4 q3 h3 F1 N1 tk1 Tc kX h2 tk0 place1 tp1 h1x tk9 hz1 hf1 h0 F9 N9
      clear hf1 F1 N1 B2 X2 T2 Tc kX hz
      rw [skip_skip] at hz1
      obtain ⟨tR, vs, as, hwd, has, N8⟩ : ∃ tR vs as, Words vs as ∧ as = [] ∧ News g' L' h0 ((sc, scObj dsc) :: (dsc, scDict w t1 t2 t3 tl tp1 td line place1 d) :: (D9, W.listOf vs.toArray c9) :: (x9, instObj 83 d9) :: (d9, runD w tR D9) :: (l9, W.listOf #[] 0) :: rest) := ⟨_, [], [], .nil, rfl, N9⟩
      rw [← has] at hret hexc hout
      clear has N9 eC
      obtain ⟨rc, hrc⟩ : ∃ rc, rc = skip r := ⟨_, rfl⟩
      obtain ⟨k, hk9⟩ : ∃ k, k = n := ⟨n, rfl⟩
      rw [← hrc] at hz1 hret hexc hout
      rw [← hk9] at hret hexc hout
      clear hrc hk9
      induction k generalizing vs as rc c9 place1 tp1 h0 tk with
      | zero => exact absurd rfl hout
      | succ k ih =>
        cases hA : (endR (skip rc) || hdc [124, 41, 38, 59] (skip rc)) with
        | true =>
          have e : cmdLoop (k + 1) as rc d = .ok (.run as, skip rc, d) := by simp only [cmdLoop, hA]
          cases hE1 : endR (skip rc) with
          | true =>
            refine unstp (whl_turn (k := 0) ?hE ?_)
            case hE => passes_own
            k_steps
            refine' hret _ _ _ e _ _ _ _ _ _ [_, _, _, _] ?z2 ?f2 ?F2 ?N2 ?n2 ?t2
            case N2 => assumption
            case F2 => assumption
            case z2 => assumption
            case f2 => exact AtZ.f (by assumption)
            case n2 => exact ne4 hne (Nat.ne_of_gt q3.2.2.2.2.1) (Nat.ne_of_gt (Nat.lt_trans q1.2.2.1 q2)) (Nat.ne_of_gt q1.2.2.1) (Nat.ne_of_gt q0.2.1)
            case t2 => exact TreeIn.run (.tail _ (.head _)) (.tail _ (.tail _ (.head _))) (.head _) hwd
          | false =>
            rw [hE1, Bool.false_or] at hA
            have hh2 : headIn (Str.ofString "|)&;") (skip rc) = true := by rw [hd_ends]; exact hA
            refine unstp (whl_turn (k := 0) ?hE ?_)
            case hE => passes_own
            k_steps
            refine' hret _ _ _ e _ _ _ _ _ _ [_, _, _, _] ?z3 ?f3 ?F3 ?N3 ?n3 ?t3
            case N3 => assumption
            case F3 => assumption
            case z3 => assumption
            case f3 => exact AtZ.f (by assumption)
            case n3 => exact ne4 hne (Nat.ne_of_gt q3.2.2.2.2.1) (Nat.ne_of_gt (Nat.lt_trans q1.2.2.1 q2)) (Nat.ne_of_gt q1.2.2.1) (Nat.ne_of_gt q0.2.1)
            case t3 => exact TreeIn.run (.tail _ (.head _)) (.tail _ (.tail _ (.head _))) (.head _) hwd
        | false =>
          cases hB : (headW (skip rc) && Nat.blt as.length 9) with
          | false => exact absurd (by simp only [cmdLoop, hA, hB]) hout
          | true =>
            have hA' := hA
            rw [Bool.or_eq_false_iff] at hA'
            obtain ⟨hE1, hE2⟩ := hA'
            have hh2 : headIn (Str.ofString "|)&;") (skip rc) = false := by rw [hd_ends]; exact hE2
            have hB' := hB
            rw [Bool.and_eq_true] at hB'
            obtain ⟨hW, hL9⟩ := hB'
            have hlen9 : as.length < 9 := Nat.le_of_ble_eq_true hL9
            have hvl := hwd.len
            refine unstp (whl_turn (k := 0) ?hE ?_)
            case hE => passes_own
            cases hC : hdc [60, 62] (skip (wordRest (skip rc))) with
            | false =>
              have e : cmdLoop (k + 1) as rc d = cmdLoop k (as ++ [wordOf (skip rc)]) (skip (wordRest (skip rc))) d := by
                conv => lhs; simp only [cmdLoop, hA, hB, hC]
              rw [e] at hret hexc hout
              k_steps
              rename_i F8 N9
              have F10 := fr_eq F8 map_over
              refine unstp ?_
              apply ih
              case F9 => exact F10
              case N8 => exact N9
              case hwd => exact hwd.push
              all_goals first | assumption | exact hret | exact hexc | exact hout
            | true =>
              cases hD : redir k (.run (as ++ [wordOf (skip rc)])) (wordRest (skip rc)) d with
              | out => exact absurd (by simp only [cmdLoop, hA, hB, hC, hD]) hout
              | bad =>
                have e : cmdLoop (k + 1) as rc d = .bad := by simp only [cmdLoop, hA, hB, hC, hD]
                k_steps
                rename_i e' h' tk' a0' fl' up' ns'
                refine unstp ?_
                repeat k_unfold
                refine leave_next64 B' fl' up' fun h2 a1 fl up => ?_
                exact hexc e _ _ _ _ fl ((Heap.UpToSlots.of_keeps FG.keep).trans up) (up.ns FG.ns)
              | ok p3 =>
                obtain ⟨t, r3, d3⟩ := p3
                cases hX : (endR (skip r3) || hdc [124, 41, 38, 59] (skip r3)) with
                | false => exact absurd (by simp only [cmdLoop, hA, hB, hC, hD, hX]) hout
                | true =>
                  have e : cmdLoop (k + 1) as rc d = .ok (t, skip r3, d3) := by simp only [cmdLoop, hA, hB, hC, hD, hX]
                  k_steps
                  (rename TreeIn w (_ ++ (_ :: _ :: _ :: _ :: rest)) _ t => hv2)
                  (rename ∀ p ∈ _ ++ (_ :: _ :: _ :: _ :: rest), p.1 ≠ dsc => hne2)
                  refine unstp (whl_turn (k := 0) ?hE2 ?_)
                  case hE2 => passes_own
                  cases hE3 : endR (skip r3) with
                  | true =>
                    k_steps
                    rename_i kF kN _ _
                    rw [app4] at kN hne2 hv2
                    refine' hret _ _ _ e _ _ _ _ _ _ _ ?z4 ?f4 ?F4 ?N4 ?n4 ?t4
                    case N4 => exact kN
                    case F4 => assumption
                    case z4 => assumption
                    case f4 => exact AtZ.f (by assumption)
                    case n4 => exact hne2
                    case t4 => exact hv2
                  | false =>
                    rw [hE3, Bool.false_or] at hX
                    have hh3 : headIn (Str.ofString "|)&;") (skip r3) = true := by rw [hd_ends]; exact hX
                    k_steps
                    rename_i kF kN _ _
                    rw [app4] at kN hne2 hv2
                    refine' hret _ _ _ e _ _ _ _ _ _ _ ?z5 ?f5 ?F5 ?N5 ?n5 ?t5
                    case N5 => exact kN
                    case F5 => assumption
                    case z5 => assumption
                    case f5 => exact AtZ.f (by assumption)
                    case n5 => exact hne2
                    case t5 => exact hv2
end

end Mine

-- part C1
namespace Mine
theorem fillC1 : (fun (_ : OpenLaw) (_ : Params → Frag) => True) PySem.Challenge.rw_pq0899_01 heapK := by w_top off; k_fill; trivial
section
variable {prog : Program} {w : World} {A : Around} {E : Value → Shared → Prop} {s : Shared} {h₀ : Heap} {L : Addr} {m : Str → Option Value} {news : List (Addr × Obj)} {env : Env}
/-- the signs of a text for which a test holds -/
theorem comp_big {elt iter c : PySem.Expr} {x : Str} {px pos : Pos} {scope : Scope} {line : Str} {Q : Value → Shared → Prop} (hh : A.handled = none)
    (hclos : closureFor scope env = pure []) (hcell : ∀ y ∈ scope.names, y.2 ≠ .cell) (hkind : scope.kind = .function)
    (hnames : ∀ y ∈ scope.names, y.2 = .local → scope.names.lookup y.1 = some .local) (hx : scope.names.lookup x = some .local) (hlen : line.length ≤ sizeLine)
    (hiter : wpAny (model prog w) A (eval iter env) (fun xv s₁ => (∃ t, xv = .str line t) ∧ Fr h₀ L s₁.heap m ∧ News h₀ L s₁.heap news ∧
      (∀ D ys h' tk, Fr h₀ L h' m → News h₀ L h' news → h₀.get? D = none → h'.PlainList D ys → (∀ p ∈ news, p.1 ≠ D) → D ≠ L → (ys.size = 0 ↔ (line.cps.toList.any fun c => Nat.blt 255 c) = false) → Q (.ref D) { s₁ with heap := h', toks := tk })) E s)
    (htest : ∀ C c0 u (s₂ : Shared) m₂ (E' : Value → Shared → Prop), (∀ b o, h₀.get? b = some o → s₂.heap.get? b = some o) → s₂.heap.Ns (compEnvC scope [] C env).locals m₂ → m₂ x = some (.str ⟨#[c0]⟩ u) →
      wpAny (model prog w) A (isTrue c (compEnvC scope [] C env) (eval c (compEnvC scope [] C env))) (fun ok s₃ => ok = Nat.blt 255 c0 ∧ Keeps s₂ s₃) E' s₂)
    (helt : ∀ C c0 u (s₂ : Shared) m₂ (E' : Value → Shared → Prop), s₂.heap.Ns (compEnvC scope [] C env).locals m₂ → m₂ x = some (.str ⟨#[c0]⟩ u) →
      wpAny (model prog w) A (eval elt (compEnvC scope [] C env)) (fun _ s₃ => Keeps s₂ s₃) E' s₂)
    (hs : ∀ x, foldedSetIterable iter env x = pure x) :
    wpAny (model prog w) A (eval (.ListComp elt [⟨.Name x px, iter, [c], 0⟩] scope pos) env) Q E s := by
  refine wpAny_ListComp_free (fun v => match v with | .str ⟨a⟩ _ => Nat.blt 255 (a.getD 0 0) | _ => false) (fun _ _ => True) hclos hcell hkind hnames hx (wpAny_mono hiter (fun xv s₁ h₁ => ?_) fun _ _ e => e) hs
  obtain ⟨⟨t, rfl⟩, F, N, hQ⟩ := h₁
  refine wpAny_pyIter_str fun o St W hst => ?_
  have up : ∀ (h' : Heap), (∀ b o', b ∉ [s₁.heap.objs.size] → (s₁.heap.push o).get? b = some o' → h'.get? b = some o') → ∀ b o', s₁.heap.get? b = some o' → h'.get? b = some o' :=
    fun h' hk b o' e => hk b o' (old_not_new e) (Heap.get?_push_of_some _ e)
  refine ⟨s₁.heap.objs.size, [s₁.heap.objs.size], [s₁.heap.objs.size], line.cps.size, SignAt line, St, rfl, W A hh, hlen, hst, ?_, ⟨?_, ?_⟩, ?_⟩
  · intro b hb
    show b < (s₁.heap.push o).objs.size
    rw [Heap.size_push, List.mem_singleton.mp hb]
    exact Nat.lt_succ_self _
  · intro C i v s₃ m₃ E' _ hP hn hm hk _
    obtain ⟨c0, u, _, rfl⟩ := hP
    rw [List.forIn_cons]
    refine wpAny_bind ?_
    rw [if_pos rfl]
    refine wpAny_bind (wpAny_mono (htest C c0 u s₃ m₃ E' (fun b o' e => hk b o' (old_not_new (F.keep b o' e)) (Heap.get?_push_of_some _ (F.keep b o' e))) hn hm) (fun ok s₄ h₄ => wpAny_pure ?_) fun _ _ e => e)
    exact wpAny_pure ⟨h₄.1, h₄.2⟩
  · intro C i v s₃ m₃ E' _ hP _ hn hm hk _
    obtain ⟨c0, u, _, rfl⟩ := hP
    exact wpAny_mono (helt C c0 u s₃ m₃ E' hn hm) (fun _ _ h₄ => ⟨trivial, h₄⟩) fun _ _ e => e
  · intro D h' tk ys vs hnew hlD hplD hlen' hP hF hk
    have hne : ∀ b o', s₁.heap.get? b = some o' → b ≠ D := fun b o' e q => by
      rw [← q, Heap.get?_push_of_some _ e] at hnew; cases hnew
    refine hQ D ys h' tk (F.keeps (up h' hk)) (N.grown (up h' hk)) ?_ hplD (fun p hp => hne _ _ (N p hp).1) ?_ ?_
    · cases e : h₀.get? D with
      | none => rfl
      | some o' => exact absurd rfl (hne D o' (F.keep _ _ e))
    · obtain ⟨oL, _, _, hL, _⟩ := F.ns
      exact fun q => hne L oL hL q.symm
    · have h1 := hF.length
      have h2 : ys.size = 0 ↔ (List.filter (fun v => match v with | Value.str ⟨a⟩ _ => Nat.blt 255 (a.getD 0 0) | _ => false) vs) = [] := by
        rw [← List.length_eq_zero_iff, h1]
        simp
      rw [h2, List.filter_eq_nil_iff]
      rw [List.any_eq_false]
      constructor
      · intro h c hc hb
        obtain ⟨j, hj, rfl⟩ := List.mem_iff_getElem.mp hc
        have hjv : j < vs.length := by rw [hlen']; simpa using hj
        obtain ⟨c', u, hc', hv'⟩ := hP j vs[j] (List.getElem?_eq_getElem hjv)
        have := h vs[j] (List.getElem_mem hjv)
        rw [hv'] at this
        have e : c' = line.cps.toList[j] := by
          have q : line.cps[j]? = some line.cps.toList[j] := by simp
          rw [q] at hc'
          exact (Option.some.inj hc').symm
        rw [e] at this
        exact this (by simpa using hb)
      · intro h v hv hb
        obtain ⟨j, hj, rfl⟩ := List.mem_iff_getElem.mp hv
        obtain ⟨c', u, hc', hv'⟩ := hP j vs[j] (List.getElem?_eq_getElem hj)
        rw [hv'] at hb
        refine h c' ?_ (by simpa using hb)
        have : line.cps.toList[j]? = some c' := by simpa using hc'
        exact List.mem_of_getElem? this
end

end Mine

-- part P7
namespace Mine
theorem fillP7 : (fun (_ : OpenLaw) (_ : Params → Frag) => True) PySem.Challenge.rw_pq0899_01 heapK := by w_top off; k_fill; trivial
theorem all_con (w : World) (mean : ExcName → Option Value) (mg mb : Str → Option Value) : ∀ n, Con w mean mg mb 239 n (pLine n) ∧ Con w mean mg mb 246 n (pPipe n) ∧ Con w mean mg mb 267 n (pCmd n)
  | 0 => ⟨fun _ _ _ _ _ _ _ _ _ _ _ _ _ _ _ _ _ _ _ _ _ _ _ _ _ _ _ _ _ _ _ _ _ _ _ _ _ _ _ _ _ _ _ _ hout => absurd rfl hout, fun _ _ _ _ _ _ _ _ _ _ _ _ _ _ _ _ _ _ _ _ _ _ _ _ _ _ _ _ _ _ _ _ _ _ _ _ _ _ _ _ _ _ _ _ hout => absurd rfl hout, fun _ _ _ _ _ _ _ _ _ _ _ _ _ _ _ _ _ _ _ _ _ _ _ _ _ _ _ _ _ _ _ _ _ _ _ _ _ _ _ _ _ _ _ _ hout => absurd rfl hout⟩
  | n + 1 => ⟨line_step (all_con w mean mg mb n).2.1 (all_con w mean mg mb n).1, pipe_step (all_con w mean mg mb n).2.2 (all_con w mean mg mb n).2.1, cmd_step (all_con w mean mg mb n).1⟩
theorem ne_lists {prog : Program} {w : World} {A : Around} {E : Value → Shared → Prop} {s : Shared} {l b : Addr} {items items2 : Array Value} {Q : Value → Shared → Prop} (hl : s.heap.IsList l items) (hb : s.heap.IsList b items2) (h2 : items2.size = 0) (hu : A.units < cLine)
    (h : ∀ tk, Q (.bool (!(items.size == 0))) { s with toks := tk }) : wpAny (model prog w) A (compareOp .NotEq (.ref l) (.ref b)) Q E s := by
  show wpAny (model prog w) A (richCompare .NotEq (.ref l) (.ref b)) Q E s
  have hQ := h s.toks
  by_cases h0 : items.size = 0
  · have := PySem.SeqAt.RcNeAt.lists (e := fun _ => true) hl hb (by rw [h0, h2]) hu (fun j h1 => absurd h1 (by omega)) prog w E Q
    refine this ?_
    rw [h0]
    rw [h0] at hQ
    simpa using hQ
  · have := PySem.SeqAt.RcNeAt.lists_lengths hl hb (by rw [h2]; simpa using h0) hu prog w E Q
    refine this ?_
    rw [show (items.size == 0) = false from by simpa using h0] at hQ
    exact hQ
theorem ne_lists' {prog : Program} {w : World} {A : Around} {E : Value → Shared → Prop} {s : Shared} {h₀ : Heap} {L l b : Addr} {news : List (Addr × Obj)} {items : Array Value} {n k : Nat} {z : Bool} {Q : Value → Shared → Prop} (N : News h₀ L s.heap news) (hl : (l, W.listOf items n) ∈ news) (hb : (b, W.listOf #[] k) ∈ news) (hz : (items.size == 0) = z) (hu : A.units < cLine)
    (h : ∀ tk, Q (.bool (!z)) { s with toks := tk }) : wpAny (model prog w) A (compareOp .NotEq (.ref l) (.ref b)) Q E s :=
  ne_lists ⟨_, (N _ hl).1, rfl, n, rfl⟩ ⟨_, (N _ hb).1, rfl, k, rfl⟩ rfl hu (fun tk => by rw [hz]; exact h tk)
theorem name_cl {M : Model} {A : Around} {E : Value → Shared → Prop} {s : Shared} {env : Env} {x : Str} {pos : Pos} {v : Value} {m : Str → Option Value} {Q : Value → Shared → Prop} (hn : s.heap.Ns env.locals m) (hv : m x = some v) (h : Q v s) (hk : env.scope.kind = .function) (hx : env.kindOf x = some .local) (hd : (x == ("__debug__" : Str)) = false) :
    wpAny M A (eval (.Name x pos) env) Q E s := wpAny_Name (wpAny_loadName_local hk hx hn hv h) hd
theorem name_blt {M : Model} {A : Around} {E : Value → Shared → Prop} {s : Shared} {K : Frag} {h₀ : Heap} {mg mb : Str → Option Value} {p : Program} {loose : List Str} {env : Env} {x : Str} {pos : Pos} {v : Value} {Q : Value → Shared → Prop} (keep : ∀ b o, h₀.get? b = some o → s.heap.get? b = some o) (X : K.In h₀) (T : TopRead p loose mg mb h₀)
    (e : nsIn K mainGlobals x = some none) (hv : bootBuiltins x = some v) (hn : x ≠ "__name__") (h : Q v s) (hg : env.globals = mainGlobals) (hb : env.builtins = builtinsNs) (hk : env.scope.kind = .function) (hx : env.kindOf x = some .globalImplicit) (hd : (x == ("__debug__" : Str)) = false) :
    wpAny M A (eval (.Name x pos) env) Q E s :=
  Name_function_global hk hx (loadGlobal_builtin (env := env) (by rw [hg]; exact T.g.keeps keep) (mg_none_of X T.g e) (by rw [hb]; exact T.b.keeps keep) ((T.builtins x hn).trans hv) h) hd
local macro_rules | `(tactic| k_all) => `(tactic| assumption)
local macro_rules | `(tactic| walk_at "subscriptTail") => `(tactic| (k_here; (with_reducible show wpAny _ _ (subscriptTail _ _ (Value.str _ _) (Value.int _ _)) _ _ _); (refine sub_at (by assumption) (by assumption) ?_)))
local macro_rules | `(tactic| walk_at "compareOp In str str") => `(tactic| (k_here; first | refine in_bl_yes (by assumption) ?_ | refine in_bl_no (by assumption) ?_ | refine in_yes (by assumption) ?_ | refine in_no (by assumption) ?_))
local macro_rules | `(tactic| walk_at "compareOp NotIn str str") => `(tactic| (k_here; first | refine nin_sg_yes (by assumption) ?_ | refine nin_sg_no (by assumption) ?_ | refine nin_bs_yes (by assumption) ?_ | refine nin_bs_no (by assumption) ?_))
local macro_rules | `(tactic| walk_at "exec While BoolOp cons nil") => `(tactic| (k_here; refine whl_start 0 (stp ?_)))
local macro_rules | `(tactic| walk_at "WhlRest") => `(tactic| refine stp ?_)
local macro_rules | `(tactic| k_room) => `(tactic| ktr_room)
local macro_rules | `(tactic| walk_at "call ref") => `(tactic| (k_here; k_dflt (refine' at_end_c ?k1 ?k2 ?k3 ?k4 ?k5 ?k6 ?k7 ?k8 ?k9 ?k10 ?k11 ?k12 ?k13 ?k14 ?_; (case k1 => k_asm); (case k2 => k_asm); (case k3 => k_asm); (case k4 => k_asm); (case k5 => first | exact rfl | assumption); (case k6 => k_asm); (case k7 => first | assumption | k_all); (case k8 => assumption); (case k9 => ktr_room); (case k10 => ktr_units); (case k11 => assumption); (case k12 => assumption); (case k13 => first | exact skip_skip _ | exact rfl); (case k14 => assumption)); intro place' tp' h' tk' hz' hf' F' N'; (try dsimp only [AtF] at hf'); (try dsimp only); (try k_sweep); (try k_fold)))
local macro_rules | `(tactic| walk_at "call ref") => `(tactic| (k_here; (rename Con _ _ _ _ 239 _ _ => hX9); k_dflt (refine' con_ok hX9 ?e ?k1 ?k2 ?k3 ?k4 ?k5 ?k6 ?k7 ?k8 ?k9 ?k10 ?k11 ?k12 ?_; (case e => assumption); (case k1 => k_asm); (case k2 => k_asm); (case k3 => k_asm); (case k4 => k_asm); (case k5 => first | exact rfl | assumption); (case k6 => k_asm); (case k7 => first | assumption | k_all); (case k8 => assumption); (case k9 => ktr_room); (case k10 => ktr_units); (case k11 => assumption); (case k12 => assumption)); intro v' place' tp' td' h' tk' tl' hz' hf' F' N' hne' hv'; (try dsimp only [AtF] at hf'); (try dsimp only); (try k_sweep); (try k_fold)))
local macro_rules | `(tactic| walk_at "call ref") => `(tactic| (k_here; (rename Con _ _ _ _ 239 _ _ => hX9); k_dflt (refine' con_bad hX9 ?e ?k1 ?k2 ?k3 ?k4 ?k5 ?k6 ?k7 ?k8 ?k9 ?k10 ?k11 ?k12 ?_; (case e => assumption); (case k1 => k_asm); (case k2 => k_asm); (case k3 => k_asm); (case k4 => k_asm); (case k5 => first | exact rfl | assumption); (case k6 => k_asm); (case k7 => first | assumption | k_all); (case k8 => assumption); (case k9 => ktr_room); (case k10 => ktr_units); (case k11 => assumption); (case k12 => assumption)); intro e' h' tk' a0' fl' up' ns'; refine stp ?_))
local macro_rules | `(tactic| walk_at "compareOp NotEq ref ref") => `(tactic| (k_here; k_dflt (refine' ne_lists' ?N ?l ?b ?z ?u ?_; (case N => k_asm); (case l => k_mem); (case b => k_mem); (case z => assumption); (case u => ktr_units); k_whole); intro tk9; (try dsimp only)))
local macro_rules | `(tactic| walk_at "eval ListComp") => `(tactic| (k_here; refine stp ?_))
local macro_rules | `(tactic| walk_at "exec Raise") => `(tactic| (k_here; with_unfolding_all refine exec_raise64 (by rfl) ?_))
local macro_rules | `(tactic| walk_at "exec Raise some none") => `(tactic| (k_here; with_unfolding_all refine exec_raise64 (by rfl) ?_))
local macro_rules | `(tactic| walk_at "call ref") => `(tactic| (k_here; k_dflt (refine' fault_c ?k1 ?k2 ?k3 ?k4 ?k5 ?k6 ?k7 ?k8 ?k9 ?_; (case k1 => k_asm); (case k2 => k_asm); (case k3 => k_asm); (case k4 => k_asm); (case k5 => first | exact rfl | assumption); (case k6 => k_asm); (case k7 => ktr_room); (case k8 => ktr_units); (case k9 => first | decide +kernel | assumption); k_whole); intro e' t' d' h' tk' more' F' N'; (try dsimp only); (try k_sweep); refine stp ?_))
theorem blt_int {a b : Nat} : decide ((a : Int) < (b : Int)) = Nat.blt a b := by
  cases h : Nat.blt a b with
  | true => have := Nat.le_of_ble_eq_true h; exact decide_eq_true (by omega)
  | false =>
    refine decide_eq_false fun q => ?_
    have : Nat.blt a b = true := Nat.ble_eq_true_of_le (by omega)
    rw [h] at this; cases this
theorem cons2 {h₀ h : Heap} {L : Addr} {x y p q : Addr × Obj} {tl rest : List (Addr × Obj)} (N : News h₀ L h (x :: y :: (tl ++ p :: q :: rest))) : News h₀ L h ((x :: y :: (tl ++ [p, q])) ++ rest) := by
  simpa only [List.cons_append, List.append_assoc, List.nil_append] using N
section
variable {w : World} {mean : ExcName → Option Value} {mg mb : Str → Option Value} {dp un : Nat} {gd : Option (List Code)} {cn : Str} {cs : Scope} {a : Addr} {ccd : Value} {cl : List (Str × Addr)} {outer : List Env} {A₀ : Around} {base h₀ : Heap} {L : Addr} {m : Str → Option Value} {rest : List (Addr × Obj)} {s : Shared} {sc dsc : Addr} {t1 t2 t3 tl tp td : Tok} {line : Str} {place deep : Int} {Q E : Value → Shared → Prop} {r : List Nat}
theorem parse_ok {t : T} (B : Below A₀ base outer h₀) (F : Fr h₀ L s.heap m) (X : (heapK w.params).In h₀) (T0 : Top vw9 ln9 mean mg mb h₀) (hk : cs.kind = .function)
    (N : News h₀ L s.heap rest) (hroom : dp + 500 < recursionLimit) (hun : un + 4000 < cLine) (hlen : line.length ≤ 100000)
    (hw : pWhole line.cps.toList = .ok t)
    (hret : ∀ v h' tk' tl', Fr h₀ L h' m → News h₀ L h' (tl' ++ rest) → TreeIn w (tl' ++ rest) v t → Q v { s with heap := h', toks := tk' }) :
    wpAny (model PR w) (ktrTop dp un gd cn cs L a ccd cl outer) (call (.ref 232) [.str line tl]) Q E s := by
  have _h := fillP7
  have HL : Con w mean mg mb 239 64 (pLine 64) := (all_con w mean mg mb 64).1
  refine wpAny_call ?_
  k_dflt ktr_enter
  rename_i g' L' h1 FG F1 N1 B' X' T'
  clear N F
  have hz0 : AtZ line 0 line.cps.toList := ⟨by decide, by omega, rfl⟩
  unfold pWhole at hw
  cases hbig : (line.cps.toList.any fun c => Nat.blt 255 c) with
  | true => rw [hbig] at hw; cases hw
  | false =>
    rw [hbig] at hw
    dsimp only at hw
    cases hc : pLine 64 line.cps.toList 0 with
    | bad => rw [hc] at hw; cases hw
    | out => rw [hc] at hw; cases hw
    | ok p =>
      obtain ⟨t', r', d'⟩ := p
      rw [hc] at hw
      dsimp only at hw
      cases he : endR (skip r') with
      | false => rw [he] at hw; cases hw
      | true =>
        rw [he] at hw
        cases hw
        k_steps
        refine unstp ?_
        refine comp_big (h₀ := g') (L := L') (line := line) (news := rest) rfl rfl (by decide +kernel) rfl (by decide +kernel) (by decide +kernel) ?hlen1 (name_cl F1.ns rfl ⟨⟨_, rfl⟩, F1, N1, ?post1⟩ rfl rfl (by decide +kernel)) ?htest1 ?helt1 ?hs1
        case hlen1 => exact Nat.le_trans hlen (by decide)
        case hs1 => exact fun _ => rfl
        case helt1 => exact fun C c0 u s2 m2 E2 hn hm => name_cl hn hm ⟨_, _, rfl, fun _ _ h => h⟩ rfl rfl (by decide +kernel)
        case htest1 =>
          intro C c0 u s2 m2 E2 hk2 hn2 hm2
          refine wpAny_isTrue_Compare1 ?_
          k_steps
          refine name_blt hk2 X' (topRead_of T') (by k_is) bootS_ord (by decide +kernel) ?_ rfl rfl rfl rfl (by decide +kernel)
          k_steps
          exact blt_int
          exact ⟨_, _, rfl, fun _ _ h => h⟩
        intro D ys h2 tk F2 N2 hD hpl hneD hDL hiff
        obtain ⟨kn, hget⟩ := hpl
        have N3 : News g' L' h2 ((D, W.listOf ys kn) :: rest) := fun p hp => by
          cases hp with
          | head => exact ⟨hget, hDL, hD⟩
          | tail _ hp => exact N2 p hp
        clear N2 N1 F1
        have hsz : (ys.size == 0) = true := by
          cases e : (ys.size == 0) with
          | true => have := hiff.mp (eq_of_beq e); first | rfl | (rw [hbig] at this; cases this)
          | false => first | rfl | (have := hiff.mpr hbig; rw [this] at e; cases e)
        clear hbig hiff
        k_steps
        rename_i kF kN _ _
        refine hret _ _ _ (_ :: _ :: (_ ++ [_, _])) kF (cons2 kN) ?_
        refine TreeIn.mono (by assumption) fun p hp => ?_
        simp only [List.cons_append, List.append_assoc, List.nil_append]
        exact .tail _ (.tail _ hp)
end
section
variable {w : World} {mean : ExcName → Option Value} {mg mb : Str → Option Value} {dp un : Nat} {gd : Option (List Code)} {cn : Str} {cs : Scope} {a : Addr} {ccd : Value} {cl : List (Str × Addr)} {outer : List Env} {A₀ : Around} {base h₀ : Heap} {L : Addr} {m : Str → Option Value} {rest : List (Addr × Obj)} {s : Shared} {sc dsc : Addr} {t1 t2 t3 tl tp td : Tok} {line : Str} {place deep : Int} {Q E : Value → Shared → Prop} {r : List Nat}
theorem parse_bad (B : Below A₀ base outer h₀) (F : Fr h₀ L s.heap m) (X : (heapK w.params).In h₀) (T0 : Top vw9 ln9 mean mg mb h₀) (hk : cs.kind = .function)
    (N : News h₀ L s.heap rest) (hroom : dp + 500 < recursionLimit) (hun : un + 4000 < cLine) (hlen : line.length ≤ 100000)
    (hw : pWhole line.cps.toList = .bad)
    (hexc : ∀ e h' tk' a0, Heap.FlyingW base (envX cn cs L a ccd cl :: outer) e (.ref 64) a0 h' → h₀.UpToSlots h' → h'.Ns L m → E (.ref e) { s with heap := h', toks := tk' }) :
    wpAny (model PR w) (ktrTop dp un gd cn cs L a ccd cl outer) (call (.ref 232) [.str line tl]) Q E s := by
  have _h := fillP7
  have HL : Con w mean mg mb 239 64 (pLine 64) := (all_con w mean mg mb 64).1
  refine wpAny_call ?_
  k_dflt ktr_enter
  rename_i g' L' h1 FG F1 N1 B' X' T'
  clear N F
  have hz0 : AtZ line 0 line.cps.toList := ⟨by decide, by omega, rfl⟩
  unfold pWhole at hw
  cases hbig : (line.cps.toList.any fun c => Nat.blt 255 c) with
  | true =>
    k_steps
    refine unstp ?_
    refine comp_big (h₀ := g') (L := L') (line := line) (news := rest) rfl rfl (by decide +kernel) rfl (by decide +kernel) (by decide +kernel) ?hlen2 (name_cl F1.ns rfl ⟨⟨_, rfl⟩, F1, N1, ?post2⟩ rfl rfl (by decide +kernel)) ?htest2 ?helt2 ?hs2
    case hlen2 => exact Nat.le_trans hlen (by decide)
    case hs2 => exact fun _ => rfl
    case helt2 => exact fun C c0 u s2 m2 E2 hn hm => name_cl hn hm ⟨_, _, rfl, fun _ _ h => h⟩ rfl rfl (by decide +kernel)
    case htest2 =>
      intro C c0 u s2 m2 E2 hk2 hn2 hm2
      refine wpAny_isTrue_Compare1 ?_
      k_steps
      refine name_blt hk2 X' (topRead_of T') (by k_is) bootS_ord (by decide +kernel) ?_ rfl rfl rfl rfl (by decide +kernel)
      k_steps
      exact blt_int
      exact ⟨_, _, rfl, fun _ _ h => h⟩
    intro D ys h2 tk F2 N2 hD hpl hneD hDL hiff
    obtain ⟨kn, hget⟩ := hpl
    have N3 : News g' L' h2 ((D, W.listOf ys kn) :: rest) := fun p hp => by
      cases hp with
      | head => exact ⟨hget, hDL, hD⟩
      | tail _ hp => exact N2 p hp
    clear N2 N1 F1
    have hsz : (ys.size == 0) = false := by
      cases e : (ys.size == 0) with
      | true => have := hiff.mp (eq_of_beq e); first | rfl | (rw [hbig] at this; cases this)
      | false => first | rfl | (have := hiff.mpr hbig; rw [this] at e; cases e)
    k_steps
    rename_i e' t' d' h' tk' more' F' N'
    refine unstp ⟨e', t', some d', rfl, cls64 (X'.keeps F'.keep), (N' _ (.head _)).1, ?_⟩
    k_unfold
    refine leave_first64 B' F' N' fun h2 a0 fl up => ?_
    exact hexc _ _ _ _ fl ((Heap.UpToSlots.of_keeps FG.keep).trans up) (up.ns FG.ns)
  | false =>
    rw [hbig] at hw
    dsimp only at hw
    have hc : pLine 64 line.cps.toList 0 = .bad := by
      cases hc : pLine 64 line.cps.toList 0 with
      | bad => rfl
      | out => rw [hc] at hw; cases hw
      | ok p =>
        obtain ⟨t', r', d'⟩ := p
        rw [hc] at hw
        dsimp only at hw
        cases he : endR (skip r') with
        | false => rw [he] at hw; cases hw
        | true => rw [he] at hw; cases hw
    k_steps
    refine unstp ?_
    refine comp_big (h₀ := g') (L := L') (line := line) (news := rest) rfl rfl (by decide +kernel) rfl (by decide +kernel) (by decide +kernel) ?hlen3 (name_cl F1.ns rfl ⟨⟨_, rfl⟩, F1, N1, ?post3⟩ rfl rfl (by decide +kernel)) ?htest3 ?helt3 ?hs3
    case hlen3 => exact Nat.le_trans hlen (by decide)
    case hs3 => exact fun _ => rfl
    case helt3 => exact fun C c0 u s2 m2 E2 hn hm => name_cl hn hm ⟨_, _, rfl, fun _ _ h => h⟩ rfl rfl (by decide +kernel)
    case htest3 =>
      intro C c0 u s2 m2 E2 hk2 hn2 hm2
      refine wpAny_isTrue_Compare1 ?_
      k_steps
      refine name_blt hk2 X' (topRead_of T') (by k_is) bootS_ord (by decide +kernel) ?_ rfl rfl rfl rfl (by decide +kernel)
      k_steps
      exact blt_int
      exact ⟨_, _, rfl, fun _ _ h => h⟩
    intro D ys h2 tk F2 N2 hD hpl hneD hDL hiff
    obtain ⟨kn, hget⟩ := hpl
    have N3 : News g' L' h2 ((D, W.listOf ys kn) :: rest) := fun p hp => by
      cases hp with
      | head => exact ⟨hget, hDL, hD⟩
      | tail _ hp => exact N2 p hp
    clear N2 N1 F1
    have hsz : (ys.size == 0) = true := by
      cases e : (ys.size == 0) with
      | true => have := hiff.mp (eq_of_beq e); first | rfl | (rw [hbig] at this; cases this)
      | false => first | rfl | (have := hiff.mpr hbig; rw [this] at e; cases e)
    k_steps
    rename_i e' h' tk' a0' fl' up' ns'
    refine unstp ?_
    repeat k_unfold
    refine leave_next64 B' fl' up' fun h2 a1 fl up => ?_
    exact hexc  _ _ _ _ fl ((Heap.UpToSlots.of_keeps FG.keep).trans up) (up.ns FG.ns)
end

end Mine

-- part R1
namespace Mine
theorem fillR1 : (fun (_ : OpenLaw) (_ : Params → Frag) => True) PySem.Challenge.rw_pq0899_01 heapK := by w_top off; k_fill; trivial
section
variable {prog : Program} {w : World} {A₀ : Around} {E : Value → Shared → Prop} {s' : Shared} {base : Heap} {outer : List Env} {L a e : Addr} {m : Str → Option Value} {name : Str} {scope : Scope} {cd a0 : Value}
  {b₀ : Stmt} {suite : List Stmt} {pos np : Pos} {rest : List ExceptHandler} {Q : Flow → Shared → Prop} {KF : Frag} 
  {p : Program} {loose : List Str} {mg mb : Str → Option Value} {x : Str}
theorem caught64 (stack : A₀.frames = some outer) (F : Fr base L s'.heap m) (fl : Heap.FlyingW base (envOf name scope L a cd :: outer) e (.ref 64) a0 s'.heap)
    (X : KF.In base) (T : TopRead p loose mg mb base) (ex : nsIn KF mainGlobals x = some (some (.ref 64))) (hC : ∀ h, KF.In h → h.get? 64 = some o64)
    (k : ∀ h', Fr base L h' m → s'.heap.UpToSlots h' →
      wpAny (model prog w) ((A₀.deeper (envOf name scope L a cd)).mark (some (.ref e))) (execs (b₀ :: suite) (envOf name scope L a cd)) Q E { s' with heap := h' })
    (hk : scope.kind = .function := by rfl) (hx : (envOf name scope L a cd).kindOf x = some .globalImplicit := by rfl) (hd : (x == ("__debug__" : Str)) = false := by decide)
    (hE : PassesOwnAt (model prog w) ((A₀.deeper (envOf name scope L a cd)).mark (some (.ref e))) (A₀.deeper (envOf name scope L a cd)) (envOf name scope L a cd) E := by passes_own) :
    wpAny (model prog w) (A₀.deeper (envOf name scope L a cd)) (noteFrame (.ref e) (envOf name scope L a cd))
      (fun _ s₂ => wpAny (model prog w) (A₀.deeper (envOf name scope L a cd)) (setFlight (.ref e) none) (fun _ s₃ =>
        wpAny (model prog w) (A₀.deeper (envOf name scope L a cd)) (handleBy (.ref e) (envOf name scope L a cd) (.ExceptHandler (some (.Name x np)) none (b₀ :: suite) pos :: rest)) Q E s₃) E s₂) E s' := by
  refine wpAny_looks_onW (Around.frames_deeper stack) rfl fl fun h₄ hheld₄ hsm₄ => ?_
  refine wpAny_landsW hheld₄ fun h₅ hheld hsm₅' => ?_
  have hsm₅ := hsm₄.trans hsm₅'
  have F₅ := F.of_stays hheld.1 hsm₅
  obtain ⟨ob, hob, hobc⟩ := hheld.there
  refine wpAny_handleBy_cons (codeAny_handlers_test (name_K F₅ X T ex ?_ hk hx hd)) (by intro q; cases q)
  have hC := hC _ (X.keeps F₅.keep)
  refine wpAny_excMatches_sub_self hC hob hobc (by decide +kernel) (codeAny_handlers_suite ?_)
  refine lands_againW hheld fun h₆ hfl₆ hsm₆ => ?_
  have F₆ := F₅.of_stays hfl₆.1 hsm₆
  exact wpAny_passesOwnAt hE (k h₆ F₆ (hsm₅.trans hsm₆))
end
section
variable {prog : Program} {w : World} {A : Around} {s : Shared} {h₀ : Heap} {L a : Addr} {m : Str → Option Value} {cn : Str} {cs : Scope} {ccd : Value} {news : List (Addr × Obj)} {K : Frag} {p : Program} {loose : List Str} {mean : ExcName → Option Value} {mg mb : Str → Option Value}
  {R : Result → Shared → Prop} {name qual : Str} {params : Arguments} {body : List Stmt} {scope : Scope} {dV kV doc pm cdv ct oc : Value} {an od : Option Addr} {osl : Array (Option Value)} {f : Addr} {args : Args} {binds : List (Str × Value)}
theorem enter_own {A₀ : Around} (B : Below A₀ h₀ [] h₀) (F : Fr h₀ L s.heap m) (X₀ : K.In h₀) (N : News h₀ L s.heap news) (T : Top p loose mean mg mb h₀) (hA : A.frames = some [envOf cn cs L a ccd])
    (ho : K.lookup f = some ⟨oc, od, .func (fnOf name qual params body scope dV kV doc pm an cdv ct), osl⟩) (hcd : codeIn K cdv qual = true) (hroom : A.depth < recursionLimit)
    (hbind : BindsTo s (fnOf name qual params body scope dV kV doc pm an cdv ct) args binds) (hloc : ∀ y ∈ binds, scope.names.lookup y.1 = some .local) (hck : cs.kind = .function)
    (h : ∀ g B' L' h₁, g = s.heap → Fr g L' h₁ (fun y => binds.reverse.lookup y) → Below A B' [envOf cn cs L a ccd] g → K.In g → Top p loose mean mg mb g → B'.objs.size ≤ L' → (∀ b o, h₀.get? b = some o → B'.get? b = some o) → (∀ q ∈ news, B'.get? q.1 = some q.2) → 
      wpAny (model prog w) (A.deeper (envOf qual scope L' f cdv)) (execs body (envOf qual scope L' f cdv))
        (fun fl s' => R (.ok (.ret (match fl with | .ret v => v | _ => .none))) s')
        (fun e s' => wpAny (model prog w) (A.deeper (envOf qual scope L' f cdv)) (leaving (envOf qual scope L' f cdv) e) (fun _ s'' => R (.error e) s'') (fun e' s'' => R (.error e') s'') s')
        { s with heap := h₁, toks := s.toks + binds.length })
    (hco : scope.isCoroutine = false := by rfl) (hgen : scope.isGenerator = false := by rfl) (hk : scope.kind = .function := by rfl)
    (hcell : ∀ x ∈ scope.names, x.2 ≠ .cell := by decide) : codeAny (model prog w) A (.call (.ref f) args) R s := by
  have X := X₀.keeps F.keep
  have Kp := B.push (name := cn) (a := a) (cd := ccd) F hck
  refine codeAny_call_def (fd := fnOf name qual params body scope dV kV doc pm an cdv ct) (body := body) (binds := binds) hroom (X _ _ ho) rfl (T.nolimit.keeps F.keep) (codeRec_of X hcd) rfl hbind hcell hloc (fun h₁ hns hk₁ => ?_) hco hgen hk
  refine h s.heap (hideAll s.heap [L]) s.heap.objs.size h₁ rfl ⟨hns, hk₁, Nat.le_refl _⟩ ⟨hA, fun b o e => of_hideAll _ e, funFrames_hide Kp.frames ?_⟩ X (T.keeps F.keep) (Nat.le_of_eq (hideAll_size _ _)) ?_ ?_
  · intro env he b hb
    rcases List.mem_cons.mp he with rfl | he
    · exact List.mem_singleton.mpr (Option.some.inj hb).symm
    · exact nomatch he
  · intro b o e
    refine hideAll_get _ (F.keep b o e) fun hm => ?_
    rw [List.mem_singleton.mp hm, kts_self F] at e
    cases e
  · intro q hq
    refine hideAll_get _ (N q hq).1 fun hm => (N q hq).2.1 (List.mem_singleton.mp hm)
end

end Mine

-- part R2
namespace Mine
theorem fillR2 : (fun (_ : OpenLaw) (_ : Params → Frag) => True) PySem.Challenge.rw_pq0899_01 heapK := by w_top off; k_fill; trivial
local macro_rules | `(tactic| k_all) => `(tactic| assumption)
local macro_rules | `(tactic| walk_at "subscriptTail") => `(tactic| (k_here; (with_reducible show wpAny _ _ (subscriptTail _ _ (Value.str _ _) (Value.int _ _)) _ _ _); (refine sub_at (by assumption) (by assumption) ?_)))
local macro_rules | `(tactic| walk_at "compareOp In str str") => `(tactic| (k_here; first | refine in_bl_yes (by assumption) ?_ | refine in_bl_no (by assumption) ?_ | refine in_yes (by assumption) ?_ | refine in_no (by assumption) ?_))
local macro_rules | `(tactic| walk_at "compareOp NotIn str str") => `(tactic| (k_here; first | refine nin_sg_yes (by assumption) ?_ | refine nin_sg_no (by assumption) ?_ | refine nin_bs_yes (by assumption) ?_ | refine nin_bs_no (by assumption) ?_))
local macro_rules | `(tactic| walk_at "exec While BoolOp cons nil") => `(tactic| (k_here; refine whl_start 0 (stp ?_)))
local macro_rules | `(tactic| walk_at "WhlRest") => `(tactic| refine stp ?_)
local macro_rules | `(tactic| k_room) => `(tactic| ktr_room)
local macro_rules | `(tactic| walk_at "call ref") => `(tactic| (k_here; k_dflt (refine' parse_ok ?k1 ?k2 ?k3 ?k4 ?k5 ?k6 ?k7 ?k8 ?k9 ?k10 ?_; (case k1 => k_asm); (case k2 => k_asm); (case k3 => k_asm); (case k4 => k_asm); (case k5 => first | exact rfl | assumption); (case k6 => exact News.nil); (case k7 => ktr_room); (case k8 => ktr_units); (case k9 => assumption); (case k10 => assumption); k_whole); intro v' h' tk' tl' F' N' hv'; (try dsimp only); (try k_sweep); (try k_fold)))
local macro_rules | `(tactic| walk_at "call ref") => `(tactic| (k_here; k_dflt (refine' parse_bad ?k1 ?k2 ?k3 ?k4 ?k5 ?k6 ?k7 ?k8 ?k9 ?k10 ?_; (case k1 => k_asm); (case k2 => k_asm); (case k3 => k_asm); (case k4 => k_asm); (case k5 => first | exact rfl | assumption); (case k6 => exact News.nil); (case k7 => ktr_room); (case k8 => ktr_units); (case k9 => assumption); (case k10 => assumption); k_whole); intro e' h' tk' a0' fl' up' ns'; refine stp ?_))
section
variable {w : World} {mean : ExcName → Option Value} {mg mb : Str → Option Value} {dp un : Nat} {gd : Option (List Code)} {cn : Str} {cs : Scope} {a : Addr} {ccd : Value} {cl : List (Str × Addr)} {outer : List Env} {A₀ : Around} {base h₀ : Heap} {L : Addr} {m : Str → Option Value} {rest : List (Addr × Obj)} {s : Shared} {sc dsc : Addr} {t1 t2 t3 tl tp td : Tok} {line : Str} {place deep : Int} {Q E : Value → Shared → Prop} {r : List Nat}
theorem read_ok {t : T} (B : Below A₀ h₀ [] h₀) (F : Fr h₀ L s.heap m) (X : (heapK w.params).In h₀) (T0 : Top vw9 ln9 mean mg mb h₀) (hk : cs.kind = .function)
    (N : News h₀ L s.heap rest) (hroom : dp + 510 < recursionLimit) (hun : un + 4100 < cLine) (hlen : line.length ≤ 100000)
    (hw : pWhole line.cps.toList = .ok t)
    (hret : ∀ v h' tk' tl', Fr h₀ L h' m → News h₀ L h' (tl' ++ rest) → TreeIn w (tl' ++ rest) v t → Q v { s with heap := h', toks := tk' }) :
    wpAny (model PR w) (ktrTop dp un gd cn cs L a ccd [] []) (call (.ref 323) [.str line tl]) Q E s := by
  have _h := fillR2
  refine wpAny_call ?_
  refine' enter_own B F X N T0 ?kA ?k6 ?k7 ?k8 ?k9 ?kB hk ?_ ?c2 ?c3 ?c4 ?c5
  case kA => exact rfl
  case k6 => k_is
  case k7 => k_is
  case k8 => ktr_room
  case k9 => exact BindsTo.of_eq rfl
  case c5 => decide
  case kB => exact locs rfl
  case c2 => exact rfl
  case c3 => exact rfl
  case c4 => exact rfl
  k_whole
  intro g B1 L' h1 eg F1 B2 X1 T1 sz k1 k2
  (try dsimp only)
  (try k_fold)
  have N1 : News g L' h1 [] := News.nil
  have B' := B2
  clear B
  k_steps
  rename_i v' h' tk' tl' F' N' hv'
  rw [List.append_nil] at N' hv'
  subst eg
  refine hret v' h' tk' tl' (F.keeps F'.keep) (fun p hp => ?_) (hv'.mono fun p hp => List.mem_append.mpr (.inl hp))
  rcases List.mem_append.mp hp with hp | hp
  · obtain ⟨x1, x2, x3⟩ := N' p hp
    refine ⟨x1, fun q => ?_, ?_⟩
    · obtain ⟨o, _, _, ho, _⟩ := F.ns
      rw [q, ho] at x3; cases x3
    · cases q : h₀.get? p.1 with
      | none => rfl
      | some o => have := F.keep _ _ q; rw [x3] at this; cases this
  · exact ⟨F'.keep _ _ (N p hp).1, (N p hp).2⟩
theorem read_bad (B : Below A₀ h₀ [] h₀) (F : Fr h₀ L s.heap m) (X : (heapK w.params).In h₀) (T0 : Top vw9 ln9 mean mg mb h₀) (hk : cs.kind = .function)
    (N : News h₀ L s.heap rest) (hroom : dp + 510 < recursionLimit) (hun : un + 4100 < cLine) (hlen : line.length ≤ 100000)
    (hw : pWhole line.cps.toList = .bad)
    (hret : ∀ h' tk', Fr h₀ L h' m → News h₀ L h' rest → Q .none { s with heap := h', toks := tk' }) :
    wpAny (model PR w) (ktrTop dp un gd cn cs L a ccd [] []) (call (.ref 323) [.str line tl]) Q E s := by
  have _h := fillR2
  refine wpAny_call ?_
  refine' enter_own B F X N T0 ?kA ?k6 ?k7 ?k8 ?k9 ?kB hk ?_ ?c2 ?c3 ?c4 ?c5
  case kA => exact rfl
  case k6 => k_is
  case k7 => k_is
  case k8 => ktr_room
  case k9 => exact BindsTo.of_eq rfl
  case c5 => decide
  case kB => exact locs rfl
  case c2 => exact rfl
  case c3 => exact rfl
  case c4 => exact rfl
  k_whole
  intro g B1 L' h1 eg F1 B2 X1 T1 sz k1 k2
  (try dsimp only)
  (try k_fold)
  have N1 : News g L' h1 [] := News.nil
  have B' := B2
  clear B
  k_steps
  rename_i e' h' tk' a0' fl' up' ns'
  refine unstp (caught64 (A₀ := ktrTop dp un gd cn cs L a ccd [] []) rfl ⟨ns', fl'.1, sz⟩ fl' (X.keeps k1) (topRead_of (T0.keeps k1)) (by k_is) (fun _ => cls64) (fun h2 F2 u2 => ?_))
  clear B' B2 F1 N1 X1 T1 fl'
  have N2 : News B1 L' h2 [] := News.nil
  have X2 := X.keeps k1
  have T2 := T0.keeps k1
  clear X T0
  k_steps
  subst eg
  exact hret h2 tk' ⟨(up'.trans u2).ns F.ns, fun b o e => F2.keep _ _ (k1 b o e), F.above⟩ fun p hp => ⟨F2.keep _ _ (k2 p hp), (N p hp).2⟩
end

end Mine

-- part X1
namespace Mine
theorem fillX1 : (fun (_ : OpenLaw) (_ : Params → Frag) => True) PySem.Challenge.rw_pq0899_01 heapK := by w_top off; k_fill; trivial
def clsT : T → Nat
  | .run _ => 83
  | .redirect _ _ => 104
  | .pair _ _ _ => 125
  | .back _ => 146
def wrap : Bool → List Nat → List Nat
  | true, s => 40 :: 32 :: (s ++ [32, 41])
  | false, s => s
def gW : T → Bool
  | .run _ => false
  | .redirect _ _ => false
  | .pair _ _ _ => true
  | .back _ => true
def pW : T → Bool
  | .run _ => false
  | .redirect _ _ => false
  | .pair b _ _ => b
  | .back _ => true
def bW : T → Bool
  | .run _ => false
  | .redirect _ _ => false
  | .pair b _ _ => b
  | .back _ => false
def tText : T → List Nat
  | .run _ => [97]
  | .redirect c _ => wrap (gW c) (tText c) ++ [32, 62, 32, 102]
  | .back c => wrap (bW c) (tText c) ++ [32, 38]
  | .pair false l r => wrap (gW l) (tText l) ++ [32, 124, 32] ++ wrap (pW r) (tText r)
  | .pair true l r => wrap (bW l) (tText l) ++ [32, 59, 32] ++ tText r
def nice : T → Bool
  | .run as => as == [[97]]
  | .redirect c p => nice c && p == [102]
  | .back c => nice c
  | .pair _ l r => nice l && nice r
def dep : T → Nat
  | .run _ => 0
  | .redirect c _ => dep c + 1
  | .back c => dep c + 1
  | .pair _ l r => max (dep l) (dep r) + 1
theorem wrap_le {b : Bool} {s : List Nat} {k : Nat} (h : (wrap b s).length ≤ k) : s.length ≤ k := by
  cases b
  · exact h
  · simp [wrap] at h; omega
/-- the first and the last sign are no blanks -/
def firm (l : List Nat) : Prop := ∃ c d m, l = c :: (m ++ [d]) ∧ Unicode.isSpace c = false ∧ Unicode.isSpace d = false
open Builtin Builtin.Str in
theorem strip_firm {x : Str} (h : firm x.cps.toList) : Txt.strip x = x := by
  obtain ⟨c, d, m, e, hc, hd⟩ := h
  have lo : stripLo Unicode.isSpace true x = 0 := by
    simp only [stripLo, if_true]
    rw [e]
    simp [List.takeWhile_cons, hc]
  have hi : stripHi Unicode.isSpace true x 0 = x.length := by
    simp only [stripHi, if_true, List.drop_zero]
    rw [e]
    simp [List.takeWhile_cons, hd]
  have hsame : stripSame Unicode.isSpace true true x = true := by
    unfold stripSame
    rw [lo, hi]
    simp
  unfold Txt.strip Txt.stripBy
  rw [if_pos hsame]
theorem wrap_head {b : Bool} {s : List Nat} (h : ∃ c m, s = c :: m ∧ Unicode.isSpace c = false) : ∃ c m, wrap b s = c :: m ∧ Unicode.isSpace c = false := by
  cases b
  · exact h
  · exact ⟨40, _, rfl, by decide +kernel⟩
theorem text_head : ∀ t : T, ∃ c m, tText t = c :: m ∧ Unicode.isSpace c = false
  | .run _ => ⟨97, [], rfl, by decide +kernel⟩
  | .redirect c _ => by
    obtain ⟨x, m, e, h⟩ := wrap_head (b := gW c) (text_head c)
    exact ⟨x, m ++ _, by rw [tText, e]; rfl, h⟩
  | .back c => by
    obtain ⟨x, m, e, h⟩ := wrap_head (b := bW c) (text_head c)
    exact ⟨x, m ++ _, by rw [tText, e]; rfl, h⟩
  | .pair false l r => by
    obtain ⟨x, m, e, h⟩ := wrap_head (b := gW l) (text_head l)
    exact ⟨x, m ++ _ ++ _, by rw [tText, e]; rfl, h⟩
  | .pair true l r => by
    obtain ⟨x, m, e, h⟩ := wrap_head (b := bW l) (text_head l)
    exact ⟨x, m ++ _ ++ _, by rw [tText, e]; rfl, h⟩
theorem firm_redirect (c : T) : firm (wrap (gW c) (tText c) ++ [32, 62, 32, 102]) := by
  obtain ⟨x, m, e, h⟩ := wrap_head (b := gW c) (text_head c)
  exact ⟨x, 102, m ++ [32, 62, 32], by rw [e]; simp, h, by decide +kernel⟩
section
variable {M : Model} {A : Around} {E : Value → Shared → Prop} {s : Shared} {Q : Value → Shared → Prop}
theorem add_l {prog : Program} {w : World} {x y : Str} {xs ys : List Nat} {t u : Tok} (hx : x = ⟨xs.toArray⟩) (hy : y = ⟨ys.toArray⟩) (hs : xs.length + ys.length ≤ 1000000)
    (h : ∀ t' k, Q (.str ⟨(xs ++ ys).toArray⟩ t') { s with toks := k }) : wpAny (model prog w) A (binaryOp .Add (.str x t) (.str y u)) Q E s := by
  subst hx hy
  refine SBL.add (fun t' k _ => ?_) ?_
  · have e : ((⟨xs.toArray⟩ : Str) ++ (⟨ys.toArray⟩ : Str)) = ⟨(xs ++ ys).toArray⟩ := by
      show Str.mk _ = _
      simp
    rw [e]
    exact h t' k
  · show xs.toArray.size + ys.toArray.size ≤ sizeLine
    simp only [List.size_toArray]
    exact Nat.le_trans hs (by decide)
end
theorem lit_sp : Str.ofString " " = ⟨[32].toArray⟩ := by decide +kernel
theorem lit_gt : Str.ofString ">" = ⟨[62].toArray⟩ := by decide +kernel
theorem lit_op : Str.ofString "( " = ⟨[40, 32].toArray⟩ := by decide +kernel
theorem lit_cl : Str.ofString " )" = ⟨[32, 41].toArray⟩ := by decide +kernel
theorem lit_bar : Str.ofString " | " = ⟨[32, 124, 32].toArray⟩ := by decide +kernel
theorem lit_semi : Str.ofString " ; " = ⟨[32, 59, 32].toArray⟩ := by decide +kernel
theorem lit_amp : Str.ofString " &" = ⟨[32, 38].toArray⟩ := by decide +kernel

end Mine

-- part X2
namespace Mine
theorem fillX2 : (fun (_ : OpenLaw) (_ : Params → Frag) => True) PySem.Challenge.rw_pq0899_01 heapK := by w_top off; k_fill; trivial

theorem joinOk1 {x : Str} (hx : x.length = 1) : JoinOk x [⟨#[97]⟩] = true := by
  unfold JoinOk
  simp only [List.foldl_toArray, List.foldl_cons, List.foldl_nil, hx]
  decide +kernel
theorem join1 {prog : Program} {w : World} {A : Around} {E : Value → Shared → Prop} {s : Shared} {h₀ : Heap} {L l : Addr} {news : List (Addr × Obj)} {x : Str} {t u : Tok} {n : Nat} {Q : Value → Shared → Prop} (N : News h₀ L s.heap news) (hl : (l, W.listOf #[.str ⟨#[97]⟩ t] n) ∈ news) (hx : x.length = 1)
    (h : ∀ t' k, Q (.str ⟨[97].toArray⟩ t') { s with toks := k }) : wpAny (model prog w) A (call (.builtin "str.join") [.str x u, .ref l]) Q E s :=
  SC.join (l := [(⟨#[97]⟩, t)]) (texts := [⟨#[97]⟩]) ⟨_, (N _ hl).1, rfl, n, rfl⟩ rfl (joinOk1 hx) (fun t' k => h t' k)
theorem strip_l {prog : Program} {w : World} {A : Around} {E : Value → Shared → Prop} {s : Shared} {x : Str} {xs ys : List Nat} {t : Tok} {Q : Value → Shared → Prop} (hx : x = ⟨xs.toArray⟩) (e : xs = ys) (hf : firm ys) (hs : xs.length ≤ 1000000)
    (h : ∀ t' k, Q (.str ⟨ys.toArray⟩ t') { s with toks := k }) : wpAny (model prog w) A (call (.builtin "str.strip") [.str x t]) Q E s := by
  subst hx e
  have q : Txt.strip ⟨xs.toArray⟩ = ⟨xs.toArray⟩ := strip_firm (x := ⟨xs.toArray⟩) hf
  refine SCL.strip (fun t' k _ => ?_) ?_
  · rw [q]; exact h t' k
  · show xs.toArray.size ≤ sizeLine
    simp only [List.size_toArray]
    exact Nat.le_trans hs (by decide)
theorem TreeIn.cls {w : World} {led : List (Addr × Obj)} {v : Value} {t : T} (h : TreeIn w led v t) : ∃ a d, v = .ref a ∧ (a, instObj (clsT t) d) ∈ led := by
  cases h with
  | run m1 _ _ _ => exact ⟨_, _, rfl, m1⟩
  | redirect m1 _ _ => exact ⟨_, _, rfl, m1⟩
  | pipe m1 _ _ _ => exact ⟨_, _, rfl, m1⟩
  | semi m1 _ _ _ => exact ⟨_, _, rfl, m1⟩
  | back m1 _ _ => exact ⟨_, _, rfl, m1⟩
theorem news_more {h₀ h : Heap} {L : Addr} {x : Addr × Obj} {rest news : List (Addr × Obj)} (N : News h₀ L h news) (h0 : News h₀ L h rest) (hx : x ∈ rest) : News h₀ L h (x :: news) := fun p hp => by
  cases hp with
  | head => exact h0 _ hx
  | tail _ hp => exact N _ hp
def TCon (w : World) (mean : ExcName → Option Value) (mg mb : Str → Option Value) (f : Addr) (n k : Nat) (g : T → List Nat) : Prop :=
  ∀ {vw9 : Program} {ln9 : List Str} {t : T} {v : Value} {dp un : Nat} {gd : Option (List Code)} {cn : Str} {cs : Scope} {a : Addr} {ccd : Value} {cl : List (Str × Addr)} {outer : List Env} {A₀ : Around} {base h₀ : Heap} {L : Addr} {m : Str → Option Value} {rest : List (Addr × Obj)} {s : Shared} {Q E : Value → Shared → Prop},
    nice t = true → dep t ≤ n → (g t).length ≤ 100000 →
    Below A₀ base outer h₀ → Fr h₀ L s.heap m → (heapK w.params).In h₀ → Top vw9 ln9 mean mg mb h₀ → cs.kind = .function → News h₀ L s.heap rest → TreeIn w rest v t →
    dp + 3 * n + k < recursionLimit → un + 60 * n + 10 * k < cLine →
    (∀ t' h' tk', Fr h₀ L h' m → News h₀ L h' rest → Q (.str ⟨(g t).toArray⟩ t') { s with heap := h', toks := tk' }) →
    wpAny (model PR w) (ktrTop dp un gd cn cs L a ccd cl outer) (call (.ref f) [v]) Q E s
theorem tcon {w : World} {mean : ExcName → Option Value} {mg mb : Str → Option Value} {f : Addr} {n k : Nat} {g : T → List Nat} (H : TCon w mean mg mb f n k g)
    {t : T} {v : Value} {dp un : Nat} {gd : Option (List Code)} {cn : Str} {cs : Scope} {a : Addr} {ccd : Value} {cl : List (Str × Addr)} {outer : List Env} {A₀ : Around} {base h₀ : Heap} {L : Addr} {m : Str → Option Value} {rest : List (Addr × Obj)} {s : Shared} {Q E : Value → Shared → Prop}
    (h1 : nice t = true) (h2 : dep t ≤ n) (h3 : (g t).length ≤ 100000) (B : Below A₀ base outer h₀) (F : Fr h₀ L s.heap m) (X : (heapK w.params).In h₀) (T0 : Top vw9 ln9 mean mg mb h₀) (hk : cs.kind = .function) (N : News h₀ L s.heap rest) (hT : TreeIn w rest v t)
    (hroom : dp + 3 * n + k < recursionLimit) (hun : un + 60 * n + 10 * k < cLine)
    (hret : ∀ t' h' tk', Fr h₀ L h' m → News h₀ L h' rest → Q (.str ⟨(g t).toArray⟩ t') { s with heap := h', toks := tk' }) :
    wpAny (model PR w) (ktrTop dp un gd cn cs L a ccd cl outer) (call (.ref f) [v]) Q E s := H h1 h2 h3 B F X T0 hk N hT hroom hun hret
local macro_rules | `(tactic| k_all) => `(tactic| assumption)
local macro_rules | `(tactic| walk_at "subscriptTail") => `(tactic| (k_here; (with_reducible show wpAny _ _ (subscriptTail _ _ (Value.str _ _) (Value.int _ _)) _ _ _); (refine sub_at (by assumption) (by assumption) ?_)))
local macro_rules | `(tactic| walk_at "compareOp In str str") => `(tactic| (k_here; first | refine in_bl_yes (by assumption) ?_ | refine in_bl_no (by assumption) ?_ | refine in_yes (by assumption) ?_ | refine in_no (by assumption) ?_))
local macro_rules | `(tactic| walk_at "compareOp NotIn str str") => `(tactic| (k_here; first | refine nin_sg_yes (by assumption) ?_ | refine nin_sg_no (by assumption) ?_ | refine nin_bs_yes (by assumption) ?_ | refine nin_bs_no (by assumption) ?_))
local macro_rules | `(tactic| walk_at "exec While BoolOp cons nil") => `(tactic| (k_here; refine whl_start 0 (stp ?_)))
local macro_rules | `(tactic| walk_at "WhlRest") => `(tactic| refine stp ?_)
local macro_rules | `(tactic| k_room) => `(tactic| ktr_room)
local macro_rules | `(tactic| walk_at "call ref") => `(tactic| (k_here; (rename TCon _ _ _ _ 274 _ _ _ => hX9); k_dflt (refine' tcon hX9 ?k1 ?k2 ?k3 ?k4 ?k5 ?k6 ?k7 ?k8 ?k9 ?k10 ?k11 ?k12 ?_; (case k1 => assumption); (case k2 => first | assumption | omega); (case k3 => assumption); (case k4 => k_asm); (case k5 => k_asm); (case k6 => k_asm); (case k7 => k_asm); (case k8 => first | exact rfl | assumption); (case k9 => k_asm); (case k10 => first | assumption | exact TreeIn.mono (by assumption) (fun _ hp => .tail _ hp) | exact TreeIn.mono (by assumption) (fun _ hp => .tail _ (.tail _ hp)) | exact TreeIn.mono (by assumption) (fun _ hp => .tail _ (.tail _ (.tail _ hp))) | exact TreeIn.mono (by assumption) (fun _ hp => .tail _ (.tail _ (.tail _ (.tail _ hp))))); (case k11 => ktr_room); (case k12 => ktr_units); k_whole); intro t' h' tk' F' N'; (try dsimp only); (try k_sweep); (try k_fold)))
local macro_rules | `(tactic| walk_at "call ref") => `(tactic| (k_here; (rename TCon _ _ _ _ 281 _ _ _ => hX9); k_dflt (refine' tcon hX9 ?k1 ?k2 ?k3 ?k4 ?k5 ?k6 ?k7 ?k8 ?k9 ?k10 ?k11 ?k12 ?_; (case k1 => assumption); (case k2 => first | assumption | omega); (case k3 => assumption); (case k4 => k_asm); (case k5 => k_asm); (case k6 => k_asm); (case k7 => k_asm); (case k8 => first | exact rfl | assumption); (case k9 => k_asm); (case k10 => first | assumption | exact TreeIn.mono (by assumption) (fun _ hp => .tail _ hp) | exact TreeIn.mono (by assumption) (fun _ hp => .tail _ (.tail _ hp)) | exact TreeIn.mono (by assumption) (fun _ hp => .tail _ (.tail _ (.tail _ hp))) | exact TreeIn.mono (by assumption) (fun _ hp => .tail _ (.tail _ (.tail _ (.tail _ hp))))); (case k11 => ktr_room); (case k12 => ktr_units); k_whole); intro t' h' tk' F' N'; (try dsimp only); (try k_sweep); (try k_fold)))
local macro_rules | `(tactic| walk_at "call ref") => `(tactic| (k_here; (rename TCon _ _ _ _ 288 _ _ _ => hX9); k_dflt (refine' tcon hX9 ?k1 ?k2 ?k3 ?k4 ?k5 ?k6 ?k7 ?k8 ?k9 ?k10 ?k11 ?k12 ?_; (case k1 => assumption); (case k2 => first | assumption | omega); (case k3 => assumption); (case k4 => k_asm); (case k5 => k_asm); (case k6 => k_asm); (case k7 => k_asm); (case k8 => first | exact rfl | assumption); (case k9 => k_asm); (case k10 => first | assumption | exact TreeIn.mono (by assumption) (fun _ hp => .tail _ hp) | exact TreeIn.mono (by assumption) (fun _ hp => .tail _ (.tail _ hp)) | exact TreeIn.mono (by assumption) (fun _ hp => .tail _ (.tail _ (.tail _ hp))) | exact TreeIn.mono (by assumption) (fun _ hp => .tail _ (.tail _ (.tail _ (.tail _ hp))))); (case k11 => ktr_room); (case k12 => ktr_units); k_whole); intro t' h' tk' F' N'; (try dsimp only); (try k_sweep); (try k_fold)))
local macro_rules | `(tactic| walk_at "binaryOp Add str str") => `(tactic| (k_here; (refine' add_l ?x1 ?x2 ?x3 ?_; (case x1 => first | exact lit_sp | exact lit_gt | exact lit_op | exact lit_cl | exact lit_bar | exact lit_semi | exact lit_amp | exact rfl); (case x2 => first | exact lit_sp | exact lit_gt | exact lit_op | exact lit_cl | exact lit_bar | exact lit_semi | exact lit_amp | exact rfl); (case x3 => (simp only [List.length_append, List.length_cons, List.length_nil]; omega))); intro _ _))
local macro_rules | `(tactic| walk_at "call builtin:str.strip") => `(tactic| (k_here; (refine' strip_l ?x1 ?x2 (firm_redirect _) ?x3 ?_; (case x1 => exact rfl); (case x2 => (simp only [List.append_assoc, List.cons_append, List.nil_append]; rfl)); (case x3 => (simp only [List.length_append, List.length_cons, List.length_nil]; omega))); intro _ _))
local macro_rules | `(tactic| walk_at "call builtin:str.join") => `(tactic| (k_here; k_dflt (refine' join1 ?N ?l ?x ?_; (case N => k_asm); (case l => k_mem); (case x => decide +kernel); k_whole); intro _ _))
section
variable {w : World} {mean : ExcName → Option Value} {mg mb : Str → Option Value} {dp un : Nat} {gd : Option (List Code)} {cn : Str} {cs : Scope} {a : Addr} {ccd : Value} {cl : List (Str × Addr)} {outer : List Env} {A₀ : Around} {base h₀ : Heap} {L : Addr} {m : Str → Option Value} {rest : List (Addr × Obj)} {s : Shared} {sc dsc : Addr} {t1 t2 t3 tl tp td : Tok} {line : Str} {place deep : Int} {Q E : Value → Shared → Prop} {r : List Nat}
theorem text_run {as : List (List Nat)} {v : Value} (hn : nice (.run as) = true) (B : Below A₀ base outer h₀) (F : Fr h₀ L s.heap m) (X : (heapK w.params).In h₀) (T0 : Top vw9 ln9 mean mg mb h₀) (hk : cs.kind = .function) (N : News h₀ L s.heap rest) (hT : TreeIn w rest v (.run as)) (hroom : dp + 20 < recursionLimit) (hun : un + 200 < cLine)
    (hret : ∀ t' h' tk', Fr h₀ L h' m → News h₀ L h' rest → Q (.str ⟨(tText (.run as)).toArray⟩ t') { s with heap := h', toks := tk' }) :
    wpAny (model PR w) (ktrTop dp un gd cn cs L a ccd cl outer) (call (.ref 274) [v]) Q E s := by
  have _h := fillX2
  cases hT with
  | run m1 m2 m3 hw =>
    have hn' : as = [[97]] := by simpa [nice] using hn
    subst hn'
    cases hw with
    | cons hw =>
      cases hw with
      | nil =>
        have hret2 : ∀ (l : List Nat) t' h' tk' led, l = tText (.run [[97]]) → Fr h₀ L h' m → News h₀ L h' led → (∀ p ∈ rest, p ∈ led) → Q (.str ⟨l.toArray⟩ t') { s with heap := h', toks := tk' } := fun l t' h' tk' led e F N hs => by subst e; exact hret t' h' tk' F (fun p hp => N p (hs p hp))
        have N2 := (news_more (news_more (news_more N N m3) N m2) N m1)
        clear N hret
        refine wpAny_call ?_
        k_dflt ktr_enter
        clear N2 F
        k_steps
        rename_i kF kN _ _
        refine hret2 _ _ _ _ _ ?_ kF kN (fun p hp => by simp only [List.mem_cons]; simp [hp])
        simp [tText, wrap, gW, pW, bW]
theorem text_redirect {n : Nat} {c : T} {p : List Nat} {v : Value} (HG : TCon w mean mg mb 281 n 22 (fun t => wrap (gW t) (tText t))) (hn : nice (.redirect c p) = true) (hdp : dep (.redirect c p) ≤ n + 1) (hl : (tText (.redirect c p)).length ≤ 100000) (B : Below A₀ base outer h₀) (F : Fr h₀ L s.heap m) (X : (heapK w.params).In h₀) (T0 : Top vw9 ln9 mean mg mb h₀) (hk : cs.kind = .function) (N : News h₀ L s.heap rest) (hT : TreeIn w rest v (.redirect c p)) (hroom : dp + 3 * (n + 1) + 20 < recursionLimit) (hun : un + 60 * (n + 1) + 10 * 20 < cLine)
    (hret : ∀ t' h' tk', Fr h₀ L h' m → News h₀ L h' rest → Q (.str ⟨(tText (.redirect c p)).toArray⟩ t') { s with heap := h', toks := tk' }) :
    wpAny (model PR w) (ktrTop dp un gd cn cs L a ccd cl outer) (call (.ref 274) [v]) Q E s := by
  have _h := fillX2
  have hX : nice c = true ∧ p = [102] := by simpa [nice] using hn
  obtain ⟨hnc, rfl⟩ := hX
  have hdc : dep c ≤ n := by simp only [dep] at hdp; omega
  have hlc : (wrap (gW c) (tText c)).length ≤ 100000 := by simp only [tText, List.length_append] at hl; omega
  clear hn hdp hl
  cases hT with
  | redirect m1 m2 hc =>
    have hret2 : ∀ (l : List Nat) t' h' tk' led, l = tText (.redirect c [102]) → Fr h₀ L h' m → News h₀ L h' led → (∀ p ∈ rest, p ∈ led) → Q (.str ⟨l.toArray⟩ t') { s with heap := h', toks := tk' } := fun l t' h' tk' led e F N hs => by subst e; exact hret t' h' tk' F (fun p hp => N p (hs p hp))
    have N2 := (news_more (news_more N N m2) N m1)
    clear N hret
    refine wpAny_call ?_
    k_dflt ktr_enter
    clear N2 F
    k_steps
    rename_i kF kN _ _
    refine hret2 _ _ _ _ _ ?_ kF kN (fun p hp => by simp only [List.mem_cons]; simp [hp])
    simp [tText, wrap, gW, pW, bW]
end

end Mine

-- part X3
namespace Mine
local macro_rules | `(tactic| walk_at "pad") => `(tactic| fail)
theorem fillX3 : (fun (_ : OpenLaw) (_ : Params → Frag) => True) PySem.Challenge.rw_pq0899_01 heapK := by w_top off; k_fill; trivial
local macro_rules | `(tactic| k_all) => `(tactic| assumption)
local macro_rules | `(tactic| walk_at "subscriptTail") => `(tactic| (k_here; (with_reducible show wpAny _ _ (subscriptTail _ _ (Value.str _ _) (Value.int _ _)) _ _ _); (refine sub_at (by assumption) (by assumption) ?_)))
local macro_rules | `(tactic| walk_at "compareOp In str str") => `(tactic| (k_here; first | refine in_bl_yes (by assumption) ?_ | refine in_bl_no (by assumption) ?_ | refine in_yes (by assumption) ?_ | refine in_no (by assumption) ?_))
local macro_rules | `(tactic| walk_at "compareOp NotIn str str") => `(tactic| (k_here; first | refine nin_sg_yes (by assumption) ?_ | refine nin_sg_no (by assumption) ?_ | refine nin_bs_yes (by assumption) ?_ | refine nin_bs_no (by assumption) ?_))
local macro_rules | `(tactic| walk_at "exec While BoolOp cons nil") => `(tactic| (k_here; refine whl_start 0 (stp ?_)))
local macro_rules | `(tactic| walk_at "WhlRest") => `(tactic| refine stp ?_)
local macro_rules | `(tactic| k_room) => `(tactic| ktr_room)
local macro_rules | `(tactic| walk_at "call ref") => `(tactic| (k_here; (rename TCon _ _ _ _ 274 _ _ _ => hX9); k_dflt (refine' tcon hX9 ?k1 ?k2 ?k3 ?k4 ?k5 ?k6 ?k7 ?k8 ?k9 ?k10 ?k11 ?k12 ?_; (case k9 => k_asm); (case k10 => first | assumption | exact TreeIn.mono (by assumption) (fun _ hp => .tail _ hp) | exact TreeIn.mono (by assumption) (fun _ hp => .tail _ (.tail _ hp)) | exact TreeIn.mono (by assumption) (fun _ hp => .tail _ (.tail _ (.tail _ hp))) | exact TreeIn.mono (by assumption) (fun _ hp => .tail _ (.tail _ (.tail _ (.tail _ hp))))); (case k1 => assumption); (case k2 => first | assumption | omega); (case k3 => assumption); (case k4 => k_asm); (case k5 => k_asm); (case k6 => k_asm); (case k7 => k_asm); (case k8 => first | exact rfl | assumption); (case k11 => ktr_room); (case k12 => ktr_units); k_whole); intro t' h' tk' F' N'; (try dsimp only); (try k_sweep); (try k_fold)))
local macro_rules | `(tactic| walk_at "call ref") => `(tactic| (k_here; (rename TCon _ _ _ _ 281 _ _ _ => hX9); k_dflt (refine' tcon hX9 ?k1 ?k2 ?k3 ?k4 ?k5 ?k6 ?k7 ?k8 ?k9 ?k10 ?k11 ?k12 ?_; (case k9 => k_asm); (case k10 => first | assumption | exact TreeIn.mono (by assumption) (fun _ hp => .tail _ hp) | exact TreeIn.mono (by assumption) (fun _ hp => .tail _ (.tail _ hp)) | exact TreeIn.mono (by assumption) (fun _ hp => .tail _ (.tail _ (.tail _ hp))) | exact TreeIn.mono (by assumption) (fun _ hp => .tail _ (.tail _ (.tail _ (.tail _ hp))))); (case k1 => assumption); (case k2 => first | assumption | omega); (case k3 => assumption); (case k4 => k_asm); (case k5 => k_asm); (case k6 => k_asm); (case k7 => k_asm); (case k8 => first | exact rfl | assumption); (case k11 => ktr_room); (case k12 => ktr_units); k_whole); intro t' h' tk' F' N'; (try dsimp only); (try k_sweep); (try k_fold)))
local macro_rules | `(tactic| walk_at "call ref") => `(tactic| (k_here; (rename TCon _ _ _ _ 288 _ _ _ => hX9); k_dflt (refine' tcon hX9 ?k1 ?k2 ?k3 ?k4 ?k5 ?k6 ?k7 ?k8 ?k9 ?k10 ?k11 ?k12 ?_; (case k9 => k_asm); (case k10 => first | assumption | exact TreeIn.mono (by assumption) (fun _ hp => .tail _ hp) | exact TreeIn.mono (by assumption) (fun _ hp => .tail _ (.tail _ hp)) | exact TreeIn.mono (by assumption) (fun _ hp => .tail _ (.tail _ (.tail _ hp))) | exact TreeIn.mono (by assumption) (fun _ hp => .tail _ (.tail _ (.tail _ (.tail _ hp))))); (case k1 => assumption); (case k2 => first | assumption | omega); (case k3 => assumption); (case k4 => k_asm); (case k5 => k_asm); (case k6 => k_asm); (case k7 => k_asm); (case k8 => first | exact rfl | assumption); (case k11 => ktr_room); (case k12 => ktr_units); k_whole); intro t' h' tk' F' N'; (try dsimp only); (try k_sweep); (try k_fold)))
local macro_rules | `(tactic| walk_at "binaryOp Add str str") => `(tactic| (k_here; (refine' add_l ?x1 ?x2 ?x3 ?_; (case x1 => first | exact lit_sp | exact lit_gt | exact lit_op | exact lit_cl | exact lit_bar | exact lit_semi | exact lit_amp | exact rfl); (case x2 => first | exact lit_sp | exact lit_gt | exact lit_op | exact lit_cl | exact lit_bar | exact lit_semi | exact lit_amp | exact rfl); (case x3 => (simp only [List.length_append, List.length_cons, List.length_nil]; omega))); intro _ _))
local macro_rules | `(tactic| walk_at "call builtin:str.strip") => `(tactic| (k_here; (refine' strip_l ?x1 ?x2 (firm_redirect _) ?x3 ?_; (case x1 => exact rfl); (case x2 => (simp only [List.append_assoc, List.cons_append, List.nil_append]; rfl)); (case x3 => (simp only [List.length_append, List.length_cons, List.length_nil]; omega))); intro _ _))
local macro_rules | `(tactic| walk_at "call builtin:str.join") => `(tactic| (k_here; k_dflt (refine' join1 ?N ?l ?x ?_; (case N => k_asm); (case l => k_mem); (case x => decide +kernel); k_whole); intro _ _))
section
variable {w : World} {mean : ExcName → Option Value} {mg mb : Str → Option Value} {dp un : Nat} {gd : Option (List Code)} {cn : Str} {cs : Scope} {a : Addr} {ccd : Value} {cl : List (Str × Addr)} {outer : List Env} {A₀ : Around} {base h₀ : Heap} {L : Addr} {m : Str → Option Value} {rest : List (Addr × Obj)} {s : Shared} {sc dsc : Addr} {t1 t2 t3 tl tp td : Tok} {line : Str} {place deep : Int} {Q E : Value → Shared → Prop} {r : List Nat}
theorem text_pipe {n : Nat} {l r : T} {v : Value} (HG : TCon w mean mg mb 281 n 22 (fun t => wrap (gW t) (tText t))) (HP : TCon w mean mg mb 288 n 22 (fun t => wrap (pW t) (tText t))) (hn : nice (.pair false l r) = true) (hdp : dep (.pair false l r) ≤ n + 1) (hl : (tText (.pair false l r)).length ≤ 100000) (B : Below A₀ base outer h₀) (F : Fr h₀ L s.heap m) (X : (heapK w.params).In h₀) (T0 : Top vw9 ln9 mean mg mb h₀) (hk : cs.kind = .function) (N : News h₀ L s.heap rest) (hT : TreeIn w rest v (.pair false l r)) (hroom : dp + 3 * (n + 1) + 20 < recursionLimit) (hun : un + 60 * (n + 1) + 10 * 20 < cLine)
    (hret : ∀ t' h' tk', Fr h₀ L h' m → News h₀ L h' rest → Q (.str ⟨(tText (.pair false l r)).toArray⟩ t') { s with heap := h', toks := tk' }) :
    wpAny (model PR w) (ktrTop dp un gd cn cs L a ccd cl outer) (call (.ref 274) [v]) Q E s := by
  have _h := fillX3
  have hX : nice l = true ∧ nice r = true := by simpa [nice] using hn
  obtain ⟨hnl, hnr⟩ := hX
  have hdl : dep l ≤ n := by simp only [dep] at hdp; omega
  have hdr : dep r ≤ n := by simp only [dep] at hdp; omega
  have hll : (wrap (gW l) (tText l)).length ≤ 100000 := by simp only [tText, List.length_append] at hl; omega
  have hlr : (wrap (pW r) (tText r)).length ≤ 100000 := by simp only [tText, List.length_append] at hl; omega
  clear hn hdp hl
  cases hT with
  | pipe m1 m2 hc hc2 =>
    have hret2 : ∀ (l9 : List Nat) t' h' tk' led, l9 = tText (.pair false l r) → Fr h₀ L h' m → News h₀ L h' led → (∀ p ∈ rest, p ∈ led) → Q (.str ⟨l9.toArray⟩ t') { s with heap := h', toks := tk' } := fun l9 t' h' tk' led e F N hs => by subst e; exact hret t' h' tk' F (fun p hp => N p (hs p hp))
    have N2 := (news_more (news_more N N m2) N m1)
    clear N hret
    refine wpAny_call ?_
    k_dflt ktr_enter
    clear N2 F
    k_steps
    refine' hret2 _ _ _ _ _ ?e1 ?F1 ?N1 ?s1
    case F1 => assumption
    case N1 => assumption
    case s1 => exact fun p hp => by simp only [List.mem_cons]; simp [hp]
    case e1 => simp [tText, wrap, gW, pW, bW]
theorem text_back {n : Nat} {c : T} {v : Value} (HP : TCon w mean mg mb 288 n 22 (fun t => wrap (pW t) (tText t))) (HT : TCon w mean mg mb 274 n 20 tText) (hn : nice (.back c) = true) (hdp : dep (.back c) ≤ n + 1) (hl : (tText (.back c)).length ≤ 100000) (B : Below A₀ base outer h₀) (F : Fr h₀ L s.heap m) (X : (heapK w.params).In h₀) (T0 : Top vw9 ln9 mean mg mb h₀) (hk : cs.kind = .function) (N : News h₀ L s.heap rest) (hT : TreeIn w rest v (.back c)) (hroom : dp + 3 * (n + 1) + 20 < recursionLimit) (hun : un + 60 * (n + 1) + 10 * 20 < cLine)
    (hret : ∀ t' h' tk', Fr h₀ L h' m → News h₀ L h' rest → Q (.str ⟨(tText (.back c)).toArray⟩ t') { s with heap := h', toks := tk' }) :
    wpAny (model PR w) (ktrTop dp un gd cn cs L a ccd cl outer) (call (.ref 274) [v]) Q E s := by
  have _h := fillX3
  have hnc : nice c = true := by simpa [nice] using hn
  have hdl : dep c ≤ n := by simp only [dep] at hdp; omega
  have hll : (wrap (bW c) (tText c)).length ≤ 100000 := by simp only [tText, List.length_append] at hl; omega
  have hlt := wrap_le hll
  have hlp : bW c = pW c → (wrap (pW c) (tText c)).length ≤ 100000 := fun e => e ▸ hll
  clear hn hdp hl
  cases hT with
  | back m1 m2 hc =>
    have hret2 : ∀ (l9 : List Nat) t' h' tk' led, l9 = tText (.back c) → Fr h₀ L h' m → News h₀ L h' led → (∀ p ∈ rest, p ∈ led) → Q (.str ⟨l9.toArray⟩ t') { s with heap := h', toks := tk' } := fun l9 t' h' tk' led e F N hs => by subst e; exact hret t' h' tk' F (fun p hp => N p (hs p hp))
    have hc0 := hc
    cases hc with
    | run q1 q2 q3 q4 =>
      (try have hlp := hlp rfl)
      have N2 := (news_more (news_more (news_more (news_more N N q2) N q1) N m2) N m1)
      clear N hret
      refine wpAny_call ?_
      k_dflt ktr_enter
      clear N2 F
      k_steps
      refine' hret2 _ _ _ _ _ ?e2 ?F2 ?N2 ?s2
      case F2 => assumption
      case N2 => assumption
      case s2 => exact fun p hp => by simp only [List.mem_cons]; simp [hp]
      case e2 => simp [tText, wrap, gW, pW, bW]
    | redirect q1 q2 q3 =>
      (try have hlp := hlp rfl)
      have N2 := (news_more (news_more (news_more (news_more N N q2) N q1) N m2) N m1)
      clear N hret
      refine wpAny_call ?_
      k_dflt ktr_enter
      clear N2 F
      k_steps
      refine' hret2 _ _ _ _ _ ?e3 ?F3 ?N3 ?s3
      case F3 => assumption
      case N3 => assumption
      case s3 => exact fun p hp => by simp only [List.mem_cons]; simp [hp]
      case e3 => simp [tText, wrap, gW, pW, bW]
    | pipe q1 q2 q3 q4 =>
      (try have hlp := hlp rfl)
      have N2 := (news_more (news_more (news_more (news_more N N q2) N q1) N m2) N m1)
      clear N hret
      refine wpAny_call ?_
      k_dflt ktr_enter
      clear N2 F
      k_steps
      refine' hret2 _ _ _ _ _ ?e4 ?F4 ?N4 ?s4
      case F4 => assumption
      case N4 => assumption
      case s4 => exact fun p hp => by simp only [List.mem_cons]; simp [hp]
      case e4 => simp [tText, wrap, gW, pW, bW]
    | semi q1 q2 q3 q4 =>
      (try have hlp := hlp rfl)
      have N2 := (news_more (news_more (news_more (news_more N N q2) N q1) N m2) N m1)
      clear N hret
      refine wpAny_call ?_
      k_dflt ktr_enter
      clear N2 F
      k_steps
      refine' hret2 _ _ _ _ _ ?e5 ?F5 ?N5 ?s5
      case F5 => assumption
      case N5 => assumption
      case s5 => exact fun p hp => by simp only [List.mem_cons]; simp [hp]
      case e5 => simp [tText, wrap, gW, pW, bW]
    | back q1 q2 q3 =>
      (try have hlp := hlp rfl)
      have N2 := (news_more (news_more (news_more (news_more N N q2) N q1) N m2) N m1)
      clear N hret
      refine wpAny_call ?_
      k_dflt ktr_enter
      clear N2 F
      k_steps
      refine' hret2 _ _ _ _ _ ?e6 ?F6 ?N6 ?s6
      case F6 => assumption
      case N6 => assumption
      case s6 => exact fun p hp => by simp only [List.mem_cons]; simp [hp]
      case e6 => simp [tText, wrap, gW, pW, bW]
end

end Mine

-- part X4
namespace Mine
theorem fillX4 : (fun (_ : OpenLaw) (_ : Params → Frag) => True) PySem.Challenge.rw_pq0899_01 heapK := by w_top off; k_fill; trivial
local macro_rules | `(tactic| k_all) => `(tactic| assumption)
local macro_rules | `(tactic| walk_at "subscriptTail") => `(tactic| (k_here; (with_reducible show wpAny _ _ (subscriptTail _ _ (Value.str _ _) (Value.int _ _)) _ _ _); (refine sub_at (by assumption) (by assumption) ?_)))
local macro_rules | `(tactic| walk_at "compareOp In str str") => `(tactic| (k_here; first | refine in_bl_yes (by assumption) ?_ | refine in_bl_no (by assumption) ?_ | refine in_yes (by assumption) ?_ | refine in_no (by assumption) ?_))
local macro_rules | `(tactic| walk_at "compareOp NotIn str str") => `(tactic| (k_here; first | refine nin_sg_yes (by assumption) ?_ | refine nin_sg_no (by assumption) ?_ | refine nin_bs_yes (by assumption) ?_ | refine nin_bs_no (by assumption) ?_))
local macro_rules | `(tactic| walk_at "exec While BoolOp cons nil") => `(tactic| (k_here; refine whl_start 0 (stp ?_)))
local macro_rules | `(tactic| walk_at "WhlRest") => `(tactic| refine stp ?_)
local macro_rules | `(tactic| k_room) => `(tactic| ktr_room)
local macro_rules | `(tactic| walk_at "call ref") => `(tactic| (k_here; (rename TCon _ _ _ _ 274 _ _ _ => hX9); k_dflt (refine' tcon hX9 ?k1 ?k2 ?k3 ?k4 ?k5 ?k6 ?k7 ?k8 ?k9 ?k10 ?k11 ?k12 ?_; (case k9 => k_asm); (case k10 => first | assumption | exact TreeIn.mono (by assumption) (fun _ hp => .tail _ hp) | exact TreeIn.mono (by assumption) (fun _ hp => .tail _ (.tail _ hp)) | exact TreeIn.mono (by assumption) (fun _ hp => .tail _ (.tail _ (.tail _ hp))) | exact TreeIn.mono (by assumption) (fun _ hp => .tail _ (.tail _ (.tail _ (.tail _ hp))))); (case k1 => assumption); (case k2 => first | assumption | omega); (case k3 => assumption); (case k4 => k_asm); (case k5 => k_asm); (case k6 => k_asm); (case k7 => k_asm); (case k8 => first | exact rfl | assumption); (case k11 => ktr_room); (case k12 => ktr_units); k_whole); intro t' h' tk' F' N'; (try dsimp only); (try k_sweep); (try k_fold)))
local macro_rules | `(tactic| walk_at "call ref") => `(tactic| (k_here; (rename TCon _ _ _ _ 281 _ _ _ => hX9); k_dflt (refine' tcon hX9 ?k1 ?k2 ?k3 ?k4 ?k5 ?k6 ?k7 ?k8 ?k9 ?k10 ?k11 ?k12 ?_; (case k9 => k_asm); (case k10 => first | assumption | exact TreeIn.mono (by assumption) (fun _ hp => .tail _ hp) | exact TreeIn.mono (by assumption) (fun _ hp => .tail _ (.tail _ hp)) | exact TreeIn.mono (by assumption) (fun _ hp => .tail _ (.tail _ (.tail _ hp))) | exact TreeIn.mono (by assumption) (fun _ hp => .tail _ (.tail _ (.tail _ (.tail _ hp))))); (case k1 => assumption); (case k2 => first | assumption | omega); (case k3 => assumption); (case k4 => k_asm); (case k5 => k_asm); (case k6 => k_asm); (case k7 => k_asm); (case k8 => first | exact rfl | assumption); (case k11 => ktr_room); (case k12 => ktr_units); k_whole); intro t' h' tk' F' N'; (try dsimp only); (try k_sweep); (try k_fold)))
local macro_rules | `(tactic| walk_at "call ref") => `(tactic| (k_here; (rename TCon _ _ _ _ 288 _ _ _ => hX9); k_dflt (refine' tcon hX9 ?k1 ?k2 ?k3 ?k4 ?k5 ?k6 ?k7 ?k8 ?k9 ?k10 ?k11 ?k12 ?_; (case k9 => k_asm); (case k10 => first | assumption | exact TreeIn.mono (by assumption) (fun _ hp => .tail _ hp) | exact TreeIn.mono (by assumption) (fun _ hp => .tail _ (.tail _ hp)) | exact TreeIn.mono (by assumption) (fun _ hp => .tail _ (.tail _ (.tail _ hp))) | exact TreeIn.mono (by assumption) (fun _ hp => .tail _ (.tail _ (.tail _ (.tail _ hp))))); (case k1 => assumption); (case k2 => first | assumption | omega); (case k3 => assumption); (case k4 => k_asm); (case k5 => k_asm); (case k6 => k_asm); (case k7 => k_asm); (case k8 => first | exact rfl | assumption); (case k11 => ktr_room); (case k12 => ktr_units); k_whole); intro t' h' tk' F' N'; (try dsimp only); (try k_sweep); (try k_fold)))
local macro_rules | `(tactic| walk_at "binaryOp Add str str") => `(tactic| (k_here; (refine' add_l ?x1 ?x2 ?x3 ?_; (case x1 => first | exact lit_sp | exact lit_gt | exact lit_op | exact lit_cl | exact lit_bar | exact lit_semi | exact lit_amp | exact rfl); (case x2 => first | exact lit_sp | exact lit_gt | exact lit_op | exact lit_cl | exact lit_bar | exact lit_semi | exact lit_amp | exact rfl); (case x3 => (simp only [List.length_append, List.length_cons, List.length_nil]; omega))); intro _ _))
local macro_rules | `(tactic| walk_at "call builtin:str.strip") => `(tactic| (k_here; (refine' strip_l ?x1 ?x2 (firm_redirect _) ?x3 ?_; (case x1 => exact rfl); (case x2 => (simp only [List.append_assoc, List.cons_append, List.nil_append]; rfl)); (case x3 => (simp only [List.length_append, List.length_cons, List.length_nil]; omega))); intro _ _))
local macro_rules | `(tactic| walk_at "call builtin:str.join") => `(tactic| (k_here; k_dflt (refine' join1 ?N ?l ?x ?_; (case N => k_asm); (case l => k_mem); (case x => decide +kernel); k_whole); intro _ _))
section
variable {w : World} {mean : ExcName → Option Value} {mg mb : Str → Option Value} {dp un : Nat} {gd : Option (List Code)} {cn : Str} {cs : Scope} {a : Addr} {ccd : Value} {cl : List (Str × Addr)} {outer : List Env} {A₀ : Around} {base h₀ : Heap} {L : Addr} {m : Str → Option Value} {rest : List (Addr × Obj)} {s : Shared} {sc dsc : Addr} {t1 t2 t3 tl tp td : Tok} {line : Str} {place deep : Int} {Q E : Value → Shared → Prop} {r : List Nat}
theorem text_semi {n : Nat} {l r : T} {v : Value} (HP : TCon w mean mg mb 288 n 22 (fun t => wrap (pW t) (tText t))) (HT : TCon w mean mg mb 274 n 20 tText) (hn : nice (.pair true l r) = true) (hdp : dep (.pair true l r) ≤ n + 1) (hl : (tText (.pair true l r)).length ≤ 100000) (B : Below A₀ base outer h₀) (F : Fr h₀ L s.heap m) (X : (heapK w.params).In h₀) (T0 : Top vw9 ln9 mean mg mb h₀) (hk : cs.kind = .function) (N : News h₀ L s.heap rest) (hT : TreeIn w rest v (.pair true l r)) (hroom : dp + 3 * (n + 1) + 20 < recursionLimit) (hun : un + 60 * (n + 1) + 10 * 20 < cLine)
    (hret : ∀ t' h' tk', Fr h₀ L h' m → News h₀ L h' rest → Q (.str ⟨(tText (.pair true l r)).toArray⟩ t') { s with heap := h', toks := tk' }) :
    wpAny (model PR w) (ktrTop dp un gd cn cs L a ccd cl outer) (call (.ref 274) [v]) Q E s := by
  have _h := fillX4
  have hX : nice l = true ∧ nice r = true := by simpa [nice] using hn
  obtain ⟨hnl, hnr⟩ := hX
  have hdl : dep l ≤ n := by simp only [dep] at hdp; omega
  have hdr : dep r ≤ n := by simp only [dep] at hdp; omega
  have hll : (wrap (bW l) (tText l)).length ≤ 100000 := by simp only [tText, List.length_append] at hl; omega
  have hlt := wrap_le hll
  have hlr : (tText r).length ≤ 100000 := by simp only [tText, List.length_append] at hl; omega
  have hlp : bW l = pW l → (wrap (pW l) (tText l)).length ≤ 100000 := fun e => e ▸ hll
  clear hn hdp hl
  cases hT with
  | semi m1 m2 hc hc2 =>
    have hret2 : ∀ (l9 : List Nat) t' h' tk' led, l9 = tText (.pair true l r) → Fr h₀ L h' m → News h₀ L h' led → (∀ p ∈ rest, p ∈ led) → Q (.str ⟨l9.toArray⟩ t') { s with heap := h', toks := tk' } := fun l9 t' h' tk' led e F N hs => by subst e; exact hret t' h' tk' F (fun p hp => N p (hs p hp))
    have hc0 := hc
    cases hc with
    | run q1 q2 q3 q4 =>
      (try have hlp := hlp rfl)
      have N2 := (news_more (news_more (news_more (news_more N N q2) N q1) N m2) N m1)
      clear N hret
      refine wpAny_call ?_
      k_dflt ktr_enter
      clear N2 F
      k_steps
      refine' hret2 _ _ _ _ _ ?e1 ?F1 ?N1 ?s1
      case F1 => assumption
      case N1 => assumption
      case s1 => exact fun p hp => by simp only [List.mem_cons]; simp [hp]
      case e1 => simp [tText, wrap, gW, pW, bW]
    | redirect q1 q2 q3 =>
      (try have hlp := hlp rfl)
      have N2 := (news_more (news_more (news_more (news_more N N q2) N q1) N m2) N m1)
      clear N hret
      refine wpAny_call ?_
      k_dflt ktr_enter
      clear N2 F
      k_steps
      refine' hret2 _ _ _ _ _ ?e2 ?F2 ?N2 ?s2
      case F2 => assumption
      case N2 => assumption
      case s2 => exact fun p hp => by simp only [List.mem_cons]; simp [hp]
      case e2 => simp [tText, wrap, gW, pW, bW]
    | pipe q1 q2 q3 q4 =>
      (try have hlp := hlp rfl)
      have N2 := (news_more (news_more (news_more (news_more N N q2) N q1) N m2) N m1)
      clear N hret
      refine wpAny_call ?_
      k_dflt ktr_enter
      clear N2 F
      k_steps
      refine' hret2 _ _ _ _ _ ?e3 ?F3 ?N3 ?s3
      case F3 => assumption
      case N3 => assumption
      case s3 => exact fun p hp => by simp only [List.mem_cons]; simp [hp]
      case e3 => simp [tText, wrap, gW, pW, bW]
    | semi q1 q2 q3 q4 =>
      (try have hlp := hlp rfl)
      have N2 := (news_more (news_more (news_more (news_more N N q2) N q1) N m2) N m1)
      clear N hret
      refine wpAny_call ?_
      k_dflt ktr_enter
      clear N2 F
      k_steps
      refine' hret2 _ _ _ _ _ ?e4 ?F4 ?N4 ?s4
      case F4 => assumption
      case N4 => assumption
      case s4 => exact fun p hp => by simp only [List.mem_cons]; simp [hp]
      case e4 => simp [tText, wrap, gW, pW, bW]
    | back q1 q2 q3 =>
      (try have hlp := hlp rfl)
      have N2 := (news_more (news_more (news_more (news_more N N q2) N q1) N m2) N m1)
      clear N hret
      refine wpAny_call ?_
      k_dflt ktr_enter
      clear N2 F
      k_steps
      refine' hret2 _ _ _ _ _ ?e5 ?F5 ?N5 ?s5
      case F5 => assumption
      case N5 => assumption
      case s5 => exact fun p hp => by simp only [List.mem_cons]; simp [hp]
      case e5 => simp [tText, wrap, gW, pW, bW]
end
section
variable {w : World} {mean : ExcName → Option Value} {mg mb : Str → Option Value}
theorem grp_c {n : Nat} (HT : TCon w mean mg mb 274 n 20 tText) : TCon w mean mg mb 281 n 22 (fun t => wrap (gW t) (tText t)) := by
  intro vw9 ln9 t v dp un gd cn cs a ccd cl outer A₀ base h₀ L m rest s Q E hn hdp9 hl9 B F X T0 hk N hT hroom hun hret
  have _h := fillX4
  have hlt := wrap_le hl9
  have hT0 := hT
  have hret2 : ∀ (l9 : List Nat) t' h' tk' led, l9 = wrap (gW t) (tText t) → Fr h₀ L h' m → News h₀ L h' led → (∀ p ∈ rest, p ∈ led) → Q (.str ⟨l9.toArray⟩ t') { s with heap := h', toks := tk' } := fun l9 t' h' tk' led e F N hs => by subst e; exact hret t' h' tk' F (fun p hp => N p (hs p hp))
  cases hT with
  | run q1 q2 q3 q4 =>
    have N2 := (news_more (news_more N N q2) N q1)
    clear N hret
    refine wpAny_call ?_
    k_dflt ktr_enter
    clear N2 F
    k_steps
    refine' hret2 _ _ _ _ _ ?e6 ?F6 ?N6 ?s6
    case F6 => assumption
    case N6 => assumption
    case s6 => exact fun p hp => by simp only [List.mem_cons]; simp [hp]
    case e6 => simp [tText, wrap, gW, pW, bW]
  | redirect q1 q2 q3 =>
    have N2 := (news_more (news_more N N q2) N q1)
    clear N hret
    refine wpAny_call ?_
    k_dflt ktr_enter
    clear N2 F
    k_steps
    refine' hret2 _ _ _ _ _ ?e7 ?F7 ?N7 ?s7
    case F7 => assumption
    case N7 => assumption
    case s7 => exact fun p hp => by simp only [List.mem_cons]; simp [hp]
    case e7 => simp [tText, wrap, gW, pW, bW]
  | pipe q1 q2 q3 q4 =>
    have N2 := (news_more (news_more N N q2) N q1)
    clear N hret
    refine wpAny_call ?_
    k_dflt ktr_enter
    clear N2 F
    k_steps
    refine' hret2 _ _ _ _ _ ?e8 ?F8 ?N8 ?s8
    case F8 => assumption
    case N8 => assumption
    case s8 => exact fun p hp => by simp only [List.mem_cons]; simp [hp]
    case e8 => simp [tText, wrap, gW, pW, bW]
  | semi q1 q2 q3 q4 =>
    have N2 := (news_more (news_more N N q2) N q1)
    clear N hret
    refine wpAny_call ?_
    k_dflt ktr_enter
    clear N2 F
    k_steps
    refine' hret2 _ _ _ _ _ ?e9 ?F9 ?N9 ?s9
    case F9 => assumption
    case N9 => assumption
    case s9 => exact fun p hp => by simp only [List.mem_cons]; simp [hp]
    case e9 => simp [tText, wrap, gW, pW, bW]
  | back q1 q2 q3 =>
    have N2 := (news_more (news_more N N q2) N q1)
    clear N hret
    refine wpAny_call ?_
    k_dflt ktr_enter
    clear N2 F
    k_steps
    refine' hret2 _ _ _ _ _ ?e10 ?F10 ?N10 ?s10
    case F10 => assumption
    case N10 => assumption
    case s10 => exact fun p hp => by simp only [List.mem_cons]; simp [hp]
    case e10 => simp [tText, wrap, gW, pW, bW]
theorem pip_c {n : Nat} (HT : TCon w mean mg mb 274 n 20 tText) : TCon w mean mg mb 288 n 22 (fun t => wrap (pW t) (tText t)) := by
  intro vw9 ln9 t v dp un gd cn cs a ccd cl outer A₀ base h₀ L m rest s Q E hn hdp9 hl9 B F X T0 hk N hT hroom hun hret
  have _h := fillX4
  have hlt := wrap_le hl9
  have hT0 := hT
  have hret2 : ∀ (l9 : List Nat) t' h' tk' led, l9 = wrap (pW t) (tText t) → Fr h₀ L h' m → News h₀ L h' led → (∀ p ∈ rest, p ∈ led) → Q (.str ⟨l9.toArray⟩ t') { s with heap := h', toks := tk' } := fun l9 t' h' tk' led e F N hs => by subst e; exact hret t' h' tk' F (fun p hp => N p (hs p hp))
  cases hT with
  | run q1 q2 q3 q4 =>
    have N2 := (news_more (news_more N N q2) N q1)
    clear N hret
    refine wpAny_call ?_
    k_dflt ktr_enter
    clear N2 F
    k_steps
    refine' hret2 _ _ _ _ _ ?e11 ?F11 ?N11 ?s11
    case F11 => assumption
    case N11 => assumption
    case s11 => exact fun p hp => by simp only [List.mem_cons]; simp [hp]
    case e11 => simp [tText, wrap, gW, pW, bW]
  | redirect q1 q2 q3 =>
    have N2 := (news_more (news_more N N q2) N q1)
    clear N hret
    refine wpAny_call ?_
    k_dflt ktr_enter
    clear N2 F
    k_steps
    refine' hret2 _ _ _ _ _ ?e12 ?F12 ?N12 ?s12
    case F12 => assumption
    case N12 => assumption
    case s12 => exact fun p hp => by simp only [List.mem_cons]; simp [hp]
    case e12 => simp [tText, wrap, gW, pW, bW]
  | pipe q1 q2 q3 q4 =>
    have N2 := (news_more (news_more N N q2) N q1)
    clear N hret
    refine wpAny_call ?_
    k_dflt ktr_enter
    clear N2 F
    k_steps
    refine' hret2 _ _ _ _ _ ?e13 ?F13 ?N13 ?s13
    case F13 => assumption
    case N13 => assumption
    case s13 => exact fun p hp => by simp only [List.mem_cons]; simp [hp]
    case e13 => simp [tText, wrap, gW, pW, bW]
  | semi q1 q2 q3 q4 =>
    have N2 := (news_more (news_more N N q2) N q1)
    clear N hret
    refine wpAny_call ?_
    k_dflt ktr_enter
    clear N2 F
    k_steps
    refine' hret2 _ _ _ _ _ ?e14 ?F14 ?N14 ?s14
    case F14 => assumption
    case N14 => assumption
    case s14 => exact fun p hp => by simp only [List.mem_cons]; simp [hp]
    case e14 => simp [tText, wrap, gW, pW, bW]
  | back q1 q2 q3 =>
    have N2 := (news_more (news_more N N q2) N q1)
    clear N hret
    refine wpAny_call ?_
    k_dflt ktr_enter
    clear N2 F
    k_steps
    refine' hret2 _ _ _ _ _ ?e15 ?F15 ?N15 ?s15
    case F15 => assumption
    case N15 => assumption
    case s15 => exact fun p hp => by simp only [List.mem_cons]; simp [hp]
    case e15 => simp [tText, wrap, gW, pW, bW]
end

end Mine

-- part L1
namespace Mine
theorem fillL1 : (fun (_ : OpenLaw) (_ : Params → Frag) => True) PySem.Challenge.rw_pq0899_01 heapK := by w_top off; k_fill; trivial
theorem all_text (w : World) (mean : ExcName → Option Value) (mg mb : Str → Option Value) (n : Nat) : TCon w mean mg mb 274 n 20 tText := by
  induction n with
  | zero =>
    intro vw9 ln9 t v dp un gd cn cs a ccd cl outer A₀ base h₀ L m rest s Q E hn hdp hl B F X T0 hk N hT hroom hun hret
    cases t with
    | run as =>
      have hn' : as = [[97]] := by simpa [nice] using hn
      subst hn'
      exact text_run hn B F X T0 hk N hT (by omega) (by omega) hret
    | redirect c p => exact absurd hdp (by simp [dep])
    | pair b l r => exact absurd hdp (by simp [dep])
    | back c => exact absurd hdp (by simp [dep])
  | succ n HT =>
    have HG : TCon w mean mg mb 281 n 22 (fun t => wrap (gW t) (tText t)) := grp_c HT
    have HP : TCon w mean mg mb 288 n 22 (fun t => wrap (pW t) (tText t)) := pip_c HT
    intro vw9 ln9 t v dp un gd cn cs a ccd cl outer A₀ base h₀ L m rest s Q E hn hdp hl B F X T0 hk N hT hroom hun hret
    cases t with
    | run as =>
      have hn' : as = [[97]] := by simpa [nice] using hn
      subst hn'
      exact text_run hn B F X T0 hk N hT (by omega) (by omega) hret
    | redirect c p => exact text_redirect HG hn hdp hl B F X T0 hk N hT hroom hun hret
    | pair b l r =>
      cases b with
      | false => exact text_pipe HG HP hn hdp hl B F X T0 hk N hT hroom hun hret
      | true => exact text_semi HP HT hn hdp hl B F X T0 hk N hT hroom hun hret
    | back c => exact text_back HP HT hn hdp hl B F X T0 hk N hT hroom hun hret

/-- a chain of levels around a program -/
def lin : T → Bool
  | .run as => as == [[97]]
  | .redirect c _ => lin c
  | .back c => lin c
  | .pair _ (.run as) r => (as == [[97]]) && lin r
  | .pair _ _ _ => false
def lev : T → Nat
  | .run _ => 0
  | .redirect c _ => lev c + 1
  | .back c => lev c + 1
  | .pair _ _ r => lev r + 1
theorem str_a : Str.ofString "a" = ⟨#[97]⟩ := by decide +kernel
section
variable {prog : Program} {w : World} {A : Around} {E : Value → Shared → Prop} {s : Shared} {h₀ : Heap} {L l b : Addr} {news : List (Addr × Obj)} {x y : Str} {t u : Tok} {n k : Nat} {Q : Value → Shared → Prop}
theorem ne_la (N : News h₀ L s.heap news) (hl : (l, W.listOf #[.str x t] n) ∈ news) (hb : (b, W.listOf #[.str y u] k) ∈ news) (hx : (x == y) = true) (hu : A.units < cLine)
    (h : Q (.bool false) s) : wpAny (model prog w) A (compareOp .NotEq (.ref l) (.ref b)) Q E s := by
  show wpAny (model prog w) A (richCompare .NotEq (.ref l) (.ref b)) Q E s
  refine PySem.SeqAt.RcNeAt.lists (e := fun _ => true) ⟨_, (N _ hl).1, rfl, n, rfl⟩ ⟨_, (N _ hb).1, rfl, k, rfl⟩ rfl hu (fun j h1 h2 => ?_) prog w E Q h
  have h0 : j = 0 := by
    have : j < 1 := h1
    omega
  subst h0
  have := PySem.SeqAt.EqAt.str_str (A := A.in1) (s := s) x t y u
  rw [hx] at this
  exact this
theorem eq_la (N : News h₀ L s.heap news) (hl : (l, W.listOf #[.str x t] n) ∈ news) (hb : (b, W.listOf #[.str y u] k) ∈ news) (hx : (x == y) = true) (hu : A.units < cLine)
    (h : Q (.bool true) s) : wpAny (model prog w) A (compareOp .Eq (.ref l) (.ref b)) Q E s := by
  show wpAny (model prog w) A (richCompare .Eq (.ref l) (.ref b)) Q E s
  refine PySem.SeqAt.RcAt.lists (e := fun _ => true) ⟨_, (N _ hl).1, rfl, n, rfl⟩ ⟨_, (N _ hb).1, rfl, k, rfl⟩ rfl hu (fun j h1 h2 => ?_) prog w E Q h
  have h0 : j = 0 := by
    have : j < 1 := h1
    omega
  subst h0
  have := PySem.SeqAt.EqAt.str_str (A := A.in1) (s := s) x t y u
  rw [hx] at this
  exact this
end

end Mine

-- part L2
namespace Mine
theorem fillL2 : (fun (_ : OpenLaw) (_ : Params → Frag) => True) PySem.Challenge.rw_pq0899_01 heapK := by w_top off; k_fill; trivial
local macro_rules | `(tactic| k_all) => `(tactic| assumption)
local macro_rules | `(tactic| walk_at "subscriptTail") => `(tactic| (k_here; (with_reducible show wpAny _ _ (subscriptTail _ _ (Value.str _ _) (Value.int _ _)) _ _ _); (refine sub_at (by assumption) (by assumption) ?_)))
local macro_rules | `(tactic| walk_at "compareOp In str str") => `(tactic| (k_here; first | refine in_bl_yes (by assumption) ?_ | refine in_bl_no (by assumption) ?_ | refine in_yes (by assumption) ?_ | refine in_no (by assumption) ?_))
local macro_rules | `(tactic| walk_at "compareOp NotIn str str") => `(tactic| (k_here; first | refine nin_sg_yes (by assumption) ?_ | refine nin_sg_no (by assumption) ?_ | refine nin_bs_yes (by assumption) ?_ | refine nin_bs_no (by assumption) ?_))
local macro_rules | `(tactic| walk_at "exec While BoolOp cons nil") => `(tactic| (k_here; refine whl_start 0 (stp ?_)))
local macro_rules | `(tactic| walk_at "WhlRest") => `(tactic| refine stp ?_)
local macro_rules | `(tactic| k_room) => `(tactic| ktr_room)
local macro_rules | `(tactic| walk_at "exec While UnaryOp cons nil") => `(tactic| (k_here; refine whl_start 0 (stp ?_)))
local macro_rules | `(tactic| walk_at "compareOp NotEq ref ref") => `(tactic| (k_here; k_dflt (refine' ne_la ?N ?l ?b ?x ?u ?_; (case N => k_asm); (case l => k_mem); (case b => k_mem); (case x => decide +kernel); (case u => ktr_units); k_whole)))
local macro_rules | `(tactic| walk_at "compareOp Eq ref ref") => `(tactic| (k_here; k_dflt (refine' eq_la ?N ?l ?b ?x ?u ?_; (case N => k_asm); (case l => k_mem); (case b => k_mem); (case x => decide +kernel); (case u => ktr_units); k_whole)))
abbrev lvMap (v : Value) (k : Int) (t : Tok) : Str → Option Value := fun y => if y = Str.ofString "tree" then some v else if y = Str.ofString "found" then some (.int k t) else none
theorem lvMap_0 {v : Value} {k : Int} {t : Tok} (y : Str) : (if y = Str.ofString "found" then some (.int k t) else List.lookup y [(Str.ofString "tree", v)]) = lvMap v k t y := by
  unfold lvMap
  by_cases h1 : y = Str.ofString "tree"
  · subst h1
    simp [List.lookup, show (Str.ofString "tree" = Str.ofString "found") = False from by decide +kernel]
  · have h1' : (y == Str.ofString "tree") = false := by simpa using h1
    simp only [List.lookup, h1', h1, if_false]
theorem lvMap_1 {v v2 : Value} {k k2 : Int} {t t2 : Tok} (y : Str) : (if y = Str.ofString "tree" then some v2 else if y = Str.ofString "found" then some (.int k2 t2) else lvMap v k t y) = lvMap v2 k2 t2 y := by
  unfold lvMap
  by_cases h1 : y = Str.ofString "tree"
  · simp [h1]
  · by_cases h2 : y = Str.ofString "found"
    · simp [h1, h2]
    · simp [h1, h2]
section
variable {w : World} {mean : ExcName → Option Value} {mg mb : Str → Option Value} {dp un : Nat} {gd : Option (List Code)} {cn : Str} {cs : Scope} {a : Addr} {ccd : Value} {cl : List (Str × Addr)} {outer : List Env} {A₀ : Around} {base h₀ : Heap} {L : Addr} {m : Str → Option Value} {rest : List (Addr × Obj)} {s : Shared} {sc dsc : Addr} {t1 t2 t3 tl tp td : Tok} {line : Str} {place deep : Int} {Q E : Value → Shared → Prop} {r : List Nat}
theorem levels_c {t : T} {v : Value} (hl9 : lin t = true) (B : Below A₀ base outer h₀) (F : Fr h₀ L s.heap m) (X : (heapK w.params).In h₀) (T0 : Top vw9 ln9 mean mg mb h₀) (hk : cs.kind = .function)
    (N : News h₀ L s.heap rest) (hT : TreeIn w rest v t) (hroom : dp + 20 < recursionLimit) (hun : un + 200 < cLine)
    (hret : ∀ t' h' tk', Fr h₀ L h' m → News h₀ L h' rest → Q (.int (lev t : Nat) t') { s with heap := h', toks := tk' }) :
    wpAny (model PR w) (ktrTop dp un gd cn cs L a ccd cl outer) (call (.ref 316) [v]) Q E s := by
  have _h := fillL2
  have hret2 : ∀ (z : Int) t' h' tk' led, z = (lev t : Nat) → Fr h₀ L h' m → News h₀ L h' led → (∀ p ∈ rest, p ∈ led) → Q (.int z t') { s with heap := h', toks := tk' } := fun z t' h' tk' led e F N hs => by subst e; exact hret t' h' tk' F (fun p hp => N p (hs p hp))
  clear hret
  refine wpAny_call ?_
  k_dflt ktr_enter
  clear N
  k_steps
  rename_i g' L' h0 FG B' X' T' h1 F1 N1
  obtain ⟨kk, tf, ekk, F2⟩ : ∃ (kk : Int) (tf : Tok), kk = 0 ∧ Fr g' L' h1 (lvMap v kk tf) := ⟨0, _, rfl, fr_eq F1 (fun y => lvMap_0 y)⟩
  have N2 := N1
  generalize hzz : ((lev t : Nat) : Int) = zz at hret2
  have hz9 : kk + (lev t : Nat) = zz := by omega
  clear F F1 N1 ekk hzz
  induction t generalizing v kk tf h1 tk with
  | run as =>
    have hn' : as = [[97]] := by simpa [lin] using hl9
    subst hn'
    cases hT with
    | run m1 m2 m3 hw =>
      cases hw with
      | cons hw =>
        cases hw with
        | nil =>
          have N3 := (news_more (news_more (news_more N2 N2 m3) N2 m2) N2 m1)
          clear N2
          refine unstp (whl_turn (k := 0) ?hE ?_)
          case hE => passes_own
          k_steps
          refine' hret2 _ _ _ _ _ ?e ?F ?N ?s
          case F => assumption
          case N => assumption
          case s => exact fun p hp => by simp only [List.mem_cons]; simp [hp]
          case e => simpa [lev] using hz9
  | redirect c p ih =>
    cases hT with
    | redirect m1 m2 hc =>
      have N3 := (news_more (news_more N2 N2 m2) N2 m1)
      clear N2
      refine unstp (whl_turn (k := 0) ?hE ?_)
      case hE => passes_own
      k_steps
      rename_i h5 F5 N5
      have F6 := fr_eq F5 (lvMap_1 (v := _) (k := kk))
      clear F5
      refine ih hl9 hc _ _ _ _ F6 (fun p hp => N5 p (by simp only [List.mem_cons]; simp [hp])) ?_
      rw [← hz9]
      simp only [lev]
      omega
  | back c ih =>
    cases hT with
    | back m1 m2 hc =>
      have N3 := (news_more (news_more N2 N2 m2) N2 m1)
      clear N2
      refine unstp (whl_turn (k := 0) ?hE ?_)
      case hE => passes_own
      k_steps
      rename_i h5 F5 N5
      have F6 := fr_eq F5 (lvMap_1 (v := _) (k := kk))
      clear F5
      refine ih hl9 hc _ _ _ _ F6 (fun p hp => N5 p (by simp only [List.mem_cons]; simp [hp])) ?_
      rw [← hz9]
      simp only [lev]
      omega
  | pair b l r ihl ih =>
    cases l with
    | redirect _ _ => cases hl9
    | pair _ _ _ => cases hl9
    | back _ => cases hl9
    | run as =>
      have hn' : as = [[97]] ∧ lin r = true := by simpa [lin] using hl9
      obtain ⟨ha, hlr⟩ := hn'
      subst ha
      cases hT with
      | pipe m1 m2 hc hc2 =>
        cases hc with
        | run m3 m4 m5 hw =>
          cases hw with
          | cons hw =>
            cases hw with
            | nil =>
              have N3 := (news_more (news_more (news_more (news_more (news_more N2 N2 m5) N2 m4) N2 m3) N2 m2) N2 m1)
              clear N2
              refine unstp (whl_turn (k := 0) ?hE ?_)
              case hE => passes_own
              k_steps
              rename_i h5 F5 N5
              have F6 := fr_eq F5 (lvMap_1 (v := _) (k := kk))
              clear F5
              refine ih hlr hc2 _ _ _ _ F6 (fun p hp => N5 p (by simp only [List.mem_cons]; simp [hp])) ?_
              rw [← hz9]
              simp only [lev]
              omega
      | semi m1 m2 hc hc2 =>
        cases hc with
        | run m3 m4 m5 hw =>
          cases hw with
          | cons hw =>
            cases hw with
            | nil =>
              have N3 := (news_more (news_more (news_more (news_more (news_more N2 N2 m5) N2 m4) N2 m3) N2 m2) N2 m1)
              clear N2
              refine unstp (whl_turn (k := 0) ?hE ?_)
              case hE => passes_own
              k_steps
              rename_i h5 F5 N5
              have F6 := fr_eq F5 (lvMap_1 (v := _) (k := kk))
              clear F5
              refine ih hlr hc2 _ _ _ _ F6 (fun p hp => N5 p (by simp only [List.mem_cons]; simp [hp])) ?_
              rw [← hz9]
              simp only [lev]
              omega
end

end Mine

-- part T1
namespace Mine
theorem fillT1 : (fun (_ : OpenLaw) (_ : Params → Frag) => True) PySem.Challenge.rw_pq0899_01 heapK := by w_top off; k_fill; trivial
local macro_rules | `(tactic| k_all) => `(tactic| assumption)
local macro_rules | `(tactic| k_room) => `(tactic| ktr_room)
section
variable {w : World} {mean : ExcName → Option Value} {mg mb : Str → Option Value} {dp un : Nat} {gd : Option (List Code)} {cn : Str} {cs : Scope} {a : Addr} {ccd : Value} {cl : List (Str × Addr)} {outer : List Env} {A₀ : Around} {base h₀ : Heap} {L : Addr} {m : Str → Option Value} {rest : List (Addr × Obj)} {s : Shared} {sc dsc : Addr} {t1 t2 t3 tl tp td : Tok} {line : Str} {place deep : Int} {Q E : Value → Shared → Prop} {r : List Nat}
theorem take_c {D bx : Addr} {vs : List Value} {ns : List Int} {k n : Nat} {p q : Int} {tq : Tok} (B : Below A₀ base outer h₀) (F : Fr h₀ L s.heap m) (X : (heapK w.params).In h₀) (T0 : Top vw9 ln9 mean mg mb h₀) (hk : cs.kind = .function)
    (N : News h₀ L s.heap ((bx, W.listOf #[.ref D, .int p tp] n) :: (D, W.listOf vs.toArray k) :: rest)) (hi : IntsAre vs ns) (hl : ns.length ≤ 63) (hD : @LT.lt Nat _ D bx) (hne : ∀ p ∈ rest, p.1 ≠ bx)
    (h0 : 0 ≤ p) (hp : p ≤ 1000) (hq : 0 < q) (hq2 : q ≤ 1000) (hroom : dp + 20 < recursionLimit) (hun : un + 200 < cLine)
    (hret : ∀ r tr tp' h' tk', 0 ≤ r → r < q → Fr h₀ L h' m → News h₀ L h' ((bx, W.listOf #[.ref D, .int (p + 1) tp'] n) :: (D, W.listOf vs.toArray k) :: rest) → Q (.int r tr) { s with heap := h', toks := tk' }) :
    wpAny (model PR w) (ktrTop dp un gd cn cs L a ccd cl outer) (call (.ref 295) [.ref bx, .int q tq]) Q E s := by
  have _h := fillT1
  refine wpAny_call ?_
  k_dflt ktr_enter
  clear N
  k_steps
  all_goals exact hret _ _ _ _ _ (Int.fmod_nonneg_of_pos _ hq) (Int.fmod_lt_of_pos _ hq) (by assumption) (by assumption)
end

end Mine

-- part T2
namespace Mine
theorem fillT2 : (fun (_ : OpenLaw) (_ : Params → Frag) => True) PySem.Challenge.rw_pq0899_01 heapK := by w_top off; k_fill; trivial
theorem foldl_app (l : List Nat) : ∀ (k : Nat) (acc : Array Nat), ((List.replicate k l.toArray).foldl (· ++ ·) acc) = (acc.toList ++ (List.replicate k l).flatten).toArray
  | 0, acc => by simp
  | k + 1, acc => by
    rw [List.replicate_succ, List.foldl_cons, foldl_app l k]
    simp [List.replicate_succ]
theorem mul_is {x : Str} {l : List Nat} {n : Int} (hx : x = ⟨l.toArray⟩) (hl : (l.length == 0) = false) (h0 : 1 ≤ n) : Txt.mul x n = ⟨(List.replicate n.toNat l).flatten.toArray⟩ := by
  subst hx
  unfold Txt.mul
  rw [if_neg (by omega)]
  by_cases h2 : n = 1
  · subst h2
    simp
  · have e : (n == 1 || (⟨l.toArray⟩ : Str).length == 0) = false := by
      have a1 : (n == 1) = false := by simpa using h2
      rw [a1, Bool.false_or]
      simpa [Str.length] using hl
    rw [e, if_neg Bool.false_ne_true]
    show (⟨(List.replicate n.toNat l.toArray).foldl (· ++ ·) #[]⟩ : Str) = _
    rw [foldl_app]; simp
theorem app_is {x y : Str} {a b : List Nat} (hx : x = ⟨a.toArray⟩) (hy : y = ⟨b.toArray⟩) : x ++ y = ⟨(a ++ b).toArray⟩ := by
  subst hx hy
  show Str.mk _ = _
  simp
theorem rep_one (c : Nat) (n : Nat) : (List.replicate n [c]).flatten = List.replicate n c := lm_rep_flat_one c n
theorem lit2_op : Str.ofString "(" = ⟨[40].toArray⟩ := by decide +kernel
theorem lit2_cl : Str.ofString ")" = ⟨[41].toArray⟩ := by decide +kernel
theorem lit2_a : Str.ofString "a" = ⟨[97].toArray⟩ := by decide +kernel
theorem lit2_amp : Str.ofString " &" = ⟨[32, 38].toArray⟩ := by decide +kernel
theorem lit2_gt : Str.ofString " > f" = ⟨[32, 62, 32, 102].toArray⟩ := by decide +kernel
theorem lit2_semi : Str.ofString " ; " = ⟨[32, 59, 32].toArray⟩ := by decide +kernel
theorem lit2_bar : Str.ofString "|" = ⟨[124].toArray⟩ := by decide +kernel
theorem line2_eq {x : Int} (h0 : 1 ≤ x) : Txt.mul (Str.ofString "(") x ++ Str.ofString "a" ++ Txt.mul (Str.ofString ")") x = ⟨(lineOf 2 x.toNat).toArray⟩ := by
  rw [app_is (app_is (mul_is lit2_op rfl h0) lit2_a) (mul_is lit2_cl rfl h0), rep_one, rep_one]; rfl
theorem line3_eq {x : Int} (h0 : 1 ≤ x) : Str.ofString "a" ++ Txt.mul (Str.ofString " &") x = ⟨(lineOf 3 x.toNat).toArray⟩ := by
  rw [app_is lit2_a (mul_is lit2_amp rfl h0)]; rfl
theorem line4_eq {x : Int} (h0 : 1 ≤ x) : Str.ofString "a" ++ Txt.mul (Str.ofString " > f") x = ⟨(lineOf 4 x.toNat).toArray⟩ := by
  rw [app_is lit2_a (mul_is lit2_gt rfl h0)]; rfl
theorem join_is {sep a : Str} {p l : List Nat} (hs : sep = ⟨p.toArray⟩) (ha : a = ⟨l.toArray⟩) : ∀ k : Nat, Str.join sep (List.replicate k a) = ⟨((List.replicate k l).intersperse p).flatten.toArray⟩
  | 0 => rfl
  | 1 => by show a = _; rw [ha]; simp
  | k + 2 => by
    have ih := join_is hs ha (k + 1)
    rw [List.replicate_succ] at ih
    rw [List.replicate_succ, List.replicate_succ]
    show a ++ sep ++ Str.join sep (a :: List.replicate k a) = _
    rw [app_is (app_is ha hs) ih]
    simp [List.replicate_succ]
theorem foldl_len (c : Nat) (a : Str) : ∀ (k acc : Nat), (List.replicate k a).foldl (fun x y => x + y.length + c) acc = acc + k * (a.length + c)
  | 0, acc => by simp
  | k + 1, acc => by
    rw [List.replicate_succ, List.foldl_cons, foldl_len c a k, Nat.succ_mul]; omega
theorem joinOk_rep {sep a : Str} {k : Nat} (h : k * (a.length + sep.length) ≤ 1000) : JoinOk sep (List.replicate k a) = true := by
  unfold JoinOk
  rw [List.foldl_toArray, foldl_len, Nat.zero_add]
  unfold PySem.Builtin.Str.tooLong
  rw [Bool.not_eq_true', decide_eq_false_iff_not, sizeLine_eq]
  omega
section
variable {prog : Program} {w : World} {A : Around} {E : Value → Shared → Prop} {s : Shared} {D : Addr} {x : Int} {t u : Tok} {Q : Value → Shared → Prop}
theorem rep_vals (n : Nat) (a : Str) (t : Tok) : strValues (List.replicate n (a, t)) = (List.replicate n #[Value.str a t].toList).flatten := by
  rw [show (#[Value.str a t].toList) = [Value.str a t] from rfl, lm_rep_flat_one]
  simp [strValues]
theorem join_rep {sep : Str} {k : Nat} (h1 : x ≤ 45) (hl : s.heap.IsList D (List.replicate x.toNat #[Value.str (Str.ofString "a") t].toList).flatten.toArray) {p : List Nat} (hs : sep = ⟨p.toArray⟩) (hp : p.length ≤ 3)
    (e : lineOf k x.toNat = ((List.replicate x.toNat [97]).intersperse p).flatten)
    (h : ∀ t' k', Q (.str ⟨(lineOf k x.toNat).toArray⟩ t') { s with toks := k' }) : wpAny (model prog w) A (call (.builtin "str.join") [.str sep u, .ref D]) Q E s := by
  rw [← rep_vals] at hl
  have hsl : sep.length = p.length := by subst hs; simp [Str.length]
  have hal : (Str.ofString "a").length = 1 := by rw [lit2_a]; rfl
  refine SC.join (texts := List.replicate x.toNat (Str.ofString "a")) hl (by simp) (joinOk_rep ?_) (fun t' k' => ?_)
  · rw [hal, hsl]
    calc x.toNat * (1 + p.length) ≤ 45 * 4 := Nat.mul_le_mul (by omega) (by omega)
      _ ≤ 1000 := by decide
  · rw [show Txt.join sep (List.replicate x.toNat (Str.ofString "a")) = Str.join sep (List.replicate x.toNat (Str.ofString "a")) from StrLaws.glued_eq_join _ _, join_is hs lit2_a, ← e]
    exact h t' k'
theorem join0_c (h1 : x ≤ 45) (hl : s.heap.IsList D (List.replicate x.toNat #[Value.str (Str.ofString "a") t].toList).flatten.toArray) (h : ∀ t' k', Q (.str ⟨(lineOf 0 x.toNat).toArray⟩ t') { s with toks := k' }) : wpAny (model prog w) A (call (.builtin "str.join") [.str (Str.ofString " ; ") u, .ref D]) Q E s :=
  join_rep h1 hl lit2_semi (by decide) rfl h
theorem join1_c (h1 : x ≤ 45) (hl : s.heap.IsList D (List.replicate x.toNat #[Value.str (Str.ofString "a") t].toList).flatten.toArray) (h : ∀ t' k', Q (.str ⟨(lineOf 1 x.toNat).toArray⟩ t') { s with toks := k' }) : wpAny (model prog w) A (call (.builtin "str.join") [.str (Str.ofString "|") u, .ref D]) Q E s :=
  join_rep h1 hl lit2_bar (by decide) rfl h
end
local macro_rules | `(tactic| k_all) => `(tactic| assumption)
local macro_rules | `(tactic| k_room) => `(tactic| ktr_room)
local macro_rules | `(tactic| walk_at "call builtin:str.join") => `(tactic| (k_here; (first | (refine' join0_c ?a1 ?a2 ?_; (case a1 => assumption); (case a2 => assumption)) | (refine' join1_c ?a1 ?a2 ?_; (case a1 => assumption); (case a2 => assumption))); intro _ _))
section
variable {w : World} {mean : ExcName → Option Value} {mg mb : Str → Option Value} {dp un : Nat} {gd : Option (List Code)} {cn : Str} {cs : Scope} {a : Addr} {ccd : Value} {cl : List (Str × Addr)} {outer : List Env} {A₀ : Around} {base h₀ : Heap} {L : Addr} {m : Str → Option Value} {rest : List (Addr × Obj)} {s : Shared} {sc dsc : Addr} {t1 t2 t3 tl tp td : Tok} {line : Str} {place deep : Int} {Q E : Value → Shared → Prop} {r : List Nat}
theorem line0_c {x : Int} {u1 u2 : Tok} (B : Below A₀ base outer h₀) (F : Fr h₀ L s.heap m) (X : (heapK w.params).In h₀) (T0 : Top vw9 ln9 mean mg mb h₀) (hk : cs.kind = .function)
    (N : News h₀ L s.heap rest) (h0 : 1 ≤ x) (h1 : x ≤ 45) (hroom : dp + 20 < recursionLimit) (hun : un + 200 < cLine)
    (hret : ∀ tr h' tk', Fr h₀ L h' m → News h₀ L h' rest → Q (.str ⟨(lineOf 0 x.toNat).toArray⟩ tr) { s with heap := h', toks := tk' }) :
    wpAny (model PR w) (ktrTop dp un gd cn cs L a ccd cl outer) (call (.ref 302) [.int 0 u1, .int x u2]) Q E s := by
  have _h := fillT2
  refine wpAny_call ?_
  k_dflt ktr_enter
  clear N
  k_steps
  rename_i kF kN _ _
  skip
  refine hret _ _ _ kF (fun p hp => kN p ?_)
  first | exact hp | exact .tail _ hp | exact .tail _ (.tail _ hp) | exact .tail _ (.tail _ (.tail _ hp))
theorem line1_c {x : Int} {u1 u2 : Tok} (B : Below A₀ base outer h₀) (F : Fr h₀ L s.heap m) (X : (heapK w.params).In h₀) (T0 : Top vw9 ln9 mean mg mb h₀) (hk : cs.kind = .function)
    (N : News h₀ L s.heap rest) (h0 : 1 ≤ x) (h1 : x ≤ 45) (hroom : dp + 20 < recursionLimit) (hun : un + 200 < cLine)
    (hret : ∀ tr h' tk', Fr h₀ L h' m → News h₀ L h' rest → Q (.str ⟨(lineOf 1 x.toNat).toArray⟩ tr) { s with heap := h', toks := tk' }) :
    wpAny (model PR w) (ktrTop dp un gd cn cs L a ccd cl outer) (call (.ref 302) [.int 1 u1, .int x u2]) Q E s := by
  have _h := fillT2
  refine wpAny_call ?_
  k_dflt ktr_enter
  clear N
  k_steps
  rename_i kF kN _ _
  skip
  refine hret _ _ _ kF (fun p hp => kN p ?_)
  first | exact hp | exact .tail _ hp | exact .tail _ (.tail _ hp) | exact .tail _ (.tail _ (.tail _ hp))
theorem line2_c {x : Int} {u1 u2 : Tok} (B : Below A₀ base outer h₀) (F : Fr h₀ L s.heap m) (X : (heapK w.params).In h₀) (T0 : Top vw9 ln9 mean mg mb h₀) (hk : cs.kind = .function)
    (N : News h₀ L s.heap rest) (h0 : 1 ≤ x) (h1 : x ≤ 45) (hroom : dp + 20 < recursionLimit) (hun : un + 200 < cLine)
    (hret : ∀ tr h' tk', Fr h₀ L h' m → News h₀ L h' rest → Q (.str ⟨(lineOf 2 x.toNat).toArray⟩ tr) { s with heap := h', toks := tk' }) :
    wpAny (model PR w) (ktrTop dp un gd cn cs L a ccd cl outer) (call (.ref 302) [.int 2 u1, .int x u2]) Q E s := by
  have _h := fillT2
  refine wpAny_call ?_
  k_dflt ktr_enter
  clear N
  k_steps
  rename_i kF kN _ _
  rw [line2_eq h0]
  refine hret _ _ _ kF (fun p hp => kN p ?_)
  first | exact hp | exact .tail _ hp | exact .tail _ (.tail _ hp) | exact .tail _ (.tail _ (.tail _ hp))
theorem line3_c {x : Int} {u1 u2 : Tok} (B : Below A₀ base outer h₀) (F : Fr h₀ L s.heap m) (X : (heapK w.params).In h₀) (T0 : Top vw9 ln9 mean mg mb h₀) (hk : cs.kind = .function)
    (N : News h₀ L s.heap rest) (h0 : 1 ≤ x) (h1 : x ≤ 45) (hroom : dp + 20 < recursionLimit) (hun : un + 200 < cLine)
    (hret : ∀ tr h' tk', Fr h₀ L h' m → News h₀ L h' rest → Q (.str ⟨(lineOf 3 x.toNat).toArray⟩ tr) { s with heap := h', toks := tk' }) :
    wpAny (model PR w) (ktrTop dp un gd cn cs L a ccd cl outer) (call (.ref 302) [.int 3 u1, .int x u2]) Q E s := by
  have _h := fillT2
  refine wpAny_call ?_
  k_dflt ktr_enter
  clear N
  k_steps
  rename_i kF kN _ _
  rw [line3_eq h0]
  refine hret _ _ _ kF (fun p hp => kN p ?_)
  first | exact hp | exact .tail _ hp | exact .tail _ (.tail _ hp) | exact .tail _ (.tail _ (.tail _ hp))
theorem line4_c {x : Int} {u1 u2 : Tok} (B : Below A₀ base outer h₀) (F : Fr h₀ L s.heap m) (X : (heapK w.params).In h₀) (T0 : Top vw9 ln9 mean mg mb h₀) (hk : cs.kind = .function)
    (N : News h₀ L s.heap rest) (h0 : 1 ≤ x) (h1 : x ≤ 45) (hroom : dp + 20 < recursionLimit) (hun : un + 200 < cLine)
    (hret : ∀ tr h' tk', Fr h₀ L h' m → News h₀ L h' rest → Q (.str ⟨(lineOf 4 x.toNat).toArray⟩ tr) { s with heap := h', toks := tk' }) :
    wpAny (model PR w) (ktrTop dp un gd cn cs L a ccd cl outer) (call (.ref 302) [.int 4 u1, .int x u2]) Q E s := by
  have _h := fillT2
  refine wpAny_call ?_
  k_dflt ktr_enter
  clear N
  k_steps
  rename_i kF kN _ _
  rw [line4_eq h0]
  refine hret _ _ _ kF (fun p hp => kN p ?_)
  first | exact hp | exact .tail _ hp | exact .tail _ (.tail _ hp) | exact .tail _ (.tail _ (.tail _ hp))
end

end Mine

-- part T3
namespace Mine
theorem fillT3 : (fun (_ : OpenLaw) (_ : Params → Frag) => True) PySem.Challenge.rw_pq0899_01 heapK := by w_top off; k_fill; trivial
local macro_rules | `(tactic| k_all) => `(tactic| assumption)
local macro_rules | `(tactic| k_room) => `(tactic| ktr_room)
section
variable {w : World} {mean : ExcName → Option Value} {mg mb : Str → Option Value} {dp un : Nat} {gd : Option (List Code)} {cn : Str} {cs : Scope} {a : Addr} {ccd : Value} {cl : List (Str × Addr)} {outer : List Env} {A₀ : Around} {base h₀ : Heap} {L : Addr} {m : Str → Option Value} {rest : List (Addr × Obj)} {s : Shared} {sc dsc : Addr} {t1 t2 t3 tl tp td : Tok} {line : Str} {place deep : Int} {Q E : Value → Shared → Prop} {r : List Nat}
theorem deepest_0 {u1 : Tok} (B : Below A₀ base outer h₀) (F : Fr h₀ L s.heap m) (X : (heapK w.params).In h₀) (T0 : Top vw9 ln9 mean mg mb h₀) (hk : cs.kind = .function)
    (N : News h₀ L s.heap rest) (hroom : dp + 20 < recursionLimit) (hun : un + 200 < cLine)
    (hret : ∀ tr h' tk', Fr h₀ L h' m → News h₀ L h' rest → Q (.int 29 tr) { s with heap := h', toks := tk' }) :
    wpAny (model PR w) (ktrTop dp un gd cn cs L a ccd cl outer) (call (.ref 309) [.int 0 u1]) Q E s := by
  have _h := fillT3
  refine wpAny_call ?_
  k_dflt ktr_enter
  clear N
  k_steps
  rename_i kF kN _ _
  refine hret _ _ _ kF (fun p hp => kN p ?_)
  first | exact hp | exact .tail _ hp | exact .tail _ (.tail _ hp) | exact .tail _ (.tail _ (.tail _ hp))
theorem deepest_1 {u1 : Tok} (B : Below A₀ base outer h₀) (F : Fr h₀ L s.heap m) (X : (heapK w.params).In h₀) (T0 : Top vw9 ln9 mean mg mb h₀) (hk : cs.kind = .function)
    (N : News h₀ L s.heap rest) (hroom : dp + 20 < recursionLimit) (hun : un + 200 < cLine)
    (hret : ∀ tr h' tk', Fr h₀ L h' m → News h₀ L h' rest → Q (.int 29 tr) { s with heap := h', toks := tk' }) :
    wpAny (model PR w) (ktrTop dp un gd cn cs L a ccd cl outer) (call (.ref 309) [.int 1 u1]) Q E s := by
  have _h := fillT3
  refine wpAny_call ?_
  k_dflt ktr_enter
  clear N
  k_steps
  rename_i kF kN _ _
  refine hret _ _ _ kF (fun p hp => kN p ?_)
  first | exact hp | exact .tail _ hp | exact .tail _ (.tail _ hp) | exact .tail _ (.tail _ (.tail _ hp))
theorem deepest_2 {u1 : Tok} (B : Below A₀ base outer h₀) (F : Fr h₀ L s.heap m) (X : (heapK w.params).In h₀) (T0 : Top vw9 ln9 mean mg mb h₀) (hk : cs.kind = .function)
    (N : News h₀ L s.heap rest) (hroom : dp + 20 < recursionLimit) (hun : un + 200 < cLine)
    (hret : ∀ tr h' tk', Fr h₀ L h' m → News h₀ L h' rest → Q (.int 14 tr) { s with heap := h', toks := tk' }) :
    wpAny (model PR w) (ktrTop dp un gd cn cs L a ccd cl outer) (call (.ref 309) [.int 2 u1]) Q E s := by
  have _h := fillT3
  refine wpAny_call ?_
  k_dflt ktr_enter
  clear N
  k_steps
  rename_i kF kN _ _
  refine hret _ _ _ kF (fun p hp => kN p ?_)
  first | exact hp | exact .tail _ hp | exact .tail _ (.tail _ hp) | exact .tail _ (.tail _ (.tail _ hp))
theorem deepest_3 {u1 : Tok} (B : Below A₀ base outer h₀) (F : Fr h₀ L s.heap m) (X : (heapK w.params).In h₀) (T0 : Top vw9 ln9 mean mg mb h₀) (hk : cs.kind = .function)
    (N : News h₀ L s.heap rest) (hroom : dp + 20 < recursionLimit) (hun : un + 200 < cLine)
    (hret : ∀ tr h' tk', Fr h₀ L h' m → News h₀ L h' rest → Q (.int 29 tr) { s with heap := h', toks := tk' }) :
    wpAny (model PR w) (ktrTop dp un gd cn cs L a ccd cl outer) (call (.ref 309) [.int 3 u1]) Q E s := by
  have _h := fillT3
  refine wpAny_call ?_
  k_dflt ktr_enter
  clear N
  k_steps
  rename_i kF kN _ _
  refine hret _ _ _ kF (fun p hp => kN p ?_)
  first | exact hp | exact .tail _ hp | exact .tail _ (.tail _ hp) | exact .tail _ (.tail _ (.tail _ hp))
theorem deepest_4 {u1 : Tok} (B : Below A₀ base outer h₀) (F : Fr h₀ L s.heap m) (X : (heapK w.params).In h₀) (T0 : Top vw9 ln9 mean mg mb h₀) (hk : cs.kind = .function)
    (N : News h₀ L s.heap rest) (hroom : dp + 20 < recursionLimit) (hun : un + 200 < cLine)
    (hret : ∀ tr h' tk', Fr h₀ L h' m → News h₀ L h' rest → Q (.int 28 tr) { s with heap := h', toks := tk' }) :
    wpAny (model PR w) (ktrTop dp un gd cn cs L a ccd cl outer) (call (.ref 309) [.int 4 u1]) Q E s := by
  have _h := fillT3
  refine wpAny_call ?_
  k_dflt ktr_enter
  clear N
  k_steps
  rename_i kF kN _ _
  refine hret _ _ _ kF (fun p hp => kN p ?_)
  first | exact hp | exact .tail _ hp | exact .tail _ (.tail _ hp) | exact .tail _ (.tail _ (.tail _ hp))
end

end Mine

-- part D1
namespace Mine
theorem fillD1 : (fun (_ : OpenLaw) (_ : Params → Frag) => True) PySem.Challenge.rw_pq0899_01 heapK := by w_top off; k_fill; trivial
def due : Nat → Nat → Nat
  | 0, m => m - 1
  | 1, m => m - 1
  | 2, _ => 0
  | _, m => m
def chkB (l : List Nat) (d : Nat) : Bool :=
  match pWhole l with
  | .ok t => lin t && Nat.beq (lev t) d
  | _ => false
def chkT (t : T) (d : Nat) : Bool := lin t && Nat.beq (lev t) d && nice t && Nat.ble (dep t) 60 && Nat.ble (tText t).length 1000 && chkB (tText t) d
def chk2 (kind many : Nat) : Bool :=
  match pWhole (lineOf kind many) with
  | .ok t => Nat.ble many (deepest kind) && chkT t (due kind many)
  | .bad => Nat.blt (deepest kind) many
  | .out => false
theorem chk2_0 : ((List.range 45).all fun m => chk2 0 (m + 1)) = true := by decide +kernel
theorem chk2_1 : ((List.range 45).all fun m => chk2 1 (m + 1)) = true := by decide +kernel
theorem chk2_2 : ((List.range 18).all fun m => chk2 2 (m + 1)) = true := by decide +kernel
theorem chk2_3 : ((List.range 45).all fun m => chk2 3 (m + 1)) = true := by decide +kernel
theorem chk2_4 : ((List.range 45).all fun m => chk2 4 (m + 1)) = true := by decide +kernel
/-- what is true of a tree that a line of the law gives -/
structure Good (t : T) (d : Nat) : Prop where
  lin : lin t = true
  lev : lev t = d
  nice : nice t = true
  dep : dep t ≤ 60
  len : (tText t).length ≤ 1000
  back : ∃ t', pWhole (tText t) = .ok t' ∧ Mine.lin t' = true ∧ Mine.lev t' = d
theorem good_of {t : T} {d : Nat} (h : chkT t d = true) : Good t d := by
  unfold chkT at h
  simp only [Bool.and_eq_true] at h
  obtain ⟨⟨⟨⟨⟨h1, h2⟩, h3⟩, h4⟩, h5⟩, h6⟩ := h
  refine ⟨h1, Nat.eq_of_beq_eq_true h2, h3, Nat.le_of_ble_eq_true h4, Nat.le_of_ble_eq_true h5, ?_⟩
  unfold chkB at h6
  split at h6
  · rename_i t' e
    rw [Bool.and_eq_true] at h6
    exact ⟨t', e, h6.1, Nat.eq_of_beq_eq_true h6.2⟩
  · cases h6
theorem chk2_at {k n : Nat} (h : ((List.range n).all fun m => chk2 k (m + 1)) = true) {x : Int} (h0 : 1 ≤ x) (h1 : x ≤ n) :
    (∃ t, pWhole (lineOf k x.toNat) = .ok t ∧ x ≤ deepest k ∧ Good t (due k x.toNat)) ∨ (pWhole (lineOf k x.toNat) = .bad ∧ (deepest k : Int) < x) := by
  have h2 := List.all_eq_true.mp h (x.toNat - 1) (List.mem_range.mpr (by omega))
  rw [show x.toNat - 1 + 1 = x.toNat from by omega] at h2
  unfold chk2 at h2
  split at h2
  · rename_i t e
    rw [Bool.and_eq_true] at h2
    have := Nat.le_of_ble_eq_true h2.1
    exact .inl ⟨t, e, by omega, good_of h2.2⟩
  · rename_i e
    have := Nat.le_of_ble_eq_true h2
    exact .inr ⟨e, by omega⟩
  · cases h2
/-- the law's last lines -/
def lineB : List Nat := 97 :: ((List.replicate 29 [32, 38]).flatten ++ [32, 59, 32, 97])
theorem okT_ok {r : Res T} (h : okT r = true) : ∃ t, r = .ok t := by
  cases r with
  | ok t => exact ⟨t, rfl⟩
  | bad => cases h
  | out => cases h
theorem beside_ok : ∃ t, pWhole lineB = .ok t := okT_ok (by decide +kernel)
theorem oct_all : ((List.range 127).all fun n => okT (pWhole [97, 32, 128 + n])) = true := by decide +kernel
theorem oct_ok {x : Int} (h0 : 0 ≤ x) (h1 : x < 127) : ∃ t, pWhole [97, 32, (128 + x).toNat] = .ok t := by
  have h2 := List.all_eq_true.mp oct_all x.toNat (List.mem_range.mpr (by omega))
  rw [show 128 + x.toNat = (128 + x).toNat from by omega] at h2
  exact okT_ok h2
theorem odd_bad {x : Int} (h0 : 0 ≤ x) : pWhole [97, 32, (256 + x).toNat] = .bad := by
  have : (([97, 32, (256 + x).toNat] : List Nat).any fun c => Nat.blt 255 c) = true := by
    simp only [List.any_cons, List.any_nil, Bool.or_false]
    have : Nat.blt 255 (256 + x).toNat = true := Nat.ble_eq_true_of_le (by omega)
    rw [this, Bool.or_true, Bool.or_true]
  unfold pWhole
  rw [this]

end Mine

-- part R3
namespace Mine
theorem fillR3 : (fun (_ : OpenLaw) (_ : Params → Frag) => True) PySem.Challenge.rw_pq0899_01 heapK := by w_top off; k_fill; trivial
theorem case_0 {x : Int} (h0 : 1 ≤ x) (h1 : x ≤ 45) : (∃ t, pWhole (lineOf 0 x.toNat) = .ok t ∧ x ≤ 29 ∧ Good t (x.toNat - 1)) ∨ (pWhole (lineOf 0 x.toNat) = .bad ∧ 29 < x) := chk2_at chk2_0 h0 h1
theorem case_1 {x : Int} (h0 : 1 ≤ x) (h1 : x ≤ 45) : (∃ t, pWhole (lineOf 1 x.toNat) = .ok t ∧ x ≤ 29 ∧ Good t (x.toNat - 1)) ∨ (pWhole (lineOf 1 x.toNat) = .bad ∧ 29 < x) := chk2_at chk2_1 h0 h1
theorem case_2 {x : Int} (h0 : 1 ≤ x) (h1 : x ≤ 18) : (∃ t, pWhole (lineOf 2 x.toNat) = .ok t ∧ x ≤ 14 ∧ Good t 0) ∨ (pWhole (lineOf 2 x.toNat) = .bad ∧ 14 < x) := chk2_at chk2_2 h0 h1
theorem case_3 {x : Int} (h0 : 1 ≤ x) (h1 : x ≤ 45) : (∃ t, pWhole (lineOf 3 x.toNat) = .ok t ∧ x ≤ 29 ∧ Good t x.toNat) ∨ (pWhole (lineOf 3 x.toNat) = .bad ∧ 29 < x) := chk2_at chk2_3 h0 h1
theorem case_4 {x : Int} (h0 : 1 ≤ x) (h1 : x ≤ 45) : (∃ t, pWhole (lineOf 4 x.toNat) = .ok t ∧ x ≤ 28 ∧ Good t x.toNat) ∨ (pWhole (lineOf 4 x.toNat) = .bad ∧ 28 < x) := chk2_at chk2_4 h0 h1
/-- a chain of z levels -/
structure LevIs (t : T) (z : Int) : Prop where
  lin : lin t = true
  lev : (lev t : Int) = z
structure Back (t t' : T) : Prop where
  nice : nice t = true
  dep : dep t ≤ 60
  len : (tText t).length ≤ 1000
  back : pWhole (tText t) = .ok t'
theorem len_line {k : Nat} {l : List Nat} (h : l.length ≤ k) : ({ cps := l.toArray } : Str).length ≤ k := by simpa [Str.length] using h
theorem news_rot {g h : Heap} {L : Addr} {a b : List (Addr × Obj)} (N : News g L h (a ++ b)) : News g L h (b ++ a) := fun p hp => N p (List.mem_append.mpr (List.mem_append.mp hp).symm)
theorem TreeIn.rot {w : World} {a b : List (Addr × Obj)} {v : Value} {t : T} (h : TreeIn w (a ++ b) v t) : TreeIn w (b ++ a) v t := h.mono fun p hp => List.mem_append.mpr (List.mem_append.mp hp).symm
theorem len_int {c : List Nat} : ∀ n : Nat, ((List.replicate n [97]).intersperse c).flatten.length ≤ n * (1 + c.length)
  | 0 => by simp
  | 1 => by simp
  | n + 2 => by
    have ih := len_int (c := c) (n + 1)
    rw [List.replicate_succ] at ih
    rw [List.replicate_succ, List.replicate_succ]
    rw [Nat.succ_mul]
    simp only [List.intersperse, List.flatten_cons, List.length_append, List.length_cons, List.length_nil] at ih ⊢
    omega
theorem len_rep {c : List Nat} (n : Nat) : (List.replicate n c).flatten.length = n * c.length := lm_len_rep_flat c n
theorem len_0 {n : Nat} (h : n ≤ 45) : (lineOf 0 n).length ≤ 1000 := by
  have h2 : n * (1 + [32, 59, 32].length) ≤ 45 * 4 := Nat.mul_le_mul h (by decide)
  exact Nat.le_trans (Nat.le_trans (len_int n) h2) (by decide)
theorem len_1 {n : Nat} (h : n ≤ 45) : (lineOf 1 n).length ≤ 1000 := by
  have h2 : n * (1 + [124].length) ≤ 45 * 4 := Nat.mul_le_mul h (by decide)
  exact Nat.le_trans (Nat.le_trans (len_int n) h2) (by decide)
theorem len_2 {n : Nat} (h : n ≤ 45) : (lineOf 2 n).length ≤ 1000 := by
  unfold lineOf; simp only [List.length_append, List.length_replicate, List.length_cons, List.length_nil]; omega
theorem len_3 {n : Nat} (h : n ≤ 45) : (lineOf 3 n).length ≤ 1000 := by
  show (97 :: (List.replicate n [32, 38]).flatten).length ≤ 1000
  rw [List.length_cons, len_rep]; simp only [List.length_cons, List.length_nil]; omega
theorem len_4 {n : Nat} (h : n ≤ 45) : (lineOf 4 n).length ≤ 1000 := by
  show (97 :: (List.replicate n [32, 62, 32, 102]).flatten).length ≤ 1000
  rw [List.length_cons, len_rep]; simp only [List.length_cons, List.length_nil]; omega
section
variable {w : World} {mean : ExcName → Option Value} {mg mb : Str → Option Value} {dp un : Nat} {gd : Option (List Code)} {cn : Str} {cs : Scope} {a : Addr} {ccd : Value} {cl : List (Str × Addr)} {outer : List Env} {A₀ : Around} {base h₀ : Heap} {L : Addr} {m : Str → Option Value} {rest : List (Addr × Obj)} {s : Shared} {sc dsc : Addr} {t1 t2 t3 tl tp td : Tok} {line : Str} {place deep : Int} {Q E : Value → Shared → Prop} {r : List Nat}
theorem take5_c {D bx : Addr} {vs : List Value} {ns : List Int} {k n : Nat} {p : Int} {tq : Tok} (B : Below A₀ base outer h₀) (F : Fr h₀ L s.heap m) (X : (heapK w.params).In h₀) (T0 : Top vw9 ln9 mean mg mb h₀) (hk : cs.kind = .function)
    (N : News h₀ L s.heap ((bx, W.listOf #[.ref D, .int p tp] n) :: (D, W.listOf vs.toArray k) :: rest)) (hi : IntsAre vs ns) (hl : ns.length ≤ 63) (hD : @LT.lt Nat _ D bx) (hne : ∀ p ∈ rest, p.1 ≠ bx)
    (h0 : 0 ≤ p) (hp : p ≤ 1000) (hroom : dp + 20 < recursionLimit) (hun : un + 200 < cLine)
    (hret : ∀ r tr tp' h' tk', (r = 0 ∨ r = 1 ∨ r = 2 ∨ r = 3 ∨ r = 4) → Fr h₀ L h' m → News h₀ L h' ((bx, W.listOf #[.ref D, .int (p + 1) tp'] n) :: (D, W.listOf vs.toArray k) :: rest) → Q (.int r tr) { s with heap := h', toks := tk' }) :
    wpAny (model PR w) (ktrTop dp un gd cn cs L a ccd cl outer) (call (.ref 295) [.ref bx, .int 5 tq]) Q E s :=
  take_c B F X T0 hk N hi hl hD hne h0 hp (by decide) (by decide) hroom hun fun r tr tp' h' tk' a b F' N' => hret r tr tp' h' tk' (by omega) F' N'

theorem read_c {l : List Nat} {P R : Prop} {d : Nat} {z : Int} (B : Below A₀ h₀ [] h₀) (F : Fr h₀ L s.heap m) (X : (heapK w.params).In h₀) (T0 : Top vw9 ln9 mean mg mb h₀) (hk : cs.kind = .function)
    (N : News h₀ L s.heap rest) (hroom : dp + 510 < recursionLimit) (hun : un + 4100 < cLine) (hlen : l.length ≤ 1000)
    (hcase : (∃ t, pWhole l = .ok t ∧ P ∧ Good t d) ∨ (pWhole l = .bad ∧ R)) (hz : (d : Int) = z)
    (hok : ∀ a t t' h' tk' tl', P → LevIs t z → LevIs t' z → Back t t' → Fr h₀ L h' m → News h₀ L h' (rest ++ tl') → TreeIn w (rest ++ tl') (.ref a) t → Q (.ref a) { s with heap := h', toks := tk' })
    (hbad : ∀ h' tk', R → Fr h₀ L h' m → News h₀ L h' rest → Q .none { s with heap := h', toks := tk' }) :
    wpAny (model PR w) (ktrTop dp un gd cn cs L a ccd [] []) (call (.ref 323) [.str ⟨l.toArray⟩ tl]) Q E s := by
  rcases hcase with ⟨t, e, hP, G⟩ | ⟨e, hR⟩
  · obtain ⟨t', e', l1, l2⟩ := G.back
    refine read_ok (t := t) B F X T0 hk N hroom hun (Nat.le_trans (len_line hlen) (by decide)) (by simpa using e) fun v h' tk' tl' F' N' hT => ?_
    obtain ⟨a, _, rfl, _⟩ := hT.cls
    exact hok a t t' h' tk' tl' hP ⟨G.lin, by rw [G.lev]; exact hz⟩ ⟨l1, by rw [l2]; exact hz⟩ ⟨G.nice, G.dep, G.len, e'⟩ F' (news_rot N') hT.rot
  · exact read_bad B F X T0 hk N hroom hun (Nat.le_trans (len_line hlen) (by decide)) (by simpa using e) fun h' tk' F' N' => hbad h' tk' hR F' N'
/-- a line that is read, of whatever tree -/
theorem read_some {l : List Nat} {ln : Str} (B : Below A₀ h₀ [] h₀) (F : Fr h₀ L s.heap m) (X : (heapK w.params).In h₀) (T0 : Top vw9 ln9 mean mg mb h₀) (hk : cs.kind = .function)
    (N : News h₀ L s.heap rest) (hroom : dp + 510 < recursionLimit) (hun : un + 4100 < cLine) (hlen : l.length ≤ 1000) (he : ln = ⟨l.toArray⟩)
    (hw : ∃ t, pWhole l = .ok t)
    (hret : ∀ a h' tk' tl', Fr h₀ L h' m → News h₀ L h' (rest ++ tl') → Q (.ref a) { s with heap := h', toks := tk' }) :
    wpAny (model PR w) (ktrTop dp un gd cn cs L a ccd [] []) (call (.ref 323) [.str ln tl]) Q E s := by
  subst he
  obtain ⟨t, e⟩ := hw
  refine read_ok (t := t) B F X T0 hk N hroom hun (Nat.le_trans (len_line hlen) (by decide)) (by simpa using e) fun v h' tk' tl' F' N' hT => ?_
  obtain ⟨a, _, rfl, _⟩ := hT.cls
  exact hret a h' tk' tl' F' (news_rot N')
theorem read_none {l : List Nat} {ln : Str} (B : Below A₀ h₀ [] h₀) (F : Fr h₀ L s.heap m) (X : (heapK w.params).In h₀) (T0 : Top vw9 ln9 mean mg mb h₀) (hk : cs.kind = .function)
    (N : News h₀ L s.heap rest) (hroom : dp + 510 < recursionLimit) (hun : un + 4100 < cLine) (hlen : l.length ≤ 1000) (he : ln = ⟨l.toArray⟩)
    (hw : pWhole l = .bad)
    (hret : ∀ h' tk', Fr h₀ L h' m → News h₀ L h' rest → Q .none { s with heap := h', toks := tk' }) :
    wpAny (model PR w) (ktrTop dp un gd cn cs L a ccd [] []) (call (.ref 323) [.str ln tl]) Q E s := by
  subst he
  exact read_bad B F X T0 hk N hroom hun (Nat.le_trans (len_line hlen) (by decide)) (by simpa using hw) hret
theorem parse_c {t t' : T} (B : Below A₀ base outer h₀) (F : Fr h₀ L s.heap m) (X : (heapK w.params).In h₀) (T0 : Top vw9 ln9 mean mg mb h₀) (hk : cs.kind = .function)
    (N : News h₀ L s.heap rest) (hroom : dp + 500 < recursionLimit) (hun : un + 4000 < cLine) (hb : Back t t')
    (hret : ∀ v h' tk' tl', Fr h₀ L h' m → News h₀ L h' (rest ++ tl') → TreeIn w (rest ++ tl') (.ref v) t' → Q (.ref v) { s with heap := h', toks := tk' }) :
    wpAny (model PR w) (ktrTop dp un gd cn cs L a ccd cl outer) (call (.ref 232) [.str ⟨(tText t).toArray⟩ tl]) Q E s := by
  refine parse_ok (t := t') B F X T0 hk N hroom hun (Nat.le_trans (len_line hb.len) (by decide)) (by simpa using hb.back) fun v h' tk' tl' F' N' hT => ?_
  obtain ⟨a, _, rfl, _⟩ := hT.cls
  exact hret a h' tk' tl' F' (news_rot N') hT.rot
theorem text_c {t t' : T} {v : Value} (B : Below A₀ base outer h₀) (F : Fr h₀ L s.heap m) (X : (heapK w.params).In h₀) (T0 : Top vw9 ln9 mean mg mb h₀) (hk : cs.kind = .function)
    (N : News h₀ L s.heap rest) (hroom : dp + 200 < recursionLimit) (hun : un + 3800 < cLine) (hT : TreeIn w rest v t) (hb : Back t t')
    (hret : ∀ t₁ h' tk', Fr h₀ L h' m → News h₀ L h' rest → Q (.str ⟨(tText t).toArray⟩ t₁) { s with heap := h', toks := tk' }) :
    wpAny (model PR w) (ktrTop dp un gd cn cs L a ccd cl outer) (call (.ref 274) [v]) Q E s :=
  all_text w mean mg mb 60 hb.nice hb.dep (Nat.le_trans hb.len (by decide)) B F X T0 hk N hT (by omega) (by omega) hret
theorem lev_c {t : T} {v : Value} {z : Int} (B : Below A₀ base outer h₀) (F : Fr h₀ L s.heap m) (X : (heapK w.params).In h₀) (T0 : Top vw9 ln9 mean mg mb h₀) (hk : cs.kind = .function)
    (N : News h₀ L s.heap rest) (hroom : dp + 20 < recursionLimit) (hun : un + 200 < cLine) (hT : TreeIn w rest v t) (hl : LevIs t z)
    (hret : ∀ t' h' tk', Fr h₀ L h' m → News h₀ L h' rest → Q (.int z t') { s with heap := h', toks := tk' }) :
    wpAny (model PR w) (ktrTop dp un gd cn cs L a ccd cl outer) (call (.ref 316) [v]) Q E s :=
  levels_c hl.lin B F X T0 hk N hT hroom hun fun t' h' tk' F' N' => by rw [hl.lev]; exact hret t' h' tk' F' N'
end

end Mine

-- part R4
namespace Mine
theorem fillR4 : (fun (_ : OpenLaw) (_ : Params → Frag) => True) PySem.Challenge.rw_pq0899_01 heapK := by w_top off; k_fill; trivial
def IntRes (s : Shared) (lo hi : Int) : Value → Shared → Prop := fun v s' => ∃ q t tk, v = .int q t ∧ lo ≤ q ∧ q ≤ hi ∧ s' = { s with toks := tk }
theorem ifexp_int {M : Model} {A : Around} {test x y : PySem.Expr} {pos : Pos} {env : Env} {s : Shared} {Q E : Value → Shared → Prop} (lo hi : Int) (h1 : wpAny M A (eval (.IfExp test x y pos) env) (IntRes s lo hi) E s)
    (h2 : ∀ q t tk, lo ≤ q → q ≤ hi → Q (.int q t) { s with toks := tk }) : wpAny M A (eval (.IfExp test x y pos) env) Q E s :=
  wpAny_mono h1 (fun v s' h => by obtain ⟨q, t, tk, rfl, a, b, rfl⟩ := h; exact h2 q t tk a b) fun _ _ e => e
section
variable {prog : Program} {w : World} {A : Around} {E : Value → Shared → Prop} {s : Shared} {t u : Tok} {Q : Value → Shared → Prop}
theorem ne_bool_t {a b : Int} (hp : a ≤ b) (h : Q (.bool false) s) : wpAny (model prog w) A (compareOp .NotEq (.bool true) (.bool (decide (a ≤ b)))) Q E s := PyProof.Rows.ne_bool (by rw [decide_eq_true hp]; exact h)
theorem ne_bool_f {a b : Int} (hp : b < a) (h : Q (.bool false) s) : wpAny (model prog w) A (compareOp .NotEq (.bool false) (.bool (decide (a ≤ b)))) Q E s := PyProof.Rows.ne_bool (by rw [decide_eq_false (Int.not_le.mpr hp)]; exact h)
theorem ne_same {a : Int} (h : Q (.bool false) s) : wpAny (model prog w) A (compareOp .NotEq (.int a t) (.int a u)) Q E s := PyProof.Rows.ne_int (by rw [show (a != a) = false from by simp]; exact h)
end
theorem ne_one9 {I b : Addr} {it : Obj} (h : I ≠ b) : ∀ p ∈ [(I, it)], p.1 ≠ b := fun p hp => by rw [List.mem_singleton.mp hp]; exact h
theorem ne_nil9 {b : Addr} : ∀ p ∈ ([] : List (Addr × Obj)), p.1 ≠ b := fun _ hp => absurd hp List.not_mem_nil
section
variable {w : World} {mean : ExcName → Option Value} {mg mb : Str → Option Value} {dp un : Nat} {gd : Option (List Code)} {cn : Str} {cs : Scope} {a : Addr} {ccd : Value} {cl : List (Str × Addr)} {outer : List Env} {A₀ : Around} {base h₀ : Heap} {L : Addr} {m : Str → Option Value} {rest : List (Addr × Obj)} {s : Shared} {sc dsc : Addr} {t1 t2 t3 tl tp td : Tok} {line : Str} {place deep : Int} {Q E : Value → Shared → Prop} {r : List Nat}
theorem read_0 {x : Int} (B : Below A₀ h₀ [] h₀) (F : Fr h₀ L s.heap m) (X : (heapK w.params).In h₀) (T0 : Top vw9 ln9 mean mg mb h₀) (hk : cs.kind = .function)
    (N : News h₀ L s.heap rest) (hroom : dp + 510 < recursionLimit) (hun : un + 4100 < cLine) (h0 : 1 ≤ x) (h1 : x ≤ 45)
    (hok : ∀ a t t' h' tk' tl', x ≤ 29 → LevIs t (x - 1) → LevIs t' (x - 1) → Back t t' → Fr h₀ L h' m → News h₀ L h' (rest ++ tl') → TreeIn w (rest ++ tl') (.ref a) t → Q (.ref a) { s with heap := h', toks := tk' })
    (hbad : ∀ h' tk', 29 < x → Fr h₀ L h' m → News h₀ L h' rest → Q .none { s with heap := h', toks := tk' }) :
    wpAny (model PR w) (ktrTop dp un gd cn cs L a ccd [] []) (call (.ref 323) [.str ⟨(lineOf 0 x.toNat).toArray⟩ tl]) Q E s :=
  read_c B F X T0 hk N hroom hun (len_0 (by omega)) (case_0 h0 h1) (by omega) hok hbad
theorem read_1 {x : Int} (B : Below A₀ h₀ [] h₀) (F : Fr h₀ L s.heap m) (X : (heapK w.params).In h₀) (T0 : Top vw9 ln9 mean mg mb h₀) (hk : cs.kind = .function)
    (N : News h₀ L s.heap rest) (hroom : dp + 510 < recursionLimit) (hun : un + 4100 < cLine) (h0 : 1 ≤ x) (h1 : x ≤ 45)
    (hok : ∀ a t t' h' tk' tl', x ≤ 29 → LevIs t (x - 1) → LevIs t' (x - 1) → Back t t' → Fr h₀ L h' m → News h₀ L h' (rest ++ tl') → TreeIn w (rest ++ tl') (.ref a) t → Q (.ref a) { s with heap := h', toks := tk' })
    (hbad : ∀ h' tk', 29 < x → Fr h₀ L h' m → News h₀ L h' rest → Q .none { s with heap := h', toks := tk' }) :
    wpAny (model PR w) (ktrTop dp un gd cn cs L a ccd [] []) (call (.ref 323) [.str ⟨(lineOf 1 x.toNat).toArray⟩ tl]) Q E s :=
  read_c B F X T0 hk N hroom hun (len_1 (by omega)) (case_1 h0 h1) (by omega) hok hbad
theorem read_2 {x : Int} (B : Below A₀ h₀ [] h₀) (F : Fr h₀ L s.heap m) (X : (heapK w.params).In h₀) (T0 : Top vw9 ln9 mean mg mb h₀) (hk : cs.kind = .function)
    (N : News h₀ L s.heap rest) (hroom : dp + 510 < recursionLimit) (hun : un + 4100 < cLine) (h0 : 1 ≤ x) (h1 : x ≤ 18)
    (hok : ∀ a t t' h' tk' tl', x ≤ 14 → LevIs t (0) → LevIs t' (0) → Back t t' → Fr h₀ L h' m → News h₀ L h' (rest ++ tl') → TreeIn w (rest ++ tl') (.ref a) t → Q (.ref a) { s with heap := h', toks := tk' })
    (hbad : ∀ h' tk', 14 < x → Fr h₀ L h' m → News h₀ L h' rest → Q .none { s with heap := h', toks := tk' }) :
    wpAny (model PR w) (ktrTop dp un gd cn cs L a ccd [] []) (call (.ref 323) [.str ⟨(lineOf 2 x.toNat).toArray⟩ tl]) Q E s :=
  read_c B F X T0 hk N hroom hun (len_2 (by omega)) (case_2 h0 h1) (rfl) hok hbad
theorem read_3 {x : Int} (B : Below A₀ h₀ [] h₀) (F : Fr h₀ L s.heap m) (X : (heapK w.params).In h₀) (T0 : Top vw9 ln9 mean mg mb h₀) (hk : cs.kind = .function)
    (N : News h₀ L s.heap rest) (hroom : dp + 510 < recursionLimit) (hun : un + 4100 < cLine) (h0 : 1 ≤ x) (h1 : x ≤ 45)
    (hok : ∀ a t t' h' tk' tl', x ≤ 29 → LevIs t (x) → LevIs t' (x) → Back t t' → Fr h₀ L h' m → News h₀ L h' (rest ++ tl') → TreeIn w (rest ++ tl') (.ref a) t → Q (.ref a) { s with heap := h', toks := tk' })
    (hbad : ∀ h' tk', 29 < x → Fr h₀ L h' m → News h₀ L h' rest → Q .none { s with heap := h', toks := tk' }) :
    wpAny (model PR w) (ktrTop dp un gd cn cs L a ccd [] []) (call (.ref 323) [.str ⟨(lineOf 3 x.toNat).toArray⟩ tl]) Q E s :=
  read_c B F X T0 hk N hroom hun (len_3 (by omega)) (case_3 h0 h1) (by omega) hok hbad
theorem read_4 {x : Int} (B : Below A₀ h₀ [] h₀) (F : Fr h₀ L s.heap m) (X : (heapK w.params).In h₀) (T0 : Top vw9 ln9 mean mg mb h₀) (hk : cs.kind = .function)
    (N : News h₀ L s.heap rest) (hroom : dp + 510 < recursionLimit) (hun : un + 4100 < cLine) (h0 : 1 ≤ x) (h1 : x ≤ 45)
    (hok : ∀ a t t' h' tk' tl', x ≤ 28 → LevIs t (x) → LevIs t' (x) → Back t t' → Fr h₀ L h' m → News h₀ L h' (rest ++ tl') → TreeIn w (rest ++ tl') (.ref a) t → Q (.ref a) { s with heap := h', toks := tk' })
    (hbad : ∀ h' tk', 28 < x → Fr h₀ L h' m → News h₀ L h' rest → Q .none { s with heap := h', toks := tk' }) :
    wpAny (model PR w) (ktrTop dp un gd cn cs L a ccd [] []) (call (.ref 323) [.str ⟨(lineOf 4 x.toNat).toArray⟩ tl]) Q E s :=
  read_c B F X T0 hk N hroom hun (len_4 (by omega)) (case_4 h0 h1) (by omega) hok hbad
end

end Mine

-- part R5
namespace Mine
theorem fillR5 : (fun (_ : OpenLaw) (_ : Params → Frag) => True) PySem.Challenge.rw_pq0899_01 heapK := by w_top off; k_fill; trivial
abbrev lwMap (bx sref : Addr) (f : Str → Option Value) : Str → Option Value := fun y => if y = Str.ofString "box" then some (.ref bx) else if y = Str.ofString "script" then some (.ref sref) else f y
def TurnSpec (w : World) (A : Around) (env : Env) (body : List Stmt) (h₀ : Heap) (L bx D sref : Addr) (vs : List Value) : Prop :=
  ∀ (s : Shared) (f : Str → Option Value) (p : Int) (tp : Tok) (I : Addr) (it : Obj) (Q : Flow → Shared → Prop) (E : Value → Shared → Prop), 0 ≤ p → p ≤ 100 →
    Fr h₀ L s.heap (lwMap bx sref f) → News h₀ L s.heap ((bx, W.listOf #[.ref D, .int p tp] 0) :: (D, W.listOf vs.toArray 0) :: (I, it) :: []) → I ≠ bx →
    (∀ f' tp' h' tk', Fr h₀ L h' (lwMap bx sref f') → News h₀ L h' ((bx, W.listOf #[.ref D, .int (p + 1 + 1) tp'] 0) :: (D, W.listOf vs.toArray 0) :: (I, it) :: []) → Q .next { s with heap := h', toks := tk' }) →
    wpAny (model PR w) A (execs body env) Q E s
theorem for_law {w : World} {A : Around} {env : Env} {body orelse : List Stmt} {x : Str} {px pos : Pos} {iter : PySem.Expr} {Q : Flow → Shared → Prop} {E : Value → Shared → Prop} {s : Shared} {h₀ : Heap} {L bx D sref : Addr} {vs : List Value} {h : Heap} {f : Str → Option Value} (_ : Fr h₀ L h (lwMap bx sref f))
    (turn : TurnSpec w A env body h₀ L bx D sref vs) (h : TurnSpec w A env body h₀ L bx D sref vs → wpAny (model PR w) A (exec (.For (.Name x px) iter body orelse pos) env) Q E s) : wpAny (model PR w) A (exec (.For (.Name x px) iter body orelse pos) env) Q E s := h turn
theorem lw_0 {bx sref : Addr} (y : Str) : (if y = Str.ofString "box" then some (Value.ref bx) else List.lookup y [(Str.ofString "script", Value.ref sref)].reverse) = lwMap bx sref (fun _ => none) y := by
  unfold lwMap
  by_cases h1 : y = Str.ofString "box"
  · simp [h1]
  · by_cases h2 : y = Str.ofString "script"
    · subst h2; simp
    · have h2' : (y == Str.ofString "script") = false := by simpa using h2
      simp [List.lookup, h1, h2, h2']
theorem lw_self {bx sref : Addr} {m : Str → Option Value} (h1 : m (Str.ofString "box") = some (.ref bx)) (h2 : m (Str.ofString "script") = some (.ref sref)) (y : Str) : m y = lwMap bx sref m y := by
  unfold lwMap
  by_cases e1 : y = Str.ofString "box"
  · rw [if_pos e1, e1, h1]
  · by_cases e2 : y = Str.ofString "script"
    · rw [if_neg e1, if_pos e2, e2, h2]
    · rw [if_neg e1, if_neg e2]

theorem law_rest {w : World} {A : Around} {env : Env} {body : List Stmt} {x : Str} {Q : Flow → Shared → Prop} {E : Value → Shared → Prop} {s : Shared} {h₀ : Heap} {bx D sref I : Addr} {vs : List Value} {n : Nat}
    (TS : TurnSpec w A env body h₀ env.locals bx D sref vs) (hb : Str.ofString "box" ≠ x) (hs : Str.ofString "script" ≠ x) (hI : bx < I) (hI2 : D < I)
    (done : ∀ f' p' tp' h tk, 0 ≤ p' → p' ≤ 100 → Fr h₀ env.locals h (lwMap bx sref f') → News h₀ env.locals h ((bx, W.listOf #[.ref D, .int p' tp'] 0) :: (D, W.listOf vs.toArray 0) :: []) → Q .next { s with heap := h, toks := tk }) :
    ∀ (k i : Nat) (f : Str → Option Value) (p : Int) (tp : Tok), 0 ≤ p → p + 2 * k ≤ 100 → RangeRest PR w A E h₀ env x body Q s I 0 n k i (lwMap bx sref f) ((bx, W.listOf #[.ref D, .int p tp] 0) :: (D, W.listOf vs.toArray 0) :: [])
  | 0, _, f, p, tp, h0, h1 => RangeRest.zero fun h tk F N => done f p tp h tk h0 (by omega) F N
  | k + 1, i, f, p, tp, h0, h1 => RangeRest.succ fun t h tk F N => by
    refine TS { s with heap := h, toks := tk } _ p tp I (itR (0 + ((i + 1 : Nat) : Int)) ((n : Int) - ((i + 1 : Nat) : Int))) _ E h0 (by omega) (fr_eq F (lw_self (by (try dsimp only [lwMap]); rw [if_neg hb]; exact if_pos rfl) (by (try dsimp only [lwMap]); rw [if_neg hs]; rw [if_neg (by decide +kernel)]; exact if_pos rfl))) (fun p hp => N p ?_) (Nat.ne_of_gt hI) (fun f' tp' h' tk' F' N' => ?_)
    · simp only [List.mem_cons, List.not_mem_nil, or_false] at hp ⊢
      rcases hp with h | h | h <;> simp [h]
    · refine UnrEnd.intro F' N' ((bx, W.listOf #[.ref D, .int (p + 1 + 1) tp'] 0) :: (D, W.listOf vs.toArray 0) :: []) (fun p hp => ?_) (fun p hp => ?_) (law_rest TS hb hs hI hI2 done k (i + 1) f' (p + 1 + 1) tp' (by omega) (by omega))
      · simp only [List.mem_cons, List.not_mem_nil, or_false] at hp ⊢
        rcases hp with h | h | h <;> simp [h]
      · simp only [List.mem_cons, List.not_mem_nil, or_false] at hp
        rcases hp with h | h
        · rw [h]; exact Nat.ne_of_lt hI
        · rw [h]; exact Nat.ne_of_lt hI2
theorem law_range {w : World} {A : Around} {env : Env} {body : List Stmt} {x : Str} {Q : Flow → Shared → Prop} {E : Value → Shared → Prop} {s : Shared} {h₀ : Heap} {bx D sref r : Addr} {vs : List Value} {q : Int} {t₀ u₀ v₀ : Tok} {f : Str → Option Value} {tp : Tok}
    (TS : TurnSpec w A env body h₀ env.locals bx D sref vs) (hh : A.handled = none) (hr : IsRange s.heap r 0 q 1 t₀ u₀ v₀) (h1 : 1 ≤ q) (h2 : q ≤ 2)
    (F : Fr h₀ env.locals s.heap (lwMap bx sref f)) (N : News h₀ env.locals s.heap ((bx, W.listOf #[.ref D, .int 0 tp] 0) :: (D, W.listOf vs.toArray 0) :: []))
    (done : ∀ f' p' tp' h tk, 0 ≤ p' → p' ≤ 100 → Fr h₀ env.locals h (lwMap bx sref f') → News h₀ env.locals h ((bx, W.listOf #[.ref D, .int p' tp'] 0) :: (D, W.listOf vs.toArray 0) :: []) → Q .next { s with heap := h, toks := tk })
    (hb : Str.ofString "box" ≠ x) (hs : Str.ofString "script" ≠ x) :
    wpAny (model PR w) A (pyIter (.ref r)) (fun it s₂ => LoopAtV PR w A h₀ env x body Q E it s₂) E s := by
  refine iter_rangeUnr (n := q.toNat) hh hr (small_one (by decide) (by decide) (by omega) (by omega)) ?_ F N fun I hI => ?_
  · rw [rangeSize_nat, Int.sub_zero]
  · exact law_rest TS hb hs (hI _ (.head _)) (hI _ (.tail _ (.head _))) done q.toNat 0 f 0 tp (by decide) (by omega)

end Mine

-- part R6
namespace Mine
theorem fillR6 : (fun (_ : OpenLaw) (_ : Params → Frag) => True) PySem.Challenge.rw_pq0899_01 heapK := by w_top off; k_fill; trivial
theorem lit2_sa : Str.ofString " ; a" = ⟨[32, 59, 32, 97].toArray⟩ := by decide +kernel
theorem lit2_asp : Str.ofString "a " = ⟨[97, 32].toArray⟩ := by decide +kernel
theorem line_beside : Str.ofString "a" ++ Txt.mul (Str.ofString " &") 29 ++ Str.ofString " ; a" = ⟨lineB.toArray⟩ := by
  rw [app_is (app_is lit2_a (mul_is (n := 29) lit2_amp rfl (by decide))) lit2_sa]; rfl
theorem line_char (c : Nat) : Str.ofString "a " ++ (⟨#[c]⟩ : Str) = ⟨[97, 32, c].toArray⟩ := by
  rw [app_is (b := [c]) lit2_asp rfl]; rfl
section
variable {w : World} {mean : ExcName → Option Value} {mg mb : Str → Option Value} {dp un : Nat} {gd : Option (List Code)} {cn : Str} {cs : Scope} {a : Addr} {ccd : Value} {cl : List (Str × Addr)} {outer : List Env} {A₀ : Around} {base h₀ : Heap} {L : Addr} {m : Str → Option Value} {rest : List (Addr × Obj)} {s : Shared} {sc dsc : Addr} {t1 t2 t3 tl tp td : Tok} {line : Str} {place deep : Int} {Q E : Value → Shared → Prop} {r : List Nat}
theorem read_beside (B : Below A₀ h₀ [] h₀) (F : Fr h₀ L s.heap m) (X : (heapK w.params).In h₀) (T0 : Top vw9 ln9 mean mg mb h₀) (hk : cs.kind = .function)
    (N : News h₀ L s.heap rest) (hroom : dp + 510 < recursionLimit) (hun : un + 4100 < cLine)
    (hret : ∀ a h' tk', Fr h₀ L h' m → News h₀ L h' rest → Q (.ref a) { s with heap := h', toks := tk' }) :
    wpAny (model PR w) (ktrTop dp un gd cn cs L a ccd [] []) (call (.ref 323) [.str (Str.ofString "a" ++ Txt.mul (Str.ofString " &") 29 ++ Str.ofString " ; a") tl]) Q E s :=
  read_some B F X T0 hk N hroom hun (by decide) line_beside beside_ok fun a h' tk' tl' F' N' => hret a h' tk' F' fun p hp => N' p (List.mem_append.mpr (.inl hp))
theorem read_oct {x : Int} (B : Below A₀ h₀ [] h₀) (F : Fr h₀ L s.heap m) (X : (heapK w.params).In h₀) (T0 : Top vw9 ln9 mean mg mb h₀) (hk : cs.kind = .function)
    (N : News h₀ L s.heap rest) (hroom : dp + 510 < recursionLimit) (hun : un + 4100 < cLine) (h0 : 0 ≤ x) (h1 : x < 127)
    (hret : ∀ a h' tk', Fr h₀ L h' m → News h₀ L h' rest → Q (.ref a) { s with heap := h', toks := tk' }) :
    wpAny (model PR w) (ktrTop dp un gd cn cs L a ccd [] []) (call (.ref 323) [.str (Str.ofString "a " ++ ⟨#[(128 + x).toNat]⟩) tl]) Q E s :=
  read_some B F X T0 hk N hroom hun (by simp) (line_char _) (oct_ok h0 h1) fun a h' tk' tl' F' N' => hret a h' tk' F' fun p hp => N' p (List.mem_append.mpr (.inl hp))
theorem read_odd {x : Int} (B : Below A₀ h₀ [] h₀) (F : Fr h₀ L s.heap m) (X : (heapK w.params).In h₀) (T0 : Top vw9 ln9 mean mg mb h₀) (hk : cs.kind = .function)
    (N : News h₀ L s.heap rest) (hroom : dp + 510 < recursionLimit) (hun : un + 4100 < cLine) (h0 : 0 ≤ x)
    (hret : ∀ h' tk', Fr h₀ L h' m → News h₀ L h' rest → Q .none { s with heap := h', toks := tk' }) :
    wpAny (model PR w) (ktrTop dp un gd cn cs L a ccd [] []) (call (.ref 323) [.str (Str.ofString "a " ++ ⟨#[(256 + x).toNat]⟩) tl]) Q E s :=
  read_none B F X T0 hk N hroom hun (by simp) (line_char _) (odd_bad h0) hret
end

end Mine

-- part R7
namespace Mine
theorem fillR7 : (fun (_ : OpenLaw) (_ : Params → Frag) => True) PySem.Challenge.rw_pq0899_01 heapK := by w_top off; k_fill; trivial
theorem lw_box {bx sref : Addr} {f : Str → Option Value} : lwMap bx sref f (Str.ofString "box") = some (.ref bx) := if_pos rfl
theorem lw_script {bx sref : Addr} {f : Str → Option Value} : lwMap bx sref f (Str.ofString "script") = some (.ref sref) := by
  unfold lwMap; rw [if_neg (by decide +kernel)]; exact if_pos rfl
theorem nb_kind : (Str.ofString "box" = Str.ofString "kind") = False := eq_false (by decide +kernel)
theorem nb_many : (Str.ofString "box" = Str.ofString "many") = False := eq_false (by decide +kernel)
theorem nb_tree : (Str.ofString "box" = Str.ofString "tree") = False := eq_false (by decide +kernel)
theorem nb_due : (Str.ofString "box" = Str.ofString "due") = False := eq_false (by decide +kernel)
theorem ns_kind : (Str.ofString "script" = Str.ofString "kind") = False := eq_false (by decide +kernel)
theorem ns_many : (Str.ofString "script" = Str.ofString "many") = False := eq_false (by decide +kernel)
theorem ns_tree : (Str.ofString "script" = Str.ofString "tree") = False := eq_false (by decide +kernel)
theorem ns_due : (Str.ofString "script" = Str.ofString "due") = False := eq_false (by decide +kernel)
theorem news3 {g h : Heap} {L : Addr} {a b c : Addr × Obj} {r : List (Addr × Obj)} (N : News g L h (a :: b :: c :: r)) : News g L h (a :: b :: c :: []) := fun p hp => N p (by
  rcases List.mem_cons.mp hp with rfl | hp
  · exact .head _
  rcases List.mem_cons.mp hp with rfl | hp
  · exact .tail _ (.head _)
  rcases List.mem_cons.mp hp with rfl | hp
  · exact .tail _ (.tail _ (.head _))
  exact absurd hp List.not_mem_nil)
theorem news_tail {g h : Heap} {L : Addr} {x : Addr × Obj} {r : List (Addr × Obj)} (N : News g L h (x :: r)) : News g L h r := fun p hp => N p (.tail _ hp)

end Mine

-- part Z1
namespace Mine
theorem fillZ1 : (fun (_ : OpenLaw) (_ : Params → Frag) => True) PySem.Challenge.rw_pq0899_01 heapK := by w_top off; k_fill; trivial
local macro_rules | `(tactic| walk_at "call ref") => `(tactic| (k_here; refine stp ?_))
local macro_rules | `(tactic| k_all) => `(tactic| assumption)
local macro_rules | `(tactic| k_room) => `(tactic| ktr_room)
local macro_rules | `(tactic| walk_at "call ref") => `(tactic| (k_here; (with_reducible show wpAny _ _ (call (Value.ref 295) _) _ _ _); k_dflt (refine' take_c ?k1 ?k2 ?k3 ?k4 ?k5 ?k6 ?k7 ?k8 ?k9 ?k10 ?k11 ?k12 ?k13 ?k14 ?k15 ?k16 ?_; (case k1 => k_asm); (case k2 => k_asm); (case k3 => k_asm); (case k4 => k_asm); (case k5 => first | exact rfl | assumption); (case k6 => k_asm); (case k7 => assumption); (case k8 => assumption); (case k9 => assumption); (case k10 => first | assumption | exact ne_one9 (by assumption) | exact ne_nil9); (case k11 => omega); (case k12 => omega); (case k13 => omega); (case k14 => omega); (case k15 => ktr_room); (case k16 => ktr_units)); intro r' tr' tp' h' tk' hr0 hr1 F' N'; (try dsimp only); (try k_sweep); (try k_fold)))
local macro_rules | `(tactic| walk_at "call ref") => `(tactic| (k_here; (with_reducible show wpAny _ _ (call (Value.ref 295) _) _ _ _); k_dflt (refine' take5_c ?k1 ?k2 ?k3 ?k4 ?k5 ?k6 ?k7 ?k8 ?k9 ?k10 ?k11 ?k12 ?k13 ?k14 ?_; (case k1 => k_asm); (case k2 => k_asm); (case k3 => k_asm); (case k4 => k_asm); (case k5 => first | exact rfl | assumption); (case k6 => k_asm); (case k7 => assumption); (case k8 => assumption); (case k9 => assumption); (case k10 => first | assumption | exact ne_one9 (by assumption) | exact ne_nil9); (case k11 => omega); (case k12 => omega); (case k13 => ktr_room); (case k14 => ktr_units)); intro r' tr' tp' h' tk' hr9 F' N'; k_dflt (rcases hr9 with hq9 | hq9 | hq9 | hq9 | hq9); all_goals (subst hq9; (try dsimp only); (try k_sweep); (try k_fold))))
local macro_rules | `(tactic| walk_at "call ref") => `(tactic| (k_here; (with_reducible show wpAny _ _ (call (Value.ref 302) _) _ _ _); k_dflt (refine' line0_c ?k1 ?k2 ?k3 ?k4 ?k5 ?k6 ?k7 ?k8 ?k9 ?k10 ?_; (case k1 => k_asm); (case k2 => k_asm); (case k3 => k_asm); (case k4 => k_asm); (case k5 => first | exact rfl | assumption); (case k6 => k_asm); (case k7 => omega); (case k8 => omega); (case k9 => ktr_room); (case k10 => ktr_units)); intro tr' h' tk' F' N'; (try dsimp only); (try k_sweep); (try k_fold)))
local macro_rules | `(tactic| walk_at "call ref") => `(tactic| (k_here; (with_reducible show wpAny _ _ (call (Value.ref 302) _) _ _ _); k_dflt (refine' line1_c ?k1 ?k2 ?k3 ?k4 ?k5 ?k6 ?k7 ?k8 ?k9 ?k10 ?_; (case k1 => k_asm); (case k2 => k_asm); (case k3 => k_asm); (case k4 => k_asm); (case k5 => first | exact rfl | assumption); (case k6 => k_asm); (case k7 => omega); (case k8 => omega); (case k9 => ktr_room); (case k10 => ktr_units)); intro tr' h' tk' F' N'; (try dsimp only); (try k_sweep); (try k_fold)))
local macro_rules | `(tactic| walk_at "call ref") => `(tactic| (k_here; (with_reducible show wpAny _ _ (call (Value.ref 302) _) _ _ _); k_dflt (refine' line2_c ?k1 ?k2 ?k3 ?k4 ?k5 ?k6 ?k7 ?k8 ?k9 ?k10 ?_; (case k1 => k_asm); (case k2 => k_asm); (case k3 => k_asm); (case k4 => k_asm); (case k5 => first | exact rfl | assumption); (case k6 => k_asm); (case k7 => omega); (case k8 => omega); (case k9 => ktr_room); (case k10 => ktr_units)); intro tr' h' tk' F' N'; (try dsimp only); (try k_sweep); (try k_fold)))
local macro_rules | `(tactic| walk_at "call ref") => `(tactic| (k_here; (with_reducible show wpAny _ _ (call (Value.ref 302) _) _ _ _); k_dflt (refine' line3_c ?k1 ?k2 ?k3 ?k4 ?k5 ?k6 ?k7 ?k8 ?k9 ?k10 ?_; (case k1 => k_asm); (case k2 => k_asm); (case k3 => k_asm); (case k4 => k_asm); (case k5 => first | exact rfl | assumption); (case k6 => k_asm); (case k7 => omega); (case k8 => omega); (case k9 => ktr_room); (case k10 => ktr_units)); intro tr' h' tk' F' N'; (try dsimp only); (try k_sweep); (try k_fold)))
local macro_rules | `(tactic| walk_at "call ref") => `(tactic| (k_here; (with_reducible show wpAny _ _ (call (Value.ref 302) _) _ _ _); k_dflt (refine' line4_c ?k1 ?k2 ?k3 ?k4 ?k5 ?k6 ?k7 ?k8 ?k9 ?k10 ?_; (case k1 => k_asm); (case k2 => k_asm); (case k3 => k_asm); (case k4 => k_asm); (case k5 => first | exact rfl | assumption); (case k6 => k_asm); (case k7 => omega); (case k8 => omega); (case k9 => ktr_room); (case k10 => ktr_units)); intro tr' h' tk' F' N'; (try dsimp only); (try k_sweep); (try k_fold)))
local macro_rules | `(tactic| walk_at "call ref") => `(tactic| (k_here; (with_reducible show wpAny _ _ (call (Value.ref 323) _) _ _ _); k_dflt (refine' read_0 ?k1 ?k2 ?k3 ?k4 ?k5 ?k6 ?k7 ?k8 ?k9 ?k10 ?_ ?_; (case k1 => k_asm); (case k2 => k_asm); (case k3 => k_asm); (case k4 => k_asm); (case k5 => first | exact rfl | assumption); (case k6 => k_asm); (case k7 => ktr_room); (case k8 => ktr_units); (case k9 => omega); (case k10 => omega)); all_goals (first | (intro a' t' t2' h' tk' tl' hle' hl1' hl2' hbk' F' N' hT'; (try dsimp only [List.cons_append, List.nil_append] at N' hT')) | (intro h' tk' hle' F' N')); all_goals ((try dsimp only); (try k_sweep); (try k_fold))))
local macro_rules | `(tactic| walk_at "call ref") => `(tactic| (k_here; (with_reducible show wpAny _ _ (call (Value.ref 323) _) _ _ _); k_dflt (refine' read_1 ?k1 ?k2 ?k3 ?k4 ?k5 ?k6 ?k7 ?k8 ?k9 ?k10 ?_ ?_; (case k1 => k_asm); (case k2 => k_asm); (case k3 => k_asm); (case k4 => k_asm); (case k5 => first | exact rfl | assumption); (case k6 => k_asm); (case k7 => ktr_room); (case k8 => ktr_units); (case k9 => omega); (case k10 => omega)); all_goals (first | (intro a' t' t2' h' tk' tl' hle' hl1' hl2' hbk' F' N' hT'; (try dsimp only [List.cons_append, List.nil_append] at N' hT')) | (intro h' tk' hle' F' N')); all_goals ((try dsimp only); (try k_sweep); (try k_fold))))
local macro_rules | `(tactic| walk_at "call ref") => `(tactic| (k_here; (with_reducible show wpAny _ _ (call (Value.ref 323) _) _ _ _); k_dflt (refine' read_2 ?k1 ?k2 ?k3 ?k4 ?k5 ?k6 ?k7 ?k8 ?k9 ?k10 ?_ ?_; (case k1 => k_asm); (case k2 => k_asm); (case k3 => k_asm); (case k4 => k_asm); (case k5 => first | exact rfl | assumption); (case k6 => k_asm); (case k7 => ktr_room); (case k8 => ktr_units); (case k9 => omega); (case k10 => omega)); all_goals (first | (intro a' t' t2' h' tk' tl' hle' hl1' hl2' hbk' F' N' hT'; (try dsimp only [List.cons_append, List.nil_append] at N' hT')) | (intro h' tk' hle' F' N')); all_goals ((try dsimp only); (try k_sweep); (try k_fold))))
local macro_rules | `(tactic| walk_at "call ref") => `(tactic| (k_here; (with_reducible show wpAny _ _ (call (Value.ref 323) _) _ _ _); k_dflt (refine' read_3 ?k1 ?k2 ?k3 ?k4 ?k5 ?k6 ?k7 ?k8 ?k9 ?k10 ?_ ?_; (case k1 => k_asm); (case k2 => k_asm); (case k3 => k_asm); (case k4 => k_asm); (case k5 => first | exact rfl | assumption); (case k6 => k_asm); (case k7 => ktr_room); (case k8 => ktr_units); (case k9 => omega); (case k10 => omega)); all_goals (first | (intro a' t' t2' h' tk' tl' hle' hl1' hl2' hbk' F' N' hT'; (try dsimp only [List.cons_append, List.nil_append] at N' hT')) | (intro h' tk' hle' F' N')); all_goals ((try dsimp only); (try k_sweep); (try k_fold))))
local macro_rules | `(tactic| walk_at "call ref") => `(tactic| (k_here; (with_reducible show wpAny _ _ (call (Value.ref 323) _) _ _ _); k_dflt (refine' read_4 ?k1 ?k2 ?k3 ?k4 ?k5 ?k6 ?k7 ?k8 ?k9 ?k10 ?_ ?_; (case k1 => k_asm); (case k2 => k_asm); (case k3 => k_asm); (case k4 => k_asm); (case k5 => first | exact rfl | assumption); (case k6 => k_asm); (case k7 => ktr_room); (case k8 => ktr_units); (case k9 => omega); (case k10 => omega)); all_goals (first | (intro a' t' t2' h' tk' tl' hle' hl1' hl2' hbk' F' N' hT'; (try dsimp only [List.cons_append, List.nil_append] at N' hT')) | (intro h' tk' hle' F' N')); all_goals ((try dsimp only); (try k_sweep); (try k_fold))))
local macro_rules | `(tactic| walk_at "compareOp NotEq bool bool") => `(tactic| (k_here; (first | (refine' ne_bool_t ?k1 ?_; (case k1 => assumption)) | (refine' ne_bool_f ?k1 ?_; (case k1 => assumption)))))
local macro_rules | `(tactic| walk_at "compareOp NotEq int int") => `(tactic| (k_here; refine ne_same ?_))
local macro_rules | `(tactic| walk_at "call ref") => `(tactic| (k_here; (with_reducible show wpAny _ _ (call (Value.ref 323) _) _ _ _); k_dflt (refine' read_beside ?k1 ?k2 ?k3 ?k4 ?k5 ?k6 ?k7 ?k8 ?_; (case k1 => k_asm); (case k2 => k_asm); (case k3 => k_asm); (case k4 => k_asm); (case k5 => first | exact rfl | assumption); (case k6 => k_asm); (case k7 => ktr_room); (case k8 => ktr_units)); intro a' h' tk' F' N'; (try dsimp only); (try k_sweep); (try k_fold)))
local macro_rules | `(tactic| walk_at "call ref") => `(tactic| (k_here; (with_reducible show wpAny _ _ (call (Value.ref 323) _) _ _ _); k_dflt (refine' read_oct ?k1 ?k2 ?k3 ?k4 ?k5 ?k6 ?k7 ?k8 ?k9 ?k10 ?_; (case k1 => k_asm); (case k2 => k_asm); (case k3 => k_asm); (case k4 => k_asm); (case k5 => first | exact rfl | assumption); (case k6 => k_asm); (case k7 => ktr_room); (case k8 => ktr_units); (case k9 => assumption); (case k10 => assumption)); intro a' h' tk' F' N'; (try dsimp only); (try k_sweep); (try k_fold)))
local macro_rules | `(tactic| walk_at "call ref") => `(tactic| (k_here; (with_reducible show wpAny _ _ (call (Value.ref 323) _) _ _ _); k_dflt (refine' read_odd ?k1 ?k2 ?k3 ?k4 ?k5 ?k6 ?k7 ?k8 ?k9 ?_; (case k1 => k_asm); (case k2 => k_asm); (case k3 => k_asm); (case k4 => k_asm); (case k5 => first | exact rfl | assumption); (case k6 => k_asm); (case k7 => ktr_room); (case k8 => ktr_units); (case k9 => assumption)); intro h' tk' F' N'; (try dsimp only); (try k_sweep); (try k_fold)))
local macro_rules | `(tactic| walk_at "call ref") => `(tactic| (k_here; (with_reducible show wpAny _ _ (call (Value.ref 309) _) _ _ _); k_dflt (refine' deepest_0 ?k1 ?k2 ?k3 ?k4 ?k5 ?k6 ?k7 ?k8 ?_; (case k1 => k_asm); (case k2 => k_asm); (case k3 => k_asm); (case k4 => k_asm); (case k5 => first | exact rfl | assumption); (case k6 => k_asm); (case k7 => ktr_room); (case k8 => ktr_units)); intro tr' h' tk' F' N'; (try dsimp only); (try k_sweep); (try k_fold)))
local macro_rules | `(tactic| walk_at "call ref") => `(tactic| (k_here; (with_reducible show wpAny _ _ (call (Value.ref 309) _) _ _ _); k_dflt (refine' deepest_1 ?k1 ?k2 ?k3 ?k4 ?k5 ?k6 ?k7 ?k8 ?_; (case k1 => k_asm); (case k2 => k_asm); (case k3 => k_asm); (case k4 => k_asm); (case k5 => first | exact rfl | assumption); (case k6 => k_asm); (case k7 => ktr_room); (case k8 => ktr_units)); intro tr' h' tk' F' N'; (try dsimp only); (try k_sweep); (try k_fold)))
local macro_rules | `(tactic| walk_at "call ref") => `(tactic| (k_here; (with_reducible show wpAny _ _ (call (Value.ref 309) _) _ _ _); k_dflt (refine' deepest_2 ?k1 ?k2 ?k3 ?k4 ?k5 ?k6 ?k7 ?k8 ?_; (case k1 => k_asm); (case k2 => k_asm); (case k3 => k_asm); (case k4 => k_asm); (case k5 => first | exact rfl | assumption); (case k6 => k_asm); (case k7 => ktr_room); (case k8 => ktr_units)); intro tr' h' tk' F' N'; (try dsimp only); (try k_sweep); (try k_fold)))
local macro_rules | `(tactic| walk_at "call ref") => `(tactic| (k_here; (with_reducible show wpAny _ _ (call (Value.ref 309) _) _ _ _); k_dflt (refine' deepest_3 ?k1 ?k2 ?k3 ?k4 ?k5 ?k6 ?k7 ?k8 ?_; (case k1 => k_asm); (case k2 => k_asm); (case k3 => k_asm); (case k4 => k_asm); (case k5 => first | exact rfl | assumption); (case k6 => k_asm); (case k7 => ktr_room); (case k8 => ktr_units)); intro tr' h' tk' F' N'; (try dsimp only); (try k_sweep); (try k_fold)))
local macro_rules | `(tactic| walk_at "call ref") => `(tactic| (k_here; (with_reducible show wpAny _ _ (call (Value.ref 309) _) _ _ _); k_dflt (refine' deepest_4 ?k1 ?k2 ?k3 ?k4 ?k5 ?k6 ?k7 ?k8 ?_; (case k1 => k_asm); (case k2 => k_asm); (case k3 => k_asm); (case k4 => k_asm); (case k5 => first | exact rfl | assumption); (case k6 => k_asm); (case k7 => ktr_room); (case k8 => ktr_units)); intro tr' h' tk' F' N'; (try dsimp only); (try k_sweep); (try k_fold)))
local macro_rules | `(tactic| walk_at "eval IfExp") => `(tactic| (k_here; (with_reducible show wpAny _ _ (eval (PySem.Expr.IfExp _ (PySem.Expr.Constant (Const.int 18) _ _) (PySem.Expr.Constant (Const.int 45) _ _) _) _) _ _ _); (fail_if_success (with_reducible show wpAny _ _ _ (IntRes _ _ _) _ _)); (refine ifexp_int 18 45 ?_ ?_); all_goals (first | (intro q' t' tk' hq1' hq2'; (try dsimp only)) | skip)))
local macro_rules | `(tactic| walk_at "eval IfExp") => `(tactic| (k_here; (with_reducible show wpAny _ _ (eval (PySem.Expr.IfExp _ (PySem.Expr.Constant (Const.int 1) _ _) (PySem.Expr.Constant (Const.int 2) _ _) _) _) _ _ _); (fail_if_success (with_reducible show wpAny _ _ _ (IntRes _ _ _) _ _)); (refine ifexp_int 1 2 ?_ ?_); all_goals (first | (intro q' t' tk' hq1' hq2'; (try dsimp only)) | skip)))
local macro_rules | `(tactic| walk_at "call ref") => `(tactic| (k_here; (with_reducible show wpAny _ _ (call (Value.ref 274) _) _ _ _); k_dflt (refine' text_c ?k1 ?k2 ?k3 ?k4 ?k5 ?k6 ?k7 ?k8 ?k9 ?k10 ?_; (case k1 => k_asm); (case k2 => k_asm); (case k3 => k_asm); (case k4 => k_asm); (case k5 => first | exact rfl | assumption); (case k6 => k_asm); (case k7 => ktr_room); (case k8 => ktr_units); (case k9 => first | assumption | exact TreeIn.mono (by assumption) (fun _ hp => .tail _ hp) | exact TreeIn.mono (by assumption) (fun _ hp => .tail _ (.tail _ hp)) | exact TreeIn.mono (by assumption) (fun _ hp => .tail _ (.tail _ (.tail _ hp)))); (case k10 => assumption)); intro tr' h' tk' F' N'; (try dsimp only); (try k_sweep); (try k_fold)))
local macro_rules | `(tactic| walk_at "call ref") => `(tactic| (k_here; (with_reducible show wpAny _ _ (call (Value.ref 316) _) _ _ _); k_dflt (refine' lev_c ?k1 ?k2 ?k3 ?k4 ?k5 ?k6 ?k7 ?k8 ?k9 ?k10 ?_; (case k1 => k_asm); (case k2 => k_asm); (case k3 => k_asm); (case k4 => k_asm); (case k5 => first | exact rfl | assumption); (case k6 => k_asm); (case k7 => ktr_room); (case k8 => ktr_units); (case k9 => first | assumption | exact TreeIn.mono (by assumption) (fun _ hp => .tail _ hp) | exact TreeIn.mono (by assumption) (fun _ hp => .tail _ (.tail _ hp)) | exact TreeIn.mono (by assumption) (fun _ hp => .tail _ (.tail _ (.tail _ hp)))); (case k10 => assumption)); intro tr' h' tk' F' N'; (try dsimp only); (try k_sweep); (try k_fold)))
local macro_rules | `(tactic| walk_at "call ref") => `(tactic| (k_here; (with_reducible show wpAny _ _ (call (Value.ref 232) _) _ _ _); k_dflt (refine' parse_c ?k1 ?k2 ?k3 ?k4 ?k5 ?k6 ?k7 ?k8 ?k9 ?_; (case k1 => k_asm); (case k2 => k_asm); (case k3 => k_asm); (case k4 => k_asm); (case k5 => first | exact rfl | assumption); (case k6 => k_asm); (case k7 => ktr_room); (case k8 => ktr_units); (case k9 => assumption)); intro v' h' tk' tl' F' N' hT'; (try dsimp only [List.cons_append, List.nil_append] at N' hT'); (try dsimp only); (try k_sweep); (try k_fold)))
local macro_rules | `(tactic| walk_at "pyIter ref") => `(tactic| (k_here; refine stp ?_))
local macro_rules | `(tactic| walk_at "exec For Name Call cons nil") => `(tactic| (k_here; (fail_if_success (with_reducible rename TurnSpec _ _ _ _ _ _ _ _ _ _ => TS9)); refine stp ?_))
theorem in_cast {K1 K2 : Frag} {h : Heap} (e : K1 = K2) (X : K1.In h) : K2.In h := e ▸ X
theorem z1.tw10891613264435525439 : True := trivial
theorem z1.tw1962995406981021239 : True := trivial
theorem z1.tw129101056411334699 : True := trivial
theorem z1.tw16687812449155717872 : True := trivial
theorem z1.tw15055416476457183991 : True := trivial
theorem z1.tw10710829123961118298 : True := trivial
theorem z1.tw11926401588740958894 : True := trivial
theorem z1.tw10468336303590183706 : True := trivial
theorem z1.tw9526704281485796846 : True := trivial
theorem z1.tw4285326080879005150 : True := trivial
theorem z1.tw17643332188792464743 : True := trivial
theorem z1.tw14485004818102467138 : True := trivial
theorem z1.tw15257989992915871653 : True := trivial
theorem z1.tw14379137695250828375 : True := trivial
theorem z1.tw14988142288427341004 : True := trivial
theorem z1.tw13380526982107724910 : True := trivial
theorem z1.tw10557267433411587945 : True := trivial
theorem z1.tw2544976912165535428 : True := trivial
theorem z1.tw8944070953951869351 : True := trivial
theorem z1.tw13083050727662220841 : True := trivial
theorem z1.tw1125966713400353246 : True := trivial
theorem z1.tw9375850296669741294 : True := trivial
theorem z1.tw13529484987299099162 : True := trivial
theorem z1.tw11943645901841860273 : True := trivial
theorem z1.tw5872281224903199938 : True := trivial
theorem z1.tw14698753311286648639 : True := trivial
theorem z1.tw12134208004034722563 : True := trivial
theorem z1.tw16127676587226611235 : True := trivial
theorem z1.tw13714327800028717676 : True := trivial
theorem z1.tw9141272976923669717 : True := trivial
theorem z1.tw2950955836352005923 : True := trivial
theorem z1.tw11517362146475057855 : True := trivial
theorem z1.tw6124174810572391515 : True := trivial
theorem z1.tw18033236223255258491 : True := trivial
theorem z1.tw6398858693248516203 : True := trivial
theorem z1.tw6323828337688098314 : True := trivial
theorem z1.tw9104867781090066647 : True := trivial
theorem z1.tw1345911499818387647 : True := trivial
theorem z1.tw150860176565107035 : True := trivial
theorem z1.tw8800815657174856548 : True := trivial
theorem z1.tw3140714478000460719 : True := trivial
theorem z1.tw17676868396967327624 : True := trivial
theorem z1.tw11754504324762649429 : True := trivial
theorem z1.tw14424066593781351765 : True := trivial
theorem z1.tw13608631723691130791 : True := trivial
theorem z1.tw13640939193473705701 : True := trivial
theorem z1.tw9606237873169053107 : True := trivial
theorem z1.tw953163708876459339 : True := trivial
theorem z1.tw7187987980615956884 : True := trivial
theorem z1.tw18308998718225288302 : True := trivial
theorem z1.tw1829927545330559501 : True := trivial
theorem z1.tw2553071051895325656 : True := trivial
theorem z1.tw17944063453627162904 : True := trivial
theorem z1.tw17211034519408979732 : True := trivial
theorem z1.tw9036603265941214801 : True := trivial
theorem z1.tw1332636830961329309 : True := trivial
theorem z1.tw2184412705162152026 : True := trivial
theorem z1.tw2142364042340936303 : True := trivial
theorem z1.tw10157859475680658242 : True := trivial
theorem z1.tw16762958095120378901 : True := trivial
theorem z1.tw8797446875326430356 : True := trivial
theorem z1.tw14407425816342187475 : True := trivial
theorem z1.tw5270044360771583627 : True := trivial
theorem z1.tw6798619733003960009 : True := trivial
theorem z1.tw3552571314800848788 : True := trivial
theorem z1.tw12466217128229693424 : True := trivial
theorem z1.tw16487559496008700181 : True := trivial
theorem z1.tw1711298686087463112 : True := trivial
theorem z1.tw12823170402075160652 : True := trivial
theorem z1.tw1800171876790152670 : True := trivial
theorem z1.tw15026546086127727864 : True := trivial
theorem z1.tw987103008048592255 : True := trivial
theorem z1.tw7443776324370823967 : True := trivial
theorem z1.tw7885561992846167123 : True := trivial
theorem z1.tw7878579449134082000 : True := trivial
theorem z1.tw1563010593868140626 : True := trivial
theorem z1.tw13638131907388552674 : True := trivial
theorem z1.tw6350448541504340102 : True := trivial
theorem z1.tw6028280950951883580 : True := trivial
theorem z1.tw14992644205029151252 : True := trivial
theorem z1.tw10883777324748743886 : True := trivial
theorem z1.tw2924246074184741606 : True := trivial
theorem z1.tw8283797160651769225 : True := trivial
theorem z1.tw676576661775039967 : True := trivial
theorem z1.tw13844016075462094130 : True := trivial
theorem z1.tw8793970538642599181 : True := trivial
theorem z1.tw6052919048546171088 : True := trivial
theorem z1.tw7937434506539923176 : True := trivial
theorem z1.tw10274706781691971101 : True := trivial
theorem z1.tw4073362484756554975 : True := trivial
theorem z1.tw17674531861583996354 : True := trivial
theorem z1.tw3534738549350984085 : True := trivial
theorem z1.tw13838659091103425929 : True := trivial
theorem z1.tw15023794917468371365 : True := trivial
theorem z1.tw9958447920441499854 : True := trivial
theorem z1.tw16302379985393719442 : True := trivial
theorem z1.tw17941707356217774714 : True := trivial
theorem z1.tw18389235579513108987 : True := trivial
theorem z1.tw17351761621461215007 : True := trivial
theorem z1.tw8023495430908674438 : True := trivial
theorem z1.tw15442323554967914732 : True := trivial
theorem z1.tw16459280269523153738 : True := trivial
theorem z1.tw15058120030937801457 : True := trivial
theorem z1.tw9768337686043886155 : True := trivial
theorem z1.tw1634464869133074900 : True := trivial
theorem z1.tw7518628788571184545 : True := trivial
theorem z1.tw11191980533728513756 : True := trivial
theorem z1.tw13252369033696697535 : True := trivial
theorem z1.tw5582754864633025374 : True := trivial
theorem z1.tw16313297135253535747 : True := trivial
theorem z1.tw4907975624880771453 : True := trivial
theorem z1.tw4316550247157932700 : True := trivial
theorem z1.tw8102417480643198822 : True := trivial
theorem z1.tw5024581985231331005 : True := trivial
theorem z1.tw18105959933599676577 : True := trivial
theorem z1.tw15640183405607798417 : True := trivial
theorem z1.tw16993178928977119562 : True := trivial
theorem z1.tw11620840621561517470 : True := trivial
theorem z1.tw2250516844814510667 : True := trivial
theorem z1.tw7134231871072441578 : True := trivial
theorem z1.tw11332888053868505137 : True := trivial
theorem z1.tw15561037833169902108 : True := trivial
theorem z1.tw2223616239429587622 : True := trivial
theorem z1.tw14254989655038208870 : True := trivial
theorem z1.tw1874810792264170347 : True := trivial
theorem z1.tw17210123494207251603 : True := trivial
theorem z1.tw10200267561276524446 : True := trivial
theorem z1.tw13712247113229703214 : True := trivial
theorem z1.tw4350187954449363567 : True := trivial
theorem z1.tw4259827262461419788 : True := trivial
theorem z1.tw3837664687374977352 : True := trivial
theorem z1.tw16256693838514050563 : True := trivial
theorem z1.tw12258254306289760654 : True := trivial
theorem z1.tw8836905540047096579 : True := trivial
theorem z1.tw15139015650229386320 : True := trivial
theorem z1.tw5089101813843596502 : True := trivial
theorem z1.tw5067106846902254026 : True := trivial
theorem z1.tw4555343223190270745 : True := trivial
theorem z1.tw2556211719303273174 : True := trivial
theorem z1.tw1854323993024519948 : True := trivial
theorem z1.tw17532656227353769934 : True := trivial
theorem z1.tw15369568768626954224 : True := trivial
theorem z1.tw14334058376855478453 : True := trivial
theorem z1.tw10128979059434101605 : True := trivial
theorem z1.tw5364987227768606520 : True := trivial
theorem z1.tw1887132416474302717 : True := trivial
theorem z1.tw12070050675509634684 : True := trivial
theorem z1.tw15461354477335025494 : True := trivial
theorem z1.tw3192392458761515112 : True := trivial
theorem z1.tw1979927719518590814 : True := trivial
theorem z1.tw17915390968883417459 : True := trivial
theorem z1.tw16496189355318354155 : True := trivial
theorem z1.tw15444431675464039384 : True := trivial
theorem z1.tw13054675186866182343 : True := trivial
theorem z1.tw15538803885199147021 : True := trivial
theorem z1.tw643535052636582976 : True := trivial
theorem z1.tw2272498000700746277 : True := trivial
theorem z1.tw12219200743610124905 : True := trivial
theorem z1.tw10916373424420719574 : True := trivial
theorem z1.tw7868640984964617064 : True := trivial
theorem z1.tw547766840717341293 : True := trivial
theorem z1.tw11978950349655023419 : True := trivial
theorem z1.tw6926471010810306301 : True := trivial
theorem z1.tw9811783915395691357 : True := trivial
theorem z1.tw6545427621313064396 : True := trivial
theorem z1.tw3993870927570697887 : True := trivial
theorem z1.tw3789273596944266765 : True := trivial
theorem z1.tw3141172973824786360 : True := trivial
theorem z1.tw2571331796572670045 : True := trivial
theorem z1.tw2348371149957591384 : True := trivial
theorem z1.tw17878158086011904482 : True := trivial
theorem z1.tw17819068053531243643 : True := trivial
theorem z1.tw15741027516460832045 : True := trivial
theorem z1.tw14853583707067310884 : True := trivial
theorem z1.tw13257181819174848097 : True := trivial
theorem z1.tw12740554753465012331 : True := trivial
theorem z1.tw12495702358306103026 : True := trivial
theorem z1.tw12211120693147834888 : True := trivial
theorem z1.tw12206755285748824987 : True := trivial
theorem z1.tw10697983129280548107 : True := trivial
theorem z1.tw3000630426041516814 : True := trivial
theorem z1.tw286398639856344457 : True := trivial
theorem z1.tw9417014128926378708 : True := trivial
theorem z1.tw17755748978347623651 : True := trivial
theorem z1.tw6956402493644943188 : True := trivial
theorem z1.tw1958552069748410800 : True := trivial
theorem z1.tw542492765163856489 : True := trivial
theorem z1.tw7298709503106025478 : True := trivial
theorem z1.tw7140867174204386673 : True := trivial
theorem z1.tw15954130116596981284 : True := trivial
theorem z1.tw13997541255636574097 : True := trivial
theorem z1.tw11116873287576337996 : True := trivial
theorem z1.tw1637597002602533177 : True := trivial
theorem z1.tw495102364961780173 : True := trivial
theorem z1.tw13179593733456967685 : True := trivial
theorem z1.tw8361362609405104205 : True := trivial
theorem z1.tw298230145322151986 : True := trivial
theorem z1.tw17405782369728991482 : True := trivial
theorem z1.tw13177667692534457551 : True := trivial
theorem z1.tw8028379165160654954 : True := trivial
theorem z1.tw11202345380863334437 : True := trivial
theorem z1.tw12792596455535129380 : True := trivial
theorem z1.tw1755298354939568349 : True := trivial
theorem z1.tw8674775293179250429 : True := trivial
theorem z1.tw8601288058705850481 : True := trivial
theorem z1.tw8572796787734280977 : True := trivial
theorem z1.tw8322278540645121697 : True := trivial
theorem z1.tw6933588139333892236 : True := trivial
theorem z1.tw5695946124015615232 : True := trivial
theorem z1.tw4948516342249780860 : True := trivial
theorem z1.tw4261015975164265965 : True := trivial
theorem z1.tw3368027150552679270 : True := trivial
theorem z1.tw1506162647468647229 : True := trivial
theorem z1.tw14412650919941495683 : True := trivial
theorem z1.tw1370473503650492169 : True := trivial
theorem z1.tw13104063997160436821 : True := trivial
theorem z1.tw1183208256596282794 : True := trivial
theorem z1.tw10946341461718367185 : True := trivial
theorem z1.tw11913755242966114461 : True := trivial
theorem z1.tw754885103404742278 : True := trivial
theorem z1.tw6686913303767130168 : True := trivial
theorem z1.tw6021672833909954290 : True := trivial
theorem z1.tw3935289393464432833 : True := trivial
theorem z1.tw15395267897718042998 : True := trivial
theorem z1.tw15179337100227388818 : True := trivial
theorem z1.tw10786616216012617791 : True := trivial
theorem z1.tw4966852043418351365 : True := trivial
theorem z1.tw15328687388268784211 : True := trivial
theorem z1.tw13525382175768413709 : True := trivial
theorem z1.tw1223398546136710684 : True := trivial
theorem z1.tw18132925108382114500 : True := trivial
theorem z1.tw17303375872056540799 : True := trivial
theorem z1.tw1882131105877043095 : True := trivial
theorem z1.tw6023144384239884970 : True := trivial
theorem z1.tw9976524487102956373 : True := trivial
theorem z1.tw3725890159834266055 : True := trivial
theorem z1.tw2782688985727540124 : True := trivial
theorem z1.tw2256277619293552035 : True := trivial
theorem z1.tw19713334397378326 : True := trivial
theorem z1.tw17385057654671559187 : True := trivial
theorem z1.tw3071292730735465516 : True := trivial
theorem z1.tw192910417704727498 : True := trivial
theorem z1.tw16773506681644257702 : True := trivial
theorem z1.tw14397762849282392667 : True := trivial
theorem z1.tw7782332451932259063 : True := trivial
theorem z1.tw17041124244490639551 : True := trivial
theorem z1.tw11433303373327825212 : True := trivial
theorem z1.tw9840427617696143725 : True := trivial
theorem z1.tw9501907283951765104 : True := trivial
theorem z1.tw9091714441075444962 : True := trivial
theorem z1.tw892225398222812302 : True := trivial
theorem z1.tw8767819837107323537 : True := trivial
theorem z1.tw859820046750832210 : True := trivial
theorem z1.tw8329282861861334559 : True := trivial
theorem z1.tw8151776526566926032 : True := trivial
theorem z1.tw7652599926705536816 : True := trivial
theorem z1.tw748926742329027655 : True := trivial
theorem z1.tw7318658795813520512 : True := trivial
theorem z1.tw7223077595422668394 : True := trivial
theorem z1.tw6627282022648380058 : True := trivial
theorem z1.tw5992102478240763823 : True := trivial
theorem z1.tw5829425347290604624 : True := trivial
theorem z1.tw5726800438446523462 : True := trivial
theorem z1.tw5674656580851237896 : True := trivial
theorem z1.tw556101252304725411 : True := trivial
theorem z1.tw5197111194119770325 : True := trivial
theorem z1.tw5039861548351637527 : True := trivial
theorem z1.tw4616850148179252323 : True := trivial
theorem z1.tw4526264078918595780 : True := trivial
theorem z1.tw4209647043748442054 : True := trivial
theorem z1.tw411745098957320836 : True := trivial
theorem z1.tw3973357582454061732 : True := trivial
theorem z1.tw3650146538804818271 : True := trivial
theorem z1.tw3523698793316068708 : True := trivial
theorem z1.tw3497465758524523371 : True := trivial
theorem z1.tw3307151845249740714 : True := trivial
theorem z1.tw3072990692963922394 : True := trivial
theorem z1.tw2857845496734692585 : True := trivial
theorem z1.tw2849857042371608775 : True := trivial
theorem z1.tw2841865873881047319 : True := trivial
theorem z1.tw2571592636229560712 : True := trivial
theorem z1.tw2471126504107857399 : True := trivial
theorem z1.tw2173794417673429108 : True := trivial
theorem z1.tw18352669034351427756 : True := trivial
theorem z1.tw17950128397661786423 : True := trivial
theorem z1.tw17913225341140267552 : True := trivial
theorem z1.tw17356434696789792529 : True := trivial
theorem z1.tw1728575676049698356 : True := trivial
theorem z1.tw17267751627223734187 : True := trivial
theorem z1.tw17193836010043822546 : True := trivial
theorem z1.tw16601347544644236674 : True := trivial
theorem z1.tw15351671855231465884 : True := trivial
theorem z1.tw14906705157641664136 : True := trivial
theorem z1.tw14564409725564723779 : True := trivial
theorem z1.tw14376476982155260893 : True := trivial
theorem z1.tw14318372974616243177 : True := trivial
theorem z1.tw14112837994314409338 : True := trivial
theorem z1.tw14110933742863734103 : True := trivial
theorem z1.tw14025111080475487857 : True := trivial
theorem z1.tw13771128609913090663 : True := trivial
theorem z1.tw13766262815487326654 : True := trivial
theorem z1.tw13600539596557780872 : True := trivial
theorem z1.tw13593024151063898210 : True := trivial
theorem z1.tw13290283762015699677 : True := trivial
theorem z1.tw13262444166732714287 : True := trivial
theorem z1.tw1301953306626500092 : True := trivial
theorem z1.tw12754141470596523958 : True := trivial
theorem z1.tw12361096458545432401 : True := trivial
theorem z1.tw12289328373453926977 : True := trivial
theorem z1.tw12281018644709853137 : True := trivial
theorem z1.tw12265993764062093700 : True := trivial
theorem z1.tw11906091657752009768 : True := trivial
theorem z1.tw1144233274454030994 : True := trivial
theorem z1.tw11310205647754277060 : True := trivial
theorem z1.tw11137383271559375943 : True := trivial
theorem z1.tw10877042125688551384 : True := trivial
theorem z1.tw10767758985690942647 : True := trivial
theorem z1.tw10312422111284785929 : True := trivial
theorem z1.tw10238371938020281203 : True := trivial
theorem z1.tw10131299840683906844 : True := trivial
theorem z1.tw10087231027738012875 : True := trivial
set_option Elab.async true in
theorem z1 : PySem.Challenge.rw_pq0899_01.Holds := by
  (w_on; o_law; k_head; (case hw => w_witness2))
  k_go0
  all_goals try k_fold
  k_steps
  rename Shared => s₁
  rename World => w9
  with_reducible rename Frag.In _ _ => KX9
  have KX8 : (heapK w9.params).In s₁.heap := in_cast (by kernel_rfl) KX9
  clear KX9
  rename_i K0 hD h₁ D ws h2 hI hC hL l1a l h3 l1 h4 F N
  rename_i hlen _ _ _
  have K1 : Below callerA s₁.heap [] s₁.heap := K0
  clear K0
  have hl63 : (List.take 20 _).length ≤ 63 := Nat.le_trans (Nat.le_of_eq hC) (by omega)
  have F2 := fr_eq F (fun y => lw_0 y)
  clear F
  refine unstp (for_law (vs := ws) (D := D) F2 ?turn ?_)
  case turn =>
    clear F2 N
    intro s f p tp I it Q E hp0 hp1 F N hI' hret
    k_steps
    all_goals (try exact ⟨_, _, _, rfl, by decide, by decide, rfl⟩)
    all_goals (
      (with_reducible rename Fr _ _ _ _ => F9)
      (with_reducible rename News _ _ _ _ => N9)
      first
        | exact hret _ _ _ _ (fr_eq F9 (lw_self (by simp only [nb_kind, nb_many, nb_tree, nb_due, if_false, lw_box]) (by simp only [ns_kind, ns_many, ns_tree, ns_due, if_false, lw_script]))) (news3 N9)
        | exact hret _ _ _ _ (fr_eq F9 (lw_self (by simp only [nb_kind, nb_many, nb_tree, nb_due, if_false, lw_box]) (by simp only [ns_kind, ns_many, ns_tree, ns_due, if_false, lw_script]))) (news3 (news_tail N9))
        | exact hret _ _ _ _ (fr_eq F9 (lw_self (by simp only [nb_kind, nb_many, nb_tree, nb_due, if_false, lw_box]) (by simp only [ns_kind, ns_many, ns_tree, ns_due, if_false, lw_script]))) (news3 (news_tail (news_tail N9))))
  intro TS
  k_steps
  all_goals (try exact ⟨_, _, _, rfl, by decide, by decide, rfl⟩)
  refine unstp ?_
  with_reducible rename IsRange _ _ _ _ _ _ _ _ => R9
  with_reducible rename Fr _ _ _ _ => F9
  with_reducible rename News _ _ _ _ => N9
  refine law_range TS rfl R9 (by assumption) (by assumption) F9 N9 (fun f p tp h tk hp0 hp1 F N => ?_) (by decide +kernel) (by decide +kernel)
  clear F9 N9 R9 TS
  change Fr s₁.heap s₁.heap.objs.size _ _ at F
  change News s₁.heap s₁.heap.objs.size _ _ at N
  k_steps

end Mine

theorem PySem.Challenge.cw_pq0899_01_holds : PySem.Challenge.rw_pq0899_01.Holds :=
  Mine.z1
