import PyProof.Rows.All
import Wide.All
import OpenK.AllK
import Wide.FinOn
import Lean
import PySem.Challenge.RW_pq0176_01
set_option Elab.async false
namespace Mine
theorem roomD {dp D d : Nat} (h : dp + D ≤ 900) (e : 1 + d ≤ D) : dp + 1 + d ≤ 900 := by omega
theorem roomU {un U u : Nat} (h : un + U ≤ 9000) (e : 3 + u ≤ U) : un + 3 + u ≤ 9000 := by omega
theorem roomV {un U : Nat} (h : un + U ≤ 9000) : un + 3 ≤ 9500 := by omega
section
open PySem PySem.W PyProof.Rows
set_option maxRecDepth 1000000
set_option maxHeartbeats 0
-- the text's statements, by their place
noncomputable def passS : Stmt := .Pass ⟨0, 0, 0, 0⟩
noncomputable def stm (i : Nat) : Stmt := (PySem.Challenge.pw_pq0176_01.main.body[i]?).getD passS
noncomputable def clsBody : Stmt → List Stmt
  | .ClassDef _ _ _ b _ _ _ _ _ _ _ => b
  | _ => []
noncomputable def stm1 (i : Nat) : Stmt := ((clsBody (stm i))[0]?).getD passS
noncomputable def fA : Stmt → Arguments
  | .FunctionDef _ a _ _ _ _ _ _ _ _ => a
  | _ => ⟨[], [], none, [], [], none, []⟩
noncomputable def fB : Stmt → List Stmt
  | .FunctionDef _ _ b _ _ _ _ _ _ _ => b
  | _ => []
noncomputable def fC : Stmt → Scope
  | .FunctionDef _ _ _ _ _ _ c _ _ _ => c
  | _ => { kind := .module, names := [], isGenerator := false, isCoroutine := false, more := [] }
noncomputable def fW : Stmt → Str
  | .Assign _ (.Constant (.str x) _ _) _ => x
  | _ => ⟨#[]⟩
noncomputable def FW : Str := by
  refine' (fun (b : Str) (_ : fW (stm 1) = b) => b) _ ?h
  case h =>
    conv => lhs; whnf

noncomputable abbrev de (P : Params) (x : String) (t : Nat) (v : Value) : DictEntry := ⟨PyData.keyHash P (Str.ofString x), .str (Str.ofString x) t, v⟩
noncomputable def A_functions : Arguments := by
  refine' (fun (b : Arguments) (_ : fA (stm 2) = b) => b) _ ?h
  case h =>
    conv => lhs; whnf
noncomputable def B_functions : List Stmt := by
  refine' (fun (b : List Stmt) (_ : fB (stm 2) = b) => b) _ ?h
  case h =>
    conv => lhs; whnf
noncomputable def C_functions : Scope := by
  refine' (fun (b : Scope) (_ : fC (stm 2) = b) => b) _ ?h
  case h =>
    conv => lhs; whnf
noncomputable def A_binit : Arguments := by
  refine' (fun (b : Arguments) (_ : fA (stm1 5) = b) => b) _ ?h
  case h =>
    conv => lhs; whnf
noncomputable def B_binit : List Stmt := by
  refine' (fun (b : List Stmt) (_ : fB (stm1 5) = b) => b) _ ?h
  case h =>
    conv => lhs; whnf
noncomputable def C_binit : Scope := by
  refine' (fun (b : Scope) (_ : fC (stm1 5) = b) => b) _ ?h
  case h =>
    conv => lhs; whnf
noncomputable def A_figures_of : Arguments := by
  refine' (fun (b : Arguments) (_ : fA (stm 6) = b) => b) _ ?h
  case h =>
    conv => lhs; whnf
noncomputable def B_figures_of : List Stmt := by
  refine' (fun (b : List Stmt) (_ : fB (stm 6) = b) => b) _ ?h
  case h =>
    conv => lhs; whnf
noncomputable def C_figures_of : Scope := by
  refine' (fun (b : Scope) (_ : fC (stm 6) = b) => b) _ ?h
  case h =>
    conv => lhs; whnf
noncomputable def A_rounded_by : Arguments := by
  refine' (fun (b : Arguments) (_ : fA (stm 7) = b) => b) _ ?h
  case h =>
    conv => lhs; whnf
noncomputable def B_rounded_by : List Stmt := by
  refine' (fun (b : List Stmt) (_ : fB (stm 7) = b) => b) _ ?h
  case h =>
    conv => lhs; whnf
noncomputable def C_rounded_by : Scope := by
  refine' (fun (b : Scope) (_ : fC (stm 7) = b) => b) _ ?h
  case h =>
    conv => lhs; whnf
noncomputable def A_made : Arguments := by
  refine' (fun (b : Arguments) (_ : fA (stm 8) = b) => b) _ ?h
  case h =>
    conv => lhs; whnf
noncomputable def B_made : List Stmt := by
  refine' (fun (b : List Stmt) (_ : fB (stm 8) = b) => b) _ ?h
  case h =>
    conv => lhs; whnf
noncomputable def C_made : Scope := by
  refine' (fun (b : Scope) (_ : fC (stm 8) = b) => b) _ ?h
  case h =>
    conv => lhs; whnf
noncomputable def A_token_at : Arguments := by
  refine' (fun (b : Arguments) (_ : fA (stm 18) = b) => b) _ ?h
  case h =>
    conv => lhs; whnf
noncomputable def B_token_at : List Stmt := by
  refine' (fun (b : List Stmt) (_ : fB (stm 18) = b) => b) _ ?h
  case h =>
    conv => lhs; whnf
noncomputable def C_token_at : Scope := by
  refine' (fun (b : Scope) (_ : fC (stm 18) = b) => b) _ ?h
  case h =>
    conv => lhs; whnf
noncomputable def A_is_sign : Arguments := by
  refine' (fun (b : Arguments) (_ : fA (stm 19) = b) => b) _ ?h
  case h =>
    conv => lhs; whnf
noncomputable def B_is_sign : List Stmt := by
  refine' (fun (b : List Stmt) (_ : fB (stm 19) = b) => b) _ ?h
  case h =>
    conv => lhs; whnf
noncomputable def C_is_sign : Scope := by
  refine' (fun (b : Scope) (_ : fC (stm 19) = b) => b) _ ?h
  case h =>
    conv => lhs; whnf
noncomputable def A_expect : Arguments := by
  refine' (fun (b : Arguments) (_ : fA (stm 20) = b) => b) _ ?h
  case h =>
    conv => lhs; whnf
noncomputable def B_expect : List Stmt := by
  refine' (fun (b : List Stmt) (_ : fB (stm 20) = b) => b) _ ?h
  case h =>
    conv => lhs; whnf
noncomputable def C_expect : Scope := by
  refine' (fun (b : Scope) (_ : fC (stm 20) = b) => b) _ ?h
  case h =>
    conv => lhs; whnf
noncomputable def A_figures_at : Arguments := by
  refine' (fun (b : Arguments) (_ : fA (stm 21) = b) => b) _ ?h
  case h =>
    conv => lhs; whnf
noncomputable def B_figures_at : List Stmt := by
  refine' (fun (b : List Stmt) (_ : fB (stm 21) = b) => b) _ ?h
  case h =>
    conv => lhs; whnf
noncomputable def C_figures_at : Scope := by
  refine' (fun (b : Scope) (_ : fC (stm 21) = b) => b) _ ?h
  case h =>
    conv => lhs; whnf
noncomputable def A_power_at : Arguments := by
  refine' (fun (b : Arguments) (_ : fA (stm 22) = b) => b) _ ?h
  case h =>
    conv => lhs; whnf
noncomputable def B_power_at : List Stmt := by
  refine' (fun (b : List Stmt) (_ : fB (stm 22) = b) => b) _ ?h
  case h =>
    conv => lhs; whnf
noncomputable def C_power_at : Scope := by
  refine' (fun (b : Scope) (_ : fC (stm 22) = b) => b) _ ?h
  case h =>
    conv => lhs; whnf
noncomputable def A_number_tree : Arguments := by
  refine' (fun (b : Arguments) (_ : fA (stm 23) = b) => b) _ ?h
  case h =>
    conv => lhs; whnf
noncomputable def B_number_tree : List Stmt := by
  refine' (fun (b : List Stmt) (_ : fB (stm 23) = b) => b) _ ?h
  case h =>
    conv => lhs; whnf
noncomputable def C_number_tree : Scope := by
  refine' (fun (b : Scope) (_ : fC (stm 23) = b) => b) _ ?h
  case h =>
    conv => lhs; whnf
noncomputable def A_linit : Arguments := by
  refine' (fun (b : Arguments) (_ : fA (stm1 24) = b) => b) _ ?h
  case h =>
    conv => lhs; whnf
noncomputable def B_linit : List Stmt := by
  refine' (fun (b : List Stmt) (_ : fB (stm1 24) = b) => b) _ ?h
  case h =>
    conv => lhs; whnf
noncomputable def C_linit : Scope := by
  refine' (fun (b : Scope) (_ : fC (stm1 24) = b) => b) _ ?h
  case h =>
    conv => lhs; whnf
noncomputable def A_join_up : Arguments := by
  refine' (fun (b : Arguments) (_ : fA (stm 25) = b) => b) _ ?h
  case h =>
    conv => lhs; whnf
noncomputable def B_join_up : List Stmt := by
  refine' (fun (b : List Stmt) (_ : fB (stm 25) = b) => b) _ ?h
  case h =>
    conv => lhs; whnf
noncomputable def C_join_up : Scope := by
  refine' (fun (b : Scope) (_ : fC (stm 25) = b) => b) _ ?h
  case h =>
    conv => lhs; whnf
noncomputable def A_finished : Arguments := by
  refine' (fun (b : Arguments) (_ : fA (stm 26) = b) => b) _ ?h
  case h =>
    conv => lhs; whnf
noncomputable def B_finished : List Stmt := by
  refine' (fun (b : List Stmt) (_ : fB (stm 26) = b) => b) _ ?h
  case h =>
    conv => lhs; whnf
noncomputable def C_finished : Scope := by
  refine' (fun (b : Scope) (_ : fC (stm 26) = b) => b) _ ?h
  case h =>
    conv => lhs; whnf
noncomputable def A_opened : Arguments := by
  refine' (fun (b : Arguments) (_ : fA (stm 27) = b) => b) _ ?h
  case h =>
    conv => lhs; whnf
noncomputable def B_opened : List Stmt := by
  refine' (fun (b : List Stmt) (_ : fB (stm 27) = b) => b) _ ?h
  case h =>
    conv => lhs; whnf
noncomputable def C_opened : Scope := by
  refine' (fun (b : Scope) (_ : fC (stm 27) = b) => b) _ ?h
  case h =>
    conv => lhs; whnf
noncomputable def A_plain_operand : Arguments := by
  refine' (fun (b : Arguments) (_ : fA (stm 28) = b) => b) _ ?h
  case h =>
    conv => lhs; whnf
noncomputable def B_plain_operand : List Stmt := by
  refine' (fun (b : List Stmt) (_ : fB (stm 28) = b) => b) _ ?h
  case h =>
    conv => lhs; whnf
noncomputable def C_plain_operand : Scope := by
  refine' (fun (b : Scope) (_ : fC (stm 28) = b) => b) _ ?h
  case h =>
    conv => lhs; whnf
noncomputable def A_take_operand : Arguments := by
  refine' (fun (b : Arguments) (_ : fA (stm 29) = b) => b) _ ?h
  case h =>
    conv => lhs; whnf
noncomputable def B_take_operand : List Stmt := by
  refine' (fun (b : List Stmt) (_ : fB (stm 29) = b) => b) _ ?h
  case h =>
    conv => lhs; whnf
noncomputable def C_take_operand : Scope := by
  refine' (fun (b : Scope) (_ : fC (stm 29) = b) => b) _ ?h
  case h =>
    conv => lhs; whnf
noncomputable def A_take_operator : Arguments := by
  refine' (fun (b : Arguments) (_ : fA (stm 30) = b) => b) _ ?h
  case h =>
    conv => lhs; whnf
noncomputable def B_take_operator : List Stmt := by
  refine' (fun (b : List Stmt) (_ : fB (stm 30) = b) => b) _ ?h
  case h =>
    conv => lhs; whnf
noncomputable def C_take_operator : Scope := by
  refine' (fun (b : Scope) (_ : fC (stm 30) = b) => b) _ ?h
  case h =>
    conv => lhs; whnf
noncomputable def A_expression : Arguments := by
  refine' (fun (b : Arguments) (_ : fA (stm 31) = b) => b) _ ?h
  case h =>
    conv => lhs; whnf
noncomputable def B_expression : List Stmt := by
  refine' (fun (b : List Stmt) (_ : fB (stm 31) = b) => b) _ ?h
  case h =>
    conv => lhs; whnf
noncomputable def C_expression : Scope := by
  refine' (fun (b : Scope) (_ : fC (stm 31) = b) => b) _ ?h
  case h =>
    conv => lhs; whnf
noncomputable def A_binds : Arguments := by
  refine' (fun (b : Arguments) (_ : fA (stm 33) = b) => b) _ ?h
  case h =>
    conv => lhs; whnf
noncomputable def B_binds : List Stmt := by
  refine' (fun (b : List Stmt) (_ : fB (stm 33) = b) => b) _ ?h
  case h =>
    conv => lhs; whnf
noncomputable def C_binds : Scope := by
  refine' (fun (b : Scope) (_ : fC (stm 33) = b) => b) _ ?h
  case h =>
    conv => lhs; whnf
noncomputable def A_poured : Arguments := by
  refine' (fun (b : Arguments) (_ : fA (stm 34) = b) => b) _ ?h
  case h =>
    conv => lhs; whnf
noncomputable def B_poured : List Stmt := by
  refine' (fun (b : List Stmt) (_ : fB (stm 34) = b) => b) _ ?h
  case h =>
    conv => lhs; whnf
noncomputable def C_poured : Scope := by
  refine' (fun (b : Scope) (_ : fC (stm 34) = b) => b) _ ?h
  case h =>
    conv => lhs; whnf
noncomputable def A_token : Arguments := by
  refine' (fun (b : Arguments) (_ : fA (stm 35) = b) => b) _ ?h
  case h =>
    conv => lhs; whnf
noncomputable def B_token : List Stmt := by
  refine' (fun (b : List Stmt) (_ : fB (stm 35) = b) => b) _ ?h
  case h =>
    conv => lhs; whnf
noncomputable def C_token : Scope := by
  refine' (fun (b : Scope) (_ : fC (stm 35) = b) => b) _ ?h
  case h =>
    conv => lhs; whnf
noncomputable def A_row : Arguments := by
  refine' (fun (b : Arguments) (_ : fA (stm 36) = b) => b) _ ?h
  case h =>
    conv => lhs; whnf
noncomputable def B_row : List Stmt := by
  refine' (fun (b : List Stmt) (_ : fB (stm 36) = b) => b) _ ?h
  case h =>
    conv => lhs; whnf
noncomputable def C_row : Scope := by
  refine' (fun (b : Scope) (_ : fC (stm 36) = b) => b) _ ?h
  case h =>
    conv => lhs; whnf
noncomputable def A_after : Arguments := by
  refine' (fun (b : Arguments) (_ : fA (stm 37) = b) => b) _ ?h
  case h =>
    conv => lhs; whnf
noncomputable def B_after : List Stmt := by
  refine' (fun (b : List Stmt) (_ : fB (stm 37) = b) => b) _ ?h
  case h =>
    conv => lhs; whnf
noncomputable def C_after : Scope := by
  refine' (fun (b : Scope) (_ : fC (stm 37) = b) => b) _ ?h
  case h =>
    conv => lhs; whnf
noncomputable def A_is_bad : Arguments := by
  refine' (fun (b : Arguments) (_ : fA (stm 38) = b) => b) _ ?h
  case h =>
    conv => lhs; whnf
noncomputable def B_is_bad : List Stmt := by
  refine' (fun (b : List Stmt) (_ : fB (stm 38) = b) => b) _ ?h
  case h =>
    conv => lhs; whnf
noncomputable def C_is_bad : Scope := by
  refine' (fun (b : Scope) (_ : fC (stm 38) = b) => b) _ ?h
  case h =>
    conv => lhs; whnf
noncomputable def A_inside : Arguments := by
  refine' (fun (b : Arguments) (_ : fA (stm 39) = b) => b) _ ?h
  case h =>
    conv => lhs; whnf
noncomputable def B_inside : List Stmt := by
  refine' (fun (b : List Stmt) (_ : fB (stm 39) = b) => b) _ ?h
  case h =>
    conv => lhs; whnf
noncomputable def C_inside : Scope := by
  refine' (fun (b : Scope) (_ : fC (stm 39) = b) => b) _ ?h
  case h =>
    conv => lhs; whnf
noncomputable def A_one : Arguments := by
  refine' (fun (b : Arguments) (_ : fA (stm 40) = b) => b) _ ?h
  case h =>
    conv => lhs; whnf
noncomputable def B_one : List Stmt := by
  refine' (fun (b : List Stmt) (_ : fB (stm 40) = b) => b) _ ?h
  case h =>
    conv => lhs; whnf
noncomputable def C_one : Scope := by
  refine' (fun (b : Scope) (_ : fC (stm 40) = b) => b) _ ?h
  case h =>
    conv => lhs; whnf
noncomputable def A_climb : Arguments := by
  refine' (fun (b : Arguments) (_ : fA (stm 41) = b) => b) _ ?h
  case h =>
    conv => lhs; whnf
noncomputable def B_climb : List Stmt := by
  refine' (fun (b : List Stmt) (_ : fB (stm 41) = b) => b) _ ?h
  case h =>
    conv => lhs; whnf
noncomputable def C_climb : Scope := by
  refine' (fun (b : Scope) (_ : fC (stm 41) = b) => b) _ ?h
  case h =>
    conv => lhs; whnf
noncomputable def A_law : Arguments := by
  refine' (fun (b : Arguments) (_ : fA (stm 42) = b) => b) _ ?h
  case h =>
    conv => lhs; whnf
noncomputable def B_law : List Stmt := by
  refine' (fun (b : List Stmt) (_ : fB (stm 42) = b) => b) _ ?h
  case h =>
    conv => lhs; whnf
noncomputable def C_law : Scope := by
  refine' (fun (b : Scope) (_ : fC (stm 42) = b) => b) _ ?h
  case h =>
    conv => lhs; whnf
noncomputable def K (P : Params) : Frag :=
  (nat_lit 2, Obj.mk Value.none none (Data.dict #[de P "type.__subclasses__.Exception.0" 231 (Value.int 41 0), de P "type.__subclasses__.Exception.n" 232 (Value.int 1 0)] 2) #[]) ::
  (nat_lit 3, Obj.mk (Value.type "dict") none (Data.dict #[de P "__name__" 165 (Value.str (Str.ofString "law_pq0176_01") 513), de P "__doc__" 166 Value.none, de P "__package__" 167 Value.none, de P "__loader__" 168 (Value.builtin "__main__.__loader__#opaque"), de P "__spec__" 169 Value.none, de P "__annotations__" 170 (Value.ref 6), de P "__builtins__" 171 (Value.ref 4), de P "__file__" 173 (Value.str (Str.ofString "/claim/cut.py") 172), de P "__cached__" 174 Value.none, de P "FUNCTION_WORDS" 190 (Value.str FW 189), de P "functions" 196 (Value.ref 21), de P "MOST_EXPONENT" 200 (Value.int 99 199), de P "BasicError" 234 (Value.ref 41), de P "figures_of" 243 (Value.ref 51), de P "rounded_by" 254 (Value.ref 58), de P "made" 266 (Value.ref 65), de P "STRENGTH" 323 (Value.ref 66), de P "NOT_STRENGTH" 325 (Value.int 6 324), de P "MINUS_STRENGTH" 327 (Value.int 12 326), de P "MOST_OPEN" 329 (Value.int 60 328), de P "NO_ARGS" 336 (Value.ref 68), de P "NO_TOKEN" 339 (Value.ref 69), de P "MOST_FIGURES" 341 (Value.int 60 340), de P "MOST_POWER" 343 (Value.int 999 342), de P "token_at" 351 (Value.ref 76), de P "is_sign" 360 (Value.ref 83), de P "expect" 369 (Value.ref 90), de P "figures_at" 379 (Value.ref 97), de P "power_at" 391 (Value.ref 104), de P "number_tree" 404 (Value.ref 111), de P "Level" 438 (Value.ref 128), de P "join_up" 448 (Value.ref 139), de P "finished" 456 (Value.ref 146), de P "opened" 465 (Value.ref 153), de P "plain_operand" 475 (Value.ref 160), de P "take_operand" 488 (Value.ref 167), de P "take_operator" 500 (Value.ref 174), de P "expression" 512 (Value.ref 181), de P "_law_binds" 520 (Value.ref 188), de P "_law_poured" 528 (Value.ref 195), de P "_law_token" 537 (Value.ref 202), de P "_law_row" 543 (Value.ref 207), de P "_law_after" 552 (Value.ref 214), de P "_law_is_bad" 559 (Value.ref 221), de P "_law_inside" 573 (Value.ref 228), de P "_law_one" 586 (Value.ref 235), de P "_law_climb" 600 (Value.ref 242), de P "law" 606 (Value.ref 247)] 48) #[]) ::
  (nat_lit 20, Obj.mk (Value.type "code") none (Data.fields #[Value.str (Str.ofString "functions") 191, Value.str (Str.ofString "functions") 192, Value.str (Str.ofString "/claim/cut.py") 193, Value.int 3 0, Value.int 0 0, Value.int 0 0, Value.int 0 0, Value.int 3 0, Value.ref 15, Value.bool true, Value.int 181 0, Value.ref 16, Value.none, Value.ref 17, Value.ref 18, Value.ref 19, Value.int 194 0, Value.int 3 0, Value.str (Str.ofString "/claim/cut.py") 195]) #[]) ::
  (nat_lit 21, Obj.mk (Value.type "function") none (Data.func (FuncData.mk (Str.ofString "functions") (Str.ofString "functions") A_functions (FuncBody.stmts B_functions) C_functions 3 [] Value.none Value.none Value.none (Value.str (Str.ofString "basicplus.tokens") 187) none (Value.ref 20) Value.none 0)) #[]) ::
  (nat_lit 22, Obj.mk (Value.type "tuple") none (Data.seq #[Value.type "Exception"]) #[]) ::
  (nat_lit 25, Obj.mk (Value.type "cell") none (Data.cell (some (Value.ref 41))) #[]) ::
  (nat_lit 30, Obj.mk (Value.type "tuple") none (Data.seq #[Value.str (Str.ofString "") 213]) #[]) ::
  (nat_lit 31, Obj.mk (Value.type "tuple") none (Data.seq #[Value.ref 25]) #[]) ::
  (nat_lit 37, Obj.mk (Value.type "code") none (Data.fields #[Value.str (Str.ofString "__init__") 214, Value.str (Str.ofString "BasicError.__init__") 215, Value.str (Str.ofString "/claim/cut.py") 216, Value.int 9 0, Value.int 3 0, Value.int 0 0, Value.int 0 0, Value.int 3 0, Value.ref 32, Value.bool true, Value.int 181 0, Value.ref 33, Value.none, Value.ref 34, Value.ref 35, Value.ref 36, Value.int 221 0, Value.int 9 0, Value.str (Str.ofString "/claim/cut.py") 222]) #[]) ::
  (nat_lit 38, Obj.mk (Value.type "function") none (Data.func (FuncData.mk (Str.ofString "__init__") (Str.ofString "BasicError.__init__") A_binit (FuncBody.stmts B_binit) C_binit 3 ([(Str.ofString "__class__", 25)]) (Value.ref 30) Value.none Value.none (Value.str (Str.ofString "basicplus.values") 197) none (Value.ref 37) (Value.ref 31) 0)) #[]) ::
  (nat_lit 39, Obj.mk (Value.type "tuple") none (Data.seq #[Value.str (Str.ofString "code") 224, Value.str (Str.ofString "told") 225]) #[]) ::
  (nat_lit 40, Obj.mk (Value.type "dict") none (Data.dict #[de P "__module__" 208 (Value.str (Str.ofString "basicplus.values") 197), de P "__firstlineno__" 212 (Value.int 7 211), de P "__init__" 223 (Value.ref 38), de P "__static_attributes__" 226 (Value.ref 39), de P "__weakref__" 229 (Value.ref 42), de P "__doc__" 230 Value.none] 4) #[]) ::
  (nat_lit 41, Obj.mk (Value.type "type") none (Data.cls (ClassData.mk (Str.ofString "BasicError") [Value.type "Exception"] [Value.ref 41, Value.type "Exception", Value.type "BaseException", Value.type "object"] 40 (Str.ofString "BasicError") true [] [] false none false)) #[some (Value.ref 22), none, some (Value.str (Str.ofString "BasicError") 201), some (Value.str (Str.ofString "BasicError") 209), some (Value.builtin "Exception.__new__"), some (Value.bool true)]) ::
  (nat_lit 42, Obj.mk (Value.type "getset_descriptor") none (Data.fields #[Value.str (Str.ofString "__weakref__") 228, Value.ref 41, Value.builtin "ExceptionGroup.__weakref__", Value.none]) #[]) ::
  (nat_lit 50, Obj.mk (Value.type "code") none (Data.fields #[Value.str (Str.ofString "figures_of") 235, Value.str (Str.ofString "figures_of") 236, Value.str (Str.ofString "/claim/cut.py") 237, Value.int 13 0, Value.int 1 0, Value.int 0 0, Value.int 0 0, Value.int 3 0, Value.ref 45, Value.bool true, Value.int 181 0, Value.ref 46, Value.none, Value.ref 47, Value.ref 48, Value.ref 49, Value.int 241 0, Value.int 13 0, Value.str (Str.ofString "/claim/cut.py") 242]) #[]) ::
  (nat_lit 51, Obj.mk (Value.type "function") none (Data.func (FuncData.mk (Str.ofString "figures_of") (Str.ofString "figures_of") A_figures_of (FuncBody.stmts B_figures_of) C_figures_of 3 [] Value.none Value.none Value.none (Value.str (Str.ofString "basicplus.values") 197) none (Value.ref 50) Value.none 0)) #[]) ::
  (nat_lit 57, Obj.mk (Value.type "code") none (Data.fields #[Value.str (Str.ofString "rounded_by") 244, Value.str (Str.ofString "rounded_by") 245, Value.str (Str.ofString "/claim/cut.py") 246, Value.int 19 0, Value.int 2 0, Value.int 0 0, Value.int 0 0, Value.int 3 0, Value.ref 52, Value.bool true, Value.int 181 0, Value.ref 53, Value.none, Value.ref 54, Value.ref 55, Value.ref 56, Value.int 252 0, Value.int 19 0, Value.str (Str.ofString "/claim/cut.py") 253]) #[]) ::
  (nat_lit 58, Obj.mk (Value.type "function") none (Data.func (FuncData.mk (Str.ofString "rounded_by") (Str.ofString "rounded_by") A_rounded_by (FuncBody.stmts B_rounded_by) C_rounded_by 3 [] Value.none Value.none Value.none (Value.str (Str.ofString "basicplus.values") 197) none (Value.ref 57) Value.none 0)) #[]) ::
  (nat_lit 64, Obj.mk (Value.type "code") none (Data.fields #[Value.str (Str.ofString "made") 255, Value.str (Str.ofString "made") 256, Value.str (Str.ofString "/claim/cut.py") 257, Value.int 29 0, Value.int 3 0, Value.int 0 0, Value.int 0 0, Value.int 3 0, Value.ref 59, Value.bool true, Value.int 181 0, Value.ref 60, Value.none, Value.ref 61, Value.ref 62, Value.ref 63, Value.int 264 0, Value.int 29 0, Value.str (Str.ofString "/claim/cut.py") 265]) #[]) ::
  (nat_lit 65, Obj.mk (Value.type "function") none (Data.func (FuncData.mk (Str.ofString "made") (Str.ofString "made") A_made (FuncBody.stmts B_made) C_made 3 [] Value.none Value.none Value.none (Value.str (Str.ofString "basicplus.values") 197) none (Value.ref 64) Value.none 0)) #[]) ::
  (nat_lit 66, Obj.mk (Value.type "dict") none (Data.dict #[de P "IMP" 269 (Value.int 1 270), de P "EQV" 272 (Value.int 2 273), de P "XOR" 275 (Value.int 3 276), de P "OR" 278 (Value.int 4 279), de P "AND" 281 (Value.int 5 282), de P "=" 284 (Value.int 7 285), de P "<>" 287 (Value.int 7 288), de P "<" 290 (Value.int 7 291), de P ">" 293 (Value.int 7 294), de P "<=" 296 (Value.int 7 297), de P ">=" 299 (Value.int 7 300), de P "+" 302 (Value.int 8 303), de P "-" 305 (Value.int 8 306), de P "MOD" 308 (Value.int 9 309), de P "\\" 311 (Value.int 10 312), de P "*" 314 (Value.int 11 315), de P "/" 317 (Value.int 11 318), de P "^" 320 (Value.int 13 321)] 18) #[]) ::
  (nat_lit 68, Obj.mk (Value.type "tuple") none (Data.seq #[Value.str (Str.ofString "ERL") 330, Value.str (Str.ofString "ERR") 331, Value.str (Str.ofString "FRE") 332, Value.str (Str.ofString "PI") 333, Value.str (Str.ofString "POS") 334, Value.str (Str.ofString "RND") 335]) #[]) ::
  (nat_lit 69, Obj.mk (Value.type "tuple") none (Data.seq #[Value.str (Str.ofString "end") 337, Value.str (Str.ofString "") 338]) #[]) ::
  (nat_lit 75, Obj.mk (Value.type "code") none (Data.fields #[Value.str (Str.ofString "token_at") 344, Value.str (Str.ofString "token_at") 345, Value.str (Str.ofString "/claim/cut.py") 346, Value.int 53 0, Value.int 2 0, Value.int 0 0, Value.int 0 0, Value.int 3 0, Value.ref 70, Value.bool true, Value.int 181 0, Value.ref 71, Value.none, Value.ref 72, Value.ref 73, Value.ref 74, Value.int 349 0, Value.int 53 0, Value.str (Str.ofString "/claim/cut.py") 350]) #[]) ::
  (nat_lit 76, Obj.mk (Value.type "function") none (Data.func (FuncData.mk (Str.ofString "token_at") (Str.ofString "token_at") A_token_at (FuncBody.stmts B_token_at) C_token_at 3 [] Value.none Value.none Value.none (Value.str (Str.ofString "basicplus.exprread") 267) none (Value.ref 75) Value.none 0)) #[]) ::
  (nat_lit 82, Obj.mk (Value.type "code") none (Data.fields #[Value.str (Str.ofString "is_sign") 352, Value.str (Str.ofString "is_sign") 353, Value.str (Str.ofString "/claim/cut.py") 354, Value.int 55 0, Value.int 3 0, Value.int 0 0, Value.int 0 0, Value.int 3 0, Value.ref 77, Value.bool true, Value.int 181 0, Value.ref 78, Value.none, Value.ref 79, Value.ref 80, Value.ref 81, Value.int 358 0, Value.int 55 0, Value.str (Str.ofString "/claim/cut.py") 359]) #[]) ::
  (nat_lit 83, Obj.mk (Value.type "function") none (Data.func (FuncData.mk (Str.ofString "is_sign") (Str.ofString "is_sign") A_is_sign (FuncBody.stmts B_is_sign) C_is_sign 3 [] Value.none Value.none Value.none (Value.str (Str.ofString "basicplus.exprread") 267) none (Value.ref 82) Value.none 0)) #[]) ::
  (nat_lit 89, Obj.mk (Value.type "code") none (Data.fields #[Value.str (Str.ofString "expect") 361, Value.str (Str.ofString "expect") 362, Value.str (Str.ofString "/claim/cut.py") 363, Value.int 57 0, Value.int 3 0, Value.int 0 0, Value.int 0 0, Value.int 3 0, Value.ref 84, Value.bool true, Value.int 181 0, Value.ref 85, Value.none, Value.ref 86, Value.ref 87, Value.ref 88, Value.int 367 0, Value.int 57 0, Value.str (Str.ofString "/claim/cut.py") 368]) #[]) ::
  (nat_lit 90, Obj.mk (Value.type "function") none (Data.func (FuncData.mk (Str.ofString "expect") (Str.ofString "expect") A_expect (FuncBody.stmts B_expect) C_expect 3 [] Value.none Value.none Value.none (Value.str (Str.ofString "basicplus.exprread") 267) none (Value.ref 89) Value.none 0)) #[]) ::
  (nat_lit 96, Obj.mk (Value.type "code") none (Data.fields #[Value.str (Str.ofString "figures_at") 370, Value.str (Str.ofString "figures_at") 371, Value.str (Str.ofString "/claim/cut.py") 372, Value.int 61 0, Value.int 2 0, Value.int 0 0, Value.int 0 0, Value.int 3 0, Value.ref 91, Value.bool true, Value.int 181 0, Value.ref 92, Value.none, Value.ref 93, Value.ref 94, Value.ref 95, Value.int 377 0, Value.int 61 0, Value.str (Str.ofString "/claim/cut.py") 378]) #[]) ::
  (nat_lit 97, Obj.mk (Value.type "function") none (Data.func (FuncData.mk (Str.ofString "figures_at") (Str.ofString "figures_at") A_figures_at (FuncBody.stmts B_figures_at) C_figures_at 3 [] Value.none Value.none Value.none (Value.str (Str.ofString "basicplus.exprread") 267) none (Value.ref 96) Value.none 0)) #[]) ::
  (nat_lit 103, Obj.mk (Value.type "code") none (Data.fields #[Value.str (Str.ofString "power_at") 380, Value.str (Str.ofString "power_at") 381, Value.str (Str.ofString "/claim/cut.py") 382, Value.int 69 0, Value.int 2 0, Value.int 0 0, Value.int 0 0, Value.int 3 0, Value.ref 98, Value.bool true, Value.int 181 0, Value.ref 99, Value.none, Value.ref 100, Value.ref 101, Value.ref 102, Value.int 389 0, Value.int 69 0, Value.str (Str.ofString "/claim/cut.py") 390]) #[]) ::
  (nat_lit 104, Obj.mk (Value.type "function") none (Data.func (FuncData.mk (Str.ofString "power_at") (Str.ofString "power_at") A_power_at (FuncBody.stmts B_power_at) C_power_at 3 [] Value.none Value.none Value.none (Value.str (Str.ofString "basicplus.exprread") 267) none (Value.ref 103) Value.none 0)) #[]) ::
  (nat_lit 110, Obj.mk (Value.type "code") none (Data.fields #[Value.str (Str.ofString "number_tree") 392, Value.str (Str.ofString "number_tree") 393, Value.str (Str.ofString "/claim/cut.py") 394, Value.int 77 0, Value.int 1 0, Value.int 0 0, Value.int 0 0, Value.int 3 0, Value.ref 105, Value.bool true, Value.int 181 0, Value.ref 106, Value.none, Value.ref 107, Value.ref 108, Value.ref 109, Value.int 402 0, Value.int 77 0, Value.str (Str.ofString "/claim/cut.py") 403]) #[]) ::
  (nat_lit 111, Obj.mk (Value.type "function") none (Data.func (FuncData.mk (Str.ofString "number_tree") (Str.ofString "number_tree") A_number_tree (FuncBody.stmts B_number_tree) C_number_tree 3 [] Value.none Value.none Value.none (Value.str (Str.ofString "basicplus.exprread") 267) none (Value.ref 110) Value.none 0)) #[]) ::
  (nat_lit 124, Obj.mk (Value.type "code") none (Data.fields #[Value.str (Str.ofString "__init__") 417, Value.str (Str.ofString "Level.__init__") 418, Value.str (Str.ofString "/claim/cut.py") 419, Value.int 88 0, Value.int 3 0, Value.int 0 0, Value.int 0 0, Value.int 3 0, Value.ref 119, Value.bool true, Value.int 181 0, Value.ref 120, Value.none, Value.ref 121, Value.ref 122, Value.ref 123, Value.int 423 0, Value.int 88 0, Value.str (Str.ofString "/claim/cut.py") 424]) #[]) ::
  (nat_lit 125, Obj.mk (Value.type "function") none (Data.func (FuncData.mk (Str.ofString "__init__") (Str.ofString "Level.__init__") A_linit (FuncBody.stmts B_linit) C_linit 3 [] Value.none Value.none Value.none (Value.str (Str.ofString "basicplus.exprread") 267) none (Value.ref 124) Value.none 0)) #[]) ::
  (nat_lit 126, Obj.mk (Value.type "tuple") none (Data.seq #[Value.str (Str.ofString "args") 426, Value.str (Str.ofString "kind") 427, Value.str (Str.ofString "operands") 428, Value.str (Str.ofString "operators") 429, Value.str (Str.ofString "word") 430]) #[]) ::
  (nat_lit 127, Obj.mk (Value.type "dict") none (Data.dict #[de P "__module__" 412 (Value.str (Str.ofString "basicplus.exprread") 267), de P "__firstlineno__" 416 (Value.int 86 415), de P "__init__" 425 (Value.ref 125), de P "__static_attributes__" 431 (Value.ref 126), de P "__dict__" 433 (Value.ref 129), de P "__weakref__" 435 (Value.ref 130), de P "__doc__" 436 Value.none] 4) #[]) ::
  (nat_lit 128, Obj.mk (Value.type "type") none (Data.cls (ClassData.mk (Str.ofString "Level") [Value.type "object"] [Value.ref 128, Value.type "object"] 127 (Str.ofString "Level") true [] [] false none false)) #[none, none, some (Value.str (Str.ofString "Level") 405), some (Value.str (Str.ofString "Level") 413), some (Value.builtin "object.__new__"), some (Value.bool true)]) ::
  (nat_lit 129, Obj.mk (Value.type "getset_descriptor") none (Data.fields #[Value.str (Str.ofString "__dict__") 432, Value.ref 128, Value.builtin "function.__dict__", Value.builtin "function.__dict__#set"]) #[]) ::
  (nat_lit 130, Obj.mk (Value.type "getset_descriptor") none (Data.fields #[Value.str (Str.ofString "__weakref__") 434, Value.ref 128, Value.builtin "ExceptionGroup.__weakref__", Value.none]) #[]) ::
  (nat_lit 138, Obj.mk (Value.type "code") none (Data.fields #[Value.str (Str.ofString "join_up") 439, Value.str (Str.ofString "join_up") 440, Value.str (Str.ofString "/claim/cut.py") 441, Value.int 94 0, Value.int 2 0, Value.int 0 0, Value.int 0 0, Value.int 3 0, Value.ref 133, Value.bool true, Value.int 181 0, Value.ref 134, Value.none, Value.ref 135, Value.ref 136, Value.ref 137, Value.int 446 0, Value.int 94 0, Value.str (Str.ofString "/claim/cut.py") 447]) #[]) ::
  (nat_lit 139, Obj.mk (Value.type "function") none (Data.func (FuncData.mk (Str.ofString "join_up") (Str.ofString "join_up") A_join_up (FuncBody.stmts B_join_up) C_join_up 3 [] Value.none Value.none Value.none (Value.str (Str.ofString "basicplus.exprread") 267) none (Value.ref 138) Value.none 0)) #[]) ::
  (nat_lit 145, Obj.mk (Value.type "code") none (Data.fields #[Value.str (Str.ofString "finished") 449, Value.str (Str.ofString "finished") 450, Value.str (Str.ofString "/claim/cut.py") 451, Value.int 102 0, Value.int 1 0, Value.int 0 0, Value.int 0 0, Value.int 3 0, Value.ref 140, Value.bool true, Value.int 181 0, Value.ref 141, Value.none, Value.ref 142, Value.ref 143, Value.ref 144, Value.int 454 0, Value.int 102 0, Value.str (Str.ofString "/claim/cut.py") 455]) #[]) ::
  (nat_lit 146, Obj.mk (Value.type "function") none (Data.func (FuncData.mk (Str.ofString "finished") (Str.ofString "finished") A_finished (FuncBody.stmts B_finished) C_finished 3 [] Value.none Value.none Value.none (Value.str (Str.ofString "basicplus.exprread") 267) none (Value.ref 145) Value.none 0)) #[]) ::
  (nat_lit 152, Obj.mk (Value.type "code") none (Data.fields #[Value.str (Str.ofString "opened") 457, Value.str (Str.ofString "opened") 458, Value.str (Str.ofString "/claim/cut.py") 459, Value.int 108 0, Value.int 3 0, Value.int 0 0, Value.int 0 0, Value.int 3 0, Value.ref 147, Value.bool true, Value.int 181 0, Value.ref 148, Value.none, Value.ref 149, Value.ref 150, Value.ref 151, Value.int 463 0, Value.int 108 0, Value.str (Str.ofString "/claim/cut.py") 464]) #[]) ::
  (nat_lit 153, Obj.mk (Value.type "function") none (Data.func (FuncData.mk (Str.ofString "opened") (Str.ofString "opened") A_opened (FuncBody.stmts B_opened) C_opened 3 [] Value.none Value.none Value.none (Value.str (Str.ofString "basicplus.exprread") 267) none (Value.ref 152) Value.none 0)) #[]) ::
  (nat_lit 159, Obj.mk (Value.type "code") none (Data.fields #[Value.str (Str.ofString "plain_operand") 466, Value.str (Str.ofString "plain_operand") 467, Value.str (Str.ofString "/claim/cut.py") 468, Value.int 112 0, Value.int 2 0, Value.int 0 0, Value.int 0 0, Value.int 3 0, Value.ref 154, Value.bool true, Value.int 181 0, Value.ref 155, Value.none, Value.ref 156, Value.ref 157, Value.ref 158, Value.int 473 0, Value.int 112 0, Value.str (Str.ofString "/claim/cut.py") 474]) #[]) ::
  (nat_lit 160, Obj.mk (Value.type "function") none (Data.func (FuncData.mk (Str.ofString "plain_operand") (Str.ofString "plain_operand") A_plain_operand (FuncBody.stmts B_plain_operand) C_plain_operand 3 [] Value.none Value.none Value.none (Value.str (Str.ofString "basicplus.exprread") 267) none (Value.ref 159) Value.none 0)) #[]) ::
  (nat_lit 166, Obj.mk (Value.type "code") none (Data.fields #[Value.str (Str.ofString "take_operand") 476, Value.str (Str.ofString "take_operand") 477, Value.str (Str.ofString "/claim/cut.py") 478, Value.int 123 0, Value.int 4 0, Value.int 0 0, Value.int 0 0, Value.int 3 0, Value.ref 161, Value.bool true, Value.int 181 0, Value.ref 162, Value.none, Value.ref 163, Value.ref 164, Value.ref 165, Value.int 486 0, Value.int 123 0, Value.str (Str.ofString "/claim/cut.py") 487]) #[]) ::
  (nat_lit 167, Obj.mk (Value.type "function") none (Data.func (FuncData.mk (Str.ofString "take_operand") (Str.ofString "take_operand") A_take_operand (FuncBody.stmts B_take_operand) C_take_operand 3 [] Value.none Value.none Value.none (Value.str (Str.ofString "basicplus.exprread") 267) none (Value.ref 166) Value.none 0)) #[]) ::
  (nat_lit 173, Obj.mk (Value.type "code") none (Data.fields #[Value.str (Str.ofString "take_operator") 489, Value.str (Str.ofString "take_operator") 490, Value.str (Str.ofString "/claim/cut.py") 491, Value.int 141 0, Value.int 3 0, Value.int 0 0, Value.int 0 0, Value.int 3 0, Value.ref 168, Value.bool true, Value.int 181 0, Value.ref 169, Value.none, Value.ref 170, Value.ref 171, Value.ref 172, Value.int 498 0, Value.int 141 0, Value.str (Str.ofString "/claim/cut.py") 499]) #[]) ::
  (nat_lit 174, Obj.mk (Value.type "function") none (Data.func (FuncData.mk (Str.ofString "take_operator") (Str.ofString "take_operator") A_take_operator (FuncBody.stmts B_take_operator) C_take_operator 3 [] Value.none Value.none Value.none (Value.str (Str.ofString "basicplus.exprread") 267) none (Value.ref 173) Value.none 0)) #[]) ::
  (nat_lit 180, Obj.mk (Value.type "code") none (Data.fields #[Value.str (Str.ofString "expression") 501, Value.str (Str.ofString "expression") 502, Value.str (Str.ofString "/claim/cut.py") 503, Value.int 158 0, Value.int 2 0, Value.int 0 0, Value.int 0 0, Value.int 3 0, Value.ref 175, Value.bool true, Value.int 181 0, Value.ref 176, Value.none, Value.ref 177, Value.ref 178, Value.ref 179, Value.int 510 0, Value.int 158 0, Value.str (Str.ofString "/claim/cut.py") 511]) #[]) ::
  (nat_lit 181, Obj.mk (Value.type "function") none (Data.func (FuncData.mk (Str.ofString "expression") (Str.ofString "expression") A_expression (FuncBody.stmts B_expression) C_expression 3 [] Value.none Value.none Value.none (Value.str (Str.ofString "basicplus.exprread") 267) none (Value.ref 180) Value.none 0)) #[]) ::
  (nat_lit 187, Obj.mk (Value.type "code") none (Data.fields #[Value.str (Str.ofString "_law_binds") 515, Value.str (Str.ofString "_law_binds") 516, Value.str (Str.ofString "/claim/cut.py") 517, Value.int 168 0, Value.int 0 0, Value.int 0 0, Value.int 0 0, Value.int 3 0, Value.ref 182, Value.bool true, Value.int 181 0, Value.ref 183, Value.none, Value.ref 184, Value.ref 185, Value.ref 186, Value.int 518 0, Value.int 168 0, Value.str (Str.ofString "/claim/cut.py") 519]) #[]) ::
  (nat_lit 188, Obj.mk (Value.type "function") none (Data.func (FuncData.mk (Str.ofString "_law_binds") (Str.ofString "_law_binds") A_binds (FuncBody.stmts B_binds) C_binds 3 [] Value.none Value.none Value.none (Value.str (Str.ofString "law_pq0176_01") 513) none (Value.ref 187) Value.none 0)) #[]) ::
  (nat_lit 194, Obj.mk (Value.type "code") none (Data.fields #[Value.str (Str.ofString "_law_poured") 521, Value.str (Str.ofString "_law_poured") 522, Value.str (Str.ofString "/claim/cut.py") 523, Value.int 170 0, Value.int 2 0, Value.int 0 0, Value.int 0 0, Value.int 3 0, Value.ref 189, Value.bool true, Value.int 181 0, Value.ref 190, Value.none, Value.ref 191, Value.ref 192, Value.ref 193, Value.int 526 0, Value.int 170 0, Value.str (Str.ofString "/claim/cut.py") 527]) #[]) ::
  (nat_lit 195, Obj.mk (Value.type "function") none (Data.func (FuncData.mk (Str.ofString "_law_poured") (Str.ofString "_law_poured") A_poured (FuncBody.stmts B_poured) C_poured 3 [] Value.none Value.none Value.none (Value.str (Str.ofString "law_pq0176_01") 513) none (Value.ref 194) Value.none 0)) #[]) ::
  (nat_lit 201, Obj.mk (Value.type "code") none (Data.fields #[Value.str (Str.ofString "_law_token") 529, Value.str (Str.ofString "_law_token") 530, Value.str (Str.ofString "/claim/cut.py") 531, Value.int 175 0, Value.int 1 0, Value.int 0 0, Value.int 0 0, Value.int 3 0, Value.ref 196, Value.bool true, Value.int 181 0, Value.ref 197, Value.none, Value.ref 198, Value.ref 199, Value.ref 200, Value.int 535 0, Value.int 175 0, Value.str (Str.ofString "/claim/cut.py") 536]) #[]) ::
  (nat_lit 202, Obj.mk (Value.type "function") none (Data.func (FuncData.mk (Str.ofString "_law_token") (Str.ofString "_law_token") A_token (FuncBody.stmts B_token) C_token 3 [] Value.none Value.none Value.none (Value.str (Str.ofString "law_pq0176_01") 513) none (Value.ref 201) Value.none 0)) #[]) ::
  (nat_lit 206, Obj.mk (Value.type "code") none (Data.fields #[Value.str (Str.ofString "_law_row") 538, Value.str (Str.ofString "_law_row") 539, Value.str (Str.ofString "/claim/cut.py") 540, Value.int 191 0, Value.int 1 0, Value.int 0 0, Value.int 0 0, Value.int 3 0, Value.ref 203, Value.bool true, Value.int 181 0, Value.ref 204, Value.none, Value.none, Value.none, Value.ref 205, Value.int 541 0, Value.int 191 0, Value.str (Str.ofString "/claim/cut.py") 542]) #[]) ::
  (nat_lit 207, Obj.mk (Value.type "function") none (Data.func (FuncData.mk (Str.ofString "_law_row") (Str.ofString "_law_row") A_row (FuncBody.stmts B_row) C_row 3 [] Value.none Value.none Value.none (Value.str (Str.ofString "law_pq0176_01") 513) none (Value.ref 206) Value.none 0)) #[]) ::
  (nat_lit 213, Obj.mk (Value.type "code") none (Data.fields #[Value.str (Str.ofString "_law_after") 544, Value.str (Str.ofString "_law_after") 545, Value.str (Str.ofString "/claim/cut.py") 546, Value.int 203 0, Value.int 3 0, Value.int 0 0, Value.int 0 0, Value.int 3 0, Value.ref 208, Value.bool true, Value.int 181 0, Value.ref 209, Value.none, Value.ref 210, Value.ref 211, Value.ref 212, Value.int 550 0, Value.int 203 0, Value.str (Str.ofString "/claim/cut.py") 551]) #[]) ::
  (nat_lit 214, Obj.mk (Value.type "function") none (Data.func (FuncData.mk (Str.ofString "_law_after") (Str.ofString "_law_after") A_after (FuncBody.stmts B_after) C_after 3 [] Value.none Value.none Value.none (Value.str (Str.ofString "law_pq0176_01") 513) none (Value.ref 213) Value.none 0)) #[]) ::
  (nat_lit 220, Obj.mk (Value.type "code") none (Data.fields #[Value.str (Str.ofString "_law_is_bad") 553, Value.str (Str.ofString "_law_is_bad") 554, Value.str (Str.ofString "/claim/cut.py") 555, Value.int 205 0, Value.int 1 0, Value.int 0 0, Value.int 0 0, Value.int 3 0, Value.ref 215, Value.bool true, Value.int 181 0, Value.ref 216, Value.none, Value.ref 217, Value.ref 218, Value.ref 219, Value.int 557 0, Value.int 205 0, Value.str (Str.ofString "/claim/cut.py") 558]) #[]) ::
  (nat_lit 221, Obj.mk (Value.type "function") none (Data.func (FuncData.mk (Str.ofString "_law_is_bad") (Str.ofString "_law_is_bad") A_is_bad (FuncBody.stmts B_is_bad) C_is_bad 3 [] Value.none Value.none Value.none (Value.str (Str.ofString "law_pq0176_01") 513) none (Value.ref 220) Value.none 0)) #[]) ::
  (nat_lit 227, Obj.mk (Value.type "code") none (Data.fields #[Value.str (Str.ofString "_law_inside") 560, Value.str (Str.ofString "_law_inside") 561, Value.str (Str.ofString "/claim/cut.py") 562, Value.int 207 0, Value.int 4 0, Value.int 0 0, Value.int 0 0, Value.int 3 0, Value.ref 222, Value.bool true, Value.int 181 0, Value.ref 223, Value.none, Value.ref 224, Value.ref 225, Value.ref 226, Value.int 571 0, Value.int 207 0, Value.str (Str.ofString "/claim/cut.py") 572]) #[]) ::
  (nat_lit 228, Obj.mk (Value.type "function") none (Data.func (FuncData.mk (Str.ofString "_law_inside") (Str.ofString "_law_inside") A_inside (FuncBody.stmts B_inside) C_inside 3 [] Value.none Value.none Value.none (Value.str (Str.ofString "law_pq0176_01") 513) none (Value.ref 227) Value.none 0)) #[]) ::
  (nat_lit 234, Obj.mk (Value.type "code") none (Data.fields #[Value.str (Str.ofString "_law_one") 574, Value.str (Str.ofString "_law_one") 575, Value.str (Str.ofString "/claim/cut.py") 576, Value.int 221 0, Value.int 2 0, Value.int 0 0, Value.int 0 0, Value.int 3 0, Value.ref 229, Value.bool true, Value.int 181 0, Value.ref 230, Value.none, Value.ref 231, Value.ref 232, Value.ref 233, Value.int 584 0, Value.int 221 0, Value.str (Str.ofString "/claim/cut.py") 585]) #[]) ::
  (nat_lit 235, Obj.mk (Value.type "function") none (Data.func (FuncData.mk (Str.ofString "_law_one") (Str.ofString "_law_one") A_one (FuncBody.stmts B_one) C_one 3 [] Value.none Value.none Value.none (Value.str (Str.ofString "law_pq0176_01") 513) none (Value.ref 234) Value.none 0)) #[]) ::
  (nat_lit 241, Obj.mk (Value.type "code") none (Data.fields #[Value.str (Str.ofString "_law_climb") 587, Value.str (Str.ofString "_law_climb") 588, Value.str (Str.ofString "/claim/cut.py") 589, Value.int 244 0, Value.int 3 0, Value.int 0 0, Value.int 0 0, Value.int 3 0, Value.ref 236, Value.bool true, Value.int 181 0, Value.ref 237, Value.none, Value.ref 238, Value.ref 239, Value.ref 240, Value.int 598 0, Value.int 244 0, Value.str (Str.ofString "/claim/cut.py") 599]) #[]) ::
  (nat_lit 242, Obj.mk (Value.type "function") none (Data.func (FuncData.mk (Str.ofString "_law_climb") (Str.ofString "_law_climb") A_climb (FuncBody.stmts B_climb) C_climb 3 [] Value.none Value.none Value.none (Value.str (Str.ofString "law_pq0176_01") 513) none (Value.ref 241) Value.none 0)) #[]) ::
  (nat_lit 246, Obj.mk (Value.type "code") none (Data.fields #[Value.str (Str.ofString "law") 601, Value.str (Str.ofString "law") 602, Value.str (Str.ofString "/claim/cut.py") 603, Value.int 254 0, Value.int 1 0, Value.int 0 0, Value.int 0 0, Value.int 3 0, Value.ref 243, Value.bool true, Value.int 181 0, Value.ref 244, Value.none, Value.none, Value.none, Value.ref 245, Value.int 604 0, Value.int 254 0, Value.str (Str.ofString "/claim/cut.py") 605]) #[]) ::
  (nat_lit 247, Obj.mk (Value.type "function") none (Data.func (FuncData.mk (Str.ofString "law") (Str.ofString "law") A_law (FuncBody.stmts B_law) C_law 3 [] Value.none Value.none Value.none (Value.str (Str.ofString "law_pq0176_01") 513) none (Value.ref 246) Value.none 0)) #[]) :: []
noncomputable def kAddrs : List Addr := [2, 3, 20, 21, 22, 25, 30, 31, 37, 38, 39, 40, 41, 42, 50, 51, 57, 58, 64, 65, 66, 68, 69, 75, 76, 82, 83, 89, 90, 96, 97, 103, 104, 110, 111, 124, 125, 126, 127, 128, 129, 130, 138, 139, 145, 146, 152, 153, 159, 160, 166, 167, 173, 174, 180, 181, 187, 188, 194, 195, 201, 202, 206, 207, 213, 214, 220, 221, 227, 228, 234, 235, 241, 242, 246, 247]
noncomputable def V : Program := view PySem.Challenge.pw_pq0176_01 [1, 2, 4, 5, 6, 7, 8, 10, 11, 12, 13, 14, 15, 16, 17, 18, 19, 20, 21, 22, 23, 24, 25, 26, 27, 28, 29, 30, 31, 33, 34, 35, 36, 37, 38, 39, 40, 41, 42]
-- the top's run over a tree of objects, by the library's quick forms
noncomputable def topRunQ (p : Program) (w : World) (n₀ : Nat) (ann : Option Value) : Nat → SharedT → Thread → Option SharedT
  | 0, _, _ => none
  | n + 1, s, t => match through t with
    | true => some s
    | false => match PySem.W.Fast.tw6613529449190102663 n₀ ann t with
      | false => none
      | true => match PySem.W.Fast.tw10156331382660048174 (PySem.W.Fast.tw11892475500146522536 PySem.W.Fast.tw14364793385576792824) p w s t with
        | some (s', t') => topRunQ p w n₀ ann n s' t'
        | none => none
theorem topRunQ_of {p : Program} {w : World} {n₀ : Nat} {ann : Option Value} : ∀ {n : Nat} {s s' : SharedT} {t : Thread}, topRunQ p w n₀ ann n s t = some s' → topRun treeTable p w n₀ ann n s.abs t = some s'.abs
  | 0, _, _, _, h => by cases h
  | n + 1, s, s', t, h => by
    unfold topRunQ at h
    unfold topRun
    rw [← PySem.W.Fast.te6613529449190102663, ← PySem.W.Fast.te10156331382660048174, ← PySem.W.Fast.te11892475500146522536, ← PySem.W.Fast.te14364793385576792824] at h
    cases he : through t with
    | true => rw [he] at h; cases h; rfl
    | false =>
      rw [he] at h
      cases hk : stepOk n₀ ann t with
      | false => rw [hk] at h; cases h
      | true =>
        rw [hk] at h
        cases hs : stepT (denote treeTable) p w s t with
        | none => rw [hs] at h; cases h
        | some r => obtain ⟨s₂, t₂⟩ := r; rw [hs] at h; dsimp only at h ⊢; rw [stepT_spec hs]; exact topRunQ_of h
noncomputable def bootT (P : Params) : BT := (boot_heap P).objs.toList.zipIdx.foldl (fun t x => t.ins x.2 x.1) .nil
theorem leftO_tree {p q : Program} {loose : List Str} {Xt : Shared → Bool} {α : Type} {Yf : Shared → α} {Ya : World → α} {N m₀ : Nat} {gs₀ : Array GenState} {d₀ : Drawn} {k₀ : Nat}
    (open_ : ∀ w : World, (fencedOpening treeTable p w N).map (fun s => (s.heap, s.gens, s.drawn, s.toks)) = some (boot_heap w.params, gs₀, d₀, k₀))
    (hb : ∀ P : Params, boot_heap P = absHeap (bootT P) m₀ (boot_heap P).life)
    (hg : ∀ P : Params, ((boot_heap P).isNs mainGlobals && gs₀.size == 0, (boot_heap P).objs.size, (boot_heap P).nsMap mainGlobals "__annotations__") = (true, m₀, some (.ref 6)))
    (h : ∀ w : World, (fun os => (topRunQ p w m₀ (some (.ref 6)) N ⟨bootT w.params, m₀, (boot_heap w.params).life, gs₀, d₀, k₀, os⟩ (topStub p)).map fun s =>
      (staticsOk (importedModules p.main.body) (boot_heap w.params) s.abs.heap && namesBound p s.abs.heap && gensDone s.abs && laidKept (boot_heap w.params) s.abs.heap, PySem.W.Fast.tw4187177175401517315 q loose (importedModules p.main.body) Xt true s.abs, Yf s.abs)) = fun _ => some (true, openGood q loose, Ya w)) :
    LeftO p q loose Xt Yf Ya N := fun w => by
  obtain ⟨⟨h0, gs, d, k, os⟩, e, e'⟩ := Option.map_eq_some_iff.mp (open_ w)
  obtain ⟨rfl, rfl, rfl, rfl⟩ : h0 = boot_heap w.params ∧ gs = gs₀ ∧ d = d₀ ∧ k = k₀ := by simpa using e'
  have z := congrFun (h w) os
  obtain ⟨s₁, e1, e2⟩ := Option.map_eq_some_iff.mp z
  have r := topRunQ_of e1
  have ha : (⟨bootT w.params, m₀, (boot_heap w.params).life, gs, d, k, os⟩ : SharedT).abs = ⟨boot_heap w.params, gs, d, k, os⟩ := by
    unfold SharedT.abs
    rw [← hb]
  rw [ha] at r
  obtain ⟨g1, g2, g3⟩ : _ ∧ _ ∧ _ := by simpa only [Prod.mk.injEq] using hg w.params
  obtain ⟨l1, l2, l3⟩ : _ ∧ _ ∧ _ := by simpa only [Prod.mk.injEq] using e2
  have tf : topFrom treeTable p w N ⟨boot_heap w.params, gs, d, k, os⟩ = some s₁.abs := by
    unfold topFrom
    dsimp only
    rw [g1, g2, g3, r]
    show (match staticsOk (importedModules p.main.body) (boot_heap w.params) s₁.abs.heap && namesBound p s₁.abs.heap && gensDone s₁.abs && laidKept (boot_heap w.params) s₁.abs.heap with | true => some s₁.abs | false => none) = _
    rw [l1]
  unfold openEnds
  rw [e]
  show (topFrom treeTable p w N ⟨boot_heap w.params, gs, d, k, os⟩).map _ = _
  rw [tf]
  show some (openSeen q loose (importedModules p.main.body) Xt true s₁.abs, Yf s₁.abs) = _
  rw [PySem.W.Fast.te4187177175401517315, l2, l3]
noncomputable abbrev loose : List Str := [Str.ofString "BasicError", Str.ofString "STRENGTH"]
noncomputable abbrev XtV (s : Shared) : Bool := xlAt V [] s && recOk (RowW.records PySem.Challenge.rw_pq0176_01.row.toRowW) s
noncomputable abbrev endsTop (w : World) (os : OsState) := (topRunQ PySem.Challenge.pw_pq0176_01 w 11 (some (.ref 6)) 3700 ⟨bootT w.params, 11, (boot_heap w.params).life, Array.mk [], boot_drawn, boot_toks, os⟩ (topStub PySem.Challenge.pw_pq0176_01)).map fun s =>
      (staticsOk (importedModules PySem.Challenge.pw_pq0176_01.main.body) (boot_heap w.params) s.abs.heap && namesBound PySem.Challenge.pw_pq0176_01 s.abs.heap && gensDone s.abs && laidKept (boot_heap w.params) s.abs.heap,
       PySem.W.Fast.tw4187177175401517315 V loose (importedModules PySem.Challenge.pw_pq0176_01.main.body) XtV true s.abs, kAddrs.map s.abs.heap.get?)
theorem ends_no (w : World) : (fun os => endsTop (w.withFollow "special-get-raises" false) os) = fun _ => some (true, openGood V loose, (K (w.withFollow "special-get-raises" false).params).map fun p => some p.2) := by kernel_rfl
theorem ends_yes (w : World) : (fun os => endsTop (w.withFollow "special-get-raises" true) os) = fun _ => some (true, openGood V loose, (K (w.withFollow "special-get-raises" true).params).map fun p => some p.2) := by kernel_rfl
theorem left_ : LeftO PySem.Challenge.pw_pq0176_01 V loose XtV (fun s => kAddrs.map s.heap.get?) (fun w => (K w.params).map fun p => some p.2) 3700 :=
  leftO_tree (m₀ := 11) (boot_open (by kernel_rfl) (by kernel_rfl) (fun s => by kernel_rfl)) (fun P => by kernel_rfl) (fun P => by kernel_rfl) (fun w => byRow2 "special-get-raises" (P := fun w => (fun os => endsTop w os) = fun _ => some (true, openGood V loose, (K w.params).map fun p => some p.2)) ends_no ends_yes w)
end
section
open PySem PySem.W PyProof.Rows
set_option maxRecDepth 100000
set_option maxHeartbeats 8000000
noncomputable def dLaw : DefRec := { name := Str.ofString "law", params := A_law, body := B_law, scope := C_law, pos := ⟨254, 0, 262, 40⟩ }
noncomputable abbrev H : Hook := kHook K kAddrs (fun _ => by kernel_rfl)
theorem law_said : PySem.Challenge.rw_pq0176_01.wellSaid = true := by
  delta OpenLaw.wellSaid OpenRow.wellSaid OpenRow.partSaid looksOpen
  repeat' with_reducible apply look_both
  all_goals decide +kernel
theorem hd (walk : WalkO V loose (XL V []) H.says PySem.Challenge.rw_pq0176_01.row.toRowW dLaw [] fun f vs => call f vs) : PySem.Challenge.rw_pq0176_01.Holds := by
  refine holds_law law_said fun said => ?_
  refine holds_open (q := V) (loose := loose) (Xt := XtV) (XP := XL V []) (Yf := H.obs) (Ya := H.val) (YP := H.says) (N := 3700) left_ H.of H.keeps (fun s e => xl_of s (Bool.and_eq_true_iff.mp e).1) XL.keeps (by kernel_rfl) (by kernel_rfl) (by kernel_rfl) (fun s e => recFacts_of (Bool.and_eq_true_iff.mp e).2) (by rfl) (by first | assumption | decide +kernel) (by decide +kernel) ⟨rfl, rfl, rfl, rfl, rfl, by decide +kernel⟩ ?hw walk
  case hw => w_witness2
end
section
open PySem PySem.W PyProof.Rows PySem.Calls
/-- the tokens that the law draws -/
inductive Tk where
  | num (b : Bool) | text | name (i : Fin 3) | plus | minus | bop (j : Fin 13) | lpar | rpar | comma | semi | len | rnd | thn | nott
deriving DecidableEq

noncomputable def bopStr : Fin 13 → Str := fun j => ["^", "*", "/", "\\", "MOD", "=", "<", ">=", "AND", "OR", "XOR", "EQV", "IMP"].map Str.ofString |>.getD j.val (Str.ofString "")
noncomputable def bopNum : Fin 13 → Nat := fun j => [13, 11, 11, 10, 9, 7, 7, 7, 5, 4, 3, 2, 1].getD j.val 0
noncomputable def bopWord (j : Fin 13) : Bool := decide (j.val = 4) || decide (8 ≤ j.val)
noncomputable def nameStr : Fin 3 → Str := fun j => ["A", "FNB", "C$"].map Str.ofString |>.getD j.val (Str.ofString "")

noncomputable def Tk.kind : Tk → Str
  | .num _ => Str.ofString "number"
  | .text => Str.ofString "text"
  | .name _ => Str.ofString "name"
  | .bop j => if bopWord j then Str.ofString "word" else Str.ofString "sign"
  | .plus | .minus | .lpar | .rpar | .comma | .semi => Str.ofString "sign"
  | .len | .rnd | .thn | .nott => Str.ofString "word"
noncomputable def Tk.told : Tk → Str
  | .num b => if b then Str.ofString "1.5" else Str.ofString "12"
  | .text => Str.ofString "t"
  | .name i => nameStr i
  | .bop j => bopStr j
  | .plus => Str.ofString "+" | .minus => Str.ofString "-" | .lpar => Str.ofString "(" | .rpar => Str.ofString ")" | .comma => Str.ofString "," | .semi => Str.ofString ";"
  | .len => Str.ofString "LEN" | .rnd => Str.ofString "RND" | .thn => Str.ofString "THEN" | .nott => Str.ofString "NOT"
noncomputable def Tk.bin : Tk → Nat
  | .plus => 8 | .minus => 8 | .bop j => bopNum j | _ => 0

inductive Res where
  | ok (t : Dat) (at' : Nat)
  | bad (at' : Nat)

noncomputable abbrev dS (s : String) : Dat := .str (Str.ofString s)
noncomputable def numDat (b : Bool) : Dat := if b then .tuple [dS "decimal", .tuple [.int 15, .int (-1)]] else .tuple [dS "whole", .int 12]
noncomputable def unDat (o : Str) (t : Dat) : Dat := .tuple [.str o, t]
noncomputable def twoDat (o : Str) (l r : Dat) : Dat := .tuple [dS "two", .str o, l, r]
noncomputable def callDat (k w : Str) (ts : List Dat) : Dat := .tuple [.str k, .str w, .list ts]
noncomputable def leafDat (k w : Str) : Dat := .tuple [.str k, .str w]
noncomputable def nameKind (i : Fin 3) : Str := if i.val = 1 then Str.ofString "fn" else Str.ofString "item"
/-- a name that no parenthesis follows -/
noncomputable def nameDat (i : Fin 3) : Dat := if i.val = 1 then callDat (Str.ofString "fn") (nameStr i) [] else leafDat (Str.ofString "name") (nameStr i)
noncomputable def strengthAt (row : List Tk) (p : Nat) : Nat := match row[p]? with | some t => t.bin | none => 0
noncomputable def toldAt (row : List Tk) (p : Nat) : Str := match row[p]? with | some t => t.told | none => Str.ofString ""

-- the law and its descent, by fuel
mutual
noncomputable def one : Nat → List Tk → Nat → Option Res
  | 0, _, _ => none
  | n + 1, row, p => match row[p]? with
    | some (.num b) => some (.ok (numDat b) (p + 1))
    | some .text => some (.ok (leafDat (Str.ofString "text") (Str.ofString "t")) (p + 1))
    | some (.name i) => if row[p + 1]? = some .lpar then inside n row (p + 1) (nameKind i) (nameStr i) else some (.ok (nameDat i) (p + 1))
    | some .len => inside n row (p + 1) (Str.ofString "call") (Str.ofString "LEN")
    | some .rnd => if row[p + 1]? = some .lpar then inside n row (p + 1) (Str.ofString "call") (Str.ofString "RND") else some (.ok (callDat (Str.ofString "call") (Str.ofString "RND") []) (p + 1))
    | some .lpar => match climb n row (p + 1) 0 with
      | none => none
      | some (.bad q) => some (.bad q)
      | some (.ok t q) => if row[q]? = some .rpar then some (.ok t (q + 1)) else some (.bad q)
    | some .plus => one n row (p + 1)
    | some .minus => match climb n row (p + 1) 12 with
      | none => none
      | some (.bad q) => some (.bad q)
      | some (.ok t q) => some (.ok (unDat (Str.ofString "neg") t) q)
    | some .nott => match climb n row (p + 1) 6 with
      | none => none
      | some (.bad q) => some (.bad q)
      | some (.ok t q) => some (.ok (unDat (Str.ofString "not") t) q)
    | _ => some (.bad p)
noncomputable def inside : Nat → List Tk → Nat → Str → Str → Option Res
  | 0, _, _, _, _ => none
  | n + 1, row, p, k, w => if row[p]? = some .lpar then iloop n row (p + 1) [] k w else some (.bad p)
noncomputable def iloop : Nat → List Tk → Nat → List Dat → Str → Str → Option Res
  | 0, _, _, _, _, _ => none
  | n + 1, row, e, acc, k, w => match climb n row e 0 with
    | none => none
    | some (.bad q) => some (.bad q)
    | some (.ok t q) => if row[q]? = some .comma then iloop n row (q + 1) (acc ++ [t]) k w
      else if row[q]? = some .rpar then some (.ok (callDat k w (acc ++ [t])) (q + 1)) else some (.bad q)
noncomputable def climb : Nat → List Tk → Nat → Nat → Option Res
  | 0, _, _, _ => none
  | n + 1, row, p, least => match one n row p with
    | none => none
    | some (.bad q) => some (.bad q)
    | some (.ok t q) => cloop n row t q least
noncomputable def cloop : Nat → List Tk → Dat → Nat → Nat → Option Res
  | 0, _, _, _, _ => none
  | n + 1, row, t, q, least => if strengthAt row q < max least 1 then some (.ok t q) else match climb n row (q + 1) (strengthAt row q + 1) with
    | none => none
    | some (.bad r) => some (.bad r)
    | some (.ok t' r) => cloop n row (twoDat (toldAt row q) t t') r least
end

/-- the machine of the code: a level, its newest first -/
structure Lv where
  kind : Str
  word : Str
  args : List Dat
  opds : List Dat
  oprs : List (Str × Nat)

noncomputable def isUn (o : Str) : Bool := o == Str.ofString "neg" || o == Str.ofString "not"
noncomputable def joinUp (s : Nat) : List Dat → List (Str × Nat) → Option (List Dat × List (Str × Nat))
  | ds, [] => some (ds, [])
  | ds, (o, q) :: os => if q < s then some (ds, (o, q) :: os) else
      if isUn o then match ds with
        | d :: ds => joinUp s (unDat o d :: ds) os
        | [] => none
      else match ds with
        | r :: l :: ds => joinUp s (twoDat o l r :: ds) os
        | _ => none
noncomputable def finLv (lv : Lv) : Option Dat := match joinUp 0 lv.opds lv.oprs with
  | some ([d], []) => if lv.kind = Str.ofString "top" ∨ lv.kind = Str.ofString "group" then some d else some (callDat lv.kind lv.word (lv.args ++ [d]))
  | _ => none

inductive Step where
  | go (lvs : List Lv) (opd : Bool) (p : Nat)
  | fin (lvs : List Lv) (p : Nat)
  | fail (p : Nat)
  | junk

noncomputable def pushOpd (lvs : List Lv) (d : Dat) : List Lv := match lvs with
  | lv :: r => { lv with opds := d :: lv.opds } :: r
  | [] => []
noncomputable def pushOpr (lvs : List Lv) (o : Str) (q : Nat) : List Lv := match lvs with
  | lv :: r => { lv with oprs := (o, q) :: lv.oprs } :: r
  | [] => []
noncomputable def openLv (lvs : List Lv) (k w : Str) : List Lv := { kind := k, word := w, args := [], opds := [], oprs := [] } :: lvs

/-- what stands for itself as an operand -/
noncomputable def plainAt (row : List Tk) (p : Nat) : Option Dat := match row[p]? with
  | some (.num b) => some (numDat b)
  | some .text => some (leafDat (Str.ofString "text") (Str.ofString "t"))
  | some (.name i) => if row[p + 1]? = some .lpar then none else some (nameDat i)
  | some .rnd => if row[p + 1]? = some .lpar then none else some (callDat (Str.ofString "call") (Str.ofString "RND") [])
  | _ => none

noncomputable def stepOpd (row : List Tk) (lvs : List Lv) (p : Nat) : Step := match plainAt row p with
  | some d => .go (pushOpd lvs d) false (p + 1)
  | none => match row[p]? with
    | some .minus => .go (pushOpr lvs (Str.ofString "neg") 12) true (p + 1)
    | some .nott => .go (pushOpr lvs (Str.ofString "not") 6) true (p + 1)
    | some .plus => .go lvs true (p + 1)
    | some .lpar => if 60 < lvs.length then .junk else .go (openLv lvs (Str.ofString "group") (Str.ofString "")) true (p + 1)
    | some (.name i) => if row[p + 1]? = some .lpar then (if 60 < lvs.length then .junk else .go (openLv lvs (nameKind i) (nameStr i)) true (p + 2)) else .fail (p + 1)
    | some .len => if row[p + 1]? = some .lpar then (if 60 < lvs.length then .junk else .go (openLv lvs (Str.ofString "call") (Str.ofString "LEN")) true (p + 2)) else .fail (p + 1)
    | some .rnd => if row[p + 1]? = some .lpar then (if 60 < lvs.length then .junk else .go (openLv lvs (Str.ofString "call") (Str.ofString "RND")) true (p + 2)) else .fail (p + 1)
    | _ => .fail p

noncomputable def stepOpr (row : List Tk) (lvs : List Lv) (p : Nat) : Step := match lvs with
  | [] => .junk
  | lv :: r =>
    if strengthAt row p ≠ 0 then match joinUp (strengthAt row p) lv.opds lv.oprs with
      | some (ds, os) => .go ({ lv with opds := ds, oprs := (toldAt row p, strengthAt row p) :: os } :: r) true (p + 1)
      | none => .junk
    else if lv.kind = Str.ofString "top" then .fin lvs p
    else if row[p]? = some .comma ∧ lv.kind ≠ Str.ofString "group" then match joinUp 0 lv.opds lv.oprs with
      | some (d :: ds, os) => .go ({ lv with opds := ds, oprs := os, args := lv.args ++ [d] } :: r) true (p + 1)
      | _ => .junk
    else if row[p]? = some .rpar then match finLv lv, r with
      | some d, lv' :: r' => .go ({ lv' with opds := d :: lv'.opds } :: r') false (p + 1)
      | _, _ => .junk
    else .fail p

noncomputable def step (row : List Tk) (lvs : List Lv) (opd : Bool) (p : Nat) : Step := if opd then stepOpd row lvs p else stepOpr row lvs p

noncomputable def run : Nat → List Tk → List Lv → Bool → Nat → Option Res
  | 0, _, _, _, _ => none
  | n + 1, row, lvs, opd, p => match step row lvs opd p with
    | .go lvs' opd' p' => run n row lvs' opd' p'
    | .fin [lv] p' => (finLv lv).map fun d => .ok d p'
    | .fin _ _ => none
    | .fail p' => some (.bad p')
    | .junk => none
end
section
open PySem PySem.W PyProof.Rows PySem.Calls
theorem adv (row : List Tk) : ∀ n,
    (∀ p t q, one n row p = some (.ok t q) → p < q) ∧ (∀ p k w t q, inside n row p k w = some (.ok t q) → p < q) ∧ (∀ e acc k w t q, iloop n row e acc k w = some (.ok t q) → e < q) ∧
    (∀ p l t q, climb n row p l = some (.ok t q) → p < q) ∧ (∀ t p l t' q, cloop n row t p l = some (.ok t' q) → p ≤ q) := by
  intro n
  induction n with
  | zero => refine ⟨?_, ?_, ?_, ?_, ?_⟩ <;> intros <;> simp_all [one, inside, iloop, climb, cloop]
  | succ n ih =>
    obtain ⟨h1, h2, h3, h4, h5⟩ := ih
    refine ⟨?_, ?_, ?_, ?_, ?_⟩
    · intro p t q h
      unfold one at h
      split at h
      · cases h; omega
      · cases h; omega
      · split at h
        · have := h2 _ _ _ _ _ h; omega
        · cases h; omega
      · have := h2 _ _ _ _ _ h; omega
      · split at h
        · have := h2 _ _ _ _ _ h; omega
        · cases h; omega
      · split at h
        · cases h
        · cases h
        · rename_i e
          have := h4 _ _ _ _ e
          split at h
          · cases h; omega
          · cases h
      · have := h1 _ _ _ h; omega
      · split at h
        · cases h
        · cases h
        · rename_i e
          have := h4 _ _ _ _ e
          cases h; omega
      · split at h
        · cases h
        · cases h
        · rename_i e
          have := h4 _ _ _ _ e
          cases h; omega
      · cases h
    · intro p k w t q h
      unfold inside at h
      split at h
      · have := h3 _ _ _ _ _ _ h; omega
      · cases h
    · intro e acc k w t q h
      unfold iloop at h
      split at h
      · cases h
      · cases h
      · rename_i e'
        have a := h4 _ _ _ _ e'
        split at h
        · have := h3 _ _ _ _ _ _ h; omega
        · split at h
          · cases h; omega
          · cases h
    · intro p l t q h
      unfold climb at h
      split at h
      · cases h
      · cases h
      · rename_i e
        have a := h1 _ _ _ e
        have b := h5 _ _ _ _ _ h
        omega
    · intro t p l t' q h
      unfold cloop at h
      split at h
      · cases h; omega
      · split at h
        · cases h
        · cases h
        · rename_i e
          have a := h4 _ _ _ _ e
          have b := h5 _ _ _ _ _ h
          omega

theorem strength_lt {row : List Tk} {p : Nat} (h : strengthAt row p ≠ 0) : p < row.length := by
  unfold strengthAt at h
  split at h
  · rename_i e; exact (List.getElem?_eq_some_iff.mp e).1
  · exact absurd rfl h

theorem total (row : List Tk) : ∀ n,
    (∀ p, 6 * (row.length - p) + 1 ≤ n → (one n row p).isSome) ∧ (∀ p k w, 6 * (row.length - p) + 1 ≤ n → (inside n row p k w).isSome) ∧ (∀ e acc k w, 6 * (row.length - e) + 4 ≤ n → (iloop n row e acc k w).isSome) ∧
    (∀ p l, 6 * (row.length - p) + 3 ≤ n → (climb n row p l).isSome) ∧ (∀ t p l, 6 * (row.length - p) + 2 ≤ n → (cloop n row t p l).isSome) := by
  intro n
  induction n with
  | zero => refine ⟨?_, ?_, ?_, ?_, ?_⟩ <;> intros <;> omega
  | succ n ih =>
    obtain ⟨h1, h2, h3, h4, h5⟩ := ih
    have lt : ∀ {p : Nat} {t : Tk}, row[p]? = some t → p < row.length := fun e => (List.getElem?_eq_some_iff.mp e).1
    refine ⟨?_, ?_, ?_, ?_, ?_⟩
    · intro p hn
      unfold one
      split
      · rfl
      · rfl
      · rename_i e
        have := lt e
        split
        · exact h2 _ _ _ (by omega)
        · rfl
      · rename_i e
        have := lt e
        exact h2 _ _ _ (by omega)
      · rename_i e
        have := lt e
        split
        · exact h2 _ _ _ (by omega)
        · rfl
      · rename_i e
        have := lt e
        have s := h4 (p + 1) 0 (by omega)
        split
        · rename_i e'; rw [e'] at s; cases s
        · rfl
        · split <;> rfl
      · rename_i e
        have := lt e
        exact h1 _ (by omega)
      · rename_i e
        have := lt e
        have s := h4 (p + 1) 12 (by omega)
        split
        · rename_i e'; rw [e'] at s; cases s
        · rfl
        · rfl
      · rename_i e
        have := lt e
        have s := h4 (p + 1) 6 (by omega)
        split
        · rename_i e'; rw [e'] at s; cases s
        · rfl
        · rfl
      · rfl
    · intro p k w hn
      unfold inside
      split
      · rename_i e
        have := lt e
        exact h3 _ _ _ _ (by omega)
      · rfl
    · intro e acc k w hn
      unfold iloop
      have s := h4 e 0 (by omega)
      split
      · rename_i e'; rw [e'] at s; cases s
      · rfl
      · rename_i e'
        have a := (adv row n).2.2.2.1 _ _ _ _ e'
        split
        · rename_i e2
          have := lt e2
          exact h3 _ _ _ _ (by omega)
        · split <;> rfl
    · intro p l hn
      unfold climb
      have s := h1 p (by omega)
      split
      · rename_i e'; rw [e'] at s; cases s
      · rfl
      · rename_i e'
        have a := (adv row n).1 _ _ _ e'
        exact h5 _ _ _ (by omega)
    · intro t p l hn
      unfold cloop
      split
      · rfl
      · rename_i hs
        have := strength_lt (row := row) (p := p) (by omega)
        have s := h4 (p + 1) (strengthAt row p + 1) (by omega)
        split
        · rename_i e'; rw [e'] at s; cases s
        · rfl
        · rename_i e'
          have a := (adv row n).2.2.2.1 _ _ _ _ e'
          exact h5 _ _ _ (by omega)

noncomputable def Pend (b : Nat) (X : List Dat) (Y : List (Str × Nat)) (t : Dat) : Prop := ∀ s, s ≤ b → ∀ ds os, joinUp s (X ++ ds) (Y ++ os) = joinUp s (t :: ds) os
theorem Pend.nil (b : Nat) (t : Dat) : Pend b [t] [] t := fun _ _ _ _ => rfl
theorem Pend.un {b q : Nat} {X : List Dat} {Y : List (Str × Nat)} {t : Dat} {o : Str} (h : Pend b X Y t) (hb : b ≤ q) (ho : isUn o = true) : Pend b X (Y ++ [(o, q)]) (unDat o t) := by
  intro s hs ds os
  rw [List.append_assoc, h s hs, List.cons_append, List.nil_append]
  show (if q < s then _ else if isUn o then _ else _) = _
  rw [if_neg (by omega), if_pos ho]
theorem Pend.two {b q : Nat} {X : List Dat} {Y : List (Str × Nat)} {t t' : Dat} {o : Str} (h : Pend b X Y t') (hb : b ≤ q) (ho : isUn o = false) : Pend b (X ++ [t]) (Y ++ [(o, q)]) (twoDat o t t') := by
  intro s hs ds os
  rw [List.append_assoc, List.append_assoc, h s hs, List.cons_append, List.nil_append, List.cons_append, List.nil_append]
  show (if q < s then _ else if isUn o then _ else _) = _
  rw [if_neg (by omega), if_neg (by rw [ho]; exact Bool.false_ne_true)]
theorem joinUp_stop (s : Nat) (ds : List Dat) : ∀ os : List (Str × Nat), (∀ o q r, os = (o, q) :: r → q < s) → joinUp s ds os = some (ds, os)
  | [], _ => rfl
  | (o, q) :: r, h => by
    show (if q < s then _ else _) = _
    rw [if_pos (h o q r rfl)]

noncomputable def TopOk (least : Nat) (os : List (Str × Nat)) : Prop := ∀ o q r, os = (o, q) :: r → ∀ t : Tk, max least 1 ≤ t.bin → q < t.bin
theorem TopOk.nil (l : Nat) : TopOk l [] := fun _ _ _ e => nomatch e
theorem bin_cases : ∀ t : Tk, t.bin = 0 ∨ (t.bin ≠ 6 ∧ t.bin ≠ 12 ∧ isUn t.told = false) := by
  intro t
  cases t with
  | bop j => right; revert j; decide
  | plus => right; decide
  | minus => right; decide
  | _ => left; rfl
theorem TopOk.neg {o : Str} {r : List (Str × Nat)} : TopOk 12 ((o, 12) :: r) := by
  intro o' q r' e t ht
  cases e
  rcases bin_cases t with h | h <;> omega
theorem TopOk.not {o : Str} {r : List (Str × Nat)} : TopOk 6 ((o, 6) :: r) := by
  intro o' q r' e t ht
  cases e
  rcases bin_cases t with h | h <;> omega
theorem TopOk.bin {b : Nat} {o : Str} {r : List (Str × Nat)} : TopOk (b + 1) ((o, b) :: r) := by
  intro o' q r' e t ht
  cases e
  omega
theorem TopOk.at {least : Nat} {os : List (Str × Nat)} (h : TopOk least os) {row : List Tk} {p : Nat} (hp : max least 1 ≤ strengthAt row p) : ∀ o q r, os = (o, q) :: r → q < strengthAt row p := by
  intro o q r e
  unfold strengthAt at hp ⊢
  split
  · rename_i t e'
    rw [e'] at hp
    exact h o q r e t hp
  · rename_i e'
    rw [e'] at hp
    have : 1 ≤ max least 1 := Nat.le_max_right _ _
    have hp' : max least 1 ≤ 0 := hp
    omega
theorem told_bin {row : List Tk} {p : Nat} (h : strengthAt row p ≠ 0) : isUn (toldAt row p) = false := by
  unfold strengthAt at h
  unfold toldAt
  split at h
  · rename_i t e
    rcases bin_cases t with q | q
    · exact absurd q h
    · exact q.2.2
  · exact absurd rfl h

noncomputable abbrev grown (lv : Lv) (X : List Dat) (Y : List (Str × Nat)) : Lv := { lv with opds := X ++ lv.opds, oprs := Y ++ lv.oprs }
/-- the machine goes from an operand's place to the place behind it -/
noncomputable def Goes (row : List Tk) (lv : Lv) (lvs : List Lv) (p : Nat) (t : Dat) (q : Nat) (c : Nat → Prop) : Prop :=
  ∃ k X Y, (∀ j, run (k + j) row (lv :: lvs) true p = run j row (grown lv X Y :: lvs) false q) ∧ Pend (strengthAt row q) X Y t ∧ c (strengthAt row q)
noncomputable def Fails (row : List Tk) (lvs : List Lv) (opd : Bool) (p q : Nat) : Prop := ∃ k, run k row lvs opd p = some (.bad q)
theorem run_succ {n : Nat} {row : List Tk} {lvs lvs' : List Lv} {o o' : Bool} {p p' : Nat} (h : step row lvs o p = .go lvs' o' p') : run (n + 1) row lvs o p = run n row lvs' o' p' := by
  show (match step row lvs o p with | .go lvs' opd' p' => run n row lvs' opd' p' | .fin [lv] p' => (finLv lv).map fun d => Res.ok d p' | .fin _ _ => none | .fail p' => some (Res.bad p') | .junk => none) = _
  rw [h]
theorem run_fail {row : List Tk} {lvs : List Lv} {o : Bool} {p p' : Nat} (h : step row lvs o p = .fail p') : Fails row lvs o p p' := ⟨1, by
  show (match step row lvs o p with | .go lvs' opd' p' => run 0 row lvs' opd' p' | .fin [lv] p' => (finLv lv).map fun d => Res.ok d p' | .fin _ _ => none | .fail p' => some (Res.bad p') | .junk => none) = _
  rw [h]⟩
theorem Fails.back {row : List Tk} {lvs lvs' : List Lv} {o o' : Bool} {p p' q : Nat} (h : step row lvs o p = .go lvs' o' p') (f : Fails row lvs' o' p' q) : Fails row lvs o p q := let ⟨k, e⟩ := f; ⟨k + 1, (run_succ h).trans e⟩
theorem Fails.behind {row : List Tk} {lvs lvs' : List Lv} {o o' : Bool} {p p' q k : Nat} (h : ∀ j, run (k + j) row lvs o p = run j row lvs' o' p') (f : Fails row lvs' o' p' q) : Fails row lvs o p q := let ⟨j, e⟩ := f; ⟨k + j, (h j).trans e⟩

theorem nameKind_ok : ∀ i : Fin 3, nameKind i ≠ Str.ofString "top" ∧ nameKind i ≠ Str.ofString "group" := by decide
noncomputable def special : Option Tk → Bool
  | some (.num _) | some .text | some (.name _) | some .len | some .rnd | some .lpar | some .plus | some .minus | some .nott => true
  | _ => false
theorem plain_fail {row : List Tk} {lvs : List Lv} {p : Nat} (h : special row[p]? = false) : step row lvs true p = .fail p := by
  cases q : row[p]? with
  | none => simp [step, stepOpd, plainAt, q]
  | some t => rw [q] at h; cases t <;> first | (simp [step, stepOpd, plainAt, q]; done) | (exact Bool.noConfusion h)
theorem one_plain {n : Nat} {row : List Tk} {p : Nat} (h : special row[p]? = false) : one (n + 1) row p = some (.bad p) := by
  cases q : row[p]? with
  | none => simp [one, q]
  | some t => rw [q] at h; cases t <;> first | (simp [one, q]; done) | (exact Bool.noConfusion h)
theorem goes_atom {row : List Tk} {lv : Lv} {lvs : List Lv} {p q : Nat} {t : Dat} (h : step row (lv :: lvs) true p = .go (pushOpd (lv :: lvs) t) false q) : Goes row lv lvs p t q fun _ => True :=
  ⟨1, [t], [], fun j => by rw [Nat.add_comm]; exact run_succ h, Pend.nil _ _, trivial⟩

theorem finLv_closed {lv : Lv} {X : List Dat} {Y : List (Str × Nat)} {t : Dat} {b : Nat} (h : Pend b X Y t) (h1 : lv.opds = []) (h2 : lv.oprs = []) :
    finLv (grown lv X Y) = if lv.kind = Str.ofString "top" ∨ lv.kind = Str.ofString "group" then some t else some (callDat lv.kind lv.word (lv.args ++ [t])) := by
  unfold finLv
  have e := h 0 (Nat.zero_le _) [] []
  show (match joinUp 0 (X ++ lv.opds) (Y ++ lv.oprs) with | some ([d], []) => _ | _ => none) = _
  rw [h1, h2, e]
  rfl

section
variable (row : List Tk) (hrow : row.length ≤ 20)
include hrow
theorem agree : ∀ n,
    (∀ p res lv lvs, one n row p = some res → (lv :: lvs).length ≤ p + 1 → (match res with | .ok t q => Goes row lv lvs p t q (fun _ => True) | .bad q => Fails row (lv :: lvs) true p q)) ∧
    (∀ p k w res lvs, inside n row p k w = some res → row[p]? = some .lpar → k ≠ Str.ofString "top" → k ≠ Str.ofString "group" → lvs.length ≤ p → lvs ≠ [] →
      (match res with | .ok t q => ∃ m, ∀ j, run (m + j) row (openLv lvs k w) true (p + 1) = run j row (pushOpd lvs t) false q | .bad q => Fails row (openLv lvs k w) true (p + 1) q)) ∧
    (∀ e acc k w res lvs, iloop n row e acc k w = some res → k ≠ Str.ofString "top" → k ≠ Str.ofString "group" → lvs.length + 1 ≤ e + 1 → lvs ≠ [] →
      (match res with | .ok t q => ∃ m, ∀ j, run (m + j) row ({ kind := k, word := w, args := acc, opds := [], oprs := [] } :: lvs) true e = run j row (pushOpd lvs t) false q | .bad q => Fails row ({ kind := k, word := w, args := acc, opds := [], oprs := [] } :: lvs) true e q)) ∧
    (∀ p l res lv lvs, climb n row p l = some res → (lv :: lvs).length ≤ p + 1 → TopOk l lv.oprs → (match res with | .ok t q => Goes row lv lvs p t q (fun s => s < max l 1) | .bad q => Fails row (lv :: lvs) true p q)) ∧
    (∀ t p l res lv lvs X Y, cloop n row t p l = some res → (lv :: lvs).length ≤ p + 1 → TopOk l lv.oprs → Pend (strengthAt row p) X Y t →
      (match res with | .ok t' q => ∃ k X' Y', (∀ j, run (k + j) row (grown lv X Y :: lvs) false p = run j row (grown lv X' Y' :: lvs) false q) ∧ Pend (strengthAt row q) X' Y' t' ∧ strengthAt row q < max l 1 | .bad q => Fails row (grown lv X Y :: lvs) false p q)) := by
  intro n
  induction n with
  | zero => refine ⟨?_, ?_, ?_, ?_, ?_⟩ <;> intros <;> simp_all [one, inside, iloop, climb, cloop]
  | succ n ih =>
    obtain ⟨h1, h2, h3, h4, h5⟩ := ih
    have lt : ∀ {p : Nat} {t : Tk}, row[p]? = some t → p < row.length := fun e => (List.getElem?_eq_some_iff.mp e).1
    refine ⟨?_, ?_, ?_, ?_, ?_⟩
    · intro p res lv lvs h hl
      have hl' : lvs.length ≤ p := by simpa using hl
      cases hsp : special row[p]? with
      | false =>
        rw [one_plain hsp] at h
        cases h
        exact run_fail (plain_fail hsp)
      | true =>
      unfold one at h
      split at h
      · rename_i e; cases h
        exact goes_atom (by simp [step, stepOpd, plainAt, e])
      · rename_i e; cases h
        exact goes_atom (by simp [step, stepOpd, plainAt, e])
      · rename_i i e
        split at h
        · rename_i e1
          have st : step row (lv :: lvs) true p = .go (openLv (lv :: lvs) (nameKind i) (nameStr i)) true (p + 2) := by
            have := lt e
            simp [step, stepOpd, plainAt, e, e1]; omega
          have kk := nameKind_ok i
          have z := h2 _ _ _ _ (lv :: lvs) h e1 kk.1 kk.2 (by simpa using hl) (by simp)
          cases res with
          | ok t q =>
            obtain ⟨m, hm⟩ := z
            exact ⟨m + 1, [t], [], fun j => by rw [Nat.add_right_comm, run_succ st]; exact hm j, Pend.nil _ _, trivial⟩
          | bad q => exact Fails.back st z
        · rename_i e1; cases h
          exact goes_atom (by simp [step, stepOpd, plainAt, e, e1])
      · rename_i e
        by_cases e1 : row[p + 1]? = some .lpar
        · have st : step row (lv :: lvs) true p = .go (openLv (lv :: lvs) (Str.ofString "call") (Str.ofString "LEN")) true (p + 2) := by
            have := lt e
            simp [step, stepOpd, plainAt, e, e1]; omega
          have z := h2 _ _ _ _ (lv :: lvs) h e1 (by decide) (by decide) (by simpa using hl) (by simp)
          cases res with
          | ok t q =>
            obtain ⟨m, hm⟩ := z
            exact ⟨m + 1, [t], [], fun j => by rw [Nat.add_right_comm, run_succ st]; exact hm j, Pend.nil _ _, trivial⟩
          | bad q => exact Fails.back st z
        · have : res = .bad (p + 1) := by
            cases n with
            | zero => simp [inside] at h
            | succ n => simp [inside, e1] at h; exact h.symm
          subst this
          exact run_fail (by simp [step, stepOpd, plainAt, e, e1])
      · rename_i e
        split at h
        · rename_i e1
          have st : step row (lv :: lvs) true p = .go (openLv (lv :: lvs) (Str.ofString "call") (Str.ofString "RND")) true (p + 2) := by
            have := lt e
            simp [step, stepOpd, plainAt, e, e1]; omega
          have z := h2 _ _ _ _ (lv :: lvs) h e1 (by decide) (by decide) (by simpa using hl) (by simp)
          cases res with
          | ok t q =>
            obtain ⟨m, hm⟩ := z
            exact ⟨m + 1, [t], [], fun j => by rw [Nat.add_right_comm, run_succ st]; exact hm j, Pend.nil _ _, trivial⟩
          | bad q => exact Fails.back st z
        · rename_i e1; cases h
          exact goes_atom (by simp [step, stepOpd, plainAt, e, e1])
      · rename_i e
        have st : step row (lv :: lvs) true p = .go (openLv (lv :: lvs) (Str.ofString "group") (Str.ofString "")) true (p + 1) := by
          have := lt e
          simp [step, stepOpd, plainAt, e]; omega
        split at h
        · cases h
        · rename_i q e2; cases h
          have z := h4 _ _ _ { kind := Str.ofString "group", word := Str.ofString "", args := [], opds := [], oprs := [] } (lv :: lvs) e2 (by simp; omega) (TopOk.nil _)
          exact Fails.back st z
        · rename_i t q e2
          obtain ⟨m, X, Y, hm, hP, hs⟩ := h4 _ _ _ { kind := Str.ofString "group", word := Str.ofString "", args := [], opds := [], oprs := [] } (lv :: lvs) e2 (by simp; omega) (TopOk.nil _)
          have hs0 : strengthAt row q = 0 := by have : strengthAt row q < max 0 1 := hs; simp at this; exact this
          split at h
          · rename_i e3; cases h
            have st2 : step row (grown { kind := Str.ofString "group", word := Str.ofString "", args := [], opds := [], oprs := [] } X Y :: lv :: lvs) false q = .go (pushOpd (lv :: lvs) t) false (q + 1) := by
              have fl := finLv_closed (lv := { kind := Str.ofString "group", word := Str.ofString "", args := [], opds := [], oprs := [] }) hP rfl rfl
              simp only [step, stepOpr, hs0, e3, fl]
              simp [pushOpd]
              decide
            refine ⟨m + 2, [t], [], fun j => ?_, Pend.nil _ _, trivial⟩
            rw [show m + 2 + j = (m + (j + 1)) + 1 from by omega, run_succ st, show openLv (lv :: lvs) (Str.ofString "group") (Str.ofString "") = { kind := Str.ofString "group", word := Str.ofString "", args := [], opds := [], oprs := [] } :: lv :: lvs from rfl, hm (j + 1), run_succ st2]
            rfl
          · rename_i e3; cases h
            refine Fails.back st (Fails.behind hm (run_fail ?_))
            simp only [step, stepOpr, hs0, e3]
            simp
            decide
      · rename_i e
        have st : step row (lv :: lvs) true p = .go (lv :: lvs) true (p + 1) := by simp [step, stepOpd, plainAt, e]
        have z := h1 _ _ lv lvs h (by simp at hl ⊢; omega)
        cases res with
        | ok t q =>
          obtain ⟨m, X, Y, hm, hP, _⟩ := z
          exact ⟨m + 1, X, Y, fun j => by rw [Nat.add_right_comm, run_succ st]; exact hm j, hP, trivial⟩
        | bad q => exact Fails.back st z
      · rename_i e
        have st : step row (lv :: lvs) true p = .go (pushOpr (lv :: lvs) (Str.ofString "neg") 12) true (p + 1) := by simp [step, stepOpd, plainAt, e]
        split at h
        · cases h
        · rename_i q e2; cases h
          exact Fails.back st (h4 _ _ _ { lv with oprs := (Str.ofString "neg", 12) :: lv.oprs } lvs e2 (by simp at hl ⊢; omega) TopOk.neg)
        · rename_i t q e2; cases h
          obtain ⟨m, X, Y, hm, hP, hs⟩ := h4 _ _ _ { lv with oprs := (Str.ofString "neg", 12) :: lv.oprs } lvs e2 (by simp at hl ⊢; omega) TopOk.neg
          refine ⟨m + 1, X, Y ++ [(Str.ofString "neg", 12)], fun j => ?_, hP.un (by have : strengthAt row q < max 12 1 := hs; simp at this; omega) (by decide), trivial⟩
          rw [Nat.add_right_comm, run_succ st]
          have := hm j
          simpa [grown, pushOpr] using this
      · rename_i e
        have st : step row (lv :: lvs) true p = .go (pushOpr (lv :: lvs) (Str.ofString "not") 6) true (p + 1) := by simp [step, stepOpd, plainAt, e]
        split at h
        · cases h
        · rename_i q e2; cases h
          exact Fails.back st (h4 _ _ _ { lv with oprs := (Str.ofString "not", 6) :: lv.oprs } lvs e2 (by simp at hl ⊢; omega) TopOk.not)
        · rename_i t q e2; cases h
          obtain ⟨m, X, Y, hm, hP, hs⟩ := h4 _ _ _ { lv with oprs := (Str.ofString "not", 6) :: lv.oprs } lvs e2 (by simp at hl ⊢; omega) TopOk.not
          refine ⟨m + 1, X, Y ++ [(Str.ofString "not", 6)], fun j => ?_, hP.un (by have : strengthAt row q < max 6 1 := hs; simp at this; omega) (by decide), trivial⟩
          rw [Nat.add_right_comm, run_succ st]
          have := hm j
          simpa [grown, pushOpr] using this
      · rename_i g1 g2 g3 g4 g5 g6 g7 g8 g9
        exfalso
        cases q : row[p]? with
        | none => rw [q] at hsp; cases hsp
        | some t => cases t <;> first | (rw [q] at hsp; exact Bool.noConfusion hsp) | exact g1 _ q | exact g2 q | exact g3 _ q | exact g4 q | exact g5 q | exact g6 q | exact g7 q | exact g8 q | exact g9 q
    · intro p k w res lvs h e hk1 hk2 hl hne
      unfold inside at h
      rw [if_pos e] at h
      have z := h3 _ _ _ _ _ lvs h hk1 hk2 (by omega) hne
      exact z
    · intro e acc k w res lvs h hk1 hk2 hl hne
      unfold iloop at h
      split at h
      · cases h
      · rename_i q e2; cases h
        exact h4 _ _ _ _ lvs e2 (by simpa using hl) (TopOk.nil _)
      · rename_i t q e2
        have aq := (adv row n).2.2.2.1 _ _ _ _ e2
        obtain ⟨m, X, Y, hm, hP, hs⟩ := h4 _ _ _ { kind := k, word := w, args := acc, opds := [], oprs := [] } lvs e2 (by simpa using hl) (TopOk.nil _)
        have hs0 : strengthAt row q = 0 := by have : strengthAt row q < max 0 1 := hs; simp at this; exact this
        split at h
        · rename_i e3
          have st2 : step row (grown { kind := k, word := w, args := acc, opds := [], oprs := [] } X Y :: lvs) false q = .go ({ kind := k, word := w, args := acc ++ [t], opds := [], oprs := [] } :: lvs) true (q + 1) := by
            have j0 : joinUp 0 (X ++ []) (Y ++ []) = some ([t], []) := hP 0 (Nat.zero_le _) [] []
            simp only [step, stepOpr, hs0, e3, j0]
            simp [hk1, hk2]
          have z := h3 _ _ _ _ _ lvs h hk1 hk2 (by omega) hne
          cases res with
          | ok t' q' =>
            obtain ⟨m', hm'⟩ := z
            exact ⟨m + (m' + 1), fun j => by rw [show m + (m' + 1) + j = m + ((m' + j) + 1) from by omega, hm, run_succ st2]; exact hm' j⟩
          | bad q' => exact Fails.behind hm (Fails.back st2 z)
        · rename_i e3
          split at h
          · rename_i e4; cases h
            obtain ⟨lv', r', rfl⟩ := List.exists_cons_of_ne_nil hne
            have fl := finLv_closed (lv := { kind := k, word := w, args := acc, opds := [], oprs := [] }) hP rfl rfl
            have st2 : step row (grown { kind := k, word := w, args := acc, opds := [], oprs := [] } X Y :: lv' :: r') false q = .go (pushOpd (lv' :: r') (callDat k w (acc ++ [t]))) false (q + 1) := by
              simp only [step, stepOpr, hs0, e3, e4, fl]
              simp [hk1, hk2, pushOpd]
            exact ⟨m + 1, fun j => by rw [show m + 1 + j = m + (j + 1) from by omega, hm, run_succ st2]⟩
          · rename_i e4; cases h
            refine Fails.behind hm (run_fail ?_)
            simp only [step, stepOpr, hs0, e3, e4]
            simp [hk1]
    · intro p l res lv lvs h hl hT
      unfold climb at h
      split at h
      · cases h
      · rename_i q e; cases h
        exact h1 _ _ _ _ e hl
      · rename_i t q e
        have aq := (adv row n).1 _ _ _ e
        obtain ⟨m, X, Y, hm, hP, _⟩ := h1 _ _ _ _ e hl
        have z := h5 _ _ _ _ lv lvs X Y h (by omega) hT hP
        cases res with
        | ok t' q' =>
          obtain ⟨k, X', Y', hk, hP', hs'⟩ := z
          exact ⟨m + k, X', Y', fun j => by rw [Nat.add_assoc, hm, hk], hP', hs'⟩
        | bad q' => exact Fails.behind hm z
    · intro t p l res lv lvs X Y h hl hT hP
      unfold cloop at h
      split at h
      · rename_i hs; cases h
        exact ⟨0, X, Y, fun j => by rw [Nat.zero_add], hP, hs⟩
      · rename_i hs
        have hs' : max l 1 ≤ strengthAt row p := by omega
        have hne : strengthAt row p ≠ 0 := by have : 1 ≤ max l 1 := Nat.le_max_right _ _; omega
        have st : step row (grown lv X Y :: lvs) false p = .go ({ lv with opds := t :: lv.opds, oprs := (toldAt row p, strengthAt row p) :: lv.oprs } :: lvs) true (p + 1) := by
          have j0 : joinUp (strengthAt row p) (X ++ lv.opds) (Y ++ lv.oprs) = some (t :: lv.opds, lv.oprs) := by
            rw [hP _ (Nat.le_refl _)]
            exact joinUp_stop _ _ _ (hT.at hs')
          simp only [step, stepOpr, grown, j0]
          simp [hne]
        split at h
        · cases h
        · rename_i q e; cases h
          exact Fails.back st (h4 _ _ _ { lv with opds := t :: lv.opds, oprs := (toldAt row p, strengthAt row p) :: lv.oprs } lvs e (by simp at hl ⊢; omega) TopOk.bin)
        · rename_i t' q e
          have aq := (adv row n).2.2.2.1 _ _ _ _ e
          obtain ⟨m, X', Y', hm, hP', hs2⟩ := h4 _ _ _ { lv with opds := t :: lv.opds, oprs := (toldAt row p, strengthAt row p) :: lv.oprs } lvs e (by simp at hl ⊢; omega) TopOk.bin
          have hb : strengthAt row q ≤ strengthAt row p := by have : strengthAt row q < max (strengthAt row p + 1) 1 := hs2; omega
          have hP2 : Pend (strengthAt row q) (X' ++ [t]) (Y' ++ [(toldAt row p, strengthAt row p)]) (twoDat (toldAt row p) t t') := hP'.two hb (told_bin hne)
          have z := h5 _ _ _ _ lv lvs (X' ++ [t]) (Y' ++ [(toldAt row p, strengthAt row p)]) h (by simp at hl ⊢; omega) hT hP2
          have ge : grown { lv with opds := t :: lv.opds, oprs := (toldAt row p, strengthAt row p) :: lv.oprs } X' Y' = grown lv (X' ++ [t]) (Y' ++ [(toldAt row p, strengthAt row p)]) := by simp [grown]
          rw [ge] at hm
          cases res with
          | ok t2 q2 =>
            obtain ⟨k, X2, Y2, hk, hP3, hs3⟩ := z
            exact ⟨(m + k) + 1, X2, Y2, fun j => by rw [show m + k + 1 + j = (m + (k + j)) + 1 from by omega, run_succ st, hm, hk], hP3, hs3⟩
          | bad q2 => exact Fails.back st (Fails.behind hm z)

noncomputable def topLv : Lv := { kind := Str.ofString "top", word := Str.ofString "", args := [], opds := [], oprs := [] }
theorem agree_top {n : Nat} {res : Res} (h : climb n row 0 0 = some res) : ∃ k, run k row [topLv] true 0 = some res := by
  have z := (agree row hrow n).2.2.2.1 0 0 res topLv [] h (by simp) (TopOk.nil _)
  cases res with
  | bad q => exact z
  | ok t q =>
    obtain ⟨m, X, Y, hm, hP, hs⟩ := z
    have hs0 : strengthAt row q = 0 := by have : strengthAt row q < max 0 1 := hs; simp at this; exact this
    refine ⟨m + 1, (hm 1).trans ?_⟩
    have st : step row [grown topLv X Y] false q = .fin [grown topLv X Y] q := by
      simp only [step, stepOpr, hs0]
      simp [topLv]
    have fl := finLv_closed (lv := topLv) hP rfl rfl
    show (match step row [grown topLv X Y] false q with | .go lvs' opd' p' => run 0 row lvs' opd' p' | .fin [lv] p' => (finLv lv).map fun d => Res.ok d p' | .fin _ _ => none | .fail p' => some (Res.bad p') | .junk => none) = _
    rw [st]
    show (finLv (grown topLv X Y)).map (fun d => Res.ok d q) = _
    rw [fl]
    rfl
end
theorem climbs (row : List Tk) : ∃ n res, climb n row 0 0 = some res := by
  have s := (total row (6 * (row.length - 0) + 3)).2.2.2.1 0 0 (Nat.le_refl _)
  obtain ⟨r, hr⟩ := Option.isSome_iff_exists.mp s
  exact ⟨_, r, hr⟩
end
section
open PySem PySem.W PyProof.Rows PySem.Calls
noncomputable def KT (row : List Tk) (p : Nat) (kd td : Str) : Prop := (row[p]? = none ∧ kd = Str.ofString "end" ∧ td = Str.ofString "") ∨ ∃ t, row[p]? = some t ∧ kd = t.kind ∧ td = t.told
theorem bop_kind : ∀ j : Fin 13, Tk.kind (.bop j) ≠ Str.ofString "number" ∧ Tk.kind (.bop j) ≠ Str.ofString "text" ∧ Tk.kind (.bop j) ≠ Str.ofString "name" := by decide +kernel
theorem bop_told : ∀ j : Fin 13, ∀ x ∈ ["LEN", "RND", "(", "+", "-", "NOT"].map Str.ofString, Tk.told (.bop j) ≠ x := by decide +kernel
theorem name_told : ∀ j : Fin 3, ∀ x ∈ ["LEN", "RND", "(", "+", "-", "NOT"].map Str.ofString, Tk.told (.name j) ≠ x := by decide +kernel
theorem num_told : ∀ j : Bool, ∀ x ∈ ["LEN", "RND", "(", "+", "-", "NOT"].map Str.ofString, Tk.told (.num j) ≠ x := by decide +kernel
section
variable {row : List Tk} {p : Nat} {kd td : Str}
theorem KT.num (h : KT row p kd td) (e : kd = Str.ofString "number") : ∃ b, row[p]? = some (.num b) ∧ td = if b then Str.ofString "1.5" else Str.ofString "12" := by
  rcases h with ⟨_, h, _⟩ | ⟨t, h1, h2, h3⟩
  · rw [e] at h; exact absurd h (by decide)
  · rw [e] at h2
    cases t with
    | num b => exact ⟨b, h1, h3⟩
    | bop j => exact absurd h2.symm (bop_kind j).1
    | name b => exact absurd (show Str.ofString "number" = Str.ofString "name" from h2) (by decide)
    | _ => exact absurd h2 (by decide)
theorem KT.text (h : KT row p kd td) (e : kd = Str.ofString "text") : row[p]? = some .text ∧ td = Str.ofString "t" := by
  rcases h with ⟨_, h, _⟩ | ⟨t, h1, h2, h3⟩
  · rw [e] at h; exact absurd h (by decide)
  · rw [e] at h2
    cases t with
    | text => exact ⟨h1, h3⟩
    | bop j => exact absurd h2.symm (bop_kind j).2.1
    | num b => exact absurd (show Str.ofString "text" = Str.ofString "number" from h2) (by decide)
    | name b => exact absurd (show Str.ofString "text" = Str.ofString "name" from h2) (by decide)
    | _ => exact absurd h2 (by decide)
theorem KT.name (h : KT row p kd td) (e : kd = Str.ofString "name") : ∃ i, row[p]? = some (.name i) ∧ td = nameStr i := by
  rcases h with ⟨_, h, _⟩ | ⟨t, h1, h2, h3⟩
  · rw [e] at h; exact absurd h (by decide)
  · rw [e] at h2
    cases t with
    | name b => exact ⟨b, h1, h3⟩
    | bop j => exact absurd h2.symm (bop_kind j).2.2
    | num b => exact absurd (show Str.ofString "name" = Str.ofString "number" from h2) (by decide)
    | _ => exact absurd h2 (by decide)
theorem KT.told (h : KT row p kd td) {x : Str} (e : td = x) (hx : x ∈ ["LEN", "RND", "(", "+", "-", "NOT"].map Str.ofString) :
    (row[p]? = some .len ∧ x = Str.ofString "LEN" ∧ kd = Str.ofString "word") ∨ (row[p]? = some .rnd ∧ x = Str.ofString "RND" ∧ kd = Str.ofString "word") ∨ (row[p]? = some .lpar ∧ x = Str.ofString "(" ∧ kd = Str.ofString "sign") ∨ (row[p]? = some .plus ∧ x = Str.ofString "+" ∧ kd = Str.ofString "sign") ∨ (row[p]? = some .minus ∧ x = Str.ofString "-" ∧ kd = Str.ofString "sign") ∨ (row[p]? = some .nott ∧ x = Str.ofString "NOT" ∧ kd = Str.ofString "word") := by
  rcases h with ⟨_, _, h⟩ | ⟨t, h1, h2, h3⟩
  · rw [h] at e; rw [← e] at hx; exact absurd hx (by decide)
  · rw [e] at h3
    cases t with
    | len => exact .inl ⟨h1, h3, h2⟩
    | rnd => exact .inr (.inl ⟨h1, h3, h2⟩)
    | lpar => exact .inr (.inr (.inl ⟨h1, h3, h2⟩))
    | plus => exact .inr (.inr (.inr (.inl ⟨h1, h3, h2⟩)))
    | minus => exact .inr (.inr (.inr (.inr (.inl ⟨h1, h3, h2⟩))))
    | nott => exact .inr (.inr (.inr (.inr (.inr ⟨h1, h3, h2⟩))))
    | bop j => exact absurd h3.symm (bop_told j x hx)
    | name j => exact absurd h3.symm (name_told j x hx)
    | num j => exact absurd h3.symm (num_told j x hx)
    | _ => rw [h3] at hx; exact absurd hx (by decide)
theorem KT.sg (h : KT row p kd td) (s : String) (hs : s ∈ ["LEN", "RND", "(", "+", "-", "NOT"]) (e : td = Str.ofString s) (t : Tk) (ht : t.told = Str.ofString s) (hk : t ∈ [Tk.len, .rnd, .lpar, .plus, .minus, .nott]) : row[p]? = some t := by
  have z := h.told e (List.mem_map_of_mem hs)
  simp only [List.mem_cons, List.not_mem_nil, or_false] at hk
  rcases hk with rfl | rfl | rfl | rfl | rfl | rfl <;>
  · rcases z with ⟨z, y, _⟩ | ⟨z, y, _⟩ | ⟨z, y, _⟩ | ⟨z, y, _⟩ | ⟨z, y, _⟩ | ⟨z, y, _⟩ <;> first | exact z | (rw [← ht] at y; exact absurd y (by decide))
/-- what no operand begins with -/
theorem KT.bad (h : KT row p kd td) (n : Nat) (h1 : ¬ kd = Str.ofString "number") (h2 : ¬ kd = Str.ofString "text") (h3 : ¬ kd = Str.ofString "name") (h4 : ¬ td = Str.ofString "LEN") (h5 : ¬ td = Str.ofString "RND")
    (h6 : ¬ (kd = Str.ofString "sign" ∧ td = Str.ofString "(")) (h7 : ¬ (kd = Str.ofString "sign" ∧ td = Str.ofString "+")) (h8 : ¬ (kd = Str.ofString "sign" ∧ td = Str.ofString "-")) (h9 : ¬ (kd = Str.ofString "word" ∧ td = Str.ofString "NOT")) : one (n + 1) row p = some (.bad p) := by
  unfold one
  rcases h with ⟨e, _, _⟩ | ⟨t, e, rfl, rfl⟩
  · rw [e]
  · rw [e]
    cases t with
    | num b => exact absurd rfl h1
    | text => exact absurd rfl h2
    | name i => exact absurd rfl h3
    | len => exact absurd rfl h4
    | rnd => exact absurd rfl h5
    | lpar => exact absurd ⟨rfl, rfl⟩ h6
    | plus => exact absurd ⟨rfl, rfl⟩ h7
    | minus => exact absurd ⟨rfl, rfl⟩ h8
    | nott => exact absurd ⟨rfl, rfl⟩ h9
    | _ => rfl
theorem KT.plain_open (h : KT row p kd td) (h1 : ¬ kd = Str.ofString "number") (h2 : ¬ kd = Str.ofString "text") (ho : row[p + 1]? = some .lpar) : plainAt row p = none := by
  unfold plainAt
  rcases h with ⟨e, _, _⟩ | ⟨t, e, rfl, rfl⟩
  · rw [e]
  · rw [e]
    cases t with
    | num b => exact absurd rfl h1
    | text => exact absurd rfl h2
    | name i => dsimp only; rw [if_pos ho]
    | rnd => dsimp only; rw [if_pos ho]
    | _ => rfl
theorem KT.plain_none (h : KT row p kd td) (h1 : ¬ kd = Str.ofString "number") (h2 : ¬ kd = Str.ofString "text") (h3 : ¬ kd = Str.ofString "name") (h4 : ¬ td = Str.ofString "RND") : plainAt row p = none := by
  unfold plainAt
  rcases h with ⟨e, _, _⟩ | ⟨t, e, rfl, rfl⟩
  · rw [e]
  · rw [e]
    cases t with
    | num b => exact absurd rfl h1
    | text => exact absurd rfl h2
    | name i => exact absurd rfl h3
    | rnd => exact absurd rfl h4
    | _ => rfl
theorem KT.ok (h : KT row p kd td) : PyData.strOk kd = true ∧ PyData.strOk td = true := by
  have hb : ∀ j : Fin 13, PyData.strOk (Tk.kind (.bop j)) = true ∧ PyData.strOk (Tk.told (.bop j)) = true := by decide +kernel
  have hn : ∀ j : Fin 3, PyData.strOk (Tk.kind (.name j)) = true ∧ PyData.strOk (Tk.told (.name j)) = true := by decide +kernel
  have hd : ∀ j : Bool, PyData.strOk (Tk.kind (.num j)) = true ∧ PyData.strOk (Tk.told (.num j)) = true := by decide +kernel
  rcases h with ⟨_, rfl, rfl⟩ | ⟨t, e, rfl, rfl⟩
  · decide +kernel
  · cases t with
    | bop j => exact hb j
    | name j => exact hn j
    | num j => exact hd j
    | _ => decide +kernel
end
end
section
open PySem PySem.W PyProof.Rows PySem.Calls
/-- what a whole thing in parentheses comes to -/
noncomputable def parR (row : List Tk) : Res → Res
  | .bad q => .bad q
  | .ok t q => if row[q]? = some .rpar then .ok t (q + 1) else .bad q
noncomputable def unR (o : Str) : Res → Res
  | .bad q => .bad q
  | .ok t q => .ok (unDat o t) q
section
variable {row : List Tk} {n p : Nat} {res : Res}
theorem one_num {b : Bool} (h : row[p]? = some (.num b)) (r : one (n + 1) row p = some res) : res = .ok (numDat b) (p + 1) := by
  unfold one at r; rw [h] at r; exact (Option.some.inj r).symm
theorem one_text (h : row[p]? = some .text) (r : one (n + 1) row p = some res) : res = .ok (leafDat (Str.ofString "text") (Str.ofString "t")) (p + 1) := by
  unfold one at r; rw [h] at r; exact (Option.some.inj r).symm
theorem one_name1 {i : Fin 3} (h : row[p]? = some (.name i)) (o : row[p + 1]? = some .lpar) (r : one (n + 1) row p = some res) : inside n row (p + 1) (nameKind i) (nameStr i) = some res := by
  unfold one at r; rw [h] at r; exact (if_pos o).symm.trans r
theorem one_name0 {i : Fin 3} (h : row[p]? = some (.name i)) (o : ¬ row[p + 1]? = some .lpar) (r : one (n + 1) row p = some res) : res = .ok (nameDat i) (p + 1) := by
  unfold one at r; rw [h] at r; exact (Option.some.inj ((if_neg o).symm.trans r)).symm
theorem one_len (h : row[p]? = some .len) (r : one (n + 1) row p = some res) : inside n row (p + 1) (Str.ofString "call") (Str.ofString "LEN") = some res := by
  unfold one at r; rw [h] at r; exact r
theorem one_rnd1 (h : row[p]? = some .rnd) (o : row[p + 1]? = some .lpar) (r : one (n + 1) row p = some res) : inside n row (p + 1) (Str.ofString "call") (Str.ofString "RND") = some res := by
  unfold one at r; rw [h] at r; exact (if_pos o).symm.trans r
theorem one_rnd0 (h : row[p]? = some .rnd) (o : ¬ row[p + 1]? = some .lpar) (r : one (n + 1) row p = some res) : res = .ok (callDat (Str.ofString "call") (Str.ofString "RND") []) (p + 1) := by
  unfold one at r; rw [h] at r; exact (Option.some.inj ((if_neg o).symm.trans r)).symm
theorem one_plus (h : row[p]? = some .plus) (r : one (n + 1) row p = some res) : one n row (p + 1) = some res := by
  unfold one at r; rw [h] at r; exact r
theorem one_lpar (h : row[p]? = some .lpar) (r : one (n + 1) row p = some res) : ∃ x, climb n row (p + 1) 0 = some x ∧ res = parR row x := by
  unfold one at r; rw [h] at r; dsimp only at r
  cases e : climb n row (p + 1) 0 with
  | none => rw [e] at r; cases r
  | some x =>
    refine ⟨x, rfl, Option.some.inj (r.symm.trans ?_)⟩
    rw [e]
    cases x with
    | bad q => rfl
    | ok t q => dsimp only [parR]; split <;> rfl
theorem one_un {o : Str} {k : Nat} {t : Tk} (h : row[p]? = some t) (w : (t = .minus ∧ o = Str.ofString "neg" ∧ k = 12) ∨ (t = .nott ∧ o = Str.ofString "not" ∧ k = 6)) (r : one (n + 1) row p = some res) : ∃ x, climb n row (p + 1) k = some x ∧ res = unR o x := by
  rcases w with ⟨rfl, rfl, rfl⟩ | ⟨rfl, rfl, rfl⟩ <;>
  · unfold one at r; rw [h] at r; dsimp only at r
    split at r
    · cases r
    · rename_i e; exact ⟨_, e, (Option.some.inj r).symm⟩
    · rename_i e; exact ⟨_, e, (Option.some.inj r).symm⟩
end
noncomputable def climbR (row : List Tk) (l n : Nat) : Res → Option Res
  | .bad q => some (.bad q)
  | .ok t q => cloop n row t q l
theorem climb_1 {row : List Tk} {n p l : Nat} {res : Res} (h : climb (n + 1) row p l = some res) : ∃ r, one n row p = some r ∧ climbR row l n r = some res := by
  unfold climb at h
  split at h
  · cases h
  · rename_i e; exact ⟨_, e, h⟩
  · rename_i e; exact ⟨_, e, h⟩
noncomputable def cloopR (row : List Tk) (t : Dat) (q l k : Nat) : Res → Option Res
  | .bad r => some (.bad r)
  | .ok t' r => cloop k row (twoDat (toldAt row q) t t') r l
theorem cloop_0 {row : List Tk} {k q l : Nat} {t : Dat} {res : Res} (lt : strengthAt row q < max l 1) (h : cloop (k + 1) row t q l = some res) : res = .ok t q := by
  unfold cloop at h; exact (Option.some.inj ((if_pos lt).symm.trans h)).symm
theorem cloop_1 {row : List Tk} {k q l : Nat} {t : Dat} {res : Res} (lt : ¬ strengthAt row q < max l 1) (h : cloop (k + 1) row t q l = some res) : ∃ r, climb k row (q + 1) (strengthAt row q + 1) = some r ∧ cloopR row t q l k r = some res := by
  unfold cloop at h
  have h := (if_neg lt).symm.trans h
  split at h
  · cases h
  · rename_i e; exact ⟨_, e, h⟩
  · rename_i e; exact ⟨_, e, h⟩
noncomputable def iloopR (row : List Tk) (acc : List Dat) (kd wd : Str) (k : Nat) : Res → Option Res
  | .bad q => some (.bad q)
  | .ok t q => if row[q]? = some .comma then iloop k row (q + 1) (acc ++ [t]) kd wd else if row[q]? = some .rpar then some (.ok (callDat kd wd (acc ++ [t])) (q + 1)) else some (.bad q)
theorem iloop_1 {row : List Tk} {k e : Nat} {acc : List Dat} {kd wd : Str} {res : Res} (h : iloop (k + 1) row e acc kd wd = some res) : ∃ r, climb k row e 0 = some r ∧ iloopR row acc kd wd k r = some res := by
  unfold iloop at h
  split at h
  · cases h
  · rename_i e; exact ⟨_, e, h⟩
  · rename_i e; exact ⟨_, e, h⟩
theorem inside_1 {row : List Tk} {n p : Nat} {kd wd : Str} {res : Res} (e : row[p]? = some .lpar) (h : inside (n + 1) row p kd wd = some res) : iloop n row (p + 1) [] kd wd = some res := by
  unfold inside at h; exact (if_pos e).symm.trans h
theorem inside_0 {row : List Tk} {n p : Nat} {kd wd : Str} {res : Res} (e : ¬ row[p]? = some .lpar) (h : inside (n + 1) row p kd wd = some res) : res = .bad p := by
  unfold inside at h; exact (Option.some.inj ((if_neg e).symm.trans h)).symm
end
section
open PySem PySem.W PyProof.Rows PySem.Calls
set_option maxRecDepth 100000
noncomputable abbrev LS : List Str := looseW V loose
noncomputable abbrev PG : Program := PySem.Challenge.rw_pq0176_01.row.prog
noncomputable abbrev Led := List (Addr × Obj)
/-- the ledger's two parts lie apart: what may change, and what stays -/
noncomputable def Sep (own imm : Led) : Prop := ∀ q ∈ own, ∀ p ∈ imm, p.1 ≠ q.1
theorem Sep.nil (imm : Led) : Sep [] imm := fun _ h => nomatch h
theorem News.sub {h₀ h : Heap} {L : Addr} {a b : Led} (N : News h₀ L h a) (s : ∀ p ∈ b, p ∈ a) : News h₀ L h b := fun p hp => N p (s p hp)
theorem News.join {h₀ h : Heap} {L : Addr} {a b : Led} (N : News h₀ L h a) (M : News h₀ L h b) : News h₀ L h (a ++ b) := fun p hp => (List.mem_append.mp hp).elim (N p) (M p)

/-- a def of the text: its place, its name, its parts -/
structure Def where
  f : Addr
  qual : Str
  name : Str
  A : Arguments
  B : List Stmt
  C : Scope
  cd : Addr
  pm : Value
  dV : Value := .none

structure Def.Is (D : Def) : Prop where
  at_ : ∀ P, (K P).lookup D.f = some ⟨.type "function", none, .func (fnOf D.name D.qual D.A D.B D.C D.dV .none .none D.pm none (.ref D.cd) .none), #[]⟩
  code : ∀ P, codeIn (K P) (.ref D.cd) D.qual = true
  cell : ∀ x ∈ D.C.names, x.2 ≠ .cell
  co : D.C.isCoroutine = false
  gen : D.C.isGenerator = false
  kind : D.C.kind = .function

section
variable {w : World} {D : Def} {mean : ExcName → Option Value} {mg mb : Str → Option Value} {A A₀ : Around} {env : Env} {outer : List Env} {base h₀ : Heap} {L : Addr} {m : Str → Option Value} {own imm : Led} {s : Shared} {Q E : Value → Shared → Prop}

theorem enter {binds : List (Str × Value)} {vs : List Value} (I : D.Is) (B : Below A₀ base outer h₀) (F : Fr h₀ L s.heap m) (X : (K w.params).In h₀) (N : News h₀ L s.heap (own ++ imm)) (T : Top V LS mean mg mb h₀)
    (hA : A.frames = some (env :: outer)) (hf : env.frame = some L) (hke : env.scope.kind = .function) (hroom : A.depth < recursionLimit)
    (hbind : BindsTo s (fnOf D.name D.qual D.A D.B D.C D.dV .none .none D.pm none (.ref D.cd) .none) ⟨vs, []⟩ binds) (hloc : (binds.all fun x => decide (D.C.names.lookup x.1 = some .local)) = true)
    (h : ∀ g L' h₁, Fr h₀ L g m → Fr g L' h₁ (fun y => binds.reverse.lookup y) → News g L' h₁ imm → Below A base (env :: outer) g → (K w.params).In g → Top V LS mean mg mb g →
      wpAny (model PySem.Challenge.rw_pq0176_01.row.prog w) (A.deeper (envOf D.qual D.C L' D.f (.ref D.cd))) (execs D.B (envOf D.qual D.C L' D.f (.ref D.cd)))
        (fun fl s' => ∃ m' imm', Fr g L' s'.heap m' ∧ News g L' s'.heap imm' ∧ (Fr h₀ L s'.heap m → News h₀ L s'.heap (own ++ imm') → Sep own imm' → Q (match fl with | .ret v => v | _ => .none) s'))
        (fun e s' => wpAny (model PySem.Challenge.rw_pq0176_01.row.prog w) (A.deeper (envOf D.qual D.C L' D.f (.ref D.cd))) (leaving (envOf D.qual D.C L' D.f (.ref D.cd)) e) (fun _ s'' => E e s'') (fun e' s'' => E e' s'') s')
        { s with heap := h₁, toks := s.toks + binds.length })
    (S : Sep own imm) : wpAny (model PySem.Challenge.rw_pq0176_01.row.prog w) A (call (.ref D.f) vs) Q E s := by
  have Ni : News h₀ L s.heap imm := News.sub N fun p hp => List.mem_append_right _ hp
  have No : News h₀ L s.heap own := News.sub N fun p hp => List.mem_append_left _ hp
  obtain ⟨FG, BG, st, lv⟩ := groundX (R := fun r s' => match r with | .ok (.ret v) => Q v s' | .ok _ => False | .error e => E e s') B F Ni hA hf hke
  have ho := (X.keeps F.keep) _ _ (I.at_ w.params)
  have og : ∀ q ∈ own, (hideAll s.heap (imm.map (·.1))).get? q.1 = some q.2 := fun q hq => hideAll_get _ (No q hq).1 fun hm => by
    obtain ⟨p, hp, e⟩ := List.mem_map.mp hm
    exact S q hq p hp e
  refine wpAny_call (codeAny_call_def (fd := fnOf D.name D.qual D.A D.B D.C D.dV .none .none D.pm none (.ref D.cd) .none) (body := D.B) (binds := binds) hroom ho rfl (T.nolimit.keeps F.keep) (codeRec_of (X.keeps F.keep) (I.code w.params)) rfl hbind I.cell (locs hloc) (fun h₁ hns hk₁ => ?_) I.co I.gen I.kind)
  refine wpAny_mono (h _ s.heap.objs.size h₁ FG ⟨hns, fun b o e => hk₁ b o (of_hideAll _ e), Nat.le_of_eq (hideAll_size _ _)⟩
    (fun p hp => ⟨hk₁ _ _ (Ni p hp).1, Nat.ne_of_lt (Heap.lt_size (Ni p hp).1), hideAll_none _ (List.mem_map_of_mem hp)⟩) BG (X.keeps st) (T.keeps st)) (fun fl s' hl => ?_) fun _ _ y => y
  obtain ⟨m', imm', F', N', k⟩ := hl
  refine lv _ s' ⟨_, m', imm', F', N', fun FR NR => k FR (News.join (fun q hq => ⟨F'.keep _ _ (og q hq), (No q hq).2⟩) NR) fun q hq p hp e => ?_⟩
  have := (N' p hp).2.2
  rw [e, og q hq] at this
  cases this
end

/-- a call that leaves all as it was and hands on new things -/
noncomputable def Calls (w : World) (f : Addr) (vs : List Value) (d u : Nat) (Pre : Led → Prop) (Post : Led → Value → Prop) : Prop :=
  ∀ (mean : ExcName → Option Value) (mg mb : Str → Option Value) (dp un : Nat) (gd : Option (List Code)) (cn : Str) (cs : Scope) (a : Addr) (ccd : Value) (cl : List (Str × Addr)) (outer : List Env) (A₀ : Around) (base h₀ : Heap) (L : Addr) (m : Str → Option Value) (own imm : Led) (s : Shared)
    (Q E : Value → Shared → Prop),
    Below A₀ base outer h₀ → Fr h₀ L s.heap m → (K w.params).In h₀ → News h₀ L s.heap (own ++ imm) → Top V LS mean mg mb h₀ → cs.kind = .function → Sep own imm → Pre imm → dp + d ≤ 900 → un + u ≤ 9000 →
    (∀ v imm' h' tk', Fr h₀ L h' m → News h₀ L h' (own ++ imm') → Sep own imm' → (∀ p ∈ imm, p ∈ imm') → Post imm' v → Q v { s with heap := h', toks := tk' }) →
    wpAny (model PySem.Challenge.rw_pq0176_01.row.prog w) (ktrTop dp un gd cn cs L a ccd cl outer) (call (.ref f) vs) Q E s

/-- how a body ends well -/
noncomputable def Ends (g : Heap) (L' : Addr) (imm : Led) (Post : Led → Value → Prop) (s₀ : Shared) (fl : Flow) (s' : Shared) : Prop :=
  ∃ m' imm', Fr g L' s'.heap m' ∧ News g L' s'.heap imm' ∧ (∀ p ∈ imm, p ∈ imm') ∧ Post imm' (match fl with | .ret v => v | _ => .none) ∧ s'.gens = s₀.gens ∧ s'.drawn = s₀.drawn ∧ s'.os = s₀.os

theorem calls_of {w : World} {D : Def} (I : D.Is) {vs : List Value} {d u : Nat} {Pre : Led → Prop} {Post : Led → Value → Prop} (binds : List (Str × Value))
    (hbind : ∀ s, BindsTo s (fnOf D.name D.qual D.A D.B D.C D.dV .none .none D.pm none (.ref D.cd) .none) ⟨vs, []⟩ binds) (hloc : (binds.all fun x => decide (D.C.names.lookup x.1 = some .local)) = true)
    (body : ∀ (mean : ExcName → Option Value) (mg mb : Str → Option Value) (dp un : Nat) (gd : Option (List Code)) (cn : Str) (cs : Scope) (L₀ a : Addr) (ccd : Value) (cl : List (Str × Addr)) (outer : List Env) (base g : Heap) (L : Addr) (imm : Led) (s : Shared),
      Below (ktrTop dp un gd cn cs L₀ a ccd cl outer) base (envX cn cs L₀ a ccd cl :: outer) g → Fr g L s.heap (fun y => binds.reverse.lookup y) → (K w.params).In g → News g L s.heap imm → Top V LS mean mg mb g → Pre imm → dp + d ≤ 900 → un + u ≤ 9000 →
      wpAny (model PySem.Challenge.rw_pq0176_01.row.prog w) ((ktrTop dp un gd cn cs L₀ a ccd cl outer).deeper (envOf D.qual D.C L D.f (.ref D.cd))) (execs D.B (envOf D.qual D.C L D.f (.ref D.cd))) (Ends g L imm Post s) (fun _ _ => False) s) :
    Calls w D.f vs d u Pre Post := by
  intro mean mg mb dp un gd cn cs a ccd cl outer A₀ base h₀ L m own imm s Q E B F X N T hk S hP hd hu hret
  refine enter (env := envX cn cs L a ccd cl) (outer := outer) (own := own) (imm := imm) I B F X N T rfl rfl hk (by show dp < 1000; omega) (hbind s) hloc (fun g L' h₁ FG F' N' B' X' T' => ?_) S
  refine wpAny_mono (body mean mg mb dp un gd cn cs L a ccd cl outer base g L' imm _ B' F' X' N' T' hP hd hu) (fun fl s' he => ?_) fun _ _ z => z.elim
  obtain ⟨m', imm', F2, N2, hs, hp, e1, e2, e3⟩ := he
  refine ⟨m', imm', F2, N2, fun FR NR SR => ?_⟩
  have z := hret _ imm' s'.heap s'.toks FR NR SR hs hp
  obtain ⟨hh, gg, dd, tt, oo⟩ := s'
  dsimp only at e1 e2 e3
  subst e1 e2 e3
  exact z
end
section
open PySem PySem.W PyProof.Rows PySem.Calls
set_option maxRecDepth 100000
set_option maxHeartbeats 8000000
noncomputable abbrev D_functions : Def := { f := 21, qual := Str.ofString "functions", name := Str.ofString "functions", A := A_functions, B := B_functions, C := C_functions, cd := 20, pm := .str (Str.ofString "basicplus.tokens") 187 }
theorem I_functions : D_functions.Is := ⟨fun P => by kernel_rfl, fun P => by kernel_rfl, by (show ∀ x ∈ C_functions.names, x.2 ≠ .cell); decide, by kernel_rfl, by kernel_rfl, by kernel_rfl⟩
noncomputable abbrev D_figures_of : Def := { f := 51, qual := Str.ofString "figures_of", name := Str.ofString "figures_of", A := A_figures_of, B := B_figures_of, C := C_figures_of, cd := 50, pm := .str (Str.ofString "basicplus.values") 197 }
theorem I_figures_of : D_figures_of.Is := ⟨fun P => by kernel_rfl, fun P => by kernel_rfl, by (show ∀ x ∈ C_figures_of.names, x.2 ≠ .cell); decide, by kernel_rfl, by kernel_rfl, by kernel_rfl⟩
noncomputable abbrev D_made : Def := { f := 65, qual := Str.ofString "made", name := Str.ofString "made", A := A_made, B := B_made, C := C_made, cd := 64, pm := .str (Str.ofString "basicplus.values") 197 }
theorem I_made : D_made.Is := ⟨fun P => by kernel_rfl, fun P => by kernel_rfl, by (show ∀ x ∈ C_made.names, x.2 ≠ .cell); decide, by kernel_rfl, by kernel_rfl, by kernel_rfl⟩
noncomputable abbrev D_token_at : Def := { f := 76, qual := Str.ofString "token_at", name := Str.ofString "token_at", A := A_token_at, B := B_token_at, C := C_token_at, cd := 75, pm := .str (Str.ofString "basicplus.exprread") 267 }
theorem I_token_at : D_token_at.Is := ⟨fun P => by kernel_rfl, fun P => by kernel_rfl, by (show ∀ x ∈ C_token_at.names, x.2 ≠ .cell); decide, by kernel_rfl, by kernel_rfl, by kernel_rfl⟩
noncomputable abbrev D_is_sign : Def := { f := 83, qual := Str.ofString "is_sign", name := Str.ofString "is_sign", A := A_is_sign, B := B_is_sign, C := C_is_sign, cd := 82, pm := .str (Str.ofString "basicplus.exprread") 267 }
theorem I_is_sign : D_is_sign.Is := ⟨fun P => by kernel_rfl, fun P => by kernel_rfl, by (show ∀ x ∈ C_is_sign.names, x.2 ≠ .cell); decide, by kernel_rfl, by kernel_rfl, by kernel_rfl⟩
noncomputable abbrev D_expect : Def := { f := 90, qual := Str.ofString "expect", name := Str.ofString "expect", A := A_expect, B := B_expect, C := C_expect, cd := 89, pm := .str (Str.ofString "basicplus.exprread") 267 }
theorem I_expect : D_expect.Is := ⟨fun P => by kernel_rfl, fun P => by kernel_rfl, by (show ∀ x ∈ C_expect.names, x.2 ≠ .cell); decide, by kernel_rfl, by kernel_rfl, by kernel_rfl⟩
noncomputable abbrev D_figures_at : Def := { f := 97, qual := Str.ofString "figures_at", name := Str.ofString "figures_at", A := A_figures_at, B := B_figures_at, C := C_figures_at, cd := 96, pm := .str (Str.ofString "basicplus.exprread") 267 }
theorem I_figures_at : D_figures_at.Is := ⟨fun P => by kernel_rfl, fun P => by kernel_rfl, by (show ∀ x ∈ C_figures_at.names, x.2 ≠ .cell); decide, by kernel_rfl, by kernel_rfl, by kernel_rfl⟩
noncomputable abbrev D_power_at : Def := { f := 104, qual := Str.ofString "power_at", name := Str.ofString "power_at", A := A_power_at, B := B_power_at, C := C_power_at, cd := 103, pm := .str (Str.ofString "basicplus.exprread") 267 }
theorem I_power_at : D_power_at.Is := ⟨fun P => by kernel_rfl, fun P => by kernel_rfl, by (show ∀ x ∈ C_power_at.names, x.2 ≠ .cell); decide, by kernel_rfl, by kernel_rfl, by kernel_rfl⟩
noncomputable abbrev D_number_tree : Def := { f := 111, qual := Str.ofString "number_tree", name := Str.ofString "number_tree", A := A_number_tree, B := B_number_tree, C := C_number_tree, cd := 110, pm := .str (Str.ofString "basicplus.exprread") 267 }
theorem I_number_tree : D_number_tree.Is := ⟨fun P => by kernel_rfl, fun P => by kernel_rfl, by (show ∀ x ∈ C_number_tree.names, x.2 ≠ .cell); decide, by kernel_rfl, by kernel_rfl, by kernel_rfl⟩
noncomputable abbrev D_linit : Def := { f := 125, qual := Str.ofString "Level.__init__", name := Str.ofString "__init__", A := A_linit, B := B_linit, C := C_linit, cd := 124, pm := .str (Str.ofString "basicplus.exprread") 267 }
theorem I_linit : D_linit.Is := ⟨fun P => by kernel_rfl, fun P => by kernel_rfl, by (show ∀ x ∈ C_linit.names, x.2 ≠ .cell); decide, by kernel_rfl, by kernel_rfl, by kernel_rfl⟩
noncomputable abbrev D_join_up : Def := { f := 139, qual := Str.ofString "join_up", name := Str.ofString "join_up", A := A_join_up, B := B_join_up, C := C_join_up, cd := 138, pm := .str (Str.ofString "basicplus.exprread") 267 }
theorem I_join_up : D_join_up.Is := ⟨fun P => by kernel_rfl, fun P => by kernel_rfl, by (show ∀ x ∈ C_join_up.names, x.2 ≠ .cell); decide, by kernel_rfl, by kernel_rfl, by kernel_rfl⟩
noncomputable abbrev D_finished : Def := { f := 146, qual := Str.ofString "finished", name := Str.ofString "finished", A := A_finished, B := B_finished, C := C_finished, cd := 145, pm := .str (Str.ofString "basicplus.exprread") 267 }
theorem I_finished : D_finished.Is := ⟨fun P => by kernel_rfl, fun P => by kernel_rfl, by (show ∀ x ∈ C_finished.names, x.2 ≠ .cell); decide, by kernel_rfl, by kernel_rfl, by kernel_rfl⟩
noncomputable abbrev D_opened : Def := { f := 153, qual := Str.ofString "opened", name := Str.ofString "opened", A := A_opened, B := B_opened, C := C_opened, cd := 152, pm := .str (Str.ofString "basicplus.exprread") 267 }
theorem I_opened : D_opened.Is := ⟨fun P => by kernel_rfl, fun P => by kernel_rfl, by (show ∀ x ∈ C_opened.names, x.2 ≠ .cell); decide, by kernel_rfl, by kernel_rfl, by kernel_rfl⟩
noncomputable abbrev D_plain_operand : Def := { f := 160, qual := Str.ofString "plain_operand", name := Str.ofString "plain_operand", A := A_plain_operand, B := B_plain_operand, C := C_plain_operand, cd := 159, pm := .str (Str.ofString "basicplus.exprread") 267 }
theorem I_plain_operand : D_plain_operand.Is := ⟨fun P => by kernel_rfl, fun P => by kernel_rfl, by (show ∀ x ∈ C_plain_operand.names, x.2 ≠ .cell); decide, by kernel_rfl, by kernel_rfl, by kernel_rfl⟩
noncomputable abbrev D_take_operand : Def := { f := 167, qual := Str.ofString "take_operand", name := Str.ofString "take_operand", A := A_take_operand, B := B_take_operand, C := C_take_operand, cd := 166, pm := .str (Str.ofString "basicplus.exprread") 267 }
theorem I_take_operand : D_take_operand.Is := ⟨fun P => by kernel_rfl, fun P => by kernel_rfl, by (show ∀ x ∈ C_take_operand.names, x.2 ≠ .cell); decide, by kernel_rfl, by kernel_rfl, by kernel_rfl⟩
noncomputable abbrev D_take_operator : Def := { f := 174, qual := Str.ofString "take_operator", name := Str.ofString "take_operator", A := A_take_operator, B := B_take_operator, C := C_take_operator, cd := 173, pm := .str (Str.ofString "basicplus.exprread") 267 }
theorem I_take_operator : D_take_operator.Is := ⟨fun P => by kernel_rfl, fun P => by kernel_rfl, by (show ∀ x ∈ C_take_operator.names, x.2 ≠ .cell); decide, by kernel_rfl, by kernel_rfl, by kernel_rfl⟩
noncomputable abbrev D_expression : Def := { f := 181, qual := Str.ofString "expression", name := Str.ofString "expression", A := A_expression, B := B_expression, C := C_expression, cd := 180, pm := .str (Str.ofString "basicplus.exprread") 267 }
theorem I_expression : D_expression.Is := ⟨fun P => by kernel_rfl, fun P => by kernel_rfl, by (show ∀ x ∈ C_expression.names, x.2 ≠ .cell); decide, by kernel_rfl, by kernel_rfl, by kernel_rfl⟩
noncomputable abbrev D_binds : Def := { f := 188, qual := Str.ofString "_law_binds", name := Str.ofString "_law_binds", A := A_binds, B := B_binds, C := C_binds, cd := 187, pm := .str (Str.ofString "law_pq0176_01") 513 }
theorem I_binds : D_binds.Is := ⟨fun P => by kernel_rfl, fun P => by kernel_rfl, by (show ∀ x ∈ C_binds.names, x.2 ≠ .cell); decide, by kernel_rfl, by kernel_rfl, by kernel_rfl⟩
noncomputable abbrev D_poured : Def := { f := 195, qual := Str.ofString "_law_poured", name := Str.ofString "_law_poured", A := A_poured, B := B_poured, C := C_poured, cd := 194, pm := .str (Str.ofString "law_pq0176_01") 513 }
theorem I_poured : D_poured.Is := ⟨fun P => by kernel_rfl, fun P => by kernel_rfl, by (show ∀ x ∈ C_poured.names, x.2 ≠ .cell); decide, by kernel_rfl, by kernel_rfl, by kernel_rfl⟩
noncomputable abbrev D_token : Def := { f := 202, qual := Str.ofString "_law_token", name := Str.ofString "_law_token", A := A_token, B := B_token, C := C_token, cd := 201, pm := .str (Str.ofString "law_pq0176_01") 513 }
theorem I_token : D_token.Is := ⟨fun P => by kernel_rfl, fun P => by kernel_rfl, by (show ∀ x ∈ C_token.names, x.2 ≠ .cell); decide, by kernel_rfl, by kernel_rfl, by kernel_rfl⟩
noncomputable abbrev D_after : Def := { f := 214, qual := Str.ofString "_law_after", name := Str.ofString "_law_after", A := A_after, B := B_after, C := C_after, cd := 213, pm := .str (Str.ofString "law_pq0176_01") 513 }
theorem I_after : D_after.Is := ⟨fun P => by kernel_rfl, fun P => by kernel_rfl, by (show ∀ x ∈ C_after.names, x.2 ≠ .cell); decide, by kernel_rfl, by kernel_rfl, by kernel_rfl⟩
noncomputable abbrev D_is_bad : Def := { f := 221, qual := Str.ofString "_law_is_bad", name := Str.ofString "_law_is_bad", A := A_is_bad, B := B_is_bad, C := C_is_bad, cd := 220, pm := .str (Str.ofString "law_pq0176_01") 513 }
theorem I_is_bad : D_is_bad.Is := ⟨fun P => by kernel_rfl, fun P => by kernel_rfl, by (show ∀ x ∈ C_is_bad.names, x.2 ≠ .cell); decide, by kernel_rfl, by kernel_rfl, by kernel_rfl⟩
noncomputable abbrev D_inside : Def := { f := 228, qual := Str.ofString "_law_inside", name := Str.ofString "_law_inside", A := A_inside, B := B_inside, C := C_inside, cd := 227, pm := .str (Str.ofString "law_pq0176_01") 513 }
theorem I_inside : D_inside.Is := ⟨fun P => by kernel_rfl, fun P => by kernel_rfl, by (show ∀ x ∈ C_inside.names, x.2 ≠ .cell); decide, by kernel_rfl, by kernel_rfl, by kernel_rfl⟩
noncomputable abbrev D_one : Def := { f := 235, qual := Str.ofString "_law_one", name := Str.ofString "_law_one", A := A_one, B := B_one, C := C_one, cd := 234, pm := .str (Str.ofString "law_pq0176_01") 513 }
theorem I_one : D_one.Is := ⟨fun P => by kernel_rfl, fun P => by kernel_rfl, by (show ∀ x ∈ C_one.names, x.2 ≠ .cell); decide, by kernel_rfl, by kernel_rfl, by kernel_rfl⟩
noncomputable abbrev D_climb : Def := { f := 242, qual := Str.ofString "_law_climb", name := Str.ofString "_law_climb", A := A_climb, B := B_climb, C := C_climb, cd := 241, pm := .str (Str.ofString "law_pq0176_01") 513 }
theorem I_climb : D_climb.Is := ⟨fun P => by kernel_rfl, fun P => by kernel_rfl, by (show ∀ x ∈ C_climb.names, x.2 ≠ .cell); decide, by kernel_rfl, by kernel_rfl, by kernel_rfl⟩
end
section
open PySem PySem.W PyProof.Rows PySem.Calls PyProof.V PySem.Spec
set_option maxRecDepth 100000
set_option maxHeartbeats 8000000
theorem ends0 {g : Heap} {L : Addr} {imm : Led} {Post : Led → Value → Prop} {s s' : Shared} {v : Value} {m : Str → Option Value} (F : Fr g L s'.heap m) (N : News g L s'.heap imm) (p : Post imm v) (e1 : s'.gens = s.gens := by rfl) (e2 : s'.drawn = s.drawn := by rfl) (e3 : s'.os = s.os := by rfl) :
    Ends g L imm Post s (.ret v) s' := ⟨m, imm, F, N, fun _ h => h, p, e1, e2, e3⟩
theorem endsN {g : Heap} {L : Addr} {imm imm' : Led} {Post : Led → Value → Prop} {s s' : Shared} {v : Value} {m : Str → Option Value} (F : Fr g L s'.heap m) (N : News g L s'.heap imm') (b : ∀ p ∈ imm, p ∈ imm') (p : Post imm' v) (e1 : s'.gens = s.gens := by rfl) (e2 : s'.drawn = s.drawn := by rfl) (e3 : s'.os = s.os := by rfl) :
    Ends g L imm Post s (.ret v) s' := ⟨m, imm', F, N, b, p, e1, e2, e3⟩

noncomputable abbrev tupO (vs : List Value) (n : Nat := 0) : Obj := { cls := .type "tuple", data := .seq vs.toArray n }
noncomputable def tkD (t : Tk) : Dat := .tuple [.str t.kind, .str t.told]
/-- the row stands in the ledger -/
noncomputable def RowIn (imm : Led) (ra : Addr) (row : List Tk) : Prop := DatIn imm (.ref ra) (.list (row.map tkD))
theorem RowIn.mono {imm imm' : Led} {ra : Addr} {row : List Tk} (h : RowIn imm ra row) (s : ∀ p ∈ imm, p ∈ imm') : RowIn imm' ra row := DatIn.mono s h
theorem RowIn.open {imm : Led} {ra : Addr} {row : List Tk} (h : RowIn imm ra row) : ∃ vs n, (ra, listOf vs.toArray n) ∈ imm ∧ DatAll imm vs (row.map tkD) ∧ vs.length = row.length := by
  cases h with
  | list hm ha => exact ⟨_, _, hm, ha, by rw [ha.length, List.length_map]⟩
theorem inTup {led : Led} {v : Value} {ds : List Dat} (h : DatIn led v (.tuple ds)) : ∃ a vs n, v = .ref a ∧ (a, tupO vs n) ∈ led ∧ DatAll led vs ds := by
  cases h with | tuple hm ha => exact ⟨_, _, _, rfl, hm, ha⟩
theorem inInt {led : Led} {v : Value} {i : Int} (h : DatIn led v (.int i)) : ∃ t, v = .int i t := by cases h; exact ⟨_, rfl⟩
theorem inStr {led : Led} {v : Value} {x : Str} (h : DatIn led v (.str x)) : ∃ t, v = .str x t := by cases h; exact ⟨_, rfl⟩
theorem inBool {led : Led} {v : Value} {b : Bool} (h : DatIn led v (.bool b)) : v = .bool b := by cases h; rfl
theorem inCons {led : Led} {vs : List Value} {d : Dat} {ds : List Dat} (h : DatAll led vs (d :: ds)) : ∃ x xs, vs = x :: xs ∧ DatIn led x d ∧ DatAll led xs ds := by
  cases h with | cons a b => exact ⟨_, _, rfl, a, b⟩
theorem inNil {led : Led} {vs : List Value} (h : DatAll led vs []) : vs = [] := by cases h; rfl
theorem pair_open {imm : Led} {v : Value} {d e : Dat} (h : DatIn imm v (.tuple [d, e])) : ∃ a n x y, v = .ref a ∧ (a, tupO [x, y] n) ∈ imm ∧ DatIn imm x d ∧ DatIn imm y e :=
  let ⟨a, _, n, ev, hm, ha⟩ := inTup h
  let ⟨x, _, e1, h1, r⟩ := inCons ha
  let ⟨y, _, e2, h2, r2⟩ := inCons r
  ⟨a, n, x, y, ev, (congrArg (fun z => (a, tupO z n) ∈ imm) (e1.trans (congrArg (x :: ·) (e2.trans (congrArg (y :: ·) (inNil r2)))))).mp hm, h1, h2⟩
theorem tok_open {imm : Led} {v : Value} {t : Tk} (h : DatIn imm v (tkD t)) : ∃ a n t1 t2, v = .ref a ∧ (a, tupO [.str t.kind t1, .str t.told t2] n) ∈ imm := by
  obtain ⟨a, n, x, y, e, hm, h1, h2⟩ := pair_open h
  obtain ⟨t1, rfl⟩ := inStr h1
  obtain ⟨t2, rfl⟩ := inStr h2
  exact ⟨a, n, t1, t2, e, hm⟩
theorem row_at {imm : Led} {vs : List Value} {row : List Tk} (h : DatAll imm vs (row.map tkD)) {p : Nat} {t : Tk} (ht : row[p]? = some t) : ∃ v, vs[p]? = some v ∧ DatIn imm v (tkD t) := by
  obtain ⟨hl, e⟩ := List.getElem?_eq_some_iff.mp ht
  obtain ⟨v, h1, h2⟩ := h.get (k := p) (by rw [List.length_map]; exact hl)
  refine ⟨v, h1, ?_⟩
  rw [List.getElem_map, e] at h2
  exact h2
end
section
open PySem PySem.W PyProof.Rows PySem.Calls PyProof.V PySem.Spec
set_option maxRecDepth 100000
set_option maxHeartbeats 8000000
theorem pick1 (vs : List Value) (p : Nat) : slicePick vs.toArray (some (p : Int)) (some ((p : Int) + 1)) none = ((vs.drop p).take 1).toArray := by
  have e : sliceBounds (some (p : Int)) (some ((p : Int) + 1)) none vs.toArray.size = (((min p vs.toArray.size : Nat) : Int), ((min (p + 1) vs.toArray.size : Nat) : Int), 1) := by
    simp only [sliceBounds, Option.getD_none, show (1 : Int) > 0 by decide, if_true, if_neg (show ¬ ((p : Int) < 0) by omega), if_neg (show ¬ ((p : Int) + 1 < 0) by omega)]
    congr 1
    · omega
    · congr 1
      omega
  rw [kmk_pick_nat _ e]
  show ((vs.drop (min p vs.toArray.size)).take (min (p + 1) vs.toArray.size - min p vs.toArray.size)).toArray = _
  rw [List.size_toArray, kmk_drop_min]
  by_cases h : p < vs.length
  · rw [show min (p + 1) vs.length - min p vs.length = 1 by omega]
  · rw [List.drop_of_length_le (by omega)]
    simp

/-- the signs that are asked for -/
noncomputable def Tk.isSg : Tk → Bool
  | .lpar | .rpar | .comma => true
  | _ => false
theorem bop_not (j : Fin 13) : bopStr j ≠ Str.ofString "(" ∧ bopStr j ≠ Str.ofString ")" ∧ bopStr j ≠ Str.ofString "," := by revert j; decide
theorem tkD_sg {t sg : Tk} (h : sg.isSg = true) : tkD t = tkD sg ↔ t = sg := by
  constructor
  · intro e
    simp only [tkD, Dat.tuple.injEq, List.cons.injEq, Dat.str.injEq, and_true] at e
    obtain ⟨e1, e2⟩ := e
    cases sg <;> first | (exact Bool.noConfusion h) | skip
    all_goals
      cases t with
      | bop j => have := bop_not j; exact absurd e2 (by first | exact this.1 | exact this.2.1 | exact this.2.2)
      | num b => exact absurd (show Str.ofString "number" = _ from e1) (by decide)
      | name i => exact absurd (show Str.ofString "name" = _ from e1) (by decide)
      | _ => first | rfl | exact absurd e2 (by decide) | exact absurd e1 (by decide)
  · rintro rfl; rfl
theorem sg_kind {sg : Tk} (h : sg.isSg = true) : sg.kind = Str.ofString "sign" := by cases sg <;> first | rfl | exact Bool.noConfusion h
theorem tk_ok : ∀ t : Tk, kqdOk 1 (tkD t) = true := by
  intro t
  cases t with
  | bop j => revert j; decide +kernel
  | name i => revert i; decide +kernel
  | num b => revert b; decide +kernel
  | _ => decide +kernel

section
variable {w : World} {A : Around} {E : Value → Shared → Prop} {s : Shared} {g : Heap} {L : Addr} {led imm : Led} {Q : Value → Shared → Prop}
open Classical in
/-- two lists of data compared -/
theorem eq_lists {a b : Addr} {xs ys : List Value} {ka kb : Nat} {ds es : List Dat} (n : Nat) (N : News g L s.heap led) (ma : (a, listOf xs.toArray ka) ∈ led) (Da : DatAll led xs ds) (mb : (b, listOf ys.toArray kb) ∈ led) (Db : DatAll led ys es)
    (ha : ∀ d ∈ ds, kqdOk n d = true) (hb : ∀ d ∈ es, kqdOk n d = true) (hn : n ≤ 60) (hu : A.units ≤ 9500) (h : Q (.bool (decide (ds = es))) s) : wpAny (model PySem.Challenge.rw_pq0176_01.row.prog w) A (compareOp .Eq (.ref a) (.ref b)) Q E s := by
  obtain ⟨as, ra⟩ := kqd_all N n Da ha
  obtain ⟨bs, rb⟩ := kqd_all N n Db hb
  have la := kqd_lay (n + 1) (.list ds) (by simpa [kqdOk] using ha)
  have lb := kqd_lay (n + 1) (.list es) (by simpa [kqdOk] using hb)
  rw [kqdP] at la lb
  have e : PyData.eqv (.list (kqdPs ds)) (.list (kqdPs es)) = decide (ds = es) := by
    have q := kqd_eqv (n + 1) (.list ds) (.list es) (n + 1) (by simpa [kqdOk] using ha) (by simpa [kqdOk] using hb)
    rw [kqdP, kqdP, Dat.list.injEq] at q
    by_cases hq : ds = es
    · rw [decide_eq_true hq]; exact q.mpr hq
    · rw [decide_eq_false hq]; exact Bool.eq_false_iff.mpr fun x => hq (q.mp x)
  refine eq_dataH (reads_list_at (N.get ma) rfl rfl (by simpa [W.listOf] using ra)) (reads_list_at (N.get mb) rfl rfl (by simpa [W.listOf] using rb)) ?_ ?_ (by have := cLine_is; omega) (by rw [e]; exact h)
  · unfold SeqAt.shaped; rw [la.1, Bool.true_and]; exact decide_eq_true (Nat.le_trans la.2 (by omega))
  · unfold SeqAt.shaped; rw [lb.1, Bool.true_and]; exact decide_eq_true (Nat.le_trans lb.2 (by omega))
theorem eq_tup_str {x : Value} {ds : List Dat} {y : Str} {t : Tok} (N : News g L s.heap led) (hx : DatIn led x (.tuple ds)) (ok : kqdOk 50 (.tuple ds) = true) (hy : PyData.strOk y = true) (hu : A.units ≤ 9500) (h : Q (.bool false) s) :
    wpAny (model PySem.Challenge.rw_pq0176_01.row.prog w) A (compareOp .Eq x (.str y t)) Q E s := by
  obtain ⟨as, ra⟩ := kqd_in N 50 hx ok
  have la := kqd_lay 50 (.tuple ds) ok
  refine eq_dataH ra (Reads.str y t) ?_ ?_ (by have := cLine_is; omega) (by rw [kqdP]; exact h)
  · unfold SeqAt.shaped; rw [la.1, Bool.true_and]; exact decide_eq_true (Nat.le_trans la.2 (by omega))
  · unfold SeqAt.shaped; simp [PyData.canLay0, PyData.depth, hy]
theorem datAll_drop {vs : List Value} {ds : List Dat} (h : DatAll led vs ds) (p : Nat) : DatAll led (vs.drop p) (ds.drop p) := by
  induction p generalizing vs ds with
  | zero => exact h
  | succ p ih =>
    cases h with
    | nil => exact .nil
    | cons _ r => exact ih r
theorem datAll_take {vs : List Value} {ds : List Dat} (h : DatAll led vs ds) (p : Nat) : DatAll led (vs.take p) (ds.take p) := by
  induction p generalizing vs ds with
  | zero => exact .nil
  | succ p ih =>
    cases h with
    | nil => exact .nil
    | cons a r => exact .cons a (ih r)
theorem row_cut (row : List Tk) (p : Nat) : ((row.map tkD).drop p).take 1 = (row[p]?.map tkD).toList := by
  rw [← List.map_drop, ← List.map_take]
  cases h : row[p]? with
  | none => rw [List.drop_of_length_le (List.getElem?_eq_none_iff.mp h)]; rfl
  | some t =>
    obtain ⟨hl, e⟩ := List.getElem?_eq_some_iff.mp h
    rw [List.drop_eq_getElem_cons hl, e]
    rfl
/-- row[p:p+1] == [('sign', sg)] -/
theorem eq_row {a b c : Addr} {vs : List Value} {ka kb kc : Nat} {t1 t2 : Tok} {row : List Tk} {p : Nat} {sg : Tk} (hs : sg.isSg = true) (N : News g L s.heap led) (ha : DatAll led vs (row.map tkD)) (ma : (a, listOf ((vs.drop p).take 1).toArray ka) ∈ led)
    (mb : (b, listOf [.ref c].toArray kb) ∈ led) (mc : (c, tupO [.str (Str.ofString "sign") t1, .str sg.told t2] kc) ∈ led) (hu : A.units ≤ 9500) (h : Q (.bool (decide (row[p]? = some sg))) s) :
    wpAny (model PySem.Challenge.rw_pq0176_01.row.prog w) A (compareOp .Eq (.ref a) (.ref b)) Q E s := by
  rw [← sg_kind hs] at mc
  refine eq_lists 1 N ma (datAll_take (datAll_drop ha p) 1) mb (.cons (d := tkD sg) (.tuple mc (.cons (.str _ _) (.cons (.str _ _) .nil))) .nil) ?_ ?_ (by omega) hu ?_
  · intro d hd
    rw [row_cut] at hd
    cases e : row[p]? with
    | none => rw [e] at hd; cases hd
    | some t => rw [e] at hd; simp at hd; subst hd; exact tk_ok t
  · intro d hd
    simp at hd; subst hd; exact tk_ok sg
  · rw [row_cut]
    have e : (((row[p]?).map tkD).toList = [tkD sg]) ↔ row[p]? = some sg := by
      cases e : row[p]? with
      | none => simp
      | some t => simp [tkD_sg hs]
    exact (congrArg (fun b => Q (.bool b) s) (decide_eq_decide.mpr e)).mpr h
/-- row[p:p+1] -/
theorem slice_row {m : Str → Option Value} {l : Addr} {vs : List Value} {n p : Nat} {t1 t2 : Tok} {value slice : PySem.Expr} (F : Fr g L s.heap m) (N : News g L s.heap led) (hl : (l, listOf vs.toArray n) ∈ led) (hz : vs.length ≤ 100)
    (h : ∀ D h', Fr g L h' m → News g L h' ((D, listOf ((vs.drop p).take 1).toArray 0) :: led) → (∀ q ∈ led, q.1 < D) → Q (.ref D) { s with heap := h' })
    (hs : subscripted slice false (.ref l) (.ref s.heap.objs.size) = operate [.ref s.heap.objs.size, .ref l] (getItem (.ref l) (.ref s.heap.objs.size))) (ht : ∀ r, letTemporaryGo value (.ref l) r = pure ()) :
    wpAny (model PySem.Challenge.rw_pq0176_01.row.prog w) A (subscriptTail value slice (.ref l) (.ref s.heap.objs.size)) Q E { s with heap := s.heap.push { cls := .type "slice", data := .fields #[.int (p : Int) t1, .int ((p : Int) + 1) t2, .none] } } := by
  refine kmk_slice F N (News.isList N hl) (.int _ _) (.int _ _) (fun D h' F' N' l1 => h D h' F' (by rw [pick1] at N'; exact N') l1) hs ht (by rw [List.size_toArray, sizeLine_eq]; omega)
end
end
section
open PySem PySem.W PyProof.Rows PySem.Calls PyProof.V PySem.Spec
theorem kqd_le : ∀ (n m : Nat) (d : Dat), n ≤ m → kqdOk n d = true → kqdOk m d = true := by
  intro n
  induction n with
  | zero => intro m d _ h; cases d <;> cases m <;> simp_all [kqdOk]
  | succ n ih =>
    intro m d hm h
    obtain ⟨m, rfl⟩ : ∃ k, m = k + 1 := ⟨m - 1, by omega⟩
    cases d with
    | tuple ds => simp only [kqdOk, List.all_eq_true] at h ⊢; exact fun x hx => ih m x (by omega) (h x hx)
    | list ds => simp only [kqdOk, List.all_eq_true] at h ⊢; exact fun x hx => ih m x (by omega) (h x hx)
    | _ => simp_all [kqdOk]
theorem num_ok : ∀ b, kqdOk 2 (numDat b) = true := by decide +kernel
theorem nameDat_ok : ∀ i, kqdOk 2 (nameDat i) = true := by decide +kernel
theorem nameStr_ok : ∀ i, PyData.strOk (nameStr i) = true ∧ PyData.strOk (nameKind i) = true := by decide +kernel
theorem told_ok (t : Tk) : PyData.strOk t.told = true := by
  have h := tk_ok t
  simp only [tkD, kqdOk, List.all_cons, List.all_nil, Bool.and_true, Bool.and_eq_true] at h
  exact h.2
theorem toldAt_ok (row : List Tk) (p : Nat) : PyData.strOk (toldAt row p) = true := by
  unfold toldAt
  split
  · exact told_ok _
  · decide +kernel
theorem un_ok {n : Nat} {o : Str} {t : Dat} (h : kqdOk n t = true) (ho : PyData.strOk o = true) : kqdOk (n + 1) (unDat o t) = true := by
  have : kqdOk n (.str o) = true := by cases n <;> simpa [kqdOk] using ho
  simp [unDat, kqdOk, h, this]
theorem strK {n : Nat} {o : Str} (ho : PyData.strOk o = true) : kqdOk n (.str o) = true := by cases n <;> simpa [kqdOk] using ho
theorem two_ok {n : Nat} {o : Str} {l r : Dat} (h : kqdOk n l = true) (h2 : kqdOk n r = true) (ho : PyData.strOk o = true) : kqdOk (n + 1) (twoDat o l r) = true := by
  simp [twoDat, kqdOk, h, h2, strK (n := n) ho, strK (n := n) (o := Str.ofString "two") (by decide +kernel)]
theorem call_ok {n : Nat} {k w : Str} {ts : List Dat} (h : ∀ t ∈ ts, kqdOk n t = true) (hk : PyData.strOk k = true) (hw : PyData.strOk w = true) : kqdOk (n + 2) (callDat k w ts) = true := by
  simp [callDat, kqdOk, hk, hw]
  exact h
section
variable (row : List Tk)
theorem sizes : ∀ n,
    (∀ p t q, one n row p = some (.ok t q) → q ≤ row.length ∧ kqdOk (2 * (q - p)) t = true) ∧
    (∀ p k w t q, inside n row p k w = some (.ok t q) → PyData.strOk k = true → PyData.strOk w = true → q ≤ row.length ∧ kqdOk (2 * (q - p)) t = true) ∧
    (∀ e acc k w t q p, iloop n row e acc k w = some (.ok t q) → p ≤ e → (∀ d ∈ acc, kqdOk (2 * (e - p)) d = true) → PyData.strOk k = true → PyData.strOk w = true → q ≤ row.length ∧ kqdOk (2 * (q - p)) t = true) ∧
    (∀ p l t q, climb n row p l = some (.ok t q) → q ≤ row.length ∧ kqdOk (2 * (q - p)) t = true) ∧
    (∀ t p l t' q p0, cloop n row t p l = some (.ok t' q) → p0 < p → p ≤ row.length → kqdOk (2 * (p - p0)) t = true → q ≤ row.length ∧ kqdOk (2 * (q - p0)) t' = true) := by
  intro n
  induction n with
  | zero => refine ⟨?_, ?_, ?_, ?_, ?_⟩ <;> intros <;> simp_all [one, inside, iloop, climb, cloop]
  | succ n ih =>
    obtain ⟨h1, h2, h3, h4, h5⟩ := ih
    obtain ⟨a1, a2, a3, a4, a5⟩ := adv row n
    have lt : ∀ {p : Nat} {t : Tk}, row[p]? = some t → p < row.length := fun e => (List.getElem?_eq_some_iff.mp e).1
    refine ⟨?_, ?_, ?_, ?_, ?_⟩
    · intro p t q h
      unfold one at h
      split at h
      · rename_i e; cases h; exact ⟨lt e, by rw [show 2 * (p + 1 - p) = 2 by omega]; exact num_ok _⟩
      · rename_i e; cases h; exact ⟨lt e, by rw [show 2 * (p + 1 - p) = 2 by omega]; decide +kernel⟩
      · rename_i i e
        split at h
        · have z := h2 _ _ _ _ _ h (nameStr_ok i).2 (nameStr_ok i).1
          exact ⟨z.1, kqd_le _ _ _ (by omega) z.2⟩
        · cases h; exact ⟨lt e, by rw [show 2 * (p + 1 - p) = 2 by omega]; exact nameDat_ok _⟩
      · have z := h2 _ _ _ _ _ h (by decide +kernel) (by decide +kernel)
        exact ⟨z.1, kqd_le _ _ _ (by omega) z.2⟩
      · rename_i e
        split at h
        · have z := h2 _ _ _ _ _ h (by decide +kernel) (by decide +kernel)
          exact ⟨z.1, kqd_le _ _ _ (by omega) z.2⟩
        · cases h; exact ⟨lt e, by rw [show 2 * (p + 1 - p) = 2 by omega]; decide +kernel⟩
      · split at h
        · cases h
        · cases h
        · rename_i e
          have z := h4 _ _ _ _ e
          have y := a4 _ _ _ _ e
          split at h
          · rename_i e2; cases h; exact ⟨lt e2, kqd_le _ _ _ (by omega) z.2⟩
          · cases h
      · have z := h1 _ _ _ h
        exact ⟨z.1, kqd_le _ _ _ (by omega) z.2⟩
      · split at h
        · cases h
        · cases h
        · rename_i e
          have z := h4 _ _ _ _ e
          have y := a4 _ _ _ _ e
          cases h
          exact ⟨z.1, kqd_le _ _ _ (by omega) (un_ok z.2 (by decide +kernel))⟩
      · split at h
        · cases h
        · cases h
        · rename_i e
          have z := h4 _ _ _ _ e
          have y := a4 _ _ _ _ e
          cases h
          exact ⟨z.1, kqd_le _ _ _ (by omega) (un_ok z.2 (by decide +kernel))⟩
      · cases h
    · intro p k w t q h hk hw
      unfold inside at h
      split at h
      · have z := h3 _ _ _ _ _ _ p h (by omega) (fun _ hd => nomatch hd) hk hw
        exact z
      · cases h
    · intro e acc k w t q p h hp hacc hk hw
      unfold iloop at h
      split at h
      · cases h
      · cases h
      · rename_i t' q' e'
        have z := h4 _ _ _ _ e'
        have y := a4 _ _ _ _ e'
        have all : ∀ d ∈ acc ++ [t'], kqdOk (2 * (q' - p)) d = true := by
          intro d hd
          rcases List.mem_append.mp hd with hd | hd
          · exact kqd_le _ _ _ (by omega) (hacc d hd)
          · rw [List.mem_singleton.mp hd]; exact kqd_le _ _ _ (by omega) z.2
        split at h
        · exact h3 _ _ _ _ _ _ p h (by omega) (fun d hd => kqd_le _ _ _ (by omega) (all d hd)) hk hw
        · split at h
          · rename_i e2
            cases h
            exact ⟨lt e2, kqd_le _ _ _ (by omega) (call_ok all hk hw)⟩
          · cases h
    · intro p l t q h
      unfold climb at h
      split at h
      · cases h
      · cases h
      · rename_i t' q' e
        have z := h1 _ _ _ e
        have y := a1 _ _ _ e
        exact h5 _ _ _ _ _ p h y z.1 z.2
    · intro t p l t' q p0 h hp hl ht
      unfold cloop at h
      split at h
      · cases h; exact ⟨hl, ht⟩
      · split at h
        · cases h
        · cases h
        · rename_i t2 r e
          have z := h4 _ _ _ _ e
          have y := a4 _ _ _ _ e
          exact h5 _ _ _ _ _ p0 h (by omega) z.1 (kqd_le _ _ _ (by omega) (two_ok (n := 2 * (r - p0) - 1) (kqd_le _ _ _ (by omega) ht) (kqd_le _ _ _ (by omega) z.2) (toldAt_ok row p)))
end
/-- a tree that is a tuple -/
noncomputable def Tre (d : Dat) : Prop := ∃ ds, d = .tuple ds
theorem trees (row : List Tk) : ∀ n,
    (∀ p t q, one n row p = some (.ok t q) → Tre t) ∧ (∀ p k w t q, inside n row p k w = some (.ok t q) → Tre t) ∧ (∀ e acc k w t q, iloop n row e acc k w = some (.ok t q) → Tre t) ∧
    (∀ p l t q, climb n row p l = some (.ok t q) → Tre t) ∧ (∀ t p l t' q, cloop n row t p l = some (.ok t' q) → Tre t → Tre t') := by
  intro n
  induction n with
  | zero => refine ⟨?_, ?_, ?_, ?_, ?_⟩ <;> intros <;> simp_all [one, inside, iloop, climb, cloop]
  | succ n ih =>
    obtain ⟨h1, h2, h3, h4, h5⟩ := ih
    refine ⟨?_, ?_, ?_, ?_, ?_⟩
    · intro p t q h
      unfold one at h
      split at h
      · rename_i b _; cases h; cases b <;> exact ⟨_, rfl⟩
      · cases h; exact ⟨_, rfl⟩
      · rename_i i _
        split at h
        · exact h2 _ _ _ _ _ h
        · cases h; unfold nameDat; split <;> exact ⟨_, rfl⟩
      · exact h2 _ _ _ _ _ h
      · split at h
        · exact h2 _ _ _ _ _ h
        · cases h; exact ⟨_, rfl⟩
      · split at h
        · cases h
        · cases h
        · rename_i e
          split at h
          · cases h; exact h4 _ _ _ _ e
          · cases h
      · exact h1 _ _ _ h
      · split at h
        · cases h
        · cases h
        · cases h; exact ⟨_, rfl⟩
      · split at h
        · cases h
        · cases h
        · cases h; exact ⟨_, rfl⟩
      · cases h
    · intro p k w t q h
      unfold inside at h
      split at h
      · exact h3 _ _ _ _ _ _ h
      · cases h
    · intro e acc k w t q h
      unfold iloop at h
      split at h
      · cases h
      · cases h
      · split at h
        · exact h3 _ _ _ _ _ _ h
        · split at h
          · cases h; exact ⟨_, rfl⟩
          · cases h
    · intro p l t q h
      unfold climb at h
      split at h
      · cases h
      · cases h
      · rename_i e
        exact h5 _ _ _ _ _ h (h1 _ _ _ e)
    · intro t p l t' q h ht
      unfold cloop at h
      split at h
      · cases h; exact ht
      · split at h
        · cases h
        · cases h
        · exact h5 _ _ _ _ _ h ⟨_, rfl⟩
end
section
open PySem PySem.W PyProof.Rows PySem.Calls
set_option maxRecDepth 100000
set_option maxHeartbeats 8000000
theorem after_ (w : World) (ra : Addr) (row : List Tk) (hr : row.length ≤ 20) (p : Nat) (t u : Tok) (sg : Tk) (hs : sg.isSg = true) : Calls w 214 [.ref ra, .int p t, .str sg.told u] 2 100 (fun imm => RowIn imm ra row) (fun imm v => if row[p]? = some sg then ∃ t', v = .int (p + 1 : Nat) t' else DatIn imm v (.tuple [dS "bad", .int p])) := by
  refine calls_of I_after [(Str.ofString "row", .ref ra), (Str.ofString "at", .int p t), (Str.ofString "sign", .str sg.told u)] (fun s => BindsTo.of_eq rfl) (by rfl) ?_
  k_fill
  intro mean mg mb dp un gd cn cs L₀ a ccd cl outer base g L imm s B F X N T hP hd hu
  dsimp only [D_after, B_after]
  obtain ⟨vs, n, hm, ha, hl⟩ := RowIn.open hP
  iterate 15 walk1
  k_dflt (refine' slice_row F N ?l ?z ?_ ?s ?t; (case l => exact hm); (case z => omega); (case s => with_unfolding_all rfl); (case t => kmk_pure))
  intro D h1 F1 N1 l1
  iterate 11 walk1
  k_dflt (refine' eq_row (row := row) (p := p) hs ?N (ha.mono ?d) ?a ?b ?c ?u ?_; (case N => k_asm); (case a => k_mem); (case b => k_mem); (case c => k_mem); (case d => intro q hq; repeat (first | exact hq | refine List.mem_cons_of_mem _ ?_)); (case u => show un + 3 ≤ 9500; omega))
  repeat' (first | walk1 | (dsimp only; walk1))
  · exact endsN (by assumption) (by assumption) (by intro q hq; repeat (first | exact hq | refine List.mem_cons_of_mem _ ?_)) (by rw [if_pos (by assumption)]; exact ⟨_, rfl⟩)
  · exact endsN (by assumption) (by assumption) (by intro q hq; repeat (first | exact hq | refine List.mem_cons_of_mem _ ?_)) (by rw [if_neg (by assumption)]; exact .tuple (by k_mem) (.cons (.str _ _) (.cons (.int _ _) .nil)))
end
section
open PySem PySem.W PyProof.Rows PySem.Calls
set_option maxRecDepth 100000
set_option maxHeartbeats 8000000
noncomputable def resD : Res → Dat
  | .ok t q => .tuple [t, .int (q : Nat)]
  | .bad q => .tuple [dS "bad", .int (q : Nat)]
noncomputable def Res.isBad : Res → Bool
  | .ok _ _ => false
  | .bad _ => true
noncomputable def Fine : Res → Prop
  | .ok t _ => Tre t ∧ kqdOk 50 t = true
  | .bad _ => True
theorem isbad_int (w : World) (i : Int) (t : Tok) : Calls w 221 [.int i t] 2 10 (fun _ => True) (fun _ v => v = .bool false) := by
  refine calls_of I_is_bad [(Str.ofString "found", .int i t)] (fun s => BindsTo.of_eq rfl) (by rfl) ?_
  k_fill
  intro mean mg mb dp un gd cn cs L₀ a ccd cl outer base g L imm s B F X N T hP hd hu
  dsimp only [D_is_bad, B_is_bad]
  repeat' (first | walk1 | (dsimp only; walk1))
  exact ends0 (by assumption) (by assumption) rfl
theorem isbad_res (w : World) (v : Value) (r : Res) (hf : Fine r) : Calls w 221 [v] 2 100 (fun imm => DatIn imm v (resD r)) (fun _ v => v = .bool r.isBad) := by
  refine calls_of I_is_bad [(Str.ofString "found", v)] (fun s => BindsTo.of_eq rfl) (by rfl) ?_
  k_fill
  intro mean mg mb dp un gd cn cs L₀ a ccd cl outer base g L imm s B F X N T hP hd hu
  dsimp only [D_is_bad, B_is_bad]
  cases r with
  | bad q =>
    obtain ⟨a, n, x, y, rfl, hm, hx, hy⟩ := pair_open hP
    cases hx
    repeat' (first | walk1 | (dsimp only; walk1))
    exact ends0 (by assumption) (by assumption) rfl
  | ok t q =>
    obtain ⟨a, n, x, y, rfl, hm, hx, hy⟩ := pair_open hP
    obtain ⟨⟨ds, rfl⟩, hk⟩ := hf
    iterate 21 walk1
    refine eq_tup_str N hx hk (by decide +kernel) (by first | exact roomV hu | (show un + 3 ≤ 9500; omega)) ?_
    repeat' (first | walk1 | (dsimp only; walk1))
    exact ends0 (by assumption) (by assumption) rfl
end
section
open PySem PySem.W PyProof.Rows PySem.Calls PyProof.V PySem.Spec
set_option maxRecDepth 100000
set_option maxHeartbeats 8000000
noncomputable def bindsL : List (Str × Int) := [(Str.ofString "^", 13), (Str.ofString "*", 11), (Str.ofString "/", 11), (Str.ofString "\\", 10), (Str.ofString "MOD", 9), (Str.ofString "+", 8), (Str.ofString "-", 8), (Str.ofString "=", 7), (Str.ofString "<", 7), (Str.ofString ">=", 7), (Str.ofString "AND", 5), (Str.ofString "OR", 4), (Str.ofString "XOR", 3), (Str.ofString "EQV", 2), (Str.ofString "IMP", 1)]
noncomputable def bindsT : List (PyData × PyData) := bindsL.map fun x => (.str x.1, .int x.2)
/-- the table of the operators stands at a -/
noncomputable def BindsAt (w : World) (imm : Led) (v : Value) : Prop := ∃ a o, v = .ref a ∧ (a, o) ∈ imm ∧ (a == sysModules) = false ∧ TabOf (strKind PySem.Challenge.rw_pq0176_01.row.prog w) PyData.str o bindsT
theorem binds_ (w : World) : Calls w 188 [] 2 10 (fun _ => True) (fun imm v => BindsAt w imm v) := by
  refine calls_of I_binds [] (fun s => BindsTo.of_eq rfl) (by rfl) ?_
  k_fill
  intro mean mg mb dp un gd cn cs L₀ a ccd cl outer base g L imm s B F X N T hP hd hu
  dsimp only [D_binds, B_binds]
  generalize hPP : Ends g L imm (fun imm v => BindsAt w imm v) s = PP
  iterate 50 walk1
  subst hPP
  refine endsN (by assumption) (by assumption) (fun q hq => List.mem_cons_of_mem _ hq) ⟨_, _, rfl, List.Mem.head _, by assumption, TabOf.intro (by assumption) ?_⟩
  exact .cons (.int _ _) (.cons (.int _ _) (.cons (.int _ _) (.cons (.int _ _) (.cons (.int _ _) (.cons (.int _ _) (.cons (.int _ _) (.cons (.int _ _) (.cons (.int _ _) (.cons (.int _ _) (.cons (.int _ _) (.cons (.int _ _) (.cons (.int _ _) (.cons (.int _ _) (.cons (.int _ _) .nil))))))))))))))
theorem bop_look : ∀ j : Fin 13, (lookup (.str (bopStr j)) bindsT).getD (.int 0) = .int (bopNum j : Nat)
  | ⟨0, _⟩ => by kernel_rfl
  | ⟨1, _⟩ => by kernel_rfl
  | ⟨2, _⟩ => by kernel_rfl
  | ⟨3, _⟩ => by kernel_rfl
  | ⟨4, _⟩ => by kernel_rfl
  | ⟨5, _⟩ => by kernel_rfl
  | ⟨6, _⟩ => by kernel_rfl
  | ⟨7, _⟩ => by kernel_rfl
  | ⟨8, _⟩ => by kernel_rfl
  | ⟨9, _⟩ => by kernel_rfl
  | ⟨10, _⟩ => by kernel_rfl
  | ⟨11, _⟩ => by kernel_rfl
  | ⟨12, _⟩ => by kernel_rfl
  | ⟨_ + 13, h⟩ => absurd h (by omega)
/-- what the table says of a token's word -/
theorem binds_at : ∀ t : Tk, (t.kind = Str.ofString "sign" ∨ t.kind = Str.ofString "word") → (lookup (.str t.told) bindsT).getD (.int 0) = .int (t.bin : Nat) := by
  intro t ht
  cases t with
  | bop j => exact bop_look j
  | num b => rcases ht with h | h <;> exact absurd (show Str.ofString "number" = _ from h) (by decide)
  | name i => rcases ht with h | h <;> exact absurd (show Str.ofString "name" = _ from h) (by decide)
  | _ => first | (kernel_rfl; done) | (rcases ht with h | h <;> exact absurd h (by decide))
theorem bin_zero : ∀ t : Tk, ¬ (t.kind = Str.ofString "sign" ∨ t.kind = Str.ofString "word") → t.bin = 0 := by
  intro t ht
  cases t with
  | bop j => exact absurd (by unfold Tk.kind; dsimp only; split <;> simp) ht
  | _ => first | rfl | exact absurd (by decide) ht
end
section
open PySem PySem.W PyProof.Rows PySem.Calls PyProof.V PySem.Spec
set_option maxRecDepth 100000
set_option maxHeartbeats 8000000
section
variable {w : World} {A : Around} {E : Value → Shared → Prop} {s : Shared} {g : Heap} {L : Addr} {led imm : Led} {Q : Value → Shared → Prop}
theorem len_row {ra : Addr} {vs : List Value} {n : Nat} (N : News g L s.heap led) (hm : (ra, listOf vs.toArray n) ∈ led) (hz : vs.length ≤ 100) (h : Q (.int vs.length (s.toks + 1)) { s with toks := s.toks + 1 + 1 }) :
    wpAny (model PySem.Challenge.rw_pq0176_01.row.prog w) A (call (.builtin "len") [.ref ra]) Q E s :=
  call_len_list (News.isList N hm) (by rw [List.size_toArray]; omega) (by rw [List.size_toArray]; exact h)
theorem item_row {ra : Addr} {vs : List Value} {v : Value} {n p : Nat} {u : Tok} {value slice : PySem.Expr} (N : News g L s.heap led) (hm : (ra, listOf vs.toArray n) ∈ led) (hz : vs.length ≤ 100) (hv : vs[p]? = some v) (h : Q v s)
    (hs : subscripted slice false (.ref ra) (.int (p : Int) u) = operate [.ref ra, .int (p : Int) u] (getItem (.ref ra) (.int (p : Int) u)) := by with_unfolding_all rfl) :
    wpAny (model PySem.Challenge.rw_pq0176_01.row.prog w) A (subscriptTail value slice (.ref ra) (.int (p : Int) u)) Q E s := by
  have hl := News.isList N hm
  have hp := (List.getElem?_eq_some_iff.mp hv).1
  exact tail_any hl.typeIs slot_list_getitem.lookup (wpAny_getItem_list hl (by omega) (by omega) (x := v) (by simpa using hv) h) hs
theorem item_tup {ra : Addr} {vs : List Value} {v : Value} {n : Nat} {i : Int} {u : Tok} {value slice : PySem.Expr} (N : News g L s.heap led) (hm : (ra, tupO vs n) ∈ led) (hz : vs.length ≤ 100) (hi : 0 ≤ i) (hv : vs[i.toNat]? = some v) (h : Q v s)
    (hs : subscripted slice false (.ref ra) (.int i u) = operate [.ref ra, .int i u] (getItem (.ref ra) (.int i u)) := by with_unfolding_all rfl) :
    wpAny (model PySem.Challenge.rw_pq0176_01.row.prog w) A (subscriptTail value slice (.ref ra) (.int i u)) Q E s := by
  have ht := News.isTup N hm
  have hp := (List.getElem?_eq_some_iff.mp hv).1
  have hn : i < ((vs.toArray.size : Nat) : Int) := by rw [List.size_toArray]; omega
  exact tail_any ht.typeIs slot_tuple_getitem.lookup (getItem_tuple ht (by omega) (by rw [List.size_toArray] at hn; omega) (seqIndex_of hi hn) (x := v) (by simpa using hv) h) hs
open Classical in
theorem ne_lists {a b : Addr} {xs ys : List Value} {ka kb : Nat} {ds es : List Dat} (n : Nat) (N : News g L s.heap led) (ma : (a, listOf xs.toArray ka) ∈ led) (Da : DatAll led xs ds) (mb : (b, listOf ys.toArray kb) ∈ led) (Db : DatAll led ys es)
    (ha : ∀ d ∈ ds, kqdOk n d = true) (hb : ∀ d ∈ es, kqdOk n d = true) (hn : n ≤ 60) (hu : A.units ≤ 9500) (h : Q (.bool (decide (¬ ds = es))) s) : wpAny (model PySem.Challenge.rw_pq0176_01.row.prog w) A (compareOp .NotEq (.ref a) (.ref b)) Q E s := by
  obtain ⟨as, ra⟩ := kqd_all N n Da ha
  obtain ⟨bs, rb⟩ := kqd_all N n Db hb
  have la := kqd_lay (n + 1) (.list ds) (by simpa [kqdOk] using ha)
  have lb := kqd_lay (n + 1) (.list es) (by simpa [kqdOk] using hb)
  rw [kqdP] at la lb
  have e : (!PyData.eqv (.list (kqdPs ds)) (.list (kqdPs es))) = decide (¬ ds = es) := by
    have q := kqd_eqv (n + 1) (.list ds) (.list es) (n + 1) (by simpa [kqdOk] using ha) (by simpa [kqdOk] using hb)
    rw [kqdP, kqdP, Dat.list.injEq] at q
    by_cases hq : ds = es
    · rw [decide_eq_false (fun h => h hq), q.mpr hq]; rfl
    · rw [decide_eq_true hq, Bool.eq_false_iff.mpr fun x => hq (q.mp x)]; rfl
  refine ne_dataH (reads_list_at (N.get ma) rfl rfl (by simpa [W.listOf] using ra)) (reads_list_at (N.get mb) rfl rfl (by simpa [W.listOf] using rb)) ?_ ?_ (by have := cLine_is; omega) (by rw [e]; exact h)
  · unfold SeqAt.shaped; rw [la.1, Bool.true_and]; exact decide_eq_true (Nat.le_trans la.2 (by omega))
  · unfold SeqAt.shaped; rw [lb.1, Bool.true_and]; exact decide_eq_true (Nat.le_trans lb.2 (by omega))
/-- row[p:p+1] != [('sign', sg)] -/
theorem ne_row {a b c : Addr} {vs : List Value} {ka kb kc : Nat} {t1 t2 : Tok} {row : List Tk} {p : Nat} {sg : Tk} (hs : sg.isSg = true) (N : News g L s.heap led) (ha : DatAll led vs (row.map tkD)) (ma : (a, listOf ((vs.drop p).take 1).toArray ka) ∈ led)
    (mb : (b, listOf [.ref c].toArray kb) ∈ led) (mc : (c, tupO [.str (Str.ofString "sign") t1, .str sg.told t2] kc) ∈ led) (hu : A.units ≤ 9500) (h : Q (.bool (decide (¬ row[p]? = some sg))) s) :
    wpAny (model PySem.Challenge.rw_pq0176_01.row.prog w) A (compareOp .NotEq (.ref a) (.ref b)) Q E s := by
  rw [← sg_kind hs] at mc
  refine ne_lists 1 N ma (datAll_take (datAll_drop ha p) 1) mb (.cons (d := tkD sg) (.tuple mc (.cons (.str _ _) (.cons (.str _ _) .nil))) .nil) ?_ ?_ (by omega) hu ?_
  · intro d hd
    rw [row_cut] at hd
    cases e : row[p]? with
    | none => rw [e] at hd; cases hd
    | some t => rw [e] at hd; simp at hd; subst hd; exact tk_ok t
  · intro d hd
    simp at hd; subst hd; exact tk_ok sg
  · rw [row_cut]
    have e : (¬ (((row[p]?).map tkD).toList = [tkD sg])) ↔ ¬ row[p]? = some sg := by
      cases e : row[p]? with
      | none => simp
      | some t => simp [tkD_sg hs]
    exact (congrArg (fun b => Q (.bool b) s) (decide_eq_decide.mpr e)).mpr h
end
/-- a call by its contract, nothing of the caller's own at hand -/
theorem use0 {w : World} {f : Addr} {vs : List Value} {d u : Nat} {Pre : Led → Prop} {Post : Led → Value → Prop} (C : Calls w f vs d u Pre Post) {mean : ExcName → Option Value} {mg mb : Str → Option Value} {dp un : Nat} {gd : Option (List Code)} {cn : Str} {cs : Scope} {a : Addr} {ccd : Value} {cl : List (Str × Addr)} {outer : List Env} {A₀ : Around} {base h₀ : Heap} {L : Addr} {m : Str → Option Value} {imm : Led} {s : Shared} {Q E : Value → Shared → Prop}
    (B : Below A₀ base outer h₀) (F : Fr h₀ L s.heap m) (X : (K w.params).In h₀) (N : News h₀ L s.heap imm) (T : Top V LS mean mg mb h₀) (hk : cs.kind = .function) (hP : Pre imm) (hd : dp + d ≤ 900) (hu : un + u ≤ 9000)
    (ret : ∀ v imm' h' tk', Fr h₀ L h' m → News h₀ L h' imm' → (∀ p ∈ imm, p ∈ imm') → Post imm' v → Q v { s with heap := h', toks := tk' }) :
    wpAny (model PySem.Challenge.rw_pq0176_01.row.prog w) (ktrTop dp un gd cn cs L a ccd cl outer) (call (.ref f) vs) Q E s :=
  C mean mg mb dp un gd cn cs a ccd cl outer A₀ base h₀ L m [] imm s Q E B F X N T hk (Sep.nil _) hP hd hu fun v imm' h' tk' F' N' _ hs hp => ret v imm' h' tk' F' N' hs hp

theorem datAll_snoc {led : Led} {v : Value} {d : Dat} (hv : DatIn led v d) : ∀ {vs : List Value} {ds : List Dat}, DatAll led vs ds → DatAll led (vs ++ [v]) (ds ++ [d])
  | _, _, .nil => .cons hv .nil
  | _, _, .cons a r => .cons a (datAll_snoc hv r)
theorem Sep.one {D : Addr} {o : Obj} {imm : Led} (h : ∀ p ∈ imm, p.1 ≠ D) : Sep [(D, o)] imm := fun q hq p hp => by rw [List.mem_singleton.mp hq]; exact h p hp
theorem Sep.ones {D : Addr} {o : Obj} {imm : Led} (h : Sep [(D, o)] imm) : ∀ p ∈ imm, p.1 ≠ D := fun p hp => h _ (List.mem_singleton.mpr rfl) p hp
/-- a call by its contract, with the caller's own things -/
theorem use1 {w : World} {f : Addr} {vs : List Value} {d u : Nat} {Pre : Led → Prop} {Post : Led → Value → Prop} (own : Led) (C : Calls w f vs d u Pre Post) {mean : ExcName → Option Value} {mg mb : Str → Option Value} {dp un : Nat} {gd : Option (List Code)} {cn : Str} {cs : Scope} {a : Addr} {ccd : Value} {cl : List (Str × Addr)} {outer : List Env} {A₀ : Around} {base h₀ : Heap} {L : Addr} {m : Str → Option Value} {imm : Led} {s : Shared} {Q E : Value → Shared → Prop}
    (B : Below A₀ base outer h₀) (F : Fr h₀ L s.heap m) (X : (K w.params).In h₀) (N : News h₀ L s.heap (own ++ imm)) (T : Top V LS mean mg mb h₀) (hk : cs.kind = .function) (S : Sep own imm) (hP : Pre imm) (hd : dp + d ≤ 900) (hu : un + u ≤ 9000)
    (ret : ∀ v imm' h' tk', Fr h₀ L h' m → News h₀ L h' (own ++ imm') → Sep own imm' → (∀ p ∈ imm, p ∈ imm') → Post imm' v → Q v { s with heap := h', toks := tk' }) :
    wpAny (model PySem.Challenge.rw_pq0176_01.row.prog w) (ktrTop dp un gd cn cs L a ccd cl outer) (call (.ref f) vs) Q E s :=
  C mean mg mb dp un gd cn cs a ccd cl outer A₀ base h₀ L m own imm s Q E B F X N T hk S hP hd hu ret

noncomputable def over (ps : List (Str × Value)) (u : Str → Option Value) : Str → Option Value := fun y => match ps.lookup y with | some v => some v | none => u y
theorem over_self {ps : List (Str × Value)} {m : Str → Option Value} (h : ∀ p ∈ ps, m p.1 = some p.2) : over ps m = m := by
  funext y
  unfold over
  induction ps with
  | nil => rfl
  | cons p r ih =>
    obtain ⟨k, v⟩ := p
    rw [List.lookup_cons]
    by_cases e : (y == k) = true
    · rw [e]; have := h (k, v) (.head _); simp at e; subst e; exact this.symm
    · have e' : (y == k) = false := by simpa using e
      rw [e']; exact ih fun p hp => h p (.tail _ hp)
end
section
open PySem PySem.W PyProof.Rows PySem.Calls PyProof.V PySem.Spec
set_option maxRecDepth 100000
theorem wp_st {α : Type} {M : Model} {A : Around} {c : Sem α} {Q : α → Shared → Prop} {E : Value → Shared → Prop} {h : Heap} {g : Array GenState} {d : Drawn} {t : Nat} {o : OsState} (k : ∀ t, wpAny M A c Q E ⟨h, g, d, t, o⟩) : wpAny M A c Q E ⟨h, g, d, t, o⟩ := k t
/-- a cut: the walk ahead sees of its end only what C says -/
theorem wp_cut {α : Type} {M : Model} {A : Around} {c : Sem α} {Q : α → Shared → Prop} {E : Value → Shared → Prop} {s : Shared} (C : (α → Shared → Prop) → Prop) (h : ∀ R, C R → wpAny M A c R E s) (k : C Q) : wpAny M A c Q E s := h Q k
theorem o1_2 {α1 : Type} {p1 p2 : α1 → Prop} {Z : Prop} (h : ∃ a1, p1 a1 ∧ p2 a1) (k : ∀ a1, p1 a1 → p2 a1 → Z) : Z :=
  h.elim fun a1 h => k a1 h.1 h.2
theorem o2_3 {α1 α2 : Type} {p1 p2 p3 : α1 → α2 → Prop} {Z : Prop} (h : ∃ a1 a2, p1 a1 a2 ∧ p2 a1 a2 ∧ p3 a1 a2) (k : ∀ a1 a2, p1 a1 a2 → p2 a1 a2 → p3 a1 a2 → Z) : Z :=
  h.elim fun a1 h => h.elim fun a2 h => k a1 a2 h.1 h.2.1 h.2.2
theorem o4_2 {α1 α2 α3 α4 : Type} {p1 p2 : α1 → α2 → α3 → α4 → Prop} {Z : Prop} (h : ∃ a1 a2 a3 a4, p1 a1 a2 a3 a4 ∧ p2 a1 a2 a3 a4) (k : ∀ a1 a2 a3 a4, p1 a1 a2 a3 a4 → p2 a1 a2 a3 a4 → Z) : Z :=
  h.elim fun a1 h => h.elim fun a2 h => h.elim fun a3 h => h.elim fun a4 h => k a1 a2 a3 a4 h.1 h.2
theorem o4_4 {α1 α2 α3 α4 : Type} {p1 p2 p3 p4 : α1 → α2 → α3 → α4 → Prop} {Z : Prop} (h : ∃ a1 a2 a3 a4, p1 a1 a2 a3 a4 ∧ p2 a1 a2 a3 a4 ∧ p3 a1 a2 a3 a4 ∧ p4 a1 a2 a3 a4) (k : ∀ a1 a2 a3 a4, p1 a1 a2 a3 a4 → p2 a1 a2 a3 a4 → p3 a1 a2 a3 a4 → p4 a1 a2 a3 a4 → Z) : Z :=
  h.elim fun a1 h => h.elim fun a2 h => h.elim fun a3 h => h.elim fun a4 h => k a1 a2 a3 a4 h.1 h.2.1 h.2.2.1 h.2.2.2
theorem o3_4 {α1 α2 α3 : Type} {p1 p2 p3 p4 : α1 → α2 → α3 → Prop} {Z : Prop} (h : ∃ a1 a2 a3, p1 a1 a2 a3 ∧ p2 a1 a2 a3 ∧ p3 a1 a2 a3 ∧ p4 a1 a2 a3) (k : ∀ a1 a2 a3, p1 a1 a2 a3 → p2 a1 a2 a3 → p3 a1 a2 a3 → p4 a1 a2 a3 → Z) : Z :=
  h.elim fun a1 h => h.elim fun a2 h => h.elim fun a3 h => k a1 a2 a3 h.1 h.2.1 h.2.2.1 h.2.2.2
theorem o1_7 {α1 : Type} {p1 p2 p3 p4 p5 p6 p7 : α1 → Prop} {Z : Prop} (h : ∃ a1, p1 a1 ∧ p2 a1 ∧ p3 a1 ∧ p4 a1 ∧ p5 a1 ∧ p6 a1 ∧ p7 a1) (k : ∀ a1, p1 a1 → p2 a1 → p3 a1 → p4 a1 → p5 a1 → p6 a1 → p7 a1 → Z) : Z :=
  h.elim fun a1 h => k a1 h.1 h.2.1 h.2.2.1 h.2.2.2.1 h.2.2.2.2.1 h.2.2.2.2.2.1 h.2.2.2.2.2.2
theorem o4_3 {α1 α2 α3 α4 : Type} {p1 p2 p3 : α1 → α2 → α3 → α4 → Prop} {Z : Prop} (h : ∃ a1 a2 a3 a4, p1 a1 a2 a3 a4 ∧ p2 a1 a2 a3 a4 ∧ p3 a1 a2 a3 a4) (k : ∀ a1 a2 a3 a4, p1 a1 a2 a3 a4 → p2 a1 a2 a3 a4 → p3 a1 a2 a3 a4 → Z) : Z :=
  h.elim fun a1 h => h.elim fun a2 h => h.elim fun a3 h => h.elim fun a4 h => k a1 a2 a3 a4 h.1 h.2.1 h.2.2
theorem o3_5 {α1 α2 α3 : Type} {p1 p2 p3 p4 p5 : α1 → α2 → α3 → Prop} {Z : Prop} (h : ∃ a1 a2 a3, p1 a1 a2 a3 ∧ p2 a1 a2 a3 ∧ p3 a1 a2 a3 ∧ p4 a1 a2 a3 ∧ p5 a1 a2 a3) (k : ∀ a1 a2 a3, p1 a1 a2 a3 → p2 a1 a2 a3 → p3 a1 a2 a3 → p4 a1 a2 a3 → p5 a1 a2 a3 → Z) : Z :=
  h.elim fun a1 h => h.elim fun a2 h => h.elim fun a3 h => k a1 a2 a3 h.1 h.2.1 h.2.2.1 h.2.2.2.1 h.2.2.2.2
theorem pairI_open {imm : Led} {v : Value} {d : Dat} {i : Int} (h : DatIn imm v (.tuple [d, .int i])) : ∃ a n x t, v = .ref a ∧ (a, tupO [x, .int i t] n) ∈ imm ∧ DatIn imm x d :=
  let ⟨a, n, x, _, ev, hm, h1, h2⟩ := pair_open h
  let ⟨t, e2⟩ := inInt h2
  ⟨a, n, x, t, ev, e2 ▸ hm, h1⟩
theorem o2_4 {α1 α2 : Type} {p1 p2 p3 p4 : α1 → α2 → Prop} {Z : Prop} (h : ∃ a1 a2, p1 a1 a2 ∧ p2 a1 a2 ∧ p3 a1 a2 ∧ p4 a1 a2) (k : ∀ a1 a2, p1 a1 a2 → p2 a1 a2 → p3 a1 a2 → p4 a1 a2 → Z) : Z :=
  h.elim fun a1 h => h.elim fun a2 h => k a1 a2 h.1 h.2.1 h.2.2.1 h.2.2.2
theorem tab_of {w : World} {h₀ h : Heap} {L d : Addr} {news : Led} {o : Obj} (N : News h₀ L h news) (hp : (d, o) ∈ news) (lo : (d == sysModules) = false) (T : TabOf (strKind PySem.Challenge.rw_pq0176_01.row.prog w) PyData.str o bindsT) : TabAt (strKind PySem.Challenge.rw_pq0176_01.row.prog w) PyData.str h d bindsT :=
  let ⟨_, a, b⟩ := T; TabAt.ofNews N hp lo a b
theorem o7_9 {α1 α2 α3 α4 α5 α6 α7 : Type} {p1 p2 p3 p4 p5 p6 p7 p8 p9 : α1 → α2 → α3 → α4 → α5 → α6 → α7 → Prop} {Z : Prop} (h : ∃ a1 a2 a3 a4 a5 a6 a7, p1 a1 a2 a3 a4 a5 a6 a7 ∧ p2 a1 a2 a3 a4 a5 a6 a7 ∧ p3 a1 a2 a3 a4 a5 a6 a7 ∧ p4 a1 a2 a3 a4 a5 a6 a7 ∧ p5 a1 a2 a3 a4 a5 a6 a7 ∧ p6 a1 a2 a3 a4 a5 a6 a7 ∧ p7 a1 a2 a3 a4 a5 a6 a7 ∧ p8 a1 a2 a3 a4 a5 a6 a7 ∧ p9 a1 a2 a3 a4 a5 a6 a7) (k : ∀ a1 a2 a3 a4 a5 a6 a7, p1 a1 a2 a3 a4 a5 a6 a7 → p2 a1 a2 a3 a4 a5 a6 a7 → p3 a1 a2 a3 a4 a5 a6 a7 → p4 a1 a2 a3 a4 a5 a6 a7 → p5 a1 a2 a3 a4 a5 a6 a7 → p6 a1 a2 a3 a4 a5 a6 a7 → p7 a1 a2 a3 a4 a5 a6 a7 → p8 a1 a2 a3 a4 a5 a6 a7 → p9 a1 a2 a3 a4 a5 a6 a7 → Z) : Z :=
  h.elim fun a1 h => h.elim fun a2 h => h.elim fun a3 h => h.elim fun a4 h => h.elim fun a5 h => h.elim fun a6 h => h.elim fun a7 h => k a1 a2 a3 a4 a5 a6 a7 h.1 h.2.1 h.2.2.1 h.2.2.2.1 h.2.2.2.2.1 h.2.2.2.2.2.1 h.2.2.2.2.2.2.1 h.2.2.2.2.2.2.2.1 h.2.2.2.2.2.2.2.2
theorem o8_11 {α1 α2 α3 α4 α5 α6 α7 α8 : Type} {p1 p2 p3 p4 p5 p6 p7 p8 p9 p10 p11 : α1 → α2 → α3 → α4 → α5 → α6 → α7 → α8 → Prop} {Z : Prop} (h : ∃ a1 a2 a3 a4 a5 a6 a7 a8, p1 a1 a2 a3 a4 a5 a6 a7 a8 ∧ p2 a1 a2 a3 a4 a5 a6 a7 a8 ∧ p3 a1 a2 a3 a4 a5 a6 a7 a8 ∧ p4 a1 a2 a3 a4 a5 a6 a7 a8 ∧ p5 a1 a2 a3 a4 a5 a6 a7 a8 ∧ p6 a1 a2 a3 a4 a5 a6 a7 a8 ∧ p7 a1 a2 a3 a4 a5 a6 a7 a8 ∧ p8 a1 a2 a3 a4 a5 a6 a7 a8 ∧ p9 a1 a2 a3 a4 a5 a6 a7 a8 ∧ p10 a1 a2 a3 a4 a5 a6 a7 a8 ∧ p11 a1 a2 a3 a4 a5 a6 a7 a8) (k : ∀ a1 a2 a3 a4 a5 a6 a7 a8, p1 a1 a2 a3 a4 a5 a6 a7 a8 → p2 a1 a2 a3 a4 a5 a6 a7 a8 → p3 a1 a2 a3 a4 a5 a6 a7 a8 → p4 a1 a2 a3 a4 a5 a6 a7 a8 → p5 a1 a2 a3 a4 a5 a6 a7 a8 → p6 a1 a2 a3 a4 a5 a6 a7 a8 → p7 a1 a2 a3 a4 a5 a6 a7 a8 → p8 a1 a2 a3 a4 a5 a6 a7 a8 → p9 a1 a2 a3 a4 a5 a6 a7 a8 → p10 a1 a2 a3 a4 a5 a6 a7 a8 → p11 a1 a2 a3 a4 a5 a6 a7 a8 → Z) : Z :=
  h.elim fun a1 h => h.elim fun a2 h => h.elim fun a3 h => h.elim fun a4 h => h.elim fun a5 h => h.elim fun a6 h => h.elim fun a7 h => h.elim fun a8 h => k a1 a2 a3 a4 a5 a6 a7 a8 h.1 h.2.1 h.2.2.1 h.2.2.2.1 h.2.2.2.2.1 h.2.2.2.2.2.1 h.2.2.2.2.2.2.1 h.2.2.2.2.2.2.2.1 h.2.2.2.2.2.2.2.2.1 h.2.2.2.2.2.2.2.2.2.1 h.2.2.2.2.2.2.2.2.2.2
theorem o5_3 {α1 α2 α3 α4 α5 : Type} {p1 p2 p3 : α1 → α2 → α3 → α4 → α5 → Prop} {Z : Prop} (h : ∃ a1 a2 a3 a4 a5, p1 a1 a2 a3 a4 a5 ∧ p2 a1 a2 a3 a4 a5 ∧ p3 a1 a2 a3 a4 a5) (k : ∀ a1 a2 a3 a4 a5, p1 a1 a2 a3 a4 a5 → p2 a1 a2 a3 a4 a5 → p3 a1 a2 a3 a4 a5 → Z) : Z :=
  h.elim fun a1 h => h.elim fun a2 h => h.elim fun a3 h => h.elim fun a4 h => h.elim fun a5 h => k a1 a2 a3 a4 a5 h.1 h.2.1 h.2.2
theorem o4_5 {α1 α2 α3 α4 : Type} {p1 p2 p3 p4 p5 : α1 → α2 → α3 → α4 → Prop} {Z : Prop} (h : ∃ a1 a2 a3 a4, p1 a1 a2 a3 a4 ∧ p2 a1 a2 a3 a4 ∧ p3 a1 a2 a3 a4 ∧ p4 a1 a2 a3 a4 ∧ p5 a1 a2 a3 a4) (k : ∀ a1 a2 a3 a4, p1 a1 a2 a3 a4 → p2 a1 a2 a3 a4 → p3 a1 a2 a3 a4 → p4 a1 a2 a3 a4 → p5 a1 a2 a3 a4 → Z) : Z :=
  h.elim fun a1 h => h.elim fun a2 h => h.elim fun a3 h => h.elim fun a4 h => k a1 a2 a3 a4 h.1 h.2.1 h.2.2.1 h.2.2.2.1 h.2.2.2.2
theorem o1_3 {α1 : Type} {p1 p2 p3 : α1 → Prop} {Z : Prop} (h : ∃ a1, p1 a1 ∧ p2 a1 ∧ p3 a1) (k : ∀ a1, p1 a1 → p2 a1 → p3 a1 → Z) : Z :=
  h.elim fun a1 h => k a1 h.1 h.2.1 h.2.2
theorem o2_1 {α1 α2 : Type} {p1 : α1 → α2 → Prop} {Z : Prop} (h : ∃ a1 a2, p1 a1 a2) (k : ∀ a1 a2, p1 a1 a2 → Z) : Z :=
  h.elim fun a1 h => h.elim fun a2 h => k a1 a2 h
theorem o3_1 {α1 α2 α3 : Type} {p1 : α1 → α2 → α3 → Prop} {Z : Prop} (h : ∃ a1 a2 a3, p1 a1 a2 a3) (k : ∀ a1 a2 a3, p1 a1 a2 a3 → Z) : Z :=
  h.elim fun a1 h => h.elim fun a2 h => h.elim fun a3 h => k a1 a2 a3 h
theorem o3_2 {α1 α2 α3 : Type} {p1 p2 : α1 → α2 → α3 → Prop} {Z : Prop} (h : ∃ a1 a2 a3, p1 a1 a2 a3 ∧ p2 a1 a2 a3) (k : ∀ a1 a2 a3, p1 a1 a2 a3 → p2 a1 a2 a3 → Z) : Z :=
  h.elim fun a1 h => h.elim fun a2 h => h.elim fun a3 h => k a1 a2 a3 h.1 h.2
theorem o8_9 {α1 α2 α3 α4 α5 α6 α7 α8 : Type} {p1 p2 p3 p4 p5 p6 p7 p8 p9 : α1 → α2 → α3 → α4 → α5 → α6 → α7 → α8 → Prop} {Z : Prop} (h : ∃ a1 a2 a3 a4 a5 a6 a7 a8, p1 a1 a2 a3 a4 a5 a6 a7 a8 ∧ p2 a1 a2 a3 a4 a5 a6 a7 a8 ∧ p3 a1 a2 a3 a4 a5 a6 a7 a8 ∧ p4 a1 a2 a3 a4 a5 a6 a7 a8 ∧ p5 a1 a2 a3 a4 a5 a6 a7 a8 ∧ p6 a1 a2 a3 a4 a5 a6 a7 a8 ∧ p7 a1 a2 a3 a4 a5 a6 a7 a8 ∧ p8 a1 a2 a3 a4 a5 a6 a7 a8 ∧ p9 a1 a2 a3 a4 a5 a6 a7 a8) (k : ∀ a1 a2 a3 a4 a5 a6 a7 a8, p1 a1 a2 a3 a4 a5 a6 a7 a8 → p2 a1 a2 a3 a4 a5 a6 a7 a8 → p3 a1 a2 a3 a4 a5 a6 a7 a8 → p4 a1 a2 a3 a4 a5 a6 a7 a8 → p5 a1 a2 a3 a4 a5 a6 a7 a8 → p6 a1 a2 a3 a4 a5 a6 a7 a8 → p7 a1 a2 a3 a4 a5 a6 a7 a8 → p8 a1 a2 a3 a4 a5 a6 a7 a8 → p9 a1 a2 a3 a4 a5 a6 a7 a8 → Z) : Z :=
  h.elim fun a1 h => h.elim fun a2 h => h.elim fun a3 h => h.elim fun a4 h => h.elim fun a5 h => h.elim fun a6 h => h.elim fun a7 h => h.elim fun a8 h => k a1 a2 a3 a4 a5 a6 a7 a8 h.1 h.2.1 h.2.2.1 h.2.2.2.1 h.2.2.2.2.1 h.2.2.2.2.2.1 h.2.2.2.2.2.2.1 h.2.2.2.2.2.2.2.1 h.2.2.2.2.2.2.2.2
theorem o3_3 {α1 α2 α3 : Type} {p1 p2 p3 : α1 → α2 → α3 → Prop} {Z : Prop} (h : ∃ a1 a2 a3, p1 a1 a2 a3 ∧ p2 a1 a2 a3 ∧ p3 a1 a2 a3) (k : ∀ a1 a2 a3, p1 a1 a2 a3 → p2 a1 a2 a3 → p3 a1 a2 a3 → Z) : Z :=
  h.elim fun a1 h => h.elim fun a2 h => h.elim fun a3 h => k a1 a2 a3 h.1 h.2.1 h.2.2
/-- the end, hidden behind a word -/
theorem wp_hide {α : Type} {M : Model} {A : Around} {c : Sem α} {Q : α → Shared → Prop} {E : Value → Shared → Prop} {s : Shared} (k : ∀ R : α → Shared → Prop, (∀ f s', Q f s' → R f s') → wpAny M A c R E s) : wpAny M A c Q E s := k Q fun _ _ h => h
/-- While_inv2, the state in its parts and the end of a turn as a word of its own -/
theorem While_R {prog : Program} {w : World} {A : Around} {E : Value → Shared → Prop} {Q : Flow → Shared → Prop} {hp : Heap} {gs : Array GenState} {dr : Drawn} {tk : Nat} {os : OsState} {env : Env} {h₀ : Heap} {L : Addr} {test : PySem.Expr} {body : List Stmt} {pos : Pos} {m : Str → Option Value} {news : List (Addr × Obj)} (J : Nat → (Str → Option Value) → List (Addr × Obj) → Prop) {n₀ : Nat}
    (F : Fr h₀ L hp m) (N : News h₀ L hp news) (hJ : J n₀ m news)
    (turn : ∀ n m₁ news₁ h₁ tk₁ (W : Flow → Shared → Prop), (∀ n' m₂ news₂ h' tk', n' < n → Fr h₀ L h' m₂ → News h₀ L h' news₂ → J n' m₂ news₂ → W .next ⟨h', gs, dr, tk', os⟩) → (∀ s', Q .next s' → W .brk s') → (∀ v s', Q (.ret v) s' → W (.ret v) s') →
      Fr h₀ L h₁ m₁ → News h₀ L h₁ news₁ → J n m₁ news₁ →
      wpAny (model prog w) A (isTrue test env (eval test env)) (fun b s₂ =>
        if b = true then wpAny (model prog w) A (execs body env) W E s₂ else Q .next s₂) E ⟨h₁, gs, dr, tk₁, os⟩)
    (hE : PassesOwn (model prog w) A env E := by passes_own) :
    wpAny (model prog w) A (exec (.While test body [] pos) env) Q E ⟨hp, gs, dr, tk, os⟩ :=
  While_inv2 J F N hJ (fun n m₁ news₁ h₁ tk₁ F₁ N₁ J₁ => turn n m₁ news₁ h₁ tk₁ (WhileStep2 h₀ L ⟨hp, gs, dr, tk, os⟩ J Q n)
    (fun n' m₂ news₂ h' tk' lt F' N' J' => ⟨h', tk', m₂, news₂, n', rfl, F', N', lt, J'⟩) (fun _ h => h) (fun _ _ h => h) F₁ N₁ J₁) hE
/-- calls_of with the end as a word of its own, and the state in its parts -/
theorem calls_ofR {w : World} {D : Def} (I : D.Is) {vs : List Value} {d u : Nat} {Pre : Led → Prop} {Post : Led → Value → Prop} (binds : List (Str × Value))
    (hbind : ∀ s, BindsTo s (fnOf D.name D.qual D.A D.B D.C D.dV .none .none D.pm none (.ref D.cd) .none) ⟨vs, []⟩ binds) (hloc : (binds.all fun x => decide (D.C.names.lookup x.1 = some .local)) = true)
    (body : ∀ (mean : ExcName → Option Value) (mg mb : Str → Option Value) (dp un : Nat) (gd : Option (List Code)) (cn : Str) (cs : Scope) (L₀ a : Addr) (ccd : Value) (cl : List (Str × Addr)) (outer : List Env) (base g : Heap) (L : Addr) (imm : Led) (hp : Heap) (gs : Array GenState) (dr : Drawn) (tk : Nat) (os : OsState) (R : Flow → Shared → Prop),
      (∀ fl m' imm' h' tk', Fr g L h' m' → News g L h' imm' → (∀ p ∈ imm, p ∈ imm') → Post imm' (match fl with | .ret v => v | _ => .none) → R fl ⟨h', gs, dr, tk', os⟩) →
      Below (ktrTop dp un gd cn cs L₀ a ccd cl outer) base (envX cn cs L₀ a ccd cl :: outer) g → Fr g L hp (fun y => binds.reverse.lookup y) → (K w.params).In g → News g L hp imm → Top V LS mean mg mb g → Pre imm → dp + d ≤ 900 → un + u ≤ 9000 →
      wpAny (model PySem.Challenge.rw_pq0176_01.row.prog w) ((ktrTop dp un gd cn cs L₀ a ccd cl outer).deeper (envOf D.qual D.C L D.f (.ref D.cd))) (execs D.B (envOf D.qual D.C L D.f (.ref D.cd))) R (fun _ _ => False) ⟨hp, gs, dr, tk, os⟩) :
    Calls w D.f vs d u Pre Post :=
  calls_of I binds hbind hloc fun mean mg mb dp un gd cn cs L₀ a ccd cl outer base g L imm s B F X N T hP hd hu =>
    body mean mg mb dp un gd cn cs L₀ a ccd cl outer base g L imm s.heap s.gens s.drawn s.toks s.os (Ends g L imm Post s)
      (fun _ m' imm' _ _ F' N' hs hp => ⟨m', imm', F', N', hs, hp, rfl, rfl, rfl⟩) B F X N T hP hd hu
/-- a call whose answer is known -/
theorem use0v {w : World} {f : Addr} {vs : List Value} {d u : Nat} {Pre : Led → Prop} {x : Value} (C : Calls w f vs d u Pre (fun _ v => v = x)) {mean : ExcName → Option Value} {mg mb : Str → Option Value} {dp un : Nat} {gd : Option (List Code)} {cn : Str} {cs : Scope} {a : Addr} {ccd : Value} {cl : List (Str × Addr)} {outer : List Env} {A₀ : Around} {base h₀ : Heap} {L : Addr} {m : Str → Option Value} {imm : Led} {hp : Heap} {gs : Array GenState} {dr : Drawn} {tk : Nat} {os : OsState} {Q E : Value → Shared → Prop}
    (B : Below A₀ base outer h₀) (F : Fr h₀ L hp m) (X : (K w.params).In h₀) (N : News h₀ L hp imm) (T : Top V LS mean mg mb h₀) (hk : cs.kind = .function) (hP : Pre imm) (hd : dp + d ≤ 900) (hu : un + u ≤ 9000)
    (ret : ∀ imm' h' tk', Fr h₀ L h' m → News h₀ L h' imm' → (∀ p ∈ imm, p ∈ imm') → Q x ⟨h', gs, dr, tk', os⟩) :
    wpAny (model PySem.Challenge.rw_pq0176_01.row.prog w) (ktrTop dp un gd cn cs L a ccd cl outer) (call (.ref f) vs) Q E ⟨hp, gs, dr, tk, os⟩ :=
  use0 C B F X N T hk hP hd hu fun _ imm' h' tk' F' N' hs e => by subst e; exact ret imm' h' tk' F' N' hs
/-- a call whose answer is known, with the caller's own things -/
theorem use1v {w : World} {f : Addr} {vs : List Value} {d u : Nat} {Pre : Led → Prop} {x : Value} (own : Led) (C : Calls w f vs d u Pre (fun _ v => v = x)) {mean : ExcName → Option Value} {mg mb : Str → Option Value} {dp un : Nat} {gd : Option (List Code)} {cn : Str} {cs : Scope} {a : Addr} {ccd : Value} {cl : List (Str × Addr)} {outer : List Env} {A₀ : Around} {base h₀ : Heap} {L : Addr} {m : Str → Option Value} {imm : Led} {hp : Heap} {gs : Array GenState} {dr : Drawn} {tk : Nat} {os : OsState} {Q E : Value → Shared → Prop}
    (B : Below A₀ base outer h₀) (F : Fr h₀ L hp m) (X : (K w.params).In h₀) (N : News h₀ L hp (own ++ imm)) (T : Top V LS mean mg mb h₀) (hk : cs.kind = .function) (S : Sep own imm) (hP : Pre imm) (hd : dp + d ≤ 900) (hu : un + u ≤ 9000)
    (ret : ∀ imm' h' tk', Fr h₀ L h' m → News h₀ L h' (own ++ imm') → Sep own imm' → (∀ p ∈ imm, p ∈ imm') → Q x ⟨h', gs, dr, tk', os⟩) :
    wpAny (model PySem.Challenge.rw_pq0176_01.row.prog w) (ktrTop dp un gd cn cs L a ccd cl outer) (call (.ref f) vs) Q E ⟨hp, gs, dr, tk, os⟩ :=
  use1 own C B F X N T hk S hP hd hu fun _ imm' h' tk' F' N' S' hs e => by subst e; exact ret imm' h' tk' F' N' S' hs
end
section
open PySem PySem.W PyProof.Rows PySem.Calls PyProof.V PySem.Spec
set_option maxRecDepth 100000
set_option maxHeartbeats 8000000
noncomputable def SpecOne (w : World) (row : List Tk) (n : Nat) : Prop := ∀ p res, one n row p = some res → ∀ (ra : Addr) (i : Int) (t : Tok), i = (p : Int) → Calls w 235 [.ref ra, .int i t] (2 * n + 10) (20 * n + 400) (fun imm => RowIn imm ra row) (fun imm v => DatIn imm v (resD res))
noncomputable def SpecClimb (w : World) (row : List Tk) (n : Nat) : Prop := ∀ p l res, climb n row p l = some res → ∀ (ra : Addr) (i j : Int) (t t' : Tok), i = (p : Int) → j = (l : Int) → Calls w 242 [.ref ra, .int i t, .int j t'] (2 * n + 10) (20 * n + 400) (fun imm => RowIn imm ra row) (fun imm v => DatIn imm v (resD res))
theorem fine_one {row : List Tk} (hr : row.length ≤ 20) {n p : Nat} {res : Res} (h : one n row p = some res) : Fine res := by
  cases res with
  | bad => trivial
  | ok t q =>
    have z := (sizes row n).1 _ _ _ h
    exact ⟨(trees row n).1 _ _ _ h, kqd_le _ _ _ (by omega) z.2⟩
theorem fine_climb {row : List Tk} (hr : row.length ≤ 20) {n p l : Nat} {res : Res} (h : climb n row p l = some res) : Fine res := by
  cases res with
  | bad => trivial
  | ok t q =>
    have z := (sizes row n).2.2.2.1 _ _ _ _ h
    exact ⟨(trees row n).2.2.2.1 _ _ _ _ h, kqd_le _ _ _ (by omega) z.2⟩
/-- what is left of the loop -/
noncomputable def Left (row : List Tk) (res : Res) (l p0 N n : Nat) : Res → Prop
  | .bad q => res = .bad q
  | .ok t q => ∃ k, n = k + 1 ∧ k ≤ N ∧ cloop k row t q l = some res ∧ Tre t ∧ p0 < q ∧ q ≤ row.length ∧ kqdOk (2 * (q - p0)) t = true
theorem Left.fine {row : List Tk} {res r : Res} {l p0 N n : Nat} (hr : row.length ≤ 20) (h : Left row res l p0 N n r) : Fine r := by
  cases r with
  | bad => trivial
  | ok t q =>
    obtain ⟨k, _, _, _, h1, h2, h3, h4⟩ := h
    exact ⟨h1, kqd_le _ _ _ (by omega) h4⟩
noncomputable def ClJ (row : List Tk) (res : Res) (l p0 N : Nat) (ra : Addr) (t' : Tok) (imm : Led) (n : Nat) (m : Str → Option Value) (led : Led) : Prop :=
  ∃ u v r, m = over [(Str.ofString "found", v), (Str.ofString "row", .ref ra), (Str.ofString "least", .int (l : Nat) t')] u ∧ DatIn led v (resD r) ∧ (∀ p ∈ imm, p ∈ led) ∧ Left row res l p0 N n r
theorem climb_step (w : World) (row : List Tk) (hr : row.length ≤ 20) (n : Nat) (h1 : SpecOne w row n) (h2 : ∀ k, k ≤ n → SpecClimb w row k) : SpecClimb w row (n + 1) := by
  intro p l res hres ra i j t t' hi hj
  subst hi hj
  refine calls_ofR I_climb [(Str.ofString "row", .ref ra), (Str.ofString "at", .int p t), (Str.ofString "least", .int l t')] (fun s => BindsTo.of_eq rfl) (by rfl) ?_
  k_fill
  intro mean mg mb dp un gd cn cs L₀ a ccd cl outer base g L imm hp₀ gs dr tk os PP hR B F X N T hP hd hu
  dsimp only [D_climb, B_climb]
  iterate 11 walk1
  apply o1_2 (climb_1 hres)
  intro r₁ h1r hres
  refine use0 (h1 p r₁ h1r ra _ _ rfl) (by assumption) F X N T rfl hP (by first | exact roomD hd (by decide) | (show dp + 1 + _ ≤ 900; omega)) (by first | exact roomU hu (by decide) | (show un + 3 + _ ≤ 9000; omega)) ?_
  intro v led h' tk' F' N' hsub hv
  iterate 3 walk1
  refine wp_hide fun QQ hQ => ?_
  refine While_R (ClJ row res l p n ra t' imm) (n₀ := n + 1) (by assumption) (by assumption) ⟨_, v, r₁, (over_self (fun q hq => by
    simp only [List.mem_cons, List.not_mem_nil, or_false] at hq
    rcases hq with rfl | rfl | rfl <;> rfl)).symm, hv, hsub, ?_⟩ ?_
  · cases r₁ with
    | bad q => exact (Option.some.inj hres).symm
    | ok t₁ q => exact ⟨n, rfl, Nat.le_refl _, hres, (trees row n).1 _ _ _ h1r, ((adv row n).1 _ _ _ h1r), ((sizes row n).1 _ _ _ h1r).1, ((sizes row n).1 _ _ _ h1r).2⟩
  intro k m₁ led₁ h₁ tk₁ WW hn hb hw F₁ N₁ hJ
  apply o3_4 hJ
  intro u v r em hv hsub hL
  subst em
  have hfine := hL.fine hr
  iterate 9 walk1
  refine use0v (isbad_res w v r hfine) (by assumption) (by assumption) X (by assumption) T rfl (hv) (by first | exact roomD hd (by decide) | (show dp + 1 + _ ≤ 900; omega)) (by first | exact roomU hu (by decide) | (show un + 3 + _ ≤ 9000; omega)) ?_
  intro led₂ h₂ tk₂ F₂ N₂ hs₂
  cases r with
  | bad q =>
    dsimp only [Res.isBad]
    iterate 2 walk1
    refine hQ _ _ ?_
    dsimp only
    iterate 3 walk1
    exact hR _ _ _ _ _ (by assumption) (by assumption) (fun q hq => hs₂ _ (hsub _ hq)) (by rw [show res = _ from hL]; exact hv.mono hs₂)
  | ok t₁ q =>
    dsimp only [Res.isBad]
    apply o1_7 hL
    intro k' ek hk hc hT hp hq hz
    subst ek
    apply o4_3 (pairI_open (hv.mono hs₂))
    intro av nv x ty ev hm hx
    subst ev
    have hRw := (hP.mono hsub).mono hs₂
    apply o2_3 hRw.open
    intro vs nr hrow hvs hlen
    cases k' with
    | zero => unfold cloop at hc; cases hc
    | succ k' =>
    iterate 16 walk1
    refine len_row (by assumption) hrow (by omega) ?_
    rw [hlen]
    by_cases hlt : q < row.length
    · apply Exists.elim (show ∃ tk, row[q]? = some tk from ⟨_, List.getElem?_eq_getElem hlt⟩)
      intro tkn htk
      apply o1_2 (row_at hvs htk)
      intro v hv1 hv2
      apply o4_2 (tok_open hv2)
      intro a1 n1 t1 t2 ev hv3
      subst ev
      have hst : strengthAt row q = tkn.bin := by unfold strengthAt; rw [htk]
      have hto : toldAt row q = tkn.told := by unfold toldAt; rw [htk]
      iterate 9 walk1
      refine item_row (by assumption) hrow (by omega) hv1 ?_
      iterate 24 walk1
      · -- an operator's word, perhaps
        rename_i hkind
        have hkd : tkn.kind = Str.ofString "sign" ∨ tkn.kind = Str.ofString "word" := by
          simp only [List.any_cons, List.any_nil, Bool.or_false, Bool.or_eq_true, beq_iff_eq] at hkind
          rcases hkind with h | h
          · exact .inl h.symm
          · exact .inr h.symm
        have hb := binds_at tkn hkd
        iterate 4 walk1
        refine use0 (binds_ w) (by assumption) (by assumption) X (by assumption) T rfl (trivial) (by first | exact roomD hd (by decide) | (show dp + 1 + _ ≤ 900; omega)) (by first | exact roomU hu (by decide) | (show un + 3 + _ ≤ 9000; omega)) ?_
        intro vb led₃ h₃ tk₃ F₃ N₃ hs₃ hB
        apply o2_4 hB
        intro bd bo ev hbm hb0 hbT
        subst ev
        refine getMethod_strTab_get (tab_of (by assumption) hbm hb0 hbT) ?_
        iterate 6 walk1
        refine call_get2_strTab (tab_of (by assumption) hbm hb0 hbT) (Flat.int 0 _) (fun v5 hv5 => ?_)
        rw [hb] at hv5
        apply Exists.elim (show ∃ t, v5 = .int tkn.bin t by cases hv5 g; exact ⟨_, rfl⟩)
        intro t5 ev5
        subst ev5
        clear hbT hv5
        iterate 16 walk1
        by_cases hlt2 : strengthAt row q < max l 1
        · have hres := cloop_0 hlt2 hc
          rw [hst] at hlt2
          iterate 5 walk1
          refine hw _ _ (hQ _ _ ?_)
          dsimp only
          exact hR _ _ _ _ _ (by assumption) (by assumption) (by intro q hq; solve_by_elim (maxDepth := 20) [List.mem_cons_of_mem, List.mem_append_right]) (by rw [hres]; exact hv.mono (by intro q hq; solve_by_elim (maxDepth := 20) [List.mem_cons_of_mem, List.mem_append_right]))
        · have hst' := hlt2
          rw [hst] at hst'
          have hm3 := hs₃ _ (List.mem_cons_of_mem _ hm)
          iterate 25 walk1
          apply o1_2 (cloop_1 hlt2 hc)
          intro r₂ hcl hc
          refine use0 (h2 k' (Nat.le_of_succ_le hk) (q + 1) (strengthAt row q + 1) r₂ hcl ra _ _ _ _ rfl (by rw [hst]; rfl)) (by assumption) (by assumption) X (by assumption) T rfl (hRw.mono (by intro q hq; solve_by_elim (maxDepth := 20) [List.mem_cons_of_mem, List.mem_append_right])) (by first | exact roomD hd (by decide) | (show dp + 1 + _ ≤ 900; omega)) (by first | exact roomU hu (by decide) | (show un + 3 + _ ≤ 9000; omega)) ?_
          rintro v₂ led₄ h₄ tk₄ F₄ N₄ hs₄ hv₂
          have hfine₂ := fine_climb hr hcl
          iterate 13 walk1
          refine use0v (isbad_res w v₂ r₂ hfine₂) (by assumption) (by assumption) X (by assumption) T rfl (hv₂) (by first | exact roomD hd (by decide) | (show dp + 1 + _ ≤ 900; omega)) (by first | exact roomU hu (by decide) | (show un + 3 + _ ≤ 9000; omega)) ?_
          intro led₅ h₅ tk₅ F₅ N₅ hs₅
          cases r₂ with
          | bad q₂ =>
            dsimp only [Res.isBad]
            iterate 6 walk1
            exact hn 0 _ _ _ _ (Nat.succ_pos _) (by assumption) (by assumption) ⟨_, v₂, .bad q₂, (over_self (fun q hq => by
              simp only [List.mem_cons, List.not_mem_nil, or_false] at hq
              rcases hq with rfl | rfl | rfl <;> rfl)).symm, hv₂.mono hs₅, (by intro q hq; solve_by_elim (maxDepth := 20) [List.mem_cons_of_mem, List.mem_append_right]), (Option.some.inj hc).symm⟩
          | ok t₂ q₂ =>
            dsimp only [Res.isBad]
            apply o4_3 (pairI_open (hv₂.mono hs₅))
            intro av₂ nv₂ x₂ ty₂ ev hm₂ hx₂
            subst ev
            have hm5 := hs₅ _ (hs₄ _ hm3)
            iterate 25 walk1
            refine item_tup (by assumption) (List.mem_cons_of_mem _ hm₂) (by simp) (by decide) rfl ?_
            iterate 5 walk1
            replace hc : cloop k' row (twoDat (toldAt row q) t₁ t₂) q₂ l = some res := hc
            rw [hto] at hc
            have z := (sizes row k').2.2.2.1 _ _ _ _ hcl
            have y := (adv row k').2.2.2.1 _ _ _ _ hcl
            refine hn (k' + 1) _ _ _ _ (Nat.lt_succ_self _) (by assumption) (by assumption) ⟨_, _, .ok (twoDat tkn.told t₁ t₂) q₂, (over_self (fun q hq => by
              simp only [List.mem_cons, List.not_mem_nil, or_false] at hq
              rcases hq with rfl | rfl | rfl <;> rfl)).symm, ?_, (by intro q hq; solve_by_elim (maxDepth := 20) [List.mem_cons_of_mem, List.mem_append_right]), k', rfl, Nat.le_of_succ_le hk, hc, ⟨_, rfl⟩, Nat.lt_trans hp (Nat.lt_of_succ_lt y), z.1, ?_⟩
            · exact .tuple (List.Mem.head _) (.cons (.tuple (List.Mem.tail _ (List.Mem.head _)) (.cons (.str _ _) (.cons (.str _ _) (.cons (hx.mono (by intro q hq; solve_by_elim (maxDepth := 20) [List.mem_cons_of_mem, List.mem_append_right])) (.cons (hx₂.mono (by intro q hq; solve_by_elim (maxDepth := 20) [List.mem_cons_of_mem, List.mem_append_right])) .nil))))) (.cons (.int _ _) .nil))
            · rw [show 2 * (q₂ - p) = (2 * (q₂ - p) - 1) + 1 by omega]
              exact two_ok (kqd_le _ _ _ (by omega) hz) (kqd_le _ _ _ (by omega) z.2) (told_ok tkn)
      · rename_i hkind
        have hb : tkn.bin = 0 := bin_zero tkn (fun h => by rcases h with h | h <;> rw [h] at hkind <;> exact absurd hkind (by decide))
        have hres := cloop_0 (by rw [hst, hb]; exact Nat.lt_of_lt_of_le Nat.one_pos (Nat.le_max_right _ _)) hc
        iterate 22 walk1
        refine hw _ _ (hQ _ _ ?_)
        dsimp only
        exact hR _ _ _ _ _ (by assumption) (by assumption) (by intro q hq; solve_by_elim (maxDepth := 20) [List.mem_cons_of_mem, List.mem_append_right]) (by rw [hres]; exact hv.mono (by intro q hq; solve_by_elim (maxDepth := 20) [List.mem_cons_of_mem, List.mem_append_right]))
    · have hst : strengthAt row q = 0 := by unfold strengthAt; rw [List.getElem?_eq_none_iff.mpr (by omega)]
      have hres := cloop_0 (by rw [hst]; exact Nat.lt_of_lt_of_le Nat.one_pos (Nat.le_max_right _ _)) hc
      iterate 53 walk1
      iterate 3 walk1
      refine hw _ _ (hQ _ _ ?_)
      dsimp only
      exact hR _ _ _ _ _ (by assumption) (by assumption) (by intro q hq; solve_by_elim (maxDepth := 20) [List.mem_cons_of_mem, List.mem_append_right]) (by rw [hres]; exact hv.mono (by intro q hq; solve_by_elim (maxDepth := 20) [List.mem_cons_of_mem, List.mem_append_right]))
end
section
open PySem PySem.W PyProof.Rows PySem.Calls PyProof.V PySem.Spec
set_option maxRecDepth 100000
set_option maxHeartbeats 8000000
noncomputable def SpecIns (w : World) (row : List Tk) (n : Nat) : Prop := ∀ p k o res, inside n row p k o = some res → PyData.strOk k = true → PyData.strOk o = true → ∀ (ra : Addr) (i : Int) (t t1 t2 : Tok), i = (p : Int) → Calls w 228 [.ref ra, .int i t, .str k t1, .str o t2] (2 * n + 10) (20 * n + 400) (fun imm => RowIn imm ra row) (fun imm v => DatIn imm v (resD res))
/-- what is left of the loop -/
noncomputable def InJ (row : List Tk) (res : Res) (kd wd : Str) (n : Nat) (D ra : Addr) (t1 t2 : Tok) (imm : Led) (n' : Nat) (m : Str → Option Value) (led : Led) : Prop := ∃ vs acc c e' te imm' u, m = over [(Str.ofString "some", .ref D), (Str.ofString "row", .ref ra), (Str.ofString "kind", .str kd t1), (Str.ofString "word", .str wd t2), (Str.ofString "end", .int (e' : Nat) te)] u ∧
      led = (D, listOf (vs : List Value).toArray c) :: imm' ∧ (∀ p ∈ imm', p.1 ≠ D) ∧ DatAll imm' vs acc ∧ (∀ p ∈ imm, p ∈ imm') ∧ iloop n' row e' acc kd wd = some res ∧ n' ≤ n ∧ vs.length ≤ e' ∧ e' ≤ row.length
theorem ins_step (w : World) (row : List Tk) (hr : row.length ≤ 20) (n : Nat) (h2 : ∀ k, k ≤ n → SpecClimb w row k) : SpecIns w row (n + 1) := by
  intro p kd wd res hres hkd hwd ra i t t1 t2 hi
  subst hi
  refine calls_ofR I_inside [(Str.ofString "row", .ref ra), (Str.ofString "at", .int p t), (Str.ofString "kind", .str kd t1), (Str.ofString "word", .str wd t2)] (fun s => BindsTo.of_eq rfl) (by rfl) ?_
  k_fill
  intro mean mg mb dp un gd cn cs L₀ a ccd cl outer base g L imm hp₀ gs dr tk os PP hR B F X N T hP hd hu
  dsimp only [D_inside, B_inside]
  iterate 15 walk1
  refine use0 (after_ w ra row hr p t _ .lpar rfl) (by assumption) (by assumption) X (by assumption) T rfl (hP) (by first | exact roomD hd (by decide) | (show dp + 1 + _ ≤ 900; omega)) (by first | exact roomU hu (by decide) | (show un + 3 + _ ≤ 9000; omega)) ?_
  rintro v led₁ h₁ tk₁ F₁ N₁ hs₁ hv
  iterate 3 walk1
  refine newList_K (by assumption) (by assumption) (fun D h₂ F₂ N₂ l₂ => ?_)
  have hD : ∀ p ∈ led₁, p.1 ≠ D := fun p hp => Nat.ne_of_lt (l₂ p hp)
  iterate 21 walk1
  by_cases e : row[p]? = some .lpar
  · rw [if_pos e] at hv
    have hres := inside_1 e hres
    apply Exists.elim hv
    intro t3 ev
    subst ev
    refine use1v [(D, listOf ([] : List Value).toArray 0)] (isbad_int w _ _) (by assumption) (by assumption) X (News.sub (by assumption) (fun q hq => List.mem_cons_of_mem _ hq)) T rfl (Sep.one hD) trivial (by first | exact roomD hd (by decide) | (show dp + 1 + _ ≤ 900; omega)) (by first | exact roomU hu (by decide) | (show un + 3 + _ ≤ 9000; omega)) ?_
    intro led₃ h₃ tk₃ F₃ N₃ S₃ hs₃
    iterate 4 walk1
    refine wp_hide fun QQ hQ => ?_
    refine While_R (InJ row res kd wd n D ra t1 t2 imm) (n₀ := n) (by assumption) N₃ ⟨[], [], 0, p + 1, t3, led₃, _, (over_self (fun q hq => by
      simp only [List.mem_cons, List.not_mem_nil, or_false] at hq
      rcases hq with rfl | rfl | rfl | rfl | rfl <;> rfl)).symm, rfl, S₃.ones, .nil, (by intro q hq; solve_by_elim (maxDepth := 20) [List.mem_cons_of_mem, List.mem_append_right]), hres, Nat.le_refl _, Nat.zero_le _, (List.getElem?_eq_some_iff.mp e).1⟩ ?_
    clear hres hs₃ N₃ S₃
    intro k m₁ led₁ h₁ tk₁ WW hn hb hw F₁ N₁ hJ
    apply o7_9 hJ
    intro vs acc c e' te imm' u em el hS hvs hsub hil hkn hl1 hl2
    subst em el
    iterate 17 walk1
    cases k with
    | zero => unfold iloop at hil; cases hil
    | succ k =>
    apply o1_2 (iloop_1 hil)
    intro r hcl hil
    have hfine := fine_climb hr hcl
    refine use1 [(D, listOf vs.toArray c)] (h2 k (Nat.le_of_succ_le hkn) e' 0 r hcl ra _ _ _ _ rfl rfl) (by assumption) (by assumption) X N₁ T rfl (Sep.one hS) (hP.mono hsub) (by first | exact roomD hd (by decide) | (show dp + 1 + _ ≤ 900; omega)) (by first | exact roomU hu (by decide) | (show un + 3 + _ ≤ 9000; omega)) ?_
    rintro v led₂ h₂ tk₂ F₂ N₂ S₂ hs₂ hv
    iterate 12 walk1
    refine use1v [(D, listOf vs.toArray c)] (isbad_res w v r hfine) (by assumption) (by assumption) X (by assumption) T rfl S₂ hv (by first | exact roomD hd (by decide) | (show dp + 1 + _ ≤ 900; omega)) (by first | exact roomU hu (by decide) | (show un + 3 + _ ≤ 9000; omega)) ?_
    intro led₃ h₃ tk₃ F₃ N₃ S₃ hs₃
    cases r with
    | bad q =>
      dsimp only [Res.isBad]
      iterate 5 walk1
      have hres : res = .bad q := (Option.some.inj hil).symm
      refine hw _ _ (hQ _ _ ?_)
      dsimp only
      exact hR _ _ _ _ _ (by assumption) (by assumption) (by intro q hq; solve_by_elim (maxDepth := 20) [List.mem_cons_of_mem, List.mem_append_right]) (by rw [hres]; exact hv.mono (by intro q hq; solve_by_elim (maxDepth := 20) [List.mem_cons_of_mem, List.mem_append_right]))
    | ok t₁ q =>
      dsimp only [Res.isBad]
      apply o4_3 (pairI_open (hv.mono hs₃))
      intro av nv x ty ev hm hx
      subst ev
      have hRw := ((hP.mono hsub).mono hs₂).mono hs₃
      apply o2_3 hRw.open
      intro vr nr hrow hvr hlen
      iterate 15 walk1
      refine append_K (its := vs.toArray) (n := c) (news := (D, listOf vs.toArray c) :: led₃) (by assumption) (by assumption) (Upd.head S₃.ones) (fun h₄ F₄ N₄ => ?_) (by rw [List.size_toArray, sizeLine_eq]; omega)
      rw [List.push_toArray] at N₄
      have hm4 : (av, tupO [x, .int q ty] nv) ∈ (D, listOf (vs ++ [x]).toArray (c + 1)) :: led₃ := List.mem_cons_of_mem _ hm
      iterate 24 walk1
      k_dflt (refine' slice_row ?q1 ?q2 ?q3 ?q4 ?_ ?q5 ?q6; (case q1 => k_asm); (case q2 => k_asm); (case q3 => exact List.mem_cons_of_mem _ hrow); (case q4 => omega); (case q5 => with_unfolding_all rfl); (case q6 => kmk_pure))
      intro DS h5 F5 N5 l5
      iterate 11 walk1
      refine ne_row (row := row) (p := q) (sg := .comma) rfl (by assumption) (hvr.mono (by intro q hq; solve_by_elim (maxDepth := 20) [List.mem_cons_of_mem, List.mem_append_right])) (by k_mem) (by k_mem) (by k_mem) (by first | exact roomV hu | (show un + 3 ≤ 9500; omega)) ?_
      rename_i N6 _
      have N7 := News.sub N6 (b := (D, listOf (vs ++ [x]).toArray (c + 1)) :: led₃) (fun q hq => List.mem_cons_of_mem _ (List.mem_cons_of_mem _ (List.mem_cons_of_mem _ hq)))
      clear N6 l5
      have z := (sizes row k).2.2.2.1 _ _ _ _ hcl
      have y := (adv row k).2.2.2.1 _ _ _ _ hcl
      have hva : DatAll led₃ (vs ++ [x]) (acc ++ [t₁]) := datAll_snoc hx (hvs.mono (by intro q hq; solve_by_elim (maxDepth := 20) [List.mem_cons_of_mem, List.mem_append_right]))
      by_cases hcm : row[q]? = some .comma
      · rw [show decide (¬ row[q]? = some Tk.comma) = false from decide_eq_false (fun h => h hcm)]
        have hil : iloop k row (q + 1) (acc ++ [t₁]) kd wd = some res := (if_pos hcm).symm.trans hil
        iterate 5 walk1
        refine hn k _ _ _ _ (Nat.lt_succ_self _) (by assumption) N7 ⟨vs ++ [x], acc ++ [t₁], c + 1, q + 1, _, led₃, _, (over_self (fun q hq => by
          simp only [List.mem_cons, List.not_mem_nil, or_false] at hq
          rcases hq with rfl | rfl | rfl | rfl | rfl <;> rfl)).symm, rfl, S₃.ones, hva, (by intro q hq; solve_by_elim (maxDepth := 20) [List.mem_cons_of_mem, List.mem_append_right]), hil, Nat.le_of_succ_le hkn, by rw [List.length_append]; exact Nat.succ_le_succ (Nat.le_trans hl1 (Nat.le_of_lt y)), (List.getElem?_eq_some_iff.mp hcm).1⟩
      · rw [show decide (¬ row[q]? = some Tk.comma) = true from decide_eq_true hcm]
        have hil : (if row[q]? = some Tk.rpar then some (Res.ok (callDat kd wd (acc ++ [t₁])) (q + 1)) else some (Res.bad q)) = some res := (if_neg hcm).symm.trans hil
        iterate 5 walk1
        dsimp only
        refine hb _ (hQ _ _ ?_)
        dsimp only
        iterate 16 walk1
        refine use1 [(D, listOf (vs ++ [x]).toArray (c + 1))] (after_ w ra row hr q _ _ .rpar rfl) (by assumption) (by assumption) X (by assumption) T rfl (Sep.one S₃.ones) hRw (by first | exact roomD hd (by decide) | (show dp + 1 + _ ≤ 900; omega)) (by first | exact roomU hu (by decide) | (show un + 3 + _ ≤ 9000; omega)) ?_
        rintro vb led₄ h₆ tk₆ F₆ N₆ S₆ hs₆ hvb
        by_cases hrp : row[q]? = some .rpar
        · rw [if_pos hrp] at hvb
          have hil := (if_pos hrp).symm.trans hil
          apply Exists.elim hvb
          intro tb ev
          subst ev
          iterate 13 walk1
          refine use1v [(D, listOf (vs ++ [x]).toArray (c + 1))] (isbad_int w _ _) (by assumption) (by assumption) X (by assumption) T rfl S₆ trivial (by first | exact roomD hd (by decide) | (show dp + 1 + _ ≤ 900; omega)) (by first | exact roomU hu (by decide) | (show un + 3 + _ ≤ 9000; omega)) ?_
          intro led₅ h₇ tk₇ F₇ N₇ S₇ hs₇
          iterate 17 walk1
          have hva' : DatAll led₅ (vs ++ [x]) (acc ++ [t₁]) := hva.mono (by intro q hq; solve_by_elim (maxDepth := 20) [List.mem_cons_of_mem, List.mem_append_right])
          refine hR _ _ _ _ _ (by assumption) (by assumption) (by intro q hq; solve_by_elim (maxDepth := 20) [List.mem_cons_of_mem, List.mem_append_right]) ?_
          rw [← Option.some.inj hil]
          exact .tuple (List.Mem.head _) (.cons (.tuple (List.Mem.tail _ (List.Mem.head _)) (.cons (.str _ _) (.cons (.str _ _) (.cons (.list (List.Mem.tail _ (List.Mem.tail _ (List.Mem.head _))) (hva'.mono (by intro q hq; solve_by_elim (maxDepth := 20) [List.mem_cons_of_mem, List.mem_append_right]))) .nil)))) (.cons (.int _ _) .nil))
        · rw [if_neg hrp] at hvb
          have hil := (if_neg hrp).symm.trans hil
          iterate 13 walk1
          refine use1v [(D, listOf (vs ++ [x]).toArray (c + 1))] (isbad_res w vb (.bad q) trivial) (by assumption) (by assumption) X (by assumption) T rfl S₆ hvb (by first | exact roomD hd (by decide) | (show dp + 1 + _ ≤ 900; omega)) (by first | exact roomU hu (by decide) | (show un + 3 + _ ≤ 9000; omega)) ?_
          intro led₅ h₇ tk₇ F₇ N₇ S₇ hs₇
          dsimp only [Res.isBad]
          iterate 3 walk1
          exact hR _ _ _ _ _ (by assumption) (by assumption) (by intro q hq; solve_by_elim (maxDepth := 20) [List.mem_cons_of_mem, List.mem_append_right]) (by rw [← Option.some.inj hil]; exact hvb.mono (by intro q hq; solve_by_elim (maxDepth := 20) [List.mem_cons_of_mem, List.mem_append_right]))
  · rw [if_neg e] at hv
    have hres := inside_0 e hres
    refine use1v [(D, listOf ([] : List Value).toArray 0)] (isbad_res w v (.bad p) trivial) (by assumption) (by assumption) X (News.sub (by assumption) (fun q hq => List.mem_cons_of_mem _ hq)) T rfl (Sep.one hD) hv (by first | exact roomD hd (by decide) | (show dp + 1 + _ ≤ 900; omega)) (by first | exact roomU hu (by decide) | (show un + 3 + _ ≤ 9000; omega)) ?_
    intro led₃ h₃ tk₃ F₃ N₃ S₃ hs₃
    dsimp only [Res.isBad]
    iterate 5 walk1
    exact hR _ _ _ _ _ (by assumption) (by assumption) (by intro q hq; solve_by_elim (maxDepth := 20) [List.mem_cons_of_mem, List.mem_append_right]) (by rw [hres]; exact hv.mono (by intro q hq; solve_by_elim (maxDepth := 20) [List.mem_cons_of_mem, List.mem_append_right]))
end
section
open PySem PySem.W PyProof.Rows PySem.Calls PyProof.V PySem.Spec
set_option maxRecDepth 100000
section
variable {w : World} {A : Around} {E : Value → Shared → Prop} {s : Shared} {g : Heap} {L : Addr} {led imm : Led} {Q : Value → Shared → Prop}
theorem tup2_dec (a b c d : Str) : (Dat.tuple [.str a, .str b] = Dat.tuple [.str c, .str d]) ↔ (a = c ∧ b = d) := by simp
theorem kqd2 {a b : Str} (ha : PyData.strOk a = true) (hb : PyData.strOk b = true) : kqdOk 1 (.tuple [.str a, .str b]) = true := by simp [kqdOk, ha, hb]
/-- (kd, td) == (c, d) -/
theorem eq_tup2 {x y : Addr} {kx ky : Nat} {a b c d : Str} {t1 t2 t3 t4 : Tok} (N : News g L s.heap led) (hx : (x, tupO [.str a t1, .str b t2] kx) ∈ led) (hy : (y, tupO [.str c t3, .str d t4] ky) ∈ led)
    (ha : PyData.strOk a = true) (hb : PyData.strOk b = true) (hc : PyData.strOk c = true) (hd : PyData.strOk d = true) (hu : A.units ≤ 9500) (h : Q (.bool (decide (a = c ∧ b = d))) s) : wpAny (model PySem.Challenge.rw_pq0176_01.row.prog w) A (compareOp .Eq (.ref x) (.ref y)) Q E s := by
  have o1 := kqd2 ha hb
  have o2 := kqd2 hc hd
  obtain ⟨as, ra⟩ := kqd_in (d := .tuple [.str a, .str b]) N 1 (.tuple hx (.cons (.str _ _) (.cons (.str _ _) .nil))) o1
  obtain ⟨bs, rb⟩ := kqd_in (d := .tuple [.str c, .str d]) N 1 (.tuple hy (.cons (.str _ _) (.cons (.str _ _) .nil))) o2
  have la := kqd_lay 1 _ o1
  have lb := kqd_lay 1 _ o2
  have e : PyData.eqv (kqdP (.tuple [.str a, .str b])) (kqdP (.tuple [.str c, .str d])) = decide (a = c ∧ b = d) := by
    have q := kqd_eqv 1 _ _ 1 o1 o2
    rw [tup2_dec] at q
    by_cases hq : a = c ∧ b = d
    · rw [decide_eq_true hq]; exact q.mpr hq
    · rw [decide_eq_false hq]; exact Bool.eq_false_iff.mpr fun x => hq (q.mp x)
  refine eq_dataH ra rb ?_ ?_ (by have := cLine_is; omega) (by rw [e]; exact h)
  · unfold SeqAt.shaped; rw [la.1, Bool.true_and]; exact decide_eq_true (Nat.le_trans la.2 (by omega))
  · unfold SeqAt.shaped; rw [lb.1, Bool.true_and]; exact decide_eq_true (Nat.le_trans lb.2 (by omega))
/-- (kd, td) not in ((c, d), (e, f)) -/
theorem notin_tup2 {x y y1 y2 : Addr} {kx ky k1 k2 : Nat} {a b c d e f : Str} {t1 t2 t3 t4 t5 t6 : Tok} (N : News g L s.heap led) (hx : (x, tupO [.str a t1, .str b t2] kx) ∈ led) (hy : (y, tupO [.ref y1, .ref y2] ky) ∈ led) (h1 : (y1, tupO [.str c t3, .str d t4] k1) ∈ led) (h2 : (y2, tupO [.str e t5, .str f t6] k2) ∈ led)
    (ha : PyData.strOk a = true) (hb : PyData.strOk b = true) (hc : PyData.strOk c = true) (hd : PyData.strOk d = true) (he : PyData.strOk e = true) (hf : PyData.strOk f = true) (hu : A.units ≤ 9500) (h : Q (.bool (!(decide (c = a ∧ d = b) || decide (e = a ∧ f = b)))) s) : wpAny (model PySem.Challenge.rw_pq0176_01.row.prog w) A (compareOp .NotIn (.ref x) (.ref y)) Q E s := by
  have o1 := kqd2 ha hb
  have o2 := kqd2 hc hd
  have o3 := kqd2 he hf
  obtain ⟨as, ra⟩ := kqd_in (d := .tuple [.str a, .str b]) N 1 (.tuple hx (.cons (.str _ _) (.cons (.str _ _) .nil))) o1
  have oo : kqdOk 2 (.tuple [.tuple [.str c, .str d], .tuple [.str e, .str f]]) = true := by simp [kqdOk, hc, hd, he, hf]
  obtain ⟨bs, rb⟩ := kqd_in (d := .tuple [.tuple [.str c, .str d], .tuple [.str e, .str f]]) N 2 (.tuple hy (.cons (.tuple h1 (.cons (.str _ _) (.cons (.str _ _) .nil))) (.cons (.tuple h2 (.cons (.str _ _) (.cons (.str _ _) .nil))) .nil))) oo
  have la := kqd_lay 1 _ o1
  have lb := kqd_lay 2 _ oo
  have ev : ∀ p q, PyData.strOk p = true → PyData.strOk q = true → PyData.eqv (kqdP (.tuple [.str p, .str q])) (kqdP (.tuple [.str a, .str b])) = decide (p = a ∧ q = b) := by
    intro p q hp hq'
    have q' := kqd_eqv 1 _ _ 1 (kqd2 hp hq') o1
    rw [tup2_dec] at q'
    by_cases hq : p = a ∧ q = b
    · rw [decide_eq_true hq]; exact q'.mpr hq
    · rw [decide_eq_false hq]; exact Bool.eq_false_iff.mpr fun x => hq (q'.mp x)
  rw [kqdP, kqdPs, kqdPs, kqdPs] at rb
  rw [kqdP, kqdPs, kqdPs, kqdPs] at lb
  simp only [PyData.canLay0, PyData.depth] at lb
  refine SeqAt.notIn_tuple_reads rb ra lb.1 la.1 ?_ ?_
  · have := cLine_is
    have := la.2
    omega
  · simp only [List.any_cons, List.any_nil, Bool.or_false]
    rw [ev c d hc hd, ev e f he hf]
    exact h
theorem item_dict {d : Addr} {o : Obj} {kvs : List (Str × Value)} {x : Str} {t : Tok} {v : Value} {value slice : PySem.Expr} (N : News g L s.heap led) (hm : (d, o) ∈ led) (hd : o.IsDictOf (PySem.strKind PySem.Challenge.rw_pq0176_01.row.prog w) kvs) (hv : valueAt kvs x = some v) (h : Q v { s with toks := s.toks + 1 })
    (hs : subscripted slice false (.ref d) (.str x t) = operate [.ref d, .str x t] (getItem (.ref d) (.str x t)) := by with_unfolding_all rfl) :
    wpAny (model PySem.Challenge.rw_pq0176_01.row.prog w) A (subscriptTail value slice (.ref d) (.str x t)) Q E s := by
  have hd' : s.heap.DictOf (PySem.strKind PySem.Challenge.rw_pq0176_01.row.prog w) d kvs := Heap.dictOf_iff.mpr ⟨o, N.get hm, hd⟩
  exact tail_any hd'.typeIs slot_dict_getitem.lookup (wpAny_getItem_of (strKind_is _ w x t) hd'.mapOf hv h) hs
end
end
section
open PySem PySem.W PyProof.Rows PySem.Calls PyProof.V PySem.Spec
set_option maxRecDepth 100000
set_option maxHeartbeats 1000000
theorem nk_fn : ∀ i : Fin 3, (nameStr i == Str.ofString "FNB") = true → nameKind i = Str.ofString "fn" := by decide +kernel
theorem nk_item : ∀ i : Fin 3, (nameStr i == Str.ofString "FNB") = false → nameKind i = Str.ofString "item" := by decide +kernel
theorem nd_fn (i : Fin 3) (h : (nameStr i == Str.ofString "FNB") = true) : nameDat i = callDat (Str.ofString "fn") (nameStr i) [] := by
  have e : ∀ i : Fin 3, (nameStr i == Str.ofString "FNB") = true → i.val = 1 := by decide +kernel
  unfold nameDat; rw [if_pos (e i h)]
theorem nd_name (i : Fin 3) (h : (nameStr i == Str.ofString "FNB") = false) : nameDat i = leafDat (Str.ofString "name") (nameStr i) := by
  have e : ∀ i : Fin 3, (nameStr i == Str.ofString "FNB") = false → ¬ i.val = 1 := by decide +kernel
  unfold nameDat; rw [if_neg (e i h)]
theorem one_step (w : World) (row : List Tk) (hr : row.length ≤ 20) (n : Nat) (h1 : SpecOne w row n) (h2 : SpecIns w row n) (h3 : SpecClimb w row n) : SpecOne w row (n + 1) := by
  intro p res hres ra i t hi
  subst hi
  refine calls_ofR I_one [(Str.ofString "row", .ref ra), (Str.ofString "at", .int p t)] (fun s => BindsTo.of_eq rfl) (by rfl) ?_
  k_fill
  intro mean mg mb dp un gd cn cs L₀ a ccd cl outer base g L imm hp gs dr tk os PP hR B F X N T hP hd hu
  dsimp only [D_one, B_one]
  apply o2_3 hP.open
  intro vs nr hrow hvs hlen
  iterate 2 walk1
  refine wp_cut (fun R' => ∀ kd td a1 n1 t1 t2 led' h' tk', KT row p kd td → Fr g L h' (fun y => [(Str.ofString "row", Value.ref ra), (Str.ofString "at", Value.int p t)].reverse.lookup y) → News g L h' led' → (∀ q ∈ imm, q ∈ led') → (a1, tupO [.str kd t1, .str td t2] n1) ∈ led' → R' (.ref a1) ⟨h', gs, dr, tk', os⟩) (fun R' hR' => ?_) ?_
  · iterate 9 walk1
    refine len_row (by assumption) hrow (by omega) ?_
    rw [hlen]
    by_cases hlt : p < row.length
    · refine Exists.elim (row_at hvs (List.getElem?_eq_getElem hlt)) fun v hv => ?_
      apply o4_2 (tok_open hv.2)
      intro a1 n1 t1 t2 ev hv3
      iterate 6 walk1
      refine item_row (by assumption) hrow (by omega) hv.1 ?_
      rw [ev]
      exact hR' _ _ a1 n1 t1 t2 imm _ _ (.inr ⟨_, List.getElem?_eq_getElem hlt, rfl, rfl⟩) F N (fun _ h => h) hv3
    · iterate 10 walk1
      exact hR' _ _ _ _ _ _ _ _ _ (.inl ⟨List.getElem?_eq_none_iff.mpr (Nat.le_of_not_lt hlt), rfl, rfl⟩) (by assumption) (by assumption) (by intro q hq; solve_by_elim (maxDepth := 20) [List.mem_cons_of_mem, List.mem_append_right]) (List.Mem.head _)
  intro kd td a1 n1 t1 t2 led₁ h₁ tk₁ hkt F₁ N₁ hs₁ hm₁
  have hok := hkt.ok
  clear hvs hrow hlen vs nr N F
  iterate 16 walk1
  · -- a number
    rename_i hk
    have hk' : kd = Str.ofString "number" := by first | exact hk | exact of_decide_eq_true hk
    apply o1_2 (hkt.num hk')
    intro b hb1 hb2
    iterate 5 walk1
    k_dflt (refine' kdn_str ?e1 ?e2 ?e3 ?e4 ?e5 ?e6 ?e7 ?e8 ?_; (case e1 => rfl); (case e2 => k_asm); (case e3 => k_asm); (case e4 => exact Top.nolimit (by k_asm)); (case e5 => rfl); (case e6 => rfl); (case e7 => exact List.cons_ne_nil _ _); (case e8 => exact Nat.le_of_ble_eq_true rfl))
    intro D h2 o F2 N2 l2 lo2 hd2
    (try k_lt l2)
    iterate 6 walk1
    with_reducible refine wp_st fun _ => ?_
    iterate 22 walk1
    k_dflt (refine' kdn_made_str ?e1 ?e2 ?e3 ?e4 ?e5 ?e6 ?_; (case e1 => k_asm); (case e2 => k_asm); (case e3 => exact UpdF.tail (by k_ne) (UpdF.tail (by k_ne) (UpdF.tail (by k_ne) (UpdF.head (fun p hp => Nat.ne_of_lt (l2 p hp)))))); (case e4 => exact hd2); (case e5 => rfl); (case e6 => exact of_decide_eq_true (by first | rfl | kernel_rfl!)))
    intro h3 o3 F3 N3 hd3
    iterate 1 walk1
    have hres' := one_num hb1 hres
    subst hb2
    cases b
    · refine item_dict (by assumption) (List.mem_cons_of_mem _ (List.mem_cons_of_mem _ (List.mem_cons_of_mem _ (List.Mem.head _)))) hd3 rfl ?_
      iterate 7 walk1
      refine hR _ _ _ _ _ (by assumption) (by assumption) (by intro q hq; solve_by_elim (maxDepth := 20) [List.mem_cons_of_mem, List.mem_append_right]) ?_
      rw [hres']
      exact .tuple (by k_mem) (.cons (.tuple (by k_mem) (.cons (.str _ _) (.cons (.int _ _) .nil))) (.cons (.int _ _) .nil))
    · refine item_dict (by assumption) (List.mem_cons_of_mem _ (List.mem_cons_of_mem _ (List.mem_cons_of_mem _ (List.Mem.head _)))) hd3 rfl ?_
      iterate 7 walk1
      refine hR _ _ _ _ _ (by assumption) (by assumption) (by intro q hq; solve_by_elim (maxDepth := 20) [List.mem_cons_of_mem, List.mem_append_right]) ?_
      rw [hres']
      exact .tuple (by k_mem) (.cons (.tuple (by k_mem) (.cons (.str _ _) (.cons (.tuple (by k_mem) (.cons (.int _ _) (.cons (.int _ _) .nil))) .nil))) (.cons (.int _ _) .nil))
  rename_i hk
  have hk1 : ¬ kd = Str.ofString "number" := fun h => by rw [h] at hk; exact absurd hk (by decide)
  clear hk
  iterate 10 walk1
  · -- a text
    rename_i hk
    have hk' : kd = Str.ofString "text" := eq_of_beq hk
    have hb := hkt.text hk'
    iterate 6 walk1
    with_reducible refine wp_st fun _ => ?_
    iterate 12 walk1
    refine hR _ _ _ _ _ (by assumption) (by assumption) (by intro q hq; solve_by_elim (maxDepth := 20) [List.mem_cons_of_mem, List.mem_append_right]) ?_
    rw [one_text hb.1 hres, hk', hb.2]
    exact .tuple (by k_mem) (.cons (.tuple (by k_mem) (.cons (.str _ _) (.cons (.str _ _) .nil))) (.cons (.int _ _) .nil))
  rename_i hk
  have hk2 : ¬ kd = Str.ofString "text" := fun h => by rw [h] at hk; exact absurd hk (by decide)
  clear hk
  refine o2_3 (hP.mono hs₁).open fun vs nr hrow hvs hlen => ?_
  iterate 6 walk1
  with_reducible refine wp_st fun _ => ?_
  iterate 12 walk1
  k_dflt (refine' slice_row (p := p + 1) ?q1 ?q2 ?q3 ?q4 ?_ ?q5 ?q6; (case q1 => k_asm); (case q2 => k_asm); (case q3 => exact hrow); (case q4 => omega); (case q5 => with_unfolding_all rfl); (case q6 => kmk_pure))
  intro DS h5 F5 N5 l5
  iterate 11 walk1
  refine eq_row (row := row) (p := p + 1) (sg := .lpar) rfl (by assumption) (hvs.mono (by intro q hq; solve_by_elim (maxDepth := 20) [List.mem_cons_of_mem, List.mem_append_right])) (by k_mem) (by k_mem) (by k_mem) (by first | exact roomV hu | (show un + 3 ≤ 9500; omega)) ?_
  generalize hbo : decide (row[p + 1]? = some Tk.lpar) = bo
  have N7 : News g L _ led₁ := News.sub (by assumption) (by intro q hq; solve_by_elim (maxDepth := 20) [List.mem_cons_of_mem, List.mem_append_right])
  iterate 11 walk1
  · -- a name
    rename_i hk
    have hk' : kd = Str.ofString "name" := eq_of_beq hk
    apply o1_2 (hkt.name hk')
    intro i hb1 hb2
    iterate 5 walk1
    · rename_i hop
      have hres := one_name1 hb1 (of_decide_eq_true (hbo.trans hop)) hres
      iterate 6 walk1
      with_reducible refine wp_st fun _ => ?_
      iterate 17 walk1
      · rename_i hf
        have hnk : nameKind i = Str.ofString "fn" := nk_fn i (hb2 ▸ hf)
        iterate 5 walk1
        refine use0 (h2 (p + 1) (Str.ofString "fn") td res (hnk ▸ hb2 ▸ hres) (by decide +kernel) hok.2 ra _ _ _ _ rfl) (by assumption) (by assumption) X (by assumption) T rfl (hP.mono (by intro q hq; solve_by_elim (maxDepth := 20) [List.mem_cons_of_mem, List.mem_append_right])) (by first | exact roomD hd (by decide) | (show dp + 1 + _ ≤ 900; omega)) (by first | exact roomU hu (by decide) | (show un + 3 + _ ≤ 9000; omega)) ?_
        rintro v led₂ h₂ tk₂ F₂ N₂ hs₂ hv
        exact hR _ _ _ _ _ F₂ N₂ (by intro q hq; solve_by_elim (maxDepth := 20) [List.mem_cons_of_mem, List.mem_append_right]) hv
      · rename_i hf
        have hnk : nameKind i = Str.ofString "item" := nk_item i (hb2 ▸ hf)
        iterate 5 walk1
        refine use0 (h2 (p + 1) (Str.ofString "item") td res (hnk ▸ hb2 ▸ hres) (by decide +kernel) hok.2 ra _ _ _ _ rfl) (by assumption) (by assumption) X (by assumption) T rfl (hP.mono (by intro q hq; solve_by_elim (maxDepth := 20) [List.mem_cons_of_mem, List.mem_append_right])) (by first | exact roomD hd (by decide) | (show dp + 1 + _ ≤ 900; omega)) (by first | exact roomU hu (by decide) | (show un + 3 + _ ≤ 9000; omega)) ?_
        rintro v led₂ h₂ tk₂ F₂ N₂ hs₂ hv
        exact hR _ _ _ _ _ F₂ N₂ (by intro q hq; solve_by_elim (maxDepth := 20) [List.mem_cons_of_mem, List.mem_append_right]) hv
    · rename_i hop
      have hres := one_name0 hb1 (of_decide_eq_false (hbo.trans hop)) hres
      iterate 6 walk1
      with_reducible refine wp_st fun _ => ?_
      iterate 17 walk1
      · rename_i hf
        iterate 6 walk1
        with_reducible refine wp_st fun _ => ?_
        iterate 12 walk1
        refine hR _ _ _ _ _ (by assumption) (by assumption) (by intro q hq; solve_by_elim (maxDepth := 20) [List.mem_cons_of_mem, List.mem_append_right]) ?_
        rw [hres, nd_fn i (hb2 ▸ hf), ← hb2]
        exact .tuple (by k_mem) (.cons (.tuple (by k_mem) (.cons (.str _ _) (.cons (.str _ _) (.cons (.list (by k_mem) .nil) .nil)))) (.cons (.int _ _) .nil))
      · rename_i hf
        iterate 14 walk1
        refine hR _ _ _ _ _ (by assumption) (by assumption) (by intro q hq; solve_by_elim (maxDepth := 20) [List.mem_cons_of_mem, List.mem_append_right]) ?_
        rw [hres, nd_name i (hb2 ▸ hf), ← hb2]
        rw [hk']
        exact .tuple (by k_mem) (.cons (.tuple (by k_mem) (.cons (.str _ _) (.cons (.str _ _) .nil))) (.cons (.int _ _) .nil))
  rename_i hk
  have hk3 : ¬ kd = Str.ofString "name" := fun h => by rw [h] at hk; exact absurd hk (by decide)
  iterate 6 walk1
  with_reducible refine wp_st fun _ => ?_
  iterate 21 walk1
  · rename_i hlr
    simp only [List.any_cons, List.any_nil, Bool.or_false, Bool.or_eq_true, beq_iff_eq] at hlr
    rcases hlr with hlr | hlr
    · -- LEN
      have hb := hkt.sg "LEN" (by simp) hlr.symm .len rfl (by simp)
      have hres := one_len hb hres
      subst hlr
      iterate 6 walk1
      with_reducible refine wp_st fun _ => ?_
      iterate 21 walk1
      refine use0 (h2 (p + 1) (Str.ofString "call") (Str.ofString "LEN") res hres (by decide +kernel) (by decide +kernel) ra _ _ _ _ rfl) (by assumption) (by assumption) X (by assumption) T rfl (hP.mono (by intro q hq; solve_by_elim (maxDepth := 20) [List.mem_cons_of_mem, List.mem_append_right])) (by first | exact roomD hd (by decide) | (show dp + 1 + _ ≤ 900; omega)) (by first | exact roomU hu (by decide) | (show un + 3 + _ ≤ 9000; omega)) ?_
      rintro v led₂ h₂ tk₂ F₂ N₂ hs₂ hv
      exact hR _ _ _ _ _ F₂ N₂ (by intro q hq; solve_by_elim (maxDepth := 20) [List.mem_cons_of_mem, List.mem_append_right]) hv
    · have hb := hkt.sg "RND" (by simp) hlr.symm .rnd rfl (by simp)
      subst hlr
      iterate 15 walk1
      cases bo with
      | false =>
        have hres := one_rnd0 hb (of_decide_eq_false hbo) hres
        iterate 24 walk1
        refine hR _ _ _ _ _ (by assumption) (by assumption) (by intro q hq; solve_by_elim (maxDepth := 20) [List.mem_cons_of_mem, List.mem_append_right]) ?_
        rw [hres]
        exact .tuple (by k_mem) (.cons (.tuple (by k_mem) (.cons (.str _ _) (.cons (.str _ _) (.cons (.list (by k_mem) .nil) .nil)))) (.cons (.int _ _) .nil))
      | true =>
        have hres := one_rnd1 hb (of_decide_eq_true hbo) hres
        iterate 6 walk1
        with_reducible refine wp_st fun _ => ?_
        iterate 13 walk1
        refine use0 (h2 (p + 1) (Str.ofString "call") (Str.ofString "RND") res hres (by decide +kernel) (by decide +kernel) ra _ _ _ _ rfl) (by assumption) (by assumption) X (by assumption) T rfl (hP.mono (by intro q hq; solve_by_elim (maxDepth := 20) [List.mem_cons_of_mem, List.mem_append_right])) (by first | exact roomD hd (by decide) | (show dp + 1 + _ ≤ 900; omega)) (by first | exact roomU hu (by decide) | (show un + 3 + _ ≤ 9000; omega)) ?_
        rintro v led₂ h₂ tk₂ F₂ N₂ hs₂ hv
        exact hR _ _ _ _ _ F₂ N₂ (by intro q hq; solve_by_elim (maxDepth := 20) [List.mem_cons_of_mem, List.mem_append_right]) hv
  rename_i hlr
  simp only [List.any_cons, List.any_nil, Bool.or_false, Bool.or_eq_false_iff, beq_eq_false_iff_ne] at hlr
  have hk4 : ¬ td = Str.ofString "LEN" := fun h => hlr.1 h.symm
  have hk5 : ¬ td = Str.ofString "RND" := fun h => hlr.2 h.symm
  iterate 6 walk1
  with_reducible refine wp_st fun _ => ?_
  iterate 12 walk1
  refine eq_tup2 (by assumption) (List.Mem.tail _ (List.Mem.head _)) (List.Mem.head _) hok.1 hok.2 (by decide +kernel) (by decide +kernel) (by first | exact roomV hu | (show un + 3 ≤ 9500; omega)) ?_
  have N8 : News g L _ led₁ := News.sub (by assumption) (by intro q hq; solve_by_elim (maxDepth := 20) [List.mem_cons_of_mem, List.mem_append_right])
  iterate 2 walk1
  · rename_i hq
    have hb := hkt.sg "(" (by simp) hq.2 .lpar rfl (by simp)
    apply o1_2 (one_lpar hb hres)
    intro r hcl hres
    have hfine := fine_climb hr hcl
    iterate 16 walk1
    refine use0 (h3 (p + 1) 0 r hcl ra _ _ _ _ rfl rfl) (by assumption) (by assumption) X (by assumption) T rfl (hP.mono (by intro q hq; solve_by_elim (maxDepth := 20) [List.mem_cons_of_mem, List.mem_append_right])) (by first | exact roomD hd (by decide) | (show dp + 1 + _ ≤ 900; omega)) (by first | exact roomU hu (by decide) | (show un + 3 + _ ≤ 9000; omega)) ?_
    rintro v led₂ h₂ tk₂ F₂ N₂ hs₂ hv
    iterate 13 walk1
    refine use0v (isbad_res w v r hfine) (by assumption) (by assumption) X (by assumption) T rfl (hv) (by first | exact roomD hd (by decide) | (show dp + 1 + _ ≤ 900; omega)) (by first | exact roomU hu (by decide) | (show un + 3 + _ ≤ 9000; omega)) ?_
    intro led₃ h₃ tk₃ F₃ N₃ hs₃
    cases r with
    | bad q =>
      dsimp only [Res.isBad]
      iterate 16 walk1
      refine use0v (isbad_res w v (.bad q) trivial) (by assumption) (by assumption) X (by assumption) T rfl (hv.mono (by intro q hq; solve_by_elim (maxDepth := 20) [List.mem_cons_of_mem, List.mem_append_right])) (by first | exact roomD hd (by decide) | (show dp + 1 + _ ≤ 900; omega)) (by first | exact roomU hu (by decide) | (show un + 3 + _ ≤ 9000; omega)) ?_
      intro led₄ h₄ tk₄ F₄ N₄ hs₄
      dsimp only [Res.isBad]
      iterate 3 walk1
      refine hR _ _ _ _ _ (by assumption) (by assumption) (by intro q hq; solve_by_elim (maxDepth := 20) [List.mem_cons_of_mem, List.mem_append_right]) (by rw [hres]; exact hv.mono (by intro q hq; solve_by_elim (maxDepth := 20) [List.mem_cons_of_mem, List.mem_append_right]))
    | ok t₁ q =>
      dsimp only [Res.isBad]
      apply o4_4 (pair_open (hv.mono hs₃))
      intro av nv x y ev hm hx hy
      subst ev
      cases hy
      rename_i ty
      iterate 16 walk1
      refine use0 (after_ w ra row hr q _ _ .rpar rfl) (by assumption) (by assumption) X (by assumption) T rfl (hP.mono (by intro q hq; solve_by_elim (maxDepth := 20) [List.mem_cons_of_mem, List.mem_append_right])) (by first | exact roomD hd (by decide) | (show dp + 1 + _ ≤ 900; omega)) (by first | exact roomU hu (by decide) | (show un + 3 + _ ≤ 9000; omega)) ?_
      rintro vb led₄ h₄ tk₄ F₄ N₄ hs₄ hvb
      by_cases hrp : row[q]? = some .rpar
      · rw [if_pos hrp] at hvb
        have hres := hres.trans (if_pos hrp)
        obtain ⟨tb, rfl⟩ := hvb
        iterate 13 walk1
        refine use0v (isbad_int w _ _) (by assumption) (by assumption) X (by assumption) T rfl (trivial) (by first | exact roomD hd (by decide) | (show dp + 1 + _ ≤ 900; omega)) (by first | exact roomU hu (by decide) | (show un + 3 + _ ≤ 9000; omega)) ?_
        intro led₅ h₅ tk₅ F₅ N₅ hs₅
        have hm5 := hs₅ _ (hs₄ _ hm)
        iterate 12 walk1
        refine hR _ _ _ _ _ (by assumption) (by assumption) (by intro q hq; solve_by_elim (maxDepth := 20) [List.mem_cons_of_mem, List.mem_append_right]) ?_
        rw [hres]
        exact .tuple (by k_mem) (.cons (hx.mono (by intro q hq; solve_by_elim (maxDepth := 20) [List.mem_cons_of_mem, List.mem_append_right])) (.cons (.int _ _) .nil))
      · rw [if_neg hrp] at hvb
        have hres := hres.trans (if_neg hrp)
        iterate 13 walk1
        refine use0v (isbad_res w vb (.bad q) trivial) (by assumption) (by assumption) X (by assumption) T rfl (hvb) (by first | exact roomD hd (by decide) | (show dp + 1 + _ ≤ 900; omega)) (by first | exact roomU hu (by decide) | (show un + 3 + _ ≤ 9000; omega)) ?_
        intro led₅ h₅ tk₅ F₅ N₅ hs₅
        dsimp only [Res.isBad]
        iterate 3 walk1
        refine hR _ _ _ _ _ (by assumption) (by assumption) (by intro q hq; solve_by_elim (maxDepth := 20) [List.mem_cons_of_mem, List.mem_append_right]) (by rw [hres]; exact hvb.mono (by intro q hq; solve_by_elim (maxDepth := 20) [List.mem_cons_of_mem, List.mem_append_right]))
  rename_i hq6
  iterate 6 walk1
  with_reducible refine wp_st fun _ => ?_
  iterate 13 walk1
  refine eq_tup2 (by assumption) (List.Mem.tail _ (List.Mem.head _)) (List.Mem.head _) hok.1 hok.2 (by decide +kernel) (by decide +kernel) (by first | exact roomV hu | (show un + 3 ≤ 9500; omega)) ?_
  have N9 : News g L _ led₁ := News.sub (by assumption) (by intro q hq; solve_by_elim (maxDepth := 20) [List.mem_cons_of_mem, List.mem_append_right])
  iterate 2 walk1
  · rename_i hq
    have hb := hkt.sg "+" (by simp) hq.2 .plus rfl (by simp)
    have hres := one_plus hb hres
    iterate 14 walk1
    refine use0 (h1 (p + 1) res hres ra _ _ rfl) (by assumption) (by assumption) X (by assumption) T rfl (hP.mono (by intro q hq; solve_by_elim (maxDepth := 20) [List.mem_cons_of_mem, List.mem_append_right])) (by first | exact roomD hd (by decide) | (show dp + 1 + _ ≤ 900; omega)) (by first | exact roomU hu (by decide) | (show un + 3 + _ ≤ 9000; omega)) ?_
    rintro v led₂ h₂ tk₂ F₂ N₂ hs₂ hv
    exact hR _ _ _ _ _ F₂ N₂ (by intro q hq; solve_by_elim (maxDepth := 20) [List.mem_cons_of_mem, List.mem_append_right]) hv
  rename_i hq7
  iterate 6 walk1
  with_reducible refine wp_st fun _ => ?_
  iterate 25 walk1
  refine notin_tup2 (by assumption) (List.Mem.tail _ (List.Mem.tail _ (List.Mem.tail _ (List.Mem.head _)))) (List.Mem.head _) (List.Mem.tail _ (List.Mem.tail _ (List.Mem.head _))) (List.Mem.tail _ (List.Mem.head _)) hok.1 hok.2 (by decide +kernel) (by decide +kernel) (by decide +kernel) (by decide +kernel) (by first | exact roomV hu | (show un + 3 ≤ 9500; omega)) ?_
  have N9 : News g L _ led₁ := News.sub (by assumption) (by intro q hq; solve_by_elim (maxDepth := 20) [List.mem_cons_of_mem, List.mem_append_right])
  by_cases hq8 : kd = Str.ofString "sign" ∧ td = Str.ofString "-"
  · have hb := hkt.sg "-" (by simp) hq8.2 .minus rfl (by simp)
    obtain ⟨rfl, rfl⟩ := hq8
    simp only [and_self, decide_true, Bool.true_or, Bool.not_true]
    apply o1_2 (one_un hb (.inl ⟨rfl, rfl, rfl⟩) hres)
    intro r hcl hres
    have hfine := fine_climb hr hcl
    iterate 6 walk1
    with_reducible refine wp_st fun _ => ?_
    iterate 21 walk1
    refine use0 (h3 (p + 1) 12 r hcl ra _ _ _ _ rfl rfl) (by assumption) (by assumption) X (by assumption) T rfl (hP.mono (by intro q hq; solve_by_elim (maxDepth := 20) [List.mem_cons_of_mem, List.mem_append_right])) (by first | exact roomD hd (by decide) | (show dp + 1 + _ ≤ 900; omega)) (by first | exact roomU hu (by decide) | (show un + 3 + _ ≤ 9000; omega)) ?_
    rintro v led₂ h₂ tk₂ F₂ N₂ hs₂ hv
    iterate 13 walk1
    refine use0v (isbad_res w v r hfine) (by assumption) (by assumption) X (by assumption) T rfl (hv) (by first | exact roomD hd (by decide) | (show dp + 1 + _ ≤ 900; omega)) (by first | exact roomU hu (by decide) | (show un + 3 + _ ≤ 9000; omega)) ?_
    intro led₃ h₃ tk₃ F₃ N₃ hs₃
    cases r with
    | bad q =>
      dsimp only [Res.isBad]
      iterate 3 walk1
      refine hR _ _ _ _ _ (by assumption) (by assumption) (by intro q hq; solve_by_elim (maxDepth := 20) [List.mem_cons_of_mem, List.mem_append_right]) (by rw [hres]; exact hv.mono (by intro q hq; solve_by_elim (maxDepth := 20) [List.mem_cons_of_mem, List.mem_append_right]))
    | ok t₁ q =>
      dsimp only [Res.isBad]
      apply o4_4 (pair_open (hv.mono hs₃))
      intro av nv x y ev hm hx hy
      subst ev
      cases hy
      rename_i ty
      iterate 6 walk1
      with_reducible refine wp_st fun _ => ?_
      iterate 19 walk1
      refine item_tup (by assumption) (List.mem_cons_of_mem _ hm) (by simp) (by decide) rfl ?_
      iterate 2 walk1
      refine hR _ _ _ _ _ (by assumption) (by assumption) (by intro q hq; solve_by_elim (maxDepth := 20) [List.mem_cons_of_mem, List.mem_append_right]) ?_
      rw [hres]
      exact .tuple (by k_mem) (.cons (.tuple (by k_mem) (.cons (.str _ _) (.cons (hx.mono (by intro q hq; solve_by_elim (maxDepth := 20) [List.mem_cons_of_mem, List.mem_append_right])) .nil))) (.cons (.int _ _) .nil))
  by_cases hq9 : kd = Str.ofString "word" ∧ td = Str.ofString "NOT"
  · have hb := hkt.sg "NOT" (by simp) hq9.2 .nott rfl (by simp)
    obtain ⟨rfl, rfl⟩ := hq9
    simp only [and_self, decide_true, Bool.or_true, Bool.not_true]
    apply o1_2 (one_un hb (.inr ⟨rfl, rfl, rfl⟩) hres)
    intro r hcl hres
    have hfine := fine_climb hr hcl
    iterate 6 walk1
    with_reducible refine wp_st fun _ => ?_
    iterate 21 walk1
    refine use0 (h3 (p + 1) 6 r hcl ra _ _ _ _ rfl rfl) (by assumption) (by assumption) X (by assumption) T rfl (hP.mono (by intro q hq; solve_by_elim (maxDepth := 20) [List.mem_cons_of_mem, List.mem_append_right])) (by first | exact roomD hd (by decide) | (show dp + 1 + _ ≤ 900; omega)) (by first | exact roomU hu (by decide) | (show un + 3 + _ ≤ 9000; omega)) ?_
    rintro v led₂ h₂ tk₂ F₂ N₂ hs₂ hv
    iterate 13 walk1
    refine use0v (isbad_res w v r hfine) (by assumption) (by assumption) X (by assumption) T rfl (hv) (by first | exact roomD hd (by decide) | (show dp + 1 + _ ≤ 900; omega)) (by first | exact roomU hu (by decide) | (show un + 3 + _ ≤ 9000; omega)) ?_
    intro led₃ h₃ tk₃ F₃ N₃ hs₃
    cases r with
    | bad q =>
      dsimp only [Res.isBad]
      iterate 3 walk1
      refine hR _ _ _ _ _ (by assumption) (by assumption) (by intro q hq; solve_by_elim (maxDepth := 20) [List.mem_cons_of_mem, List.mem_append_right]) (by rw [hres]; exact hv.mono (by intro q hq; solve_by_elim (maxDepth := 20) [List.mem_cons_of_mem, List.mem_append_right]))
    | ok t₁ q =>
      dsimp only [Res.isBad]
      apply o4_4 (pair_open (hv.mono hs₃))
      intro av nv x y ev hm hx hy
      subst ev
      cases hy
      rename_i ty
      iterate 6 walk1
      with_reducible refine wp_st fun _ => ?_
      iterate 19 walk1
      refine item_tup (by assumption) (List.mem_cons_of_mem _ hm) (by simp) (by decide) rfl ?_
      iterate 2 walk1
      refine hR _ _ _ _ _ (by assumption) (by assumption) (by intro q hq; solve_by_elim (maxDepth := 20) [List.mem_cons_of_mem, List.mem_append_right]) ?_
      rw [hres]
      exact .tuple (by k_mem) (.cons (.tuple (by k_mem) (.cons (.str _ _) (.cons (hx.mono (by intro q hq; solve_by_elim (maxDepth := 20) [List.mem_cons_of_mem, List.mem_append_right])) .nil))) (.cons (.int _ _) .nil))
  have hres' : res = .bad p := (Option.some.inj ((hkt.bad n hk1 hk2 hk3 hk4 hk5 hq6 hq7 hq8 hq9).symm.trans hres)).symm
  rw [show decide (Str.ofString "sign" = kd ∧ Str.ofString "-" = td) = false from decide_eq_false fun h => hq8 ⟨h.1.symm, h.2.symm⟩, show decide (Str.ofString "word" = kd ∧ Str.ofString "NOT" = td) = false from decide_eq_false fun h => hq9 ⟨h.1.symm, h.2.symm⟩]
  iterate 12 walk1
  refine hR _ _ _ _ _ (by assumption) (by assumption) (by intro q hq; solve_by_elim (maxDepth := 20) [List.mem_cons_of_mem, List.mem_append_right]) ?_
  rw [hres']
  exact .tuple (by k_mem) (.cons (.str _ _) (.cons (.int _ _) .nil))
end
section
open PySem PySem.W PyProof.Rows PySem.Calls PyProof.V PySem.Spec
theorem law_all (w : World) (row : List Tk) (hr : row.length ≤ 20) : ∀ n, ∀ k, k ≤ n → SpecOne w row k ∧ SpecIns w row k ∧ SpecClimb w row k := by
  intro n
  induction n with
  | zero =>
    intro k hk
    obtain rfl : k = 0 := by omega
    refine ⟨fun p res h => ?_, fun p k o res h => ?_, fun p l res h => ?_⟩
    · unfold one at h; cases h
    · unfold inside at h; cases h
    · unfold climb at h; cases h
  | succ n ih =>
    intro k hk
    by_cases e : k = n + 1
    · subst e
      have h0 := ih n (Nat.le_refl _)
      have hc : ∀ k, k ≤ n → SpecClimb w row k := fun k hk => (ih k hk).2.2
      exact ⟨one_step w row hr n h0.1 h0.2.1 h0.2.2, ins_step w row hr n hc, climb_step w row hr n h0.1 hc⟩
    · exact ih k (by omega)
end
section
open PySem PySem.W PyProof.Rows PySem.Calls PyProof.V PySem.Spec
set_option maxRecDepth 100000
set_option maxHeartbeats 1000000
noncomputable def TokAt (row : List Tk) (p : Nat) (imm : Led) (v : Value) : Prop := match row[p]? with | some t => DatIn imm v (tkD t) | none => v = .ref 69
theorem token_at_ (w : World) (ra : Addr) (row : List Tk) (hr : row.length ≤ 20) (p : Nat) (i : Int) (t : Tok) (hi : i = (p : Int)) : Calls w 76 [.ref ra, .int i t] 2 30 (fun imm => RowIn imm ra row) (fun imm v => TokAt row p imm v) := by
  subst hi
  refine calls_of I_token_at [(Str.ofString "tokens", .ref ra), (Str.ofString "at", .int p t)] (fun s => BindsTo.of_eq rfl) (by rfl) ?_
  k_fill
  intro mean mg mb dp un gd cn cs L₀ a ccd cl outer base g L imm s B F X N T hP hd hu
  dsimp only [D_token_at, B_token_at]
  obtain ⟨vs, nr, hrow, hvs, hlen⟩ := hP.open
  iterate 11 walk1
  refine len_row (by assumption) hrow (by omega) ?_
  rw [hlen]
  by_cases hlt : p < row.length
  · obtain ⟨tkn, htk⟩ : ∃ tk, row[p]? = some tk := ⟨_, List.getElem?_eq_getElem hlt⟩
    obtain ⟨v, hv1, hv2⟩ := row_at hvs htk
    iterate 6 walk1
    refine item_row (by assumption) hrow (by omega) hv1 ?_
    exact ends0 F N (by unfold TokAt; rw [htk]; exact hv2)
  · iterate 4 walk1
    exact ends0 F N (by unfold TokAt; rw [List.getElem?_eq_none_iff.mpr (by omega)])
theorem TokAt.mono {row : List Tk} {p : Nat} {imm imm' : Led} {v : Value} (h : TokAt row p imm v) (s : ∀ q ∈ imm, q ∈ imm') : TokAt row p imm' v := by
  unfold TokAt at h ⊢
  split at h
  · exact h.mono s
  · exact h
theorem K_69 (P : Params) : (K P).lookup 69 = some { cls := .type "tuple", data := .seq #[.str (Str.ofString "end") 337, .str (Str.ofString "") 338] } := by kernel_rfl
/-- token_at(..) == ('sign', sg) -/
theorem eq_tokat {w : World} {A : Around} {E : Value → Shared → Prop} {s : Shared} {g : Heap} {L : Addr} {led : Led} {m : Str → Option Value} {Q : Value → Shared → Prop} {row : List Tk} {p : Nat} {v : Value} {y : Addr} {ky : Nat} {t3 t4 : Tok} {sg : Tk} (hs : sg.isSg = true) (F : Fr g L s.heap m) (X : (K w.params).In g) (N : News g L s.heap led) (hv : TokAt row p led v) (hy : (y, tupO [.str (Str.ofString "sign") t3, .str sg.told t4] ky) ∈ led)
    (hu : A.units ≤ 9500) (h : Q (.bool (decide (row[p]? = some sg))) s) : wpAny (model PySem.Challenge.rw_pq0176_01.row.prog w) A (compareOp .Eq v (.ref y)) Q E s := by
  unfold TokAt at hv
  have hso : PyData.strOk (Str.ofString "sign") = true := by decide +kernel
  cases e : row[p]? with
  | some t =>
    rw [e] at hv h
    obtain ⟨a, n, t1, t2, rfl, hm⟩ := tok_open hv
    have ok := tk_ok t
    refine eq_tup2 N hm hy (by simpa [tkD, kqdOk] using (show _ from (by simp [tkD, kqdOk] at ok; exact ok.1))) (told_ok t) hso (told_ok sg) hu ?_
    have e2 : (t.kind = Str.ofString "sign" ∧ t.told = sg.told) ↔ some t = some sg := by
      rw [← sg_kind hs, ← tup2_dec, Option.some.injEq]
      exact tkD_sg hs
    exact (congrArg (fun b => Q (.bool b) s) (decide_eq_decide.mpr e2)).mpr h
  | none =>
    rw [e] at hv h
    subst hv
    have o2 := kqd2 hso (told_ok sg)
    obtain ⟨bs, rb⟩ := kqd_in (d := .tuple [.str (Str.ofString "sign"), .str sg.told]) N 1 (.tuple hy (.cons (.str _ _) (.cons (.str _ _) .nil))) o2
    have lb := kqd_lay 1 _ o2
    have ra : Reads s.heap (.ref 69) (.tuple [.str (Str.ofString "end"), .str (Str.ofString "")]) [] := reads_tuple_at ((X.keeps F.keep) _ _ (K_69 w.params)) rfl rfl (.cons (as := []) (.str _ _) (.cons (as := []) (.str _ _) .nil))
    refine eq_dataH ra rb ?_ ?_ (by have := cLine_is; omega) ?_
    · decide +kernel
    · unfold SeqAt.shaped; rw [lb.1, Bool.true_and]; exact decide_eq_true (Nat.le_trans lb.2 (by omega))
    · have e3 : PyData.eqv (.tuple [.str (Str.ofString "end"), .str (Str.ofString "")]) (kqdP (.tuple [.str (Str.ofString "sign"), .str sg.told])) = false := by
        have q := kqd_eqv 1 (.tuple [.str (Str.ofString "end"), .str (Str.ofString "")]) (.tuple [.str (Str.ofString "sign"), .str sg.told]) 1 (by decide +kernel) o2
        refine Bool.eq_false_iff.mpr fun x => ?_
        have := (tup2_dec _ _ _ _).mp (q.mp x)
        exact absurd this.1 (by decide)
      rw [e3]
      exact h
theorem is_sign_ (w : World) (ra : Addr) (row : List Tk) (hr : row.length ≤ 20) (p : Nat) (i : Int) (t u : Tok) (sg : Tk) (hs : sg.isSg = true) (hi : i = (p : Int)) : Calls w 83 [.ref ra, .int i t, .str sg.told u] 4 60 (fun imm => RowIn imm ra row) (fun _ v => v = .bool (decide (row[p]? = some sg))) := by
  subst hi
  refine calls_of I_is_sign [(Str.ofString "tokens", .ref ra), (Str.ofString "at", .int p t), (Str.ofString "sign", .str sg.told u)] (fun s => BindsTo.of_eq rfl) (by rfl) ?_
  k_fill
  intro mean mg mb dp un gd cn cs L₀ a ccd cl outer base g L imm s B F X N T hP hd hu
  dsimp only [D_is_sign, B_is_sign]
  iterate 12 walk1
  refine use0 (token_at_ w ra row hr p _ _ rfl) (by assumption) (by assumption) X (by assumption) T rfl (hP) (by first | exact roomD hd (by decide) | (show dp + 1 + _ ≤ 900; omega)) (by first | exact roomU hu (by decide) | (show un + 3 + _ ≤ 9000; omega)) ?_
  rintro v led₁ h₁ tk₁ F₁ N₁ hs₁ hv
  iterate 7 walk1
  refine eq_tokat hs (by assumption) X (by assumption) (hv.mono (by intro q hq; solve_by_elim (maxDepth := 20) [List.mem_cons_of_mem, List.mem_append_right])) (by k_mem) (by first | exact roomV hu | (show un + 3 ≤ 9500; omega)) ?_
  refine endsN (by assumption) (by assumption) (by intro q hq; solve_by_elim (maxDepth := 20) [List.mem_cons_of_mem, List.mem_append_right]) rfl
end
section
open PySem PySem.W PyProof.Rows PySem.Calls PyProof.V PySem.Spec
set_option maxRecDepth 100000
set_option maxHeartbeats 1000000
theorem int3_open {imm : Led} {v : Value} {x y z : Int} (h : DatIn imm v (.tuple [.int x, .int y, .int z])) : ∃ a n t1 t2 t3, v = .ref a ∧ (a, tupO [.int x t1, .int y t2, .int z t3] n) ∈ imm := by
  obtain ⟨a, vs, n, e, hm, ha⟩ := inTup h
  obtain ⟨x', xs, rfl, h1, r⟩ := inCons ha
  obtain ⟨y', ys, rfl, h2, r⟩ := inCons r
  obtain ⟨z', zs, rfl, h3, r⟩ := inCons r
  obtain rfl := inNil r
  obtain ⟨t1, rfl⟩ := inInt h1
  obtain ⟨t2, rfl⟩ := inInt h2
  obtain ⟨t3, rfl⟩ := inInt h3
  exact ⟨a, n, t1, t2, t3, e, hm⟩
theorem int2_open {imm : Led} {v : Value} {x y : Int} (h : DatIn imm v (.tuple [.int x, .int y])) : ∃ a n t1 t2, v = .ref a ∧ (a, tupO [.int x t1, .int y t2] n) ∈ imm := by
  obtain ⟨a, n, p, q, e, hm, h1, h2⟩ := pair_open h
  obtain ⟨t1, rfl⟩ := inInt h1
  obtain ⟨t2, rfl⟩ := inInt h2
  exact ⟨a, n, t1, t2, e, hm⟩
theorem figures_of_15 (w : World) (t : Tok) (i : Int) (hi : i = 15) : Calls w 51 [.int i t] 2 30 (fun _ => True) (fun _ v => ∃ u, v = .int 2 u) := by
  subst hi
  refine calls_of I_figures_of [(Str.ofString "number", .int 15 t)] (fun s => BindsTo.of_eq rfl) (by rfl) ?_
  k_fill
  intro mean mg mb dp un gd cn cs L₀ a ccd cl outer base g L imm s B F X N T hP hd hu
  dsimp only [D_figures_of, B_figures_of]
  generalize hPP : Ends g L imm _ s = PP
  iterate 53 walk1
  subst hPP
  exact endsN (by assumption) (by assumption) (by intro q hq; solve_by_elim (maxDepth := 20) [List.mem_cons_of_mem, List.mem_append_right]) ⟨_, rfl⟩
theorem figures_at_12 (w : World) (t u : Tok) : Calls w 97 [.str (Str.ofString "12") t, .int 0 u] 2 60 (fun _ => True) (fun imm v => DatIn imm v (.tuple [.int 12, .int 2, .int 2])) := by
  refine calls_of I_figures_at [(Str.ofString "text", .str (Str.ofString "12") t), (Str.ofString "at", .int 0 u)] (fun s => BindsTo.of_eq rfl) (by rfl) ?_
  k_fill
  intro mean mg mb dp un gd cn cs L₀ a ccd cl outer base g L imm s B F X N T hP hd hu
  dsimp only [D_figures_at, B_figures_at]
  generalize hPP : Ends g L imm _ s = PP
  repeat walk1
  subst hPP
  exact endsN (by assumption) (by assumption) (by intro q hq; solve_by_elim (maxDepth := 20) [List.mem_cons_of_mem, List.mem_append_right]) (.tuple (by k_mem) (.cons (.int _ _) (.cons (.int _ _) (.cons (.int _ _) .nil))))
theorem figures_at_1 (w : World) (t u : Tok) : Calls w 97 [.str (Str.ofString "1.5") t, .int 0 u] 2 60 (fun _ => True) (fun imm v => DatIn imm v (.tuple [.int 1, .int 1, .int 1])) := by
  refine calls_of I_figures_at [(Str.ofString "text", .str (Str.ofString "1.5") t), (Str.ofString "at", .int 0 u)] (fun s => BindsTo.of_eq rfl) (by rfl) ?_
  k_fill
  intro mean mg mb dp un gd cn cs L₀ a ccd cl outer base g L imm s B F X N T hP hd hu
  dsimp only [D_figures_at, B_figures_at]
  generalize hPP : Ends g L imm _ s = PP
  repeat walk1
  subst hPP
  exact endsN (by assumption) (by assumption) (by intro q hq; solve_by_elim (maxDepth := 20) [List.mem_cons_of_mem, List.mem_append_right]) (.tuple (by k_mem) (.cons (.int _ _) (.cons (.int _ _) (.cons (.int _ _) .nil))))
theorem figures_at_5 (w : World) (t u : Tok) (i : Int) (hi : i = 2) : Calls w 97 [.str (Str.ofString "1.5") t, .int i u] 2 60 (fun _ => True) (fun imm v => DatIn imm v (.tuple [.int 5, .int 1, .int 3])) := by
  subst hi
  refine calls_of I_figures_at [(Str.ofString "text", .str (Str.ofString "1.5") t), (Str.ofString "at", .int 2 u)] (fun s => BindsTo.of_eq rfl) (by rfl) ?_
  k_fill
  intro mean mg mb dp un gd cn cs L₀ a ccd cl outer base g L imm s B F X N T hP hd hu
  dsimp only [D_figures_at, B_figures_at]
  generalize hPP : Ends g L imm _ s = PP
  repeat walk1
  subst hPP
  exact endsN (by assumption) (by assumption) (by intro q hq; solve_by_elim (maxDepth := 20) [List.mem_cons_of_mem, List.mem_append_right]) (.tuple (by k_mem) (.cons (.int _ _) (.cons (.int _ _) (.cons (.int _ _) .nil))))
theorem power_at_3 (w : World) (t u : Tok) (i : Int) (hi : i = 3) : Calls w 104 [.str (Str.ofString "1.5") t, .int i u] 2 60 (fun _ => True) (fun imm v => DatIn imm v (.tuple [.int 0, .int 3])) := by
  subst hi
  refine calls_of I_power_at [(Str.ofString "text", .str (Str.ofString "1.5") t), (Str.ofString "at", .int 3 u)] (fun s => BindsTo.of_eq rfl) (by rfl) ?_
  k_fill
  intro mean mg mb dp un gd cn cs L₀ a ccd cl outer base g L imm s B F X N T hP hd hu
  dsimp only [D_power_at, B_power_at]
  generalize hPP : Ends g L imm _ s = PP
  repeat walk1
  subst hPP
  exact endsN (by assumption) (by assumption) (by intro q hq; solve_by_elim (maxDepth := 20) [List.mem_cons_of_mem, List.mem_append_right]) (.tuple (by k_mem) (.cons (.int _ _) (.cons (.int _ _) .nil)))
end
section
open PySem PySem.W PyProof.Rows PySem.Calls PyProof.V PySem.Spec
set_option maxRecDepth 100000
set_option maxHeartbeats 1000000
theorem made_15 (w : World) (t u v : Tok) (i j : Int) (hi : i = 15) (hj : j = -1) : Calls w 65 [.int i t, .int j u, .int 60 v] 4 100 (fun _ => True) (fun imm v => DatIn imm v (.tuple [.int 15, .int (-1)])) := by
  subst hi hj
  refine calls_of I_made [(Str.ofString "coefficient", .int 15 t), (Str.ofString "exponent", .int (-1) u), (Str.ofString "digits", .int 60 v)] (fun s => BindsTo.of_eq rfl) (by rfl) ?_
  k_fill
  intro mean mg mb dp un gd cn cs L₀ a ccd cl outer base g L imm s B F X N T hP hd hu
  dsimp only [D_made, B_made]
  generalize hPP : Ends g L imm _ s = PP
  iterate 21 walk1
  refine use0 (figures_of_15 w _ _ (by decide)) (by assumption) (by assumption) X (by assumption) T rfl (trivial) (by first | exact roomD hd (by decide) | (show dp + 1 + _ ≤ 900; omega)) (by first | exact roomU hu (by decide) | (show un + 3 + _ ≤ 9000; omega)) ?_
  rintro _ led₁ h₁ tk₁ F₁ N₁ hs₁ ⟨u1, rfl⟩
  iterate 50 walk1
  refine use0 (figures_of_15 w _ _ (by decide)) (by assumption) (by assumption) X (by assumption) T rfl (trivial) (by first | exact roomD hd (by decide) | (show dp + 1 + _ ≤ 900; omega)) (by first | exact roomU hu (by decide) | (show un + 3 + _ ≤ 9000; omega)) ?_
  rintro _ led₂ h₂ tk₂ F₂ N₂ hs₂ ⟨u2, rfl⟩
  iterate 42 walk1
  subst hPP
  exact endsN (by assumption) (by assumption) (by intro q hq; solve_by_elim (maxDepth := 20) [List.mem_cons_of_mem, List.mem_append_right]) (.tuple (by k_mem) (.cons (.int _ _) (.cons (.int _ _) .nil)))
theorem number_12 (w : World) (t : Tok) : Calls w 111 [.str (Str.ofString "12") t] 6 120 (fun _ => True) (fun imm v => DatIn imm v (numDat false)) := by
  refine calls_of I_number_tree [(Str.ofString "text", .str (Str.ofString "12") t)] (fun s => BindsTo.of_eq rfl) (by rfl) ?_
  k_fill
  intro mean mg mb dp un gd cn cs L₀ a ccd cl outer base g L imm s B F X N T hP hd hu
  dsimp only [D_number_tree, B_number_tree]
  generalize hPP : Ends g L imm _ s = PP
  iterate 11 walk1
  refine use0 (figures_at_12 w _ _) (by assumption) (by assumption) X (by assumption) T rfl (trivial) (by first | exact roomD hd (by decide) | (show dp + 1 + _ ≤ 900; omega)) (by first | exact roomU hu (by decide) | (show un + 3 + _ ≤ 9000; omega)) ?_
  rintro _ led₁ h₁ tk₁ F₁ N₁ hs₁ hv
  obtain ⟨a1, n1, t1, t2, t3, rfl, hm1⟩ := int3_open hv
  iterate 43 walk1
  subst hPP
  exact endsN (by assumption) (by assumption) (by intro q hq; solve_by_elim (maxDepth := 20) [List.mem_cons_of_mem, List.mem_append_right]) (.tuple (by k_mem) (.cons (.str _ _) (.cons (.int _ _) .nil)))
theorem number_15 (w : World) (t : Tok) : Calls w 111 [.str (Str.ofString "1.5") t] 6 120 (fun _ => True) (fun imm v => DatIn imm v (numDat true)) := by
  refine calls_of I_number_tree [(Str.ofString "text", .str (Str.ofString "1.5") t)] (fun s => BindsTo.of_eq rfl) (by rfl) ?_
  k_fill
  intro mean mg mb dp un gd cn cs L₀ a ccd cl outer base g L imm s B F X N T hP hd hu
  dsimp only [D_number_tree, B_number_tree]
  generalize hPP : Ends g L imm _ s = PP
  iterate 11 walk1
  refine use0 (figures_at_1 w _ _) (by assumption) (by assumption) X (by assumption) T rfl (trivial) (by first | exact roomD hd (by decide) | (show dp + 1 + _ ≤ 900; omega)) (by first | exact roomU hu (by decide) | (show un + 3 + _ ≤ 9000; omega)) ?_
  rintro _ led₁ h₁ tk₁ F₁ N₁ hs₁ hv
  obtain ⟨a1, n1, t1, t2, t3, rfl, hm1⟩ := int3_open hv
  iterate 87 walk1
  refine use0 (figures_at_5 w _ _ _ (by decide)) (by assumption) (by assumption) X (by assumption) T rfl (trivial) (by first | exact roomD hd (by decide) | (show dp + 1 + _ ≤ 900; omega)) (by first | exact roomU hu (by decide) | (show un + 3 + _ ≤ 9000; omega)) ?_
  rintro _ led₂ h₂ tk₂ F₂ N₂ hs₂ hv₂
  obtain ⟨a2, n2, t4, t5, t6, rfl, hm2⟩ := int3_open hv₂
  iterate 24 walk1
  refine use0 (power_at_3 w _ _ _ (by decide)) (by assumption) (by assumption) X (by assumption) T rfl (trivial) (by first | exact roomD hd (by decide) | (show dp + 1 + _ ≤ 900; omega)) (by first | exact roomU hu (by decide) | (show un + 3 + _ ≤ 9000; omega)) ?_
  rintro _ led₃ h₃ tk₃ F₃ N₃ hs₃ hv₃
  obtain ⟨a3, n3, t7, t8, rfl, hm3⟩ := int2_open hv₃
  iterate 38 walk1
  refine use0 (made_15 w _ _ _ _ _ (by decide) (by decide)) (by assumption) (by assumption) X (by assumption) T rfl (trivial) (by first | exact roomD hd (by decide) | (show dp + 1 + _ ≤ 900; omega)) (by first | exact roomU hu (by decide) | (show un + 3 + _ ≤ 9000; omega)) ?_
  rintro v4 led₄ h₄ tk₄ F₄ N₄ hs₄ hv₄
  iterate 2 walk1
  subst hPP
  exact endsN (by assumption) (by assumption) (by intro q hq; solve_by_elim (maxDepth := 20) [List.mem_cons_of_mem, List.mem_append_right]) (.tuple (by k_mem) (.cons (.str _ _) (.cons (hv₄.mono (by intro q hq; solve_by_elim (maxDepth := 20) [List.mem_cons_of_mem, List.mem_append_right])) .nil)))
/-- number_tree on the drawn numbers -/
theorem number_ (w : World) (b : Bool) (t : Tok) (x : Str) (hx : x = Tk.told (.num b)) : Calls w 111 [.str x t] 6 120 (fun _ => True) (fun imm v => DatIn imm v (numDat b)) := by
  subst hx
  cases b
  · exact number_12 w t
  · exact number_15 w t
end
section
open PySem PySem.W PyProof.Rows PySem.Calls PyProof.V PySem.Spec
set_option maxRecDepth 100000
set_option maxHeartbeats 1000000
noncomputable def PlainRes (row : List Tk) (p : Nat) (imm : Led) (v : Value) : Prop := match plainAt row p with | some d => DatIn imm v d | none => v = .none
noncomputable def noArgs (x : Str) : Bool := (["ERL", "ERR", "FRE", "PI", "POS", "RND"].map Str.ofString).any fun y => y == x
theorem eqv_str (a b : Str) : PyData.eqv (.str a) (.str b) = (a == b) := by rfl
theorem K_68 (P : Params) : (K P).lookup 68 = some { cls := .type "tuple", data := .seq #[.str (Str.ofString "ERL") 330, .str (Str.ofString "ERR") 331, .str (Str.ofString "FRE") 332, .str (Str.ofString "PI") 333, .str (Str.ofString "POS") 334, .str (Str.ofString "RND") 335] } := by kernel_rfl
theorem in_noargs {w : World} {A : Around} {E : Value → Shared → Prop} {s : Shared} {g : Heap} {L : Addr} {m : Str → Option Value} {Q : Value → Shared → Prop} {x : Str} {t : Tok} (F : Fr g L s.heap m) (X : (K w.params).In g) (hx : PyData.strOk x = true) (hu : A.units ≤ 9500) (h : Q (.bool (noArgs x)) s) :
    wpAny (model PySem.Challenge.rw_pq0176_01.row.prog w) A (compareOp .In (.str x t) (.ref 68)) Q E s := by
  have ra : Reads s.heap (.ref 68) (.tuple (["ERL", "ERR", "FRE", "PI", "POS", "RND"].map fun y => .str (Str.ofString y))) [] := reads_tuple_at ((X.keeps F.keep) _ _ (K_68 w.params)) rfl rfl (.cons (as := []) (.str _ _) (.cons (as := []) (.str _ _) (.cons (as := []) (.str _ _) (.cons (as := []) (.str _ _) (.cons (as := []) (.str _ _) (.cons (as := []) (.str _ _) .nil))))))
  refine SeqAt.in_tuple_reads ra (Reads.str x t) (by decide +kernel) (by simpa [PyData.canLay0] using hx) ?_ h
  have := cLine_is
  have : PyData.depth (.str x) = 0 := by simp [PyData.depth]
  omega
theorem noArgs_tok : ∀ t : Tk, noArgs t.told = true → t = .rnd := by
  have hb : ∀ j : Fin 13, noArgs (Tk.told (.bop j)) = false := by decide +kernel
  have hn : ∀ j : Fin 3, noArgs (Tk.told (.name j)) = false := by decide +kernel
  have hd : ∀ j : Bool, noArgs (Tk.told (.num j)) = false := by decide +kernel
  intro t h
  cases t with
  | bop j => rw [hb j] at h; cases h
  | name j => rw [hn j] at h; cases h
  | num j => rw [hd j] at h; cases h
  | rnd => rfl
  | _ => exact absurd h (by decide)
theorem KT.rnd {row : List Tk} {p : Nat} {kd td : Str} (h : KT row p kd td) (e : noArgs td = true) : row[p]? = some .rnd ∧ td = Str.ofString "RND" := by
  rcases h with ⟨_, _, rfl⟩ | ⟨t, h1, _, rfl⟩
  · exact absurd e (by decide)
  · have := noArgs_tok t e
    subst this
    exact ⟨h1, rfl⟩
theorem KT.rnd_word {row : List Tk} {p : Nat} {kd td : Str} (h : KT row p kd td) (e : td = Str.ofString "RND") : kd = Str.ofString "word" := by
  have z := h.rnd (by rw [e]; decide)
  rcases h with ⟨h1, _⟩ | ⟨t, h1, h2, _⟩
  · rw [z.1] at h1; cases h1
  · rw [z.1] at h1; cases h1; exact h2
theorem name_len : ∀ i : Fin 3, (nameStr i).length ≤ 3 := by decide +kernel
theorem fn_yes : ∀ i : Fin 3, (Txt.slice (nameStr i) none (some 2) == Str.ofString "FN") = true → i.val = 1 := by decide +kernel
theorem fn_no : ∀ i : Fin 3, (Txt.slice (nameStr i) none (some 2) == Str.ofString "FN") = false → ¬ i.val = 1 := by decide +kernel
theorem plain_operand_ (w : World) (ra : Addr) (row : List Tk) (hr : row.length ≤ 20) (p : Nat) (i : Int) (t : Tok) (hi : i = (p : Int)) : Calls w 160 [.ref ra, .int i t] 8 160 (fun imm => RowIn imm ra row) (fun imm v => PlainRes row p imm v) := by
  subst hi
  refine calls_of I_plain_operand [(Str.ofString "tokens", .ref ra), (Str.ofString "at", .int p t)] (fun s => BindsTo.of_eq rfl) (by rfl) ?_
  k_fill
  intro mean mg mb dp un gd cn cs L₀ a ccd cl outer base g L imm s B F X N T hP hd hu
  dsimp only [D_plain_operand, B_plain_operand]
  generalize hPP : Ends g L imm _ s = PP
  iterate 11 walk1
  refine use0 (token_at_ w ra row hr p _ _ rfl) (by assumption) (by assumption) X (by assumption) T rfl (hP) (by first | exact roomD hd (by decide) | (show dp + 1 + _ ≤ 900; omega)) (by first | exact roomU hu (by decide) | (show un + 3 + _ ≤ 9000; omega)) ?_
  rintro v led₁ h₁ tk₁ F₁ N₁ hs₁ hv
  refine wpAny_mono (Q := fun _ s' => ∃ kd td t1 t2 h' tk', KT row p kd td ∧ s' = { s with heap := h', toks := tk' } ∧ Fr g L h' (fun y => if y = Str.ofString "told" then some (Value.str td t2) else if y = Str.ofString "kind" then some (Value.str kd t1) else [(Str.ofString "tokens", Value.ref ra), (Str.ofString "at", Value.int p t)].reverse.lookup y) ∧ News g L h' led₁) ?_ ?_ (fun _ _ y => y)
  · unfold TokAt at hv
    cases e : row[p]? with
    | some tkn =>
      rw [e] at hv
      obtain ⟨a1, n1, t1, t2, rfl, hm⟩ := tok_open hv
      iterate 8 walk1
      exact ⟨_, _, _, _, _, _, .inr ⟨tkn, e, rfl, rfl⟩, rfl, by assumption, by assumption⟩
    | none =>
      rw [e] at hv
      subst hv
      iterate 8 walk1
      exact ⟨_, _, _, _, _, _, .inl ⟨e, rfl, rfl⟩, rfl, by assumption, by assumption⟩
  rintro _ _ ⟨kd, td, t1, t2, h₂, tk₂, hkt, rfl, F₂, N₂⟩
  have hok := hkt.ok
  clear F₁ N₁ hv
  iterate 8 walk1
  · rename_i hk
    obtain ⟨b, hb1, hb2⟩ := hkt.num (eq_of_beq hk)
    iterate 10 walk1
    refine use0 (number_ w b _ td hb2) (by assumption) (by assumption) X (by assumption) T rfl (trivial) (by first | exact roomD hd (by decide) | (show dp + 1 + _ ≤ 900; omega)) (by first | exact roomU hu (by decide) | (show un + 3 + _ ≤ 9000; omega)) ?_
    rintro v led₂ h₃ tk₃ F₃ N₃ hs₂ hv
    subst hPP
    exact endsN F₃ N₃ (by intro q hq; solve_by_elim (maxDepth := 20) [List.mem_cons_of_mem, List.mem_append_right]) (by unfold PlainRes plainAt; rw [hb1]; exact hv)
  rename_i hk
  have hk1 : ¬ kd = Str.ofString "number" := fun h => by rw [h] at hk; exact absurd hk (by decide)
  clear hk
  iterate 10 walk1
  · rename_i hk
    have hk' := eq_of_beq hk
    obtain ⟨hb1, hb2⟩ := hkt.text hk'
    subst hk' hb2
    iterate 9 walk1
    subst hPP
    exact endsN (by assumption) (by assumption) (by intro q hq; solve_by_elim (maxDepth := 20) [List.mem_cons_of_mem, List.mem_append_right]) (by unfold PlainRes plainAt; rw [hb1]; exact .tuple (by k_mem) (.cons (.str _ _) (.cons (.str _ _) .nil)))
  rename_i hk
  have hk2 : ¬ kd = Str.ofString "text" := fun h => by rw [h] at hk; exact absurd hk (by decide)
  clear hk
  iterate 18 walk1
  refine use0 (is_sign_ w ra row hr (p + 1) _ _ _ .lpar rfl (by omega)) (by assumption) (by assumption) X (by assumption) T rfl (hP.mono (by intro q hq; solve_by_elim (maxDepth := 20) [List.mem_cons_of_mem, List.mem_append_right])) (by first | exact roomD hd (by decide) | (show dp + 1 + _ ≤ 900; omega)) (by first | exact roomU hu (by decide) | (show un + 3 + _ ≤ 9000; omega)) ?_
  rintro _ led₂ h₃ tk₃ F₃ N₃ hs₂ rfl
  generalize hbo : decide (row[p + 1]? = some Tk.lpar) = bo
  cases bo with
  | true =>
    have hop := of_decide_eq_true hbo
    iterate 5 walk1
    subst hPP
    refine (show Ends g L imm _ s (Flow.ret .none) _ from endsN (by assumption) (by assumption) (by intro q hq; solve_by_elim (maxDepth := 20) [List.mem_cons_of_mem, List.mem_append_right]) ?_)
    unfold PlainRes
    rw [hkt.plain_open hk1 hk2 hop]
  | false =>
    have hop := of_decide_eq_false hbo
    iterate 11 walk1
    · rename_i hk
      have hk' := eq_of_beq hk
      obtain ⟨i, hb1, hb2⟩ := hkt.name hk'
      subst hk'
      have hpl : plainAt row p = some (nameDat i) := by unfold plainAt; rw [hb1]; dsimp only; rw [if_neg hop]
      subst hb2
      have hsz : (nameStr i).length ≤ sizeLine := Nat.le_trans (name_len i) (by rw [sizeLine_eq]; omega)
      iterate 11 walk1
      k_dflt (refine' slice_strN_ns ?q1 ?q2 ?_ ?q3 ?q4 ?q5; (case q1 => k_asm); (case q2 => k_asm); (case q3 => with_unfolding_all rfl); (case q4 => intro _; with_unfolding_all rfl); (case q5 => exact hsz))
      intro h7 t7 k7 F7 N7
      iterate 4 walk1
      · rename_i hf
        have h1 := fn_yes i hf
        unfold nameDat at hpl
        rw [if_pos h1] at hpl
        iterate 11 walk1
        subst hPP
        exact endsN (by assumption) (by assumption) (by intro q hq; solve_by_elim (maxDepth := 20) [List.mem_cons_of_mem, List.mem_append_right]) (by unfold PlainRes; rw [hpl]; exact .tuple (by k_mem) (.cons (.str _ _) (.cons (.str _ _) (.cons (.list (by k_mem) .nil) .nil))))
      · rename_i hf
        have h1 := fn_no i hf
        unfold nameDat at hpl
        rw [if_neg h1] at hpl
        iterate 7 walk1
        subst hPP
        exact endsN (by assumption) (by assumption) (by intro q hq; solve_by_elim (maxDepth := 20) [List.mem_cons_of_mem, List.mem_append_right]) (by unfold PlainRes; rw [hpl]; exact .tuple (by k_mem) (.cons (.str _ _) (.cons (.str _ _) .nil)))
    rename_i hk
    have hk3 : ¬ kd = Str.ofString "name" := fun h => by rw [h] at hk; exact absurd hk (by decide)
    clear hk
    iterate 11 walk1
    · rename_i hk
      have hk' := eq_of_beq hk
      iterate 4 walk1
      refine in_noargs (by assumption) X hok.2 (by first | exact roomV hu | (show un + 3 ≤ 9500; omega)) ?_
      by_cases hn : noArgs td = true
      · have hrnd := hkt.rnd hn
        rw [hn]
        have hpl : plainAt row p = some (callDat (Str.ofString "call") (Str.ofString "RND") []) := by unfold plainAt; rw [hrnd.1]; dsimp only; rw [if_neg hop]
        rw [← hrnd.2] at hpl
        iterate 15 walk1
        subst hPP
        exact endsN (by assumption) (by assumption) (by intro q hq; solve_by_elim (maxDepth := 20) [List.mem_cons_of_mem, List.mem_append_right]) (by unfold PlainRes; rw [hpl]; exact .tuple (by k_mem) (.cons (.str _ _) (.cons (.str _ _) (.cons (.list (by k_mem) .nil) .nil))))
      · rw [Bool.eq_false_iff.mpr hn]
        have hno : plainAt row p = none := hkt.plain_none hk1 hk2 hk3 (fun h => hn (by rw [h]; decide))
        iterate 4 walk1
        subst hPP
        refine (show Ends g L imm _ s (Flow.ret .none) _ from endsN (by assumption) (by assumption) (by intro q hq; solve_by_elim (maxDepth := 20) [List.mem_cons_of_mem, List.mem_append_right]) ?_)
        unfold PlainRes
        rw [hno]
    · rename_i hk
      have hno : plainAt row p = none := hkt.plain_none hk1 hk2 hk3 (fun h => by rw [hkt.rnd_word h] at hk; exact absurd hk (by decide))
      iterate 2 walk1
      subst hPP
      refine (show Ends g L imm _ s (Flow.ret .none) _ from endsN (by assumption) (by assumption) (by intro q hq; solve_by_elim (maxDepth := 20) [List.mem_cons_of_mem, List.mem_append_right]) ?_)
      unfold PlainRes
      rw [hno]
end
section
open PySem PySem.W PyProof.Rows PySem.Calls PyProof.V PySem.Spec
set_option maxRecDepth 100000
theorem Sep.addr {a b : Led} (h : ∀ q ∈ a, ∀ p ∈ b, p.1 ≠ q.1) : Sep a b := h
/-- a call that may change `mt`, and hands on new things -/
noncomputable def CallsX (w : World) (f : Addr) (vs : List Value) (d u : Nat) (mt : Led) (Pre : Led → Prop) (Post : Led → Led → Value → Prop) : Prop :=
  ∀ (mean : ExcName → Option Value) (mg mb : Str → Option Value) (dp un : Nat) (gd : Option (List Code)) (cn : Str) (cs : Scope) (a : Addr) (ccd : Value) (cl : List (Str × Addr)) (outer : List Env) (A₀ : Around) (base h₀ : Heap) (L : Addr) (m : Str → Option Value) (own keep : Led) (s : Shared)
    (Q E : Value → Shared → Prop),
    Below A₀ base outer h₀ → Fr h₀ L s.heap m → (K w.params).In h₀ → News h₀ L s.heap (own ++ (mt ++ keep)) → Top V LS mean mg mb h₀ → cs.kind = .function → Sep own (mt ++ keep) → Sep mt keep → Pre keep → dp + d ≤ 900 → un + u ≤ 9000 →
    (∀ v mt' keep' h' tk', Fr h₀ L h' m → News h₀ L h' (own ++ (mt' ++ keep')) → Sep own (mt' ++ keep') → Sep mt' keep' → (∀ p ∈ keep, p ∈ keep') → Post mt' keep' v → Q v { s with heap := h', toks := tk' }) →
    wpAny (model PySem.Challenge.rw_pq0176_01.row.prog w) (ktrTop dp un gd cn cs L a ccd cl outer) (call (.ref f) vs) Q E s
/-- how such a body ends well -/
noncomputable def EndsX (g : Heap) (L' : Addr) (keep : Led) (Post : Led → Led → Value → Prop) (s₀ : Shared) (fl : Flow) (s' : Shared) : Prop :=
  ∃ m' mt' keep', Fr g L' s'.heap m' ∧ News g L' s'.heap (mt' ++ keep') ∧ Sep mt' keep' ∧ (∀ p ∈ keep, p ∈ keep') ∧ Post mt' keep' (match fl with | .ret v => v | _ => .none) ∧ s'.gens = s₀.gens ∧ s'.drawn = s₀.drawn ∧ s'.os = s₀.os
theorem callsX_of {w : World} {D : Def} (I : D.Is) {vs : List Value} {d u : Nat} {mt : Led} {Pre : Led → Prop} {Post : Led → Led → Value → Prop} (binds : List (Str × Value))
    (hbind : ∀ s, BindsTo s (fnOf D.name D.qual D.A D.B D.C D.dV .none .none D.pm none (.ref D.cd) .none) ⟨vs, []⟩ binds) (hloc : (binds.all fun x => decide (D.C.names.lookup x.1 = some .local)) = true)
    (body : ∀ (mean : ExcName → Option Value) (mg mb : Str → Option Value) (dp un : Nat) (gd : Option (List Code)) (cn : Str) (cs : Scope) (L₀ a : Addr) (ccd : Value) (cl : List (Str × Addr)) (outer : List Env) (base g : Heap) (L : Addr) (keep : Led) (s : Shared),
      Below (ktrTop dp un gd cn cs L₀ a ccd cl outer) base (envX cn cs L₀ a ccd cl :: outer) g → Fr g L s.heap (fun y => binds.reverse.lookup y) → (K w.params).In g → News g L s.heap (mt ++ keep) → Sep mt keep → Top V LS mean mg mb g → Pre keep → dp + d ≤ 900 → un + u ≤ 9000 →
      wpAny (model PySem.Challenge.rw_pq0176_01.row.prog w) ((ktrTop dp un gd cn cs L₀ a ccd cl outer).deeper (envOf D.qual D.C L D.f (.ref D.cd))) (execs D.B (envOf D.qual D.C L D.f (.ref D.cd))) (EndsX g L keep Post s) (fun _ _ => False) s) :
    CallsX w D.f vs d u mt Pre Post := by
  intro mean mg mb dp un gd cn cs a ccd cl outer A₀ base h₀ L m own keep s Q E B F X N T hk S SM hP hd hu hret
  refine enter (env := envX cn cs L a ccd cl) (outer := outer) (own := own) (imm := mt ++ keep) I B F X N T rfl rfl hk (by show dp < 1000; omega) (hbind s) hloc (fun g L' h₁ FG F' N' B' X' T' => ?_) S
  refine wpAny_mono (body mean mg mb dp un gd cn cs L a ccd cl outer base g L' keep _ B' F' X' N' SM T' hP hd hu) (fun fl s' he => ?_) fun _ _ z => z.elim
  obtain ⟨m', mt', keep', F2, N2, SM2, hs, hp, e1, e2, e3⟩ := he
  refine ⟨m', mt' ++ keep', F2, N2, fun FR NR SR => ?_⟩
  have z := hret _ mt' keep' s'.heap s'.toks FR NR SR SM2 hs hp
  obtain ⟨hh, gg, dd, tt, oo⟩ := s'
  dsimp only at e1 e2 e3
  subst e1 e2 e3
  exact z
theorem endsX {g : Heap} {L : Addr} {mt' keep keep' : Led} {Post : Led → Led → Value → Prop} {s s' : Shared} {v : Value} {m : Str → Option Value} (F : Fr g L s'.heap m) (N : News g L s'.heap (mt' ++ keep')) (S : Sep mt' keep') (b : ∀ p ∈ keep, p ∈ keep') (p : Post mt' keep' v) (e1 : s'.gens = s.gens := by rfl) (e2 : s'.drawn = s.drawn := by rfl) (e3 : s'.os = s.os := by rfl) :
    EndsX g L keep Post s (.ret v) s' := ⟨m, mt', keep', F, N, S, b, p, e1, e2, e3⟩
/-- a call that may change things, by its contract -/
theorem useX {w : World} {f : Addr} {vs : List Value} {d u : Nat} {mt : Led} {Pre : Led → Prop} {Post : Led → Led → Value → Prop} (C : CallsX w f vs d u mt Pre Post) (own keep : Led) {mean : ExcName → Option Value} {mg mb : Str → Option Value} {dp un : Nat} {gd : Option (List Code)} {cn : Str} {cs : Scope} {a : Addr} {ccd : Value} {cl : List (Str × Addr)} {outer : List Env} {A₀ : Around} {base h₀ : Heap} {L : Addr} {m : Str → Option Value} {s : Shared} {Q E : Value → Shared → Prop}
    (B : Below A₀ base outer h₀) (F : Fr h₀ L s.heap m) (X : (K w.params).In h₀) (N : News h₀ L s.heap (own ++ (mt ++ keep))) (T : Top V LS mean mg mb h₀) (hk : cs.kind = .function) (S : Sep own (mt ++ keep)) (SM : Sep mt keep) (hP : Pre keep) (hd : dp + d ≤ 900) (hu : un + u ≤ 9000)
    (ret : ∀ v mt' keep' h' tk', Fr h₀ L h' m → News h₀ L h' (own ++ (mt' ++ keep')) → Sep own (mt' ++ keep') → Sep mt' keep' → (∀ p ∈ keep, p ∈ keep') → Post mt' keep' v → Q v { s with heap := h', toks := tk' }) :
    wpAny (model PySem.Challenge.rw_pq0176_01.row.prog w) (ktrTop dp un gd cn cs L a ccd cl outer) (call (.ref f) vs) Q E s :=
  C mean mg mb dp un gd cn cs a ccd cl outer A₀ base h₀ L m own keep s Q E B F X N T hk S SM hP hd hu ret
/-- callsX_of with the end as a word of its own, and the state in its parts -/
theorem callsX_ofR {w : World} {D : Def} (I : D.Is) {vs : List Value} {d u : Nat} {mt : Led} {Pre : Led → Prop} {Post : Led → Led → Value → Prop} (binds : List (Str × Value))
    (hbind : ∀ s, BindsTo s (fnOf D.name D.qual D.A D.B D.C D.dV .none .none D.pm none (.ref D.cd) .none) ⟨vs, []⟩ binds) (hloc : (binds.all fun x => decide (D.C.names.lookup x.1 = some .local)) = true)
    (body : ∀ (mean : ExcName → Option Value) (mg mb : Str → Option Value) (dp un : Nat) (gd : Option (List Code)) (cn : Str) (cs : Scope) (L₀ a : Addr) (ccd : Value) (cl : List (Str × Addr)) (outer : List Env) (base g : Heap) (L : Addr) (keep : Led) (hp : Heap) (gs : Array GenState) (dr : Drawn) (tk : Nat) (os : OsState) (R : Flow → Shared → Prop),
      (∀ fl m' mt' keep' h' tk', Fr g L h' m' → News g L h' (mt' ++ keep') → Sep mt' keep' → (∀ p ∈ keep, p ∈ keep') → Post mt' keep' (match fl with | .ret v => v | _ => .none) → R fl ⟨h', gs, dr, tk', os⟩) →
      Below (ktrTop dp un gd cn cs L₀ a ccd cl outer) base (envX cn cs L₀ a ccd cl :: outer) g → Fr g L hp (fun y => binds.reverse.lookup y) → (K w.params).In g → News g L hp (mt ++ keep) → Sep mt keep → Top V LS mean mg mb g → Pre keep → dp + d ≤ 900 → un + u ≤ 9000 →
      wpAny (model PySem.Challenge.rw_pq0176_01.row.prog w) ((ktrTop dp un gd cn cs L₀ a ccd cl outer).deeper (envOf D.qual D.C L D.f (.ref D.cd))) (execs D.B (envOf D.qual D.C L D.f (.ref D.cd))) R (fun _ _ => False) ⟨hp, gs, dr, tk, os⟩) :
    CallsX w D.f vs d u mt Pre Post :=
  callsX_of I binds hbind hloc fun mean mg mb dp un gd cn cs L₀ a ccd cl outer base g L keep s B F X N S T hP hd hu =>
    body mean mg mb dp un gd cn cs L₀ a ccd cl outer base g L keep s.heap s.gens s.drawn s.toks s.os (EndsX g L keep Post s)
      (fun _ m' mt' keep' _ _ F' N' S' hs hp => ⟨m', mt', keep', F', N', S', hs, hp, rfl, rfl, rfl⟩) B F X N S T hP hd hu
end
local macro_rules | `(tactic| k_all) => `(tactic| with_reducible assumption)
section
open PySem PySem.W PyProof.Rows PySem.Calls PyProof.V PySem.Spec
set_option maxRecDepth 100000
set_option maxHeartbeats 1000000
theorem enterC {w : World} {D : Def} {mean : ExcName → Option Value} {mg mb : Str → Option Value} {A A₀ : Around} {env : Env} {outer : List Env} {base h₀ : Heap} {L : Addr} {m : Str → Option Value} {imm : Led} {s : Shared} {R : Result → Shared → Prop} {binds : List (Str × Value)} {vs : List Value}
    (I : D.Is) (B : Below A₀ base outer h₀) (F : Fr h₀ L s.heap m) (X : (K w.params).In h₀) (N : News h₀ L s.heap imm) (T : Top V LS mean mg mb h₀)
    (hA : A.frames = some (env :: outer)) (hf : env.frame = some L) (hke : env.scope.kind = .function) (hroom : A.depth < recursionLimit)
    (hbind : BindsTo s (fnOf D.name D.qual D.A D.B D.C D.dV .none .none D.pm none (.ref D.cd) .none) ⟨vs, []⟩ binds) (hloc : (binds.all fun x => decide (D.C.names.lookup x.1 = some .local)) = true)
    (h : ∀ g L' h₁, Fr g L' h₁ (fun y => binds.reverse.lookup y) → News g L' h₁ imm → Below A base (env :: outer) g → (K w.params).In g → Top V LS mean mg mb g →
      wpAny (model PySem.Challenge.rw_pq0176_01.row.prog w) (A.deeper (envOf D.qual D.C L' D.f (.ref D.cd))) (execs D.B (envOf D.qual D.C L' D.f (.ref D.cd)))
        (fun fl s' => ∃ m' imm', Fr g L' s'.heap m' ∧ News g L' s'.heap imm' ∧ (Fr h₀ L s'.heap m → News h₀ L s'.heap imm' → R (.ok (.ret (match fl with | .ret v => v | _ => .none))) s'))
        (fun _ _ => False)
        { s with heap := h₁, toks := s.toks + binds.length }) : codeAny (model PySem.Challenge.rw_pq0176_01.row.prog w) A (.call (.ref D.f) ⟨vs, []⟩) R s := by
  obtain ⟨FG, BG, st, lv⟩ := groundX (R := R) B F N hA hf hke
  have ho := (X.keeps F.keep) _ _ (I.at_ w.params)
  refine codeAny_call_def (fd := fnOf D.name D.qual D.A D.B D.C D.dV .none .none D.pm none (.ref D.cd) .none) (body := D.B) (binds := binds) hroom ho rfl (T.nolimit.keeps F.keep) (codeRec_of (X.keeps F.keep) (I.code w.params)) rfl hbind I.cell (locs hloc) (fun h₁ hns hk₁ => ?_) I.co I.gen I.kind
  refine wpAny_mono (h _ s.heap.objs.size h₁ ⟨hns, fun b o e => hk₁ b o (of_hideAll _ e), Nat.le_of_eq (hideAll_size _ _)⟩
    (fun p hp => ⟨hk₁ _ _ (N p hp).1, Nat.ne_of_lt (Heap.lt_size (N p hp).1), hideAll_none _ (List.mem_map_of_mem hp)⟩) BG (X.keeps st) (T.keeps st)) (fun fl s' hl => ?_) fun _ _ y => y.elim
  obtain ⟨m', imm', F', N', k⟩ := hl
  exact lv _ s' ⟨_, m', imm', F', N', fun FR NR => k FR NR⟩
/-- the fields of a level -/
noncomputable def lvEnts (P : Params) (kd wd : Str) (aa oa pa : Addr) (t1 t2 : Tok) (k : Nat → Tok) : List DictEntry :=
  [⟨PyData.keyHash P (Str.ofString "kind"), .str (Str.ofString "kind") (k 0), .str kd t1⟩, ⟨PyData.keyHash P (Str.ofString "word"), .str (Str.ofString "word") (k 1), .str wd t2⟩, ⟨PyData.keyHash P (Str.ofString "args"), .str (Str.ofString "args") (k 2), .ref aa⟩,
   ⟨PyData.keyHash P (Str.ofString "operands"), .str (Str.ofString "operands") (k 3), .ref oa⟩, ⟨PyData.keyHash P (Str.ofString "operators"), .str (Str.ofString "operators") (k 4), .ref pa⟩]
noncomputable def IsLv (w : World) (keep : Led) (x aa oa pa : Addr) (kd wd : Str) : Prop := ∃ dx t1 t2 k, (x, instObj 128 dx) ∈ keep ∧ (dx, dictOf (lvEnts w.params kd wd aa oa pa t1 t2 k) 5) ∈ keep
theorem IsLv.mono {w : World} {keep keep' : Led} {x aa oa pa : Addr} {kd wd : Str} (h : IsLv w keep x aa oa pa kd wd) (s : ∀ q ∈ keep, q ∈ keep') : IsLv w keep' x aa oa pa kd wd := by
  obtain ⟨dx, t1, t2, k, h1, h2⟩ := h
  exact ⟨dx, t1, t2, k, s _ h1, s _ h2⟩
theorem level_new {w : World} {mean : ExcName → Option Value} {mg mb : Str → Option Value} {dp un : Nat} {gd : Option (List Code)} {cn : Str} {cs : Scope} {L a : Addr} {ccd : Value} {cl : List (Str × Addr)} {outer : List Env} {A₀ : Around} {base h₀ : Heap} {m : Str → Option Value} {imm : Led} {s : Shared} {Q E : Value → Shared → Prop} {kd wd : Str} {t1 t2 : Tok}
    (B : Below A₀ base outer h₀) (F : Fr h₀ L s.heap m) (X : (K w.params).In h₀) (N : News h₀ L s.heap imm) (T : Top V LS mean mg mb h₀) (hk : cs.kind = .function) (hd : dp + 4 ≤ 900) (hu : un + 60 ≤ 9000)
    (ret : ∀ x dx aa oa pa k h' tk', Fr h₀ L h' m → News h₀ L h' ((pa, listOf #[] 0) :: (oa, listOf #[] 0) :: (aa, listOf #[] 0) :: (x, instObj 128 dx) :: (dx, dictOf (lvEnts w.params kd wd aa oa pa t1 t2 k) 5) :: imm) →
      (∀ p ∈ imm, p.1 < dx) → @LT.lt Nat _ dx x → @LT.lt Nat _ x aa → @LT.lt Nat _ aa oa → @LT.lt Nat _ oa pa → Q (.ref x) { s with heap := h', toks := tk' }) :
    wpAny (model PySem.Challenge.rw_pq0176_01.row.prog w) (ktrTop dp un gd cn cs L a ccd cl outer) (call (.ref 128) [.str kd t1, .str wd t2]) Q E s := by
  revert X
  k_fill
  intro X
  k_dflt (refine' call_cls ?k1 ?k2 ?k3 ?k4 ?k5 ?k6 ?_; (case k1 => k_asm); (case k2 => k_asm); (case k3 => k_asm); (case k4 => k_is); (case k5 => k_is); (case k6 => k_is))
  intro x dx h1 F1 N1 l1 l2
  have l3 : ∀ p ∈ imm, p.1 ≠ dx := fun p hp => Nat.ne_of_lt (l1 p hp)
  have l4 : @LT.lt Nat _ dx x := l2
  refine enterC (env := envX cn cs L a ccd cl) (outer := outer) I_linit B F1 X N1 T rfl rfl hk (by show dp + 1 < 1000; omega) (binds := [(Str.ofString "self", .ref x), (Str.ofString "kind", .str kd t1), (Str.ofString "word", .str wd t2)]) (BindsTo.of_eq rfl) (by rfl) ?_
  intro g L' h2 F2 N2 B2 X2 T2
  dsimp only [D_linit, B_linit]
  generalize hPP : (fun (fl : Flow) (s' : Shared) => _) = PP
  iterate 36 walk1
  subst hPP
  refine ⟨_, _, by assumption, by assumption, fun FR NR => ⟨rfl, ?_⟩⟩
  refine ret x dx _ _ _ (fun | 0 => _ | 1 => _ | 2 => _ | 3 => _ | _ => _) _ _ FR NR l1 l4 ?_ ?_ ?_ <;> (dsimp only [AllLt] at *; omega)
end
section
open PySem PySem.W PyProof.Rows PySem.Calls PyProof.V PySem.Spec
set_option maxRecDepth 100000
set_option maxHeartbeats 1000000
noncomputable def oprD (x : Str × Nat) : Dat := .tuple [.str x.1, .int (x.2 : Nat)]
noncomputable abbrev rl (vs : List Value) (c : Nat) : Obj := listOf vs.reverse.toArray c
theorem endsXn {g : Heap} {L : Addr} {mt' keep keep' : Led} {Post : Led → Led → Value → Prop} {s s' : Shared} {m : Str → Option Value} (F : Fr g L s'.heap m) (N : News g L s'.heap (mt' ++ keep')) (S : Sep mt' keep') (b : ∀ p ∈ keep, p ∈ keep') (p : Post mt' keep' .none) (e1 : s'.gens = s.gens := by rfl) (e2 : s'.drawn = s.drawn := by rfl) (e3 : s'.os = s.os := by rfl) :
    EndsX g L keep Post s .next s' := ⟨m, mt', keep', F, N, S, b, p, e1, e2, e3⟩
section
variable {w : World} {A : Around} {E : Value → Shared → Prop} {s : Shared} {g : Heap} {L : Addr} {led led' : Led} {m : Str → Option Value} {Q : Value → Shared → Prop}
theorem last_get (v : Value) (vs : List Value) : (v :: vs).reverse.toArray[((-1 : Int) + (v :: vs).reverse.toArray.size).toNat]? = some v := by
  have e : ((-1 : Int) + ((v :: vs).reverse.toArray.size : Nat)).toNat = vs.reverse.length := by simp; omega
  rw [e]
  simp
theorem kl_last_app : ∀ (l : List Value) (v : Value), kl_last (l ++ [v]) = some (l, v)
  | [], v => rfl
  | x :: r, v => by rw [List.cons_append, kl_last, kl_last_app r v]
theorem kl_last_snoc (v : Value) (vs : List Value) : kl_last (v :: vs).reverse.toArray.toList = some (vs.reverse, v) := by
  have : (v :: vs).reverse.toArray.toList = vs.reverse ++ [v] := by simp
  rw [this]
  exact kl_last_app _ _
theorem len_rl {ra : Addr} {vs : List Value} {n : Nat} (N : News g L s.heap led) (hm : (ra, rl vs n) ∈ led) (hz : vs.length ≤ 100) (h : Q (.int vs.length (s.toks + 1)) { s with toks := s.toks + 1 + 1 }) :
    wpAny (model PySem.Challenge.rw_pq0176_01.row.prog w) A (call (.builtin "len") [.ref ra]) Q E s :=
  call_len_list (News.isList N hm) (by rw [List.size_toArray, List.length_reverse]; omega) (by rw [List.size_toArray, List.length_reverse]; exact h)
theorem item_last {l : Addr} {v : Value} {vs : List Value} {n : Nat} {u : Tok} {value slice : PySem.Expr} (N : News g L s.heap led) (hm : (l, rl (v :: vs) n) ∈ led) (h : Q v s)
    (hs : subscripted slice false (.ref l) (.int (-1) u) = operate [.ref l, .int (-1) u] (getItem (.ref l) (.int (-1) u)) := by with_unfolding_all rfl) :
    wpAny (model PySem.Challenge.rw_pq0176_01.row.prog w) A (subscriptTail value slice (.ref l) (.int (-1) u)) Q E s := by
  have hl := News.isList N hm
  exact tail_any hl.typeIs slot_list_getitem.lookup (wpAny_getItem_list_neg hl (by decide) (by simp; omega) (by decide) (x := v) (last_get v vs) h) hs
theorem pop_rl {D : Addr} {v : Value} {vs : List Value} {n : Nat} (F : Fr g L s.heap m) (N : News g L s.heap led) (U : Upd D (rl (v :: vs) n) (rl vs (n + 1)) led led') (hz : vs.length ≤ 100) (h : ∀ h', Fr g L h' m → News g L h' led' → Q v { s with heap := h' }) :
    wpAny (model PySem.Challenge.rw_pq0176_01.row.prog w) A (call (.builtin "list.pop") [.ref D]) Q E s :=
  kl_pop (its := (v :: vs).reverse.toArray) (p := vs.reverse) F N (kl_last_snoc v vs) U (by simp [sizeLine_eq]; omega) h
theorem push_rl {D : Addr} {v : Value} {vs : List Value} {n : Nat} (F : Fr g L s.heap m) (N : News g L s.heap led) (U : Upd D (rl vs n) (rl (v :: vs) (n + 1)) led led') (hz : vs.length ≤ 100) (h : ∀ h', Fr g L h' m → News g L h' led' → Q .none { s with heap := h' }) :
    wpAny (model PySem.Challenge.rw_pq0176_01.row.prog w) A (call (.builtin "list.append") [.ref D, v]) Q E s :=
  append_K (its := vs.reverse.toArray) F N (by rw [List.push_toArray, ← List.reverse_cons]; exact U) h (by rw [List.size_toArray, List.length_reverse, sizeLine_eq]; omega)
end
theorem sep2 {a b : Addr} {x y : Obj} {keep : Led} (h1 : ∀ p ∈ keep, p.1 ≠ a) (h2 : ∀ p ∈ keep, p.1 ≠ b) : Sep [(a, x), (b, y)] keep := fun q hq p hp => by
  simp only [List.mem_cons, List.not_mem_nil, or_false] at hq
  rcases hq with rfl | rfl
  · exact h1 p hp
  · exact h2 p hp
noncomputable def JuPost (oa pa : Addr) (ds : List Dat) (os : List (Str × Nat)) (mt keep : Led) : Prop := ∃ vo co vp cp, mt = [(oa, rl vo co), (pa, rl vp cp)] ∧ DatAll keep vo ds ∧ DatAll keep vp (os.map oprD)
noncomputable def JuJ (x oa pa : Addr) (q : Nat) (t : Tok) (ds' : List Dat) (os' : List (Str × Nat)) (keep : Led) (n' : Nat) (m : Str → Option Value) (led : Led) : Prop := ∃ u vo co vp cp ds os keep', m = over [(Str.ofString "level", .ref x), (Str.ofString "strength", .int (q : Nat) t)] u ∧ led = (oa, rl vo co) :: (pa, rl vp cp) :: keep' ∧ (∀ p ∈ keep', p.1 ≠ oa) ∧ (∀ p ∈ keep', p.1 ≠ pa) ∧ (∀ p ∈ keep, p ∈ keep') ∧
    DatAll keep' vo ds ∧ DatAll keep' vp (os.map oprD) ∧ joinUp q ds os = some (ds', os') ∧ n' = os.length ∧ vo.length ≤ 60 ∧ vp.length ≤ 60
theorem len_tl {v : Value} {vs : List Value} (h : (v :: vs).length ≤ 60) : vs.length ≤ 100 := Nat.le_trans (Nat.le_of_succ_le h) (by decide)
theorem news_swap3 {g h : Heap} {L : Addr} {a b c : Addr × Obj} {r : Led} (N : News g L h (a :: b :: c :: r)) : News g L h (b :: c :: a :: r) := News.sub N fun q hq => by
  rcases List.mem_cons.mp hq with rfl | hq
  · exact .tail _ (.head _)
  rcases List.mem_cons.mp hq with rfl | hq
  · exact .tail _ (.tail _ (.head _))
  rcases List.mem_cons.mp hq with rfl | hq
  · exact .head _
  · exact .tail _ (.tail _ (.tail _ hq))
theorem ne_cons {D a : Addr} {o : Obj} {r : Led} (h : D ≠ a) (s : ∀ p ∈ r, p.1 ≠ a) : ∀ p ∈ (D, o) :: r, p.1 ≠ a := fun p hp => by
  rcases List.mem_cons.mp hp with rfl | hp
  · exact h
  · exact s p hp
section
variable {keep' : Led} {vo vp : List Value} {co cp q sq : Nat} {ds ds' : List Dat} {os os' : List (Str × Nat)} {o : Str} {oa pa : Addr}
theorem ju_end (hj : joinUp q ds [] = some (ds', os')) (hvo : DatAll keep' vo ds) (hvp : DatAll keep' vp (([] : List (Str × Nat)).map oprD)) : Value.none = .none ∧ JuPost oa pa ds' os' [(oa, rl vo co), (pa, rl vp cp)] keep' := by
  unfold joinUp at hj
  cases hj
  exact ⟨rfl, vo, co, vp, cp, rfl, hvo, hvp⟩
theorem ju_stop (lt : sq < q) (hj : joinUp q ds ((o, sq) :: os) = some (ds', os')) (hvo : DatAll keep' vo ds) (hvp : DatAll keep' vp (((o, sq) :: os).map oprD)) : Value.none = .none ∧ JuPost oa pa ds' os' [(oa, rl vo co), (pa, rl vp cp)] keep' := by
  unfold joinUp at hj
  rw [if_pos lt] at hj
  cases hj
  exact ⟨rfl, vo, co, vp, cp, rfl, hvo, hvp⟩
theorem oprs_cons (h : DatAll keep' vp (((o, sq) :: os).map oprD)) : ∃ ta tn t3 t4 r, vp = .ref ta :: r ∧ (ta, tupO [.str o t3, .int (sq : Nat) t4] tn) ∈ keep' ∧ DatAll keep' r (os.map oprD) :=
  let ⟨_, r, e, h1, h2⟩ := inCons h
  let ⟨a, n, _, t4, e1, hm, hx⟩ := pairI_open h1
  let ⟨t3, e3⟩ := inStr hx
  ⟨a, n, t3, t4, r, e1 ▸ e, e3 ▸ hm, h2⟩
theorem opd_first (lt : ¬ sq < q) (hj : joinUp q ds ((o, sq) :: os) = some (ds', os')) (hvo : DatAll keep' vo ds) : ∃ d r v vs, ds = d :: r ∧ vo = v :: vs ∧ DatIn keep' v d ∧ DatAll keep' vs r := by
  cases ds with
  | nil => unfold joinUp at hj; rw [if_neg lt] at hj; by_cases hu : isUn o = true <;> simp [hu] at hj
  | cons d r => exact let ⟨v, vs, e, h1, h2⟩ := inCons hvo; ⟨d, r, v, vs, rfl, e, h1, h2⟩
theorem ju_un {d : Dat} (lt : ¬ sq < q) (hu : isUn o = true) (hj : joinUp q (d :: ds) ((o, sq) :: os) = some (ds', os')) : joinUp q (unDat o d :: ds) os = some (ds', os') := by
  conv at hj => lhs; unfold joinUp
  rw [if_neg lt, if_pos hu] at hj
  exact hj
theorem opd_second {d : Dat} (lt : ¬ sq < q) (hu : ¬ isUn o = true) (hj : joinUp q (d :: ds) ((o, sq) :: os) = some (ds', os')) (hvo : DatAll keep' vo ds) : ∃ d2 r v vs, ds = d2 :: r ∧ vo = v :: vs ∧ DatIn keep' v d2 ∧ DatAll keep' vs r ∧ joinUp q (twoDat o d2 d :: r) os = some (ds', os') := by
  conv at hj => lhs; unfold joinUp
  rw [if_neg lt, if_neg hu] at hj
  cases ds with
  | nil => cases hj
  | cons d2 r => exact let ⟨v, vs, e, h1, h2⟩ := inCons hvo; ⟨d2, r, v, vs, rfl, e, h1, h2, hj⟩
end
theorem join_up_ (w : World) (x aa oa pa : Addr) (kd wd : Str) (hne : oa ≠ pa) (q : Nat) (i : Int) (t : Tok) (hi : i = (q : Int)) (vo vp : List Value) (co cp : Nat) (ds ds' : List Dat) (os os' : List (Str × Nat)) (hj : joinUp q ds os = some (ds', os')) (hlo : vo.length ≤ 60) (hlp : vp.length ≤ 60) :
    CallsX w 139 [.ref x, .int i t] 4 60 [(oa, rl vo co), (pa, rl vp cp)] (fun keep => IsLv w keep x aa oa pa kd wd ∧ DatAll keep vo ds ∧ DatAll keep vp (os.map oprD)) (fun mt' keep' v => v = .none ∧ JuPost oa pa ds' os' mt' keep') := by
  subst hi
  refine callsX_ofR I_join_up [(Str.ofString "level", .ref x), (Str.ofString "strength", .int q t)] (fun s => BindsTo.of_eq rfl) (by rfl) ?_
  k_fill
  intro mean mg mb dp un gd cn cs L₀ a ccd cl outer base g L keep hp gs dr tk os₀ PP hR B F X N S T hP hd hu
  dsimp only [D_join_up, B_join_up]
  iterate 1 walk1
  refine wp_hide fun QQ hQ => ?_
  refine While_R (JuJ x oa pa q t ds' os' keep) (n₀ := os.length) F N ⟨_, vo, co, vp, cp, ds, os, keep, (over_self (fun q hq => by
      simp only [List.mem_cons, List.not_mem_nil, or_false] at hq
      rcases hq with rfl | rfl <;> rfl)).symm, rfl, S _ (.head _), S _ (.tail _ (.head _)), fun _ h => h, hP.2.1, hP.2.2, hj, rfl, hlo, hlp⟩ ?_
  have hLv := hP.1
  clear hP hj hlo hlp N F S vo vp co cp ds os
  intro n' m₁ led₁ h₁ tk₁ WW hn hb hw F₁ N₁ hJ
  apply o8_11 hJ
  intro u vo co vp cp ds os keep' em el so sp hsub hvo hvp hj en hlo hlp
  subst em el en
  apply o4_2 (hLv.mono hsub)
  intro dx t1 t2 k hx1 hx2
  have hx1' : (x, instObj 128 dx) ∈ (oa, rl vo co) :: (pa, rl vp cp) :: keep' := List.mem_cons_of_mem _ (List.mem_cons_of_mem _ hx1)
  have hx2' : (dx, dictOf (lvEnts w.params kd wd aa oa pa t1 t2 k) 5) ∈ (oa, rl vo co) :: (pa, rl vp cp) :: keep' := List.mem_cons_of_mem _ (List.mem_cons_of_mem _ hx2)
  iterate 10 walk1
  have hpl : vp.length = os.length := by rw [hvp.length, List.length_map]
  refine len_rl (by assumption) (List.mem_cons_of_mem _ (List.mem_cons_self ..)) (Nat.le_trans hlp (by decide)) ?_
  cases os with
  | nil =>
    have ev : vp = [] := List.eq_nil_of_length_eq_zero hpl
    subst ev
    iterate 5 walk1
    refine hQ _ _ ?_
    dsimp only
    iterate 2 walk1
    exact hR _ _ [(oa, rl vo co), (pa, rl [] cp)] keep' _ _ (by assumption) (show News _ _ _ ((oa, rl vo co) :: (pa, rl [] cp) :: keep') from by assumption) (sep2 so sp) hsub (ju_end hj hvo hvp)
  | cons o os =>
  obtain ⟨o, sq⟩ := o
  apply o5_3 (oprs_cons hvp)
  intro ta tn t3 t4 vp₁ ev htm hvp'
  subst ev
  have htm' : (ta, tupO [.str o t3, .int (sq : Nat) t4] tn) ∈ (oa, rl vo co) :: (pa, rl (.ref ta :: vp₁) cp) :: keep' := List.mem_cons_of_mem _ (List.mem_cons_of_mem _ htm)
  rw [List.length_cons]
  iterate 14 walk1
  refine item_last (by assumption) (List.mem_cons_of_mem _ (List.mem_cons_self ..)) ?_
  iterate 2 walk1
  by_cases hlt : sq < q
  · iterate 5 walk1
    refine hQ _ _ ?_
    dsimp only
    iterate 2 walk1
    exact hR _ _ [(oa, rl vo co), (pa, rl (.ref ta :: vp₁) cp)] keep' _ _ (by assumption) (show News _ _ _ ((oa, rl vo co) :: (pa, rl (.ref ta :: vp₁) cp) :: keep') from by assumption) (sep2 so sp) hsub (ju_stop hlt hj hvo hvp)
  have up : ∀ {a b : Addr × Obj} {q : Addr × Obj}, q ∈ keep' → q ∈ a :: b :: keep' := fun h => List.mem_cons_of_mem _ (List.mem_cons_of_mem _ h)
  apply o4_4 (opd_first hlt hj hvo)
  intro d ds₁ v vo₁ ed ev hvd hvo'
  subst ed ev
  iterate 16 walk1
  refine pop_rl (vs := vp₁) (n := cp) (led' := (oa, rl (v :: vo₁) co) :: (pa, rl vp₁ (cp + 1)) :: keep') (by assumption) (by assumption) (.tail hne (.head sp)) (len_tl hlp) (fun h₂ F₂ N₂ => ?_)
  have hx1a : (x, instObj 128 dx) ∈ (oa, rl (v :: vo₁) co) :: (pa, rl vp₁ (cp + 1)) :: keep' := up hx1
  have hx2a : (dx, dictOf (lvEnts w.params kd wd aa oa pa t1 t2 k) 5) ∈ (oa, rl (v :: vo₁) co) :: (pa, rl vp₁ (cp + 1)) :: keep' := up hx2
  have htma : (ta, tupO [.str o t3, .int (sq : Nat) t4] tn) ∈ (oa, rl (v :: vo₁) co) :: (pa, rl vp₁ (cp + 1)) :: keep' := up htm
  clear hx1' hx2' htm'
  iterate 11 walk1
  have hoa : ∀ p ∈ (pa, rl vp₁ (cp + 1)) :: keep', p.1 ≠ oa := fun p hp => by
    rcases List.mem_cons.mp hp with rfl | hp
    · exact fun e => hne e.symm
    · exact so p hp
  refine pop_rl (vs := vo₁) (n := co) (led' := (oa, rl vo₁ (co + 1)) :: (pa, rl vp₁ (cp + 1)) :: keep') (by assumption) (by assumption) (.head hoa) (len_tl hlo) (fun h₃ F₃ N₃ => ?_)
  have hx1b : (x, instObj 128 dx) ∈ (oa, rl vo₁ (co + 1)) :: (pa, rl vp₁ (cp + 1)) :: keep' := up hx1
  have hx2b : (dx, dictOf (lvEnts w.params kd wd aa oa pa t1 t2 k) 5) ∈ (oa, rl vo₁ (co + 1)) :: (pa, rl vp₁ (cp + 1)) :: keep' := up hx2
  clear hx1a hx2a htma
  by_cases hun : isUn o = true
  · have hj := ju_un hlt hun hj
    have ho : o = Str.ofString "neg" ∨ o = Str.ofString "not" := by simpa [isUn] using hun
    rcases ho with rfl | rfl
    · iterate 27 walk1
      refine kup_newTuple (by assumption) (by assumption) (fun D h₄ F₄ N₄ l4 => ?_) (by simp [sizeLine_eq])
      iterate 1 walk1
      have hDo : D ≠ oa := Nat.ne_of_gt (l4 _ (.head _))
      have hDp : D ≠ pa := Nat.ne_of_gt (l4 _ (.tail _ (.head _)))
      refine push_rl (D := oa) (v := .ref D) (vs := vo₁) (n := (co + 1)) (led' := (D, tupO [.str (Str.ofString "neg") t3, v]) :: (oa, rl (.ref D :: vo₁) ((co + 1) + 1)) :: (pa, rl vp₁ (cp + 1)) :: keep') (by assumption) (by assumption) (.tail hDo (.head hoa)) (len_tl hlo) (fun h₅ F₅ N₅ => ?_)
      have N₆ := news_swap3 N₅
      clear N₅
      iterate 2 walk1
      refine hn os.length _ _ _ _ (Nat.lt_succ_self _) (by assumption) N₆ ⟨_, .ref D :: vo₁, (co + 1) + 1, vp₁, cp + 1, _, os, (D, tupO [.str (Str.ofString "neg") t3, v]) :: keep', (over_self (fun q hq => by
        simp only [List.mem_cons, List.not_mem_nil, or_false] at hq
        rcases hq with rfl | rfl <;> rfl)).symm, rfl, ne_cons hDo so, ne_cons hDp sp, fun q hq => .tail _ (hsub q hq), .cons ?_ (DatAll.mono (fun q hq => .tail _ hq) hvo'), hvp'.mono (fun q hq => .tail _ hq), hj, rfl, hlo, Nat.le_of_succ_le hlp⟩
      exact .tuple (.head _) (.cons (.str _ _) (.cons (hvd.mono (fun q hq => .tail _ hq)) .nil))
    · iterate 34 walk1
      refine kup_newTuple (by assumption) (by assumption) (fun D h₄ F₄ N₄ l4 => ?_) (by simp [sizeLine_eq])
      iterate 1 walk1
      have hDo : D ≠ oa := Nat.ne_of_gt (l4 _ (.head _))
      have hDp : D ≠ pa := Nat.ne_of_gt (l4 _ (.tail _ (.head _)))
      refine push_rl (D := oa) (v := .ref D) (vs := vo₁) (n := (co + 1)) (led' := (D, tupO [.str (Str.ofString "not") t3, v]) :: (oa, rl (.ref D :: vo₁) ((co + 1) + 1)) :: (pa, rl vp₁ (cp + 1)) :: keep') (by assumption) (by assumption) (.tail hDo (.head hoa)) (len_tl hlo) (fun h₅ F₅ N₅ => ?_)
      have N₆ := news_swap3 N₅
      clear N₅
      iterate 2 walk1
      refine hn os.length _ _ _ _ (Nat.lt_succ_self _) (by assumption) N₆ ⟨_, .ref D :: vo₁, (co + 1) + 1, vp₁, cp + 1, _, os, (D, tupO [.str (Str.ofString "not") t3, v]) :: keep', (over_self (fun q hq => by
        simp only [List.mem_cons, List.not_mem_nil, or_false] at hq
        rcases hq with rfl | rfl <;> rfl)).symm, rfl, ne_cons hDo so, ne_cons hDp sp, fun q hq => .tail _ (hsub q hq), .cons ?_ (DatAll.mono (fun q hq => .tail _ hq) hvo'), hvp'.mono (fun q hq => .tail _ hq), hj, rfl, hlo, Nat.le_of_succ_le hlp⟩
      exact .tuple (.head _) (.cons (.str _ _) (.cons (hvd.mono (fun q hq => .tail _ hq)) .nil))
  · have ho1 : (o == Str.ofString "neg") = false := by simp [isUn] at hun; exact beq_eq_false_iff_ne.mpr hun.1
    have ho2 : (o == Str.ofString "not") = false := by simp [isUn] at hun; exact beq_eq_false_iff_ne.mpr hun.2
    apply o4_5 (opd_second hlt hun hj hvo')
    intro d2 ds₂ v2 vo₂ ed ev hvd2 hvo2 hj2
    subst ed ev
    iterate 41 walk1
    refine pop_rl (vs := vo₂) (n := co + 1) (led' := (oa, rl vo₂ (co + 1 + 1)) :: (pa, rl vp₁ (cp + 1)) :: keep') (by assumption) (by assumption) (.head hoa) (len_tl (Nat.le_of_succ_le hlo)) (fun h₆ F₆ N₆ => ?_)
    have hx1c : (x, instObj 128 dx) ∈ (oa, rl vo₂ (co + 1 + 1)) :: (pa, rl vp₁ (cp + 1)) :: keep' := up hx1
    have hx2c : (dx, dictOf (lvEnts w.params kd wd aa oa pa t1 t2 k) 5) ∈ (oa, rl vo₂ (co + 1 + 1)) :: (pa, rl vp₁ (cp + 1)) :: keep' := up hx2
    clear hx1b hx2b
    iterate 3 walk1
    refine kup_newTuple (by assumption) (by assumption) (fun D h₄ F₄ N₄ l4 => ?_) (by simp [sizeLine_eq])
    obtain ⟨T2, N₇⟩ : ∃ T2 : Tok, News g L h₄ ((D, tupO [.str (Str.ofString "two") T2, .str o t3, v2, v]) :: (oa, rl vo₂ (co + 1 + 1)) :: (pa, rl vp₁ (cp + 1)) :: keep') := ⟨_, N₄⟩
    iterate 1 walk1
    have hDo : D ≠ oa := Nat.ne_of_gt (l4 _ (.head _))
    have hDp : D ≠ pa := Nat.ne_of_gt (l4 _ (.tail _ (.head _)))
    refine push_rl (D := oa) (v := .ref D) (vs := vo₂) (n := (co + 1 + 1)) (led' := (D, tupO [.str (Str.ofString "two") T2, .str o t3, v2, v]) :: (oa, rl (.ref D :: vo₂) ((co + 1 + 1) + 1)) :: (pa, rl vp₁ (cp + 1)) :: keep') (by assumption) (by assumption) (.tail hDo (.head hoa)) (len_tl (Nat.le_of_succ_le hlo)) (fun h₅ F₅ N₅ => ?_)
    have N₆ := news_swap3 N₅
    clear N₅
    iterate 2 walk1
    refine hn os.length _ _ _ _ (Nat.lt_succ_self _) (by assumption) N₆ ⟨_, .ref D :: vo₂, (co + 1 + 1) + 1, vp₁, cp + 1, _, os, (D, tupO [.str (Str.ofString "two") T2, .str o t3, v2, v]) :: keep', (over_self (fun q hq => by
      simp only [List.mem_cons, List.not_mem_nil, or_false] at hq
      rcases hq with rfl | rfl <;> rfl)).symm, rfl, ne_cons hDo so, ne_cons hDp sp, fun q hq => .tail _ (hsub q hq), .cons ?_ (DatAll.mono (fun q hq => .tail _ hq) hvo2), hvp'.mono (fun q hq => .tail _ hq), hj2, rfl, Nat.le_of_succ_le hlo, Nat.le_of_succ_le hlp⟩
    exact .tuple (.head _) (.cons (.str _ _) (.cons (.str _ _) (.cons (hvd2.mono (fun q hq => .tail _ hq)) (.cons (hvd.mono (fun q hq => .tail _ hq)) .nil))))
end
section
open PySem PySem.W PyProof.Rows PySem.Calls PyProof.V PySem.Spec
set_option maxRecDepth 100000
set_option maxHeartbeats 1000000
theorem finished_ (w : World) (x aa oa pa : Addr) (hne : oa ≠ pa) (hao : aa ≠ oa) (hap : aa ≠ pa) (lv : Lv) (d : Dat) (hf : finLv lv = some d) (va vo vp : List Value) (ca co cp : Nat) (hla : va.length ≤ 60) (hlo : vo.length ≤ 60) (hlp : vp.length ≤ 60) :
    CallsX w 146 [.ref x] 8 120 [(aa, listOf va.toArray ca), (oa, rl vo co), (pa, rl vp cp)] (fun keep => IsLv w keep x aa oa pa lv.kind lv.word ∧ DatAll keep va lv.args ∧ DatAll keep vo lv.opds ∧ DatAll keep vp (lv.oprs.map oprD)) (fun _ keep' v => DatIn keep' v d) := by
  refine callsX_of I_finished [(Str.ofString "level", .ref x)] (fun s => BindsTo.of_eq rfl) (by rfl) ?_
  k_fill
  intro mean mg mb dp un gd cn cs L₀ a ccd cl outer base g L keep s B F X N S T hP hd hu
  dsimp only [D_finished, B_finished]
  generalize hPP : EndsX g L keep _ s = PP
  obtain ⟨hLv, hva, hvo, hvp⟩ := hP
  unfold finLv at hf
  cases hj : joinUp 0 lv.opds lv.oprs with
  | none => rw [hj] at hf; cases hf
  | some r =>
  obtain ⟨ds', os'⟩ := r
  rw [hj] at hf
  obtain ⟨d1, rfl, rfl⟩ : ∃ d1, ds' = [d1] ∧ os' = [] := by
    rcases ds' with _ | ⟨a, _ | ⟨b, c⟩⟩
    · cases hf
    · cases os' with
      | nil => exact ⟨a, rfl, rfl⟩
      | cons o os => cases hf
    · cases hf
  dsimp only at hf
  have s1 := S _ (.head _)
  have s2 := S _ (.tail _ (.head _))
  have s3 := S _ (.tail _ (.tail _ (.head _)))
  have S1 : Sep [(aa, listOf va.toArray ca)] ([(oa, rl vo co), (pa, rl vp cp)] ++ keep) := Sep.one (fun p hp => by
    rcases List.mem_cons.mp hp with rfl | hp
    · exact fun e => hao e.symm
    rcases List.mem_cons.mp hp with rfl | hp
    · exact fun e => hap e.symm
    · exact s1 p hp)
  iterate 11 walk1
  refine useX (join_up_ w x aa oa pa lv.kind lv.word hne 0 _ _ rfl vo vp co cp _ _ _ _ hj hlo hlp) [(aa, listOf va.toArray ca)] keep (by assumption) (by assumption) X N T rfl S1 (sep2 s2 s3) ⟨hLv, hvo, hvp⟩ (by first | exact roomD hd (by decide) | (show dp + 1 + _ ≤ 900; omega)) (by first | exact roomU hu (by decide) | (show un + 3 + _ ≤ 9000; omega)) ?_
  rintro _ mt' keep' h₁ tk₁ F₁ N₁ S₂ S₃ hs₁ ⟨rfl, vo', co', vp', cp', rfl, hvo', hvp'⟩
  obtain ⟨v, rfl, hvd⟩ : ∃ v, vo' = [v] ∧ DatIn keep' v d1 := by
    cases hvo' with
    | cons h1 r => cases r; exact ⟨_, rfl, h1⟩
  obtain ⟨dx, t1, t2, k, hx1, hx2⟩ := hLv.mono hs₁
  have up : ∀ {a b c : Addr × Obj} {q : Addr × Obj}, q ∈ keep' → q ∈ a :: b :: c :: keep' := fun h => List.mem_cons_of_mem _ (List.mem_cons_of_mem _ (List.mem_cons_of_mem _ h))
  have N₂ : News g L h₁ ((aa, listOf va.toArray ca) :: (oa, rl [v] co') :: (pa, rl vp' cp') :: keep') := N₁
  have hx1a : (x, instObj 128 dx) ∈ (aa, listOf va.toArray ca) :: (oa, rl [v] co') :: (pa, rl vp' cp') :: keep' := up hx1
  have hx2a : (dx, dictOf (lvEnts w.params lv.kind lv.word aa oa pa t1 t2 k) 5) ∈ (aa, listOf va.toArray ca) :: (oa, rl [v] co') :: (pa, rl vp' cp') :: keep' := up hx2
  iterate 8 walk1
  have so := S₃ _ (.head _)
  have sp := S₃ _ (.tail _ (.head _))
  have hoa : ∀ p ∈ (pa, rl vp' cp') :: keep', p.1 ≠ oa := fun p hp => by
    rcases List.mem_cons.mp hp with rfl | hp
    · exact fun e => hne e.symm
    · exact so p hp
  refine pop_rl (vs := []) (n := co') (led' := (aa, listOf va.toArray ca) :: (oa, rl [] (co' + 1)) :: (pa, rl vp' cp') :: keep') (by assumption) (by assumption) (.tail hao (.head hoa)) (by simp) (fun h₃ F₃ N₃ => ?_)
  have hx1b : (x, instObj 128 dx) ∈ (aa, listOf va.toArray ca) :: (oa, rl [] (co' + 1)) :: (pa, rl vp' cp') :: keep' := up hx1
  have hx2b : (dx, dictOf (lvEnts w.params lv.kind lv.word aa oa pa t1 t2 k) 5) ∈ (aa, listOf va.toArray ca) :: (oa, rl [] (co' + 1)) :: (pa, rl vp' cp') :: keep' := up hx2
  clear hx1a hx2a N₂ N₁
  iterate 17 walk1
  · rename_i hk
    simp only [List.any_cons, List.any_nil, Bool.or_false, Bool.or_eq_true, beq_iff_eq] at hk
    rw [if_pos (hk.imp Eq.symm Eq.symm)] at hf
    cases hf
    iterate 4 walk1
    subst hPP
    refine (show EndsX g L keep _ s (Flow.ret v) _ from endsX (mt' := []) (keep' := keep') (by assumption) (News.sub (by assumption) (fun q hq => List.mem_cons_of_mem _ (up hq))) (fun _ h => nomatch h) hs₁ hvd)
  · rename_i hk
    simp only [List.any_cons, List.any_nil, Bool.or_false, Bool.or_eq_false_iff, beq_eq_false_iff_ne] at hk
    rw [if_neg (fun h => h.elim (fun e => hk.1 e.symm) (fun e => hk.2 e.symm))] at hf
    cases hf
    have N₅ : News g L _ ((aa, listOf va.toArray ca) :: (oa, rl [] (co' + 1)) :: (pa, rl vp' cp') :: keep') := News.sub (by assumption) (fun q hq => List.mem_cons_of_mem _ hq)
    iterate 25 walk1
    subst hPP
    rename_i N₆ _
    have hva' := datAll_snoc hvd (hva.mono hs₁)
    refine (show EndsX g L keep _ s (Flow.ret (.ref _)) _ from endsX (mt' := []) (by assumption) N₆ (fun _ h => nomatch h) (by intro q hq; solve_by_elim (maxDepth := 20) [List.mem_cons_of_mem, List.mem_append_right]) ?_)
    exact .tuple (List.Mem.head _) (.cons (.str _ _) (.cons (.str _ _) (.cons (.list (List.Mem.tail _ (List.Mem.head _)) (hva'.mono (by intro q hq; solve_by_elim (maxDepth := 20) [List.mem_cons_of_mem, List.mem_append_right]))) .nil)))
end
section
open PySem PySem.W PyProof.Rows PySem.Calls PyProof.V PySem.Spec
set_option maxRecDepth 100000
set_option maxHeartbeats 1000000
/-- the words that name functions -/
noncomputable def known : List Str := ["ABS", "ASC", "CHR$", "CINT", "CSNG", "CVI", "CVS", "EDIT$", "EOF", "ERL", "ERR", "FIX", "FRE", "HEX$", "INSTR", "INT", "LCASE$", "LEFT$", "LEN", "LOC", "LOF", "LPOS", "LTRIM$", "MAX", "MID$", "MIN", "MKI$", "MKS$", "OCT$", "PI", "POS", "RIGHT$", "RND", "RTRIM$", "SEG$", "SGN", "SPACE$", "SPC", "SQR", "STR$", "STRING$", "SWAP%", "TAB", "UCASE$", "VAL", "XLATE$"].map Str.ofString
theorem known_is : Txt.split FW (Str.ofString " ") = known := by kernel_rfl
theorem known_tok : ∀ t : Tk, (known.any fun y => y == t.told) = (decide (t = .len) || decide (t = .rnd)) := by
  have hb : ∀ j : Fin 13, (known.any fun y => y == Tk.told (.bop j)) = false := by decide +kernel
  have hn : ∀ j : Fin 3, (known.any fun y => y == Tk.told (.name j)) = false := by decide +kernel
  have hd : ∀ j : Bool, (known.any fun y => y == Tk.told (.num j)) = false := by decide +kernel
  intro t
  cases t with
  | bop j => rw [hb j]; rfl
  | name j => rw [hn j]; rfl
  | num j => rw [hd j]; rfl
  | _ => decide +kernel
theorem known_none : (known.any fun y => y == Str.ofString "") = false := by decide +kernel
noncomputable def KnownIn (imm : Led) (v : Value) : Prop := ∃ D l, v = .ref D ∧ (D, listOf (strValues l).toArray 0) ∈ imm ∧ StrsAre (strValues l) known
theorem KnownIn.mono {imm imm' : Led} {v : Value} (h : KnownIn imm v) (s : ∀ q ∈ imm, q ∈ imm') : KnownIn imm' v := let ⟨D, l, e, h1, h2⟩ := h; ⟨D, l, e, s _ h1, h2⟩
theorem functions_ (w : World) : Calls w 21 [] 2 20 (fun _ => True) (fun imm v => KnownIn imm v) := by
  refine calls_of I_functions [] (fun s => BindsTo.of_eq rfl) (by rfl) ?_
  k_fill
  intro mean mg mb dp un gd cn cs L₀ a ccd cl outer base g L imm s B F X N T hP hd hu
  dsimp only [D_functions, B_functions]
  generalize hPP : Ends g L imm _ s = PP
  iterate 10 walk1
  rename_i D l h' k' e' a' F' N' l1
  subst hPP
  exact endsN F' N' (fun q hq => List.mem_cons_of_mem _ hq) ⟨D, l, rfl, List.Mem.head _, by rw [e'] at a'; exact known_is ▸ a'⟩
end
section
open PySem PySem.W PyProof.Rows PySem.Calls PyProof.V PySem.Spec
set_option maxRecDepth 100000
set_option maxHeartbeats 1000000
theorem opened_ (w : World) (la : Addr) (kd wd : Str) (t1 t2 : Tok) (xs : List Value) (c : Nat) (hl : xs.length ≤ 60) :
    CallsX w 153 [.ref la, .str kd t1, .str wd t2] 8 100 [(la, rl xs c)] (fun _ => True) (fun mt' keep' v => v = .none ∧ ∃ x aa oa pa, mt' = [(la, rl (.ref x :: xs) (c + 1)), (aa, rl [] 0), (oa, rl [] 0), (pa, rl [] 0)] ∧ IsLv w keep' x aa oa pa kd wd ∧ la ≠ aa ∧ la ≠ oa ∧ la ≠ pa ∧ aa ≠ oa ∧ aa ≠ pa ∧ oa ≠ pa) := by
  refine callsX_of I_opened [(Str.ofString "levels", .ref la), (Str.ofString "kind", .str kd t1), (Str.ofString "word", .str wd t2)] (fun s => BindsTo.of_eq rfl) (by rfl) ?_
  k_fill
  intro mean mg mb dp un gd cn cs L₀ a ccd cl outer base g L keep s B F X N S T hP hd hu
  dsimp only [D_opened, B_opened]
  generalize hPP : EndsX g L keep _ s = PP
  have sl := S _ (.head _)
  iterate 9 walk1
  refine len_rl N (List.mem_cons_self ..) (by omega) ?_
  iterate 22 walk1
  refine level_new (by assumption) (by assumption) X N T rfl (by first | exact roomD hd (by decide) | (show dp + 1 + _ ≤ 900; omega)) (by first | exact roomU hu (by decide) | (show un + 3 + _ ≤ 9000; omega)) (fun x dx aa oa pa k h₁ tk₁ F₁ N₁ l1 l2 l3 l4 l5 => ?_)
  have l0 : @LT.lt Nat _ la dx := l1 _ (List.mem_cons_self ..)
  have lk : ∀ p ∈ keep, @LT.lt Nat _ p.1 dx := fun p hp => l1 p (List.mem_cons_of_mem _ hp)
  iterate 1 walk1
  refine push_rl (D := la) (v := .ref x) (vs := xs) (n := c) (by assumption) N₁ (.tail (Nat.ne_of_gt (show @LT.lt Nat _ la pa by omega)) (.tail (Nat.ne_of_gt (show @LT.lt Nat _ la oa by omega)) (.tail (Nat.ne_of_gt (show @LT.lt Nat _ la aa by omega)) (.tail (Nat.ne_of_gt (show @LT.lt Nat _ la x by omega)) (.tail (Nat.ne_of_gt l0) (.head sl)))))) (by omega) (fun h₂ F₂ N₂ => ?_)
  iterate 2 walk1
  subst hPP
  have N₃ : News g L h₂ ([(la, rl (.ref x :: xs) (c + 1)), (aa, rl [] 0), (oa, rl [] 0), (pa, rl [] 0)] ++ ((x, instObj 128 dx) :: (dx, dictOf (lvEnts w.params kd wd aa oa pa t1 t2 k) 5) :: keep)) := News.sub N₂ (fun q hq => by
    simp only [List.cons_append, List.nil_append, List.mem_cons] at hq ⊢
    rcases hq with h | h | h | h | h | h | h <;> simp [h])
  refine endsXn (by assumption) N₃ ?_ (fun q hq => .tail _ (.tail _ hq)) ⟨rfl, x, aa, oa, pa, rfl, ⟨dx, t1, t2, k, .head _, .tail _ (.head _)⟩, Nat.ne_of_lt (show @LT.lt Nat _ la aa by omega), Nat.ne_of_lt (show @LT.lt Nat _ la oa by omega), Nat.ne_of_lt (show @LT.lt Nat _ la pa by omega), Nat.ne_of_lt l4, Nat.ne_of_lt (show @LT.lt Nat _ aa pa by omega), Nat.ne_of_lt l5⟩
  intro q hq p hp
  simp only [List.mem_cons, List.not_mem_nil, or_false] at hq hp
  rcases hp with rfl | rfl | hp
  · rcases hq with rfl | rfl | rfl | rfl
    · exact Nat.ne_of_gt (show @LT.lt Nat _ la x by omega)
    · exact Nat.ne_of_lt l3
    · exact Nat.ne_of_lt (show @LT.lt Nat _ x oa by omega)
    · exact Nat.ne_of_lt (show @LT.lt Nat _ x pa by omega)
  · rcases hq with rfl | rfl | rfl | rfl
    · exact Nat.ne_of_gt l0
    · exact Nat.ne_of_lt (show @LT.lt Nat _ dx aa by omega)
    · exact Nat.ne_of_lt (show @LT.lt Nat _ dx oa by omega)
    · exact Nat.ne_of_lt (show @LT.lt Nat _ dx pa by omega)
  · have := lk p hp
    rcases hq with rfl | rfl | rfl | rfl
    · exact sl p hp
    · exact Nat.ne_of_lt (show @LT.lt Nat _ p.1 aa by omega)
    · exact Nat.ne_of_lt (show @LT.lt Nat _ p.1 oa by omega)
    · exact Nat.ne_of_lt (show @LT.lt Nat _ p.1 pa by omega)
end
section
open PySem PySem.W PyProof.Rows PySem.Calls PyProof.V PySem.Spec
/-- a tree that calls nothing and leaves every object's dict alone -/
noncomputable def KeepTree {α : Type} : Sem α → Prop
  | .pure _ => True
  | .raise _ => True
  | .unsupported _ => True
  | .finish _ => True
  | .rule _ k => ∀ x, KeepTree (k x)
  | .at _ k => ∀ x, KeepTree (k x)
  | .load _ _ k => ∀ x, KeepTree (k x)
  | .update _ _ f k => (∀ o : Obj, (f o).dict = o.dict) ∧ ∀ x, KeepTree (k x)
  | .alloc _ k => ∀ x, KeepTree (k x)
  | .loadIfAlive _ k => ∀ x, KeepTree (k x)
  | .point _ k => ∀ x, KeepTree (k x)
  | .register _ _ => True
  | .fresh k => ∀ x, KeepTree (k x)
  | .ask k => ∀ x, KeepTree (k x)
  | .choose _ _ k => ∀ x, KeepTree (k x)
  | .os _ _ k => ∀ x, KeepTree (k x)
  | .call .. => False
  | .handled _ k => ∀ x, KeepTree (k x)
  | .newGen _ k => ∀ x, KeepTree (k x)
  | .genState _ k => ∀ x, KeepTree (k x)
  | .resume .. => False
  | .yield .. => True
  | .stack k => ∀ x, KeepTree (k x)
  | .fork .. => True
  | .thread k => ∀ x, KeepTree (k x)
  | .await .. => True
noncomputable def RawKept (h h' : Heap) : Prop := ∀ (b : Nat) (o : Obj), h.objs[b]? = some o → ∃ o' : Obj, h'.objs[b]? = some o' ∧ o'.dict = o.dict
theorem RawKept.refl (h : Heap) : RawKept h h := fun _ o e => ⟨o, e, rfl⟩
theorem RawKept.trans {a b c : Heap} (x : RawKept a b) (y : RawKept b c) : RawKept a c := fun i o e => by
  obtain ⟨o1, e1, d1⟩ := x i o e
  obtain ⟨o2, e2, d2⟩ := y i o1 e1
  exact ⟨o2, e2, d2.trans d1⟩
theorem rawKept_push (h : Heap) (o : Obj) : RawKept h (h.push o) := fun i ob e => by
  refine ⟨ob, ?_, rfl⟩
  obtain ⟨objs, l⟩ := h
  show (objs.push o)[i]? = some ob
  have hi : i < objs.size := (Array.getElem?_eq_some_iff.mp e).1
  rw [Array.getElem?_push_lt hi]
  exact (Array.getElem?_eq_getElem hi).symm.trans e
theorem rawKept_update (h : Heap) (a : Addr) (f : Obj → Obj) (hf : ∀ o : Obj, (f o).dict = o.dict) : RawKept h (h.update a f) := fun i ob e => by
  obtain ⟨objs, l⟩ := h
  show ∃ o' : Obj, (objs.modify a f)[i]? = some o' ∧ o'.dict = ob.dict
  rw [Array.getElem?_modify]
  by_cases q : a = i
  · rw [if_pos q]
    exact ⟨f ob, by rw [show objs[i]? = some ob from e]; rfl, hf ob⟩
  · rw [if_neg q]
    exact ⟨ob, e, rfl⟩
theorem KeepTree.bind {α β : Type} {m : Sem α} {f : α → Sem β} (hm : KeepTree m) (hf : ∀ a, KeepTree (f a)) : KeepTree (m.bind f) := by
  induction m with
  | pure a => exact hf a
  | update a p g k ih => exact ⟨hm.1, fun x => ih x (hm.2 x)⟩
  | call | resume => exact hm.elim
  | raise | unsupported | finish | register | yield | fork | await => trivial
  | _ => rename_i ih; exact fun x => ih x (hm x)
/-- what such a tree leaves: every object's dict as it was -/
theorem wp_keep {α : Type} (M : Model) (Γ : PySem.Ctx) {Q : α → Pos → Shared → Prop} {E : Value → Pos → Shared → Prop} : ∀ (t : Sem α), KeepTree t → ∀ (s₀ s : Shared) (p : Pos), RawKept s₀.heap s.heap → Sem.wp M Γ t Q E p s →
    Sem.wp M Γ t (fun a p s' => Q a p s' ∧ RawKept s₀.heap s'.heap) (fun e p s' => E e p s' ∧ RawKept s₀.heap s'.heap) p s := by
  intro t
  induction t with
  | pure x => exact fun _ _ _ _ h k => ⟨k, h⟩
  | raise v => exact fun _ _ _ _ h k => ⟨k, h⟩
  | unsupported | finish | yield | fork | await | register => exact fun _ _ _ _ _ => id
  | call | resume => exact fun h => h.elim
  | alloc o k ih => exact fun hk s₀ s p h => ih _ (hk _) s₀ _ p (h.trans (rawKept_push _ _))
  | update a q f k ih => exact fun hk s₀ s p h ⟨h1, h2⟩ => ⟨h1, ih _ (hk.2 _) s₀ _ p (h.trans (rawKept_update _ _ _ hk.1)) h2⟩
  | load a q k ih => exact fun hk s₀ s p h ⟨o, ho, h2⟩ => ⟨o, ho, ih _ (hk _) s₀ _ p h h2⟩
  | genState a k ih => exact fun hk s₀ s p h ⟨o, ho, h2⟩ => ⟨o, ho, ih _ (hk _) s₀ _ p h h2⟩
  | choose _ _ k ih => exact fun hk s₀ s p h ⟨ha, h2⟩ => ⟨ha, ih _ (hk _) s₀ _ p h h2⟩
  | rule _ k ih | «at» _ k ih | loadIfAlive _ k ih | point _ k ih | fresh k ih | ask k ih | os _ _ k ih | handled _ k ih | newGen _ k ih | stack k ih | thread k ih => exact fun hk s₀ s p h => ih _ (hk _) s₀ _ _ h
theorem wpAny_keep {α : Type} {M : Model} {A : Around} {t : Sem α} {Q : α → Shared → Prop} {E : Value → Shared → Prop} {s : Shared} (hk : KeepTree t) (h : wpAny M A t Q E s) :
    wpAny M A t (fun a s' => Q a s' ∧ RawKept s.heap s'.heap) (fun e s' => E e s' ∧ RawKept s.heap s'.heap) s :=
  fun Γ p hΓ => wp_keep M Γ t hk s s p (RawKept.refl _) (h Γ p hΓ)
end
section
open PySem PySem.W PyProof.Rows PySem.Calls PyProof.V PySem.Spec
theorem KeepTree.bind' {α β : Type} {m : Sem α} {f : α → Sem β} (hm : KeepTree m) (hf : ∀ a, KeepTree (f a)) : KeepTree (m >>= f) := KeepTree.bind hm hf
theorem keep_pure {α : Type} (a : α) : KeepTree (pure a : Sem α) := trivial
theorem keep_throw {α : Type} (a : Value) : KeepTree (throw a : Sem α) := trivial
theorem keep_unsup {α : Type} (x : String) : KeepTree (PySem.unsupported x : Sem α) := by unfold PySem.unsupported; (repeat' (first | exact trivial | exact keep_pure _ | assumption | (refine KeepTree.bind' ?_ (fun _ => ?_)) | (intro _; skip) | split))
theorem keep_fieldsOf (v : Value) : KeepTree (fieldsOf v) := by
  unfold fieldsOf; (repeat' (first | exact trivial | exact keep_pure _ | assumption | (refine KeepTree.bind' ?_ (fun _ => ?_)) | (intro _; skip) | split))
theorem keep_field (v : Value) (i : Nat) : KeepTree (field v i) := by
  unfold field
  refine KeepTree.bind' (keep_fieldsOf v) fun _ => ?_
  split
  · trivial
  · exact keep_unsup _
theorem mapFields_dict (f : Array Value → Array Value) (o : Obj) : (Obj.mapFields f o).dict = o.dict := by
  obtain ⟨c, d, dt, sl⟩ := o
  cases dt <;> rfl
theorem keep_update (a : Addr) (f : Obj → Obj) (hf : ∀ o : Obj, (f o).dict = o.dict) : KeepTree (update a f) := by
  unfold update
  exact ⟨hf, fun _ => trivial⟩
theorem keep_updateField (a : Addr) (i : Nat) (x : Value) : KeepTree (updateField a i x) := by
  unfold updateField; (repeat' (first | exact trivial | exact keep_pure _ | assumption | (refine KeepTree.bind' ?_ (fun _ => ?_)) | (intro _; skip) | split))
  all_goals exact keep_update _ _ (mapFields_dict _)
theorem keep_setField (v : Value) (i : Nat) (x : Value) : KeepTree (setField v i x) := by
  unfold setField
  split
  · exact keep_updateField _ _ _
  · exact keep_unsup _
theorem keep_setFlight (e : Value) (f : Option Addr) : KeepTree (setFlight e f) := by
  unfold setFlight
  refine KeepTree.bind' (keep_field _ _) fun _ => ?_
  split
  · exact keep_setField _ _ _
  · trivial
theorem keep_behind (env : Env) (o : List Env) : KeepTree (behindIsImport env o) := by
  unfold behindIsImport
  (repeat' (first | exact trivial | exact keep_pure _ | assumption | (refine KeepTree.bind' ?_ (fun _ => ?_)) | (intro _; skip) | split))
  all_goals exact keep_fieldsOf _
theorem keep_keptBack (env : Env) (b : Bool) (o : List Env) : KeepTree (keptBack env b o) := by
  unfold keptBack underTheClaimsCaller
  (repeat' (first | exact trivial | exact keep_pure _ | assumption | (refine KeepTree.bind' ?_ (fun _ => ?_)) | (intro _; skip) | split))
theorem keep_readyFrames : ∀ l : List Env, KeepTree (readyFrames l)
  | [] => trivial
  | env :: outer => by
    have ih := keep_readyFrames outer
    unfold readyFrames
    (repeat' (first | exact trivial | exact keep_pure _ | assumption | (refine KeepTree.bind' ?_ (fun _ => ?_)) | (intro _; skip) | split))
    · exact keep_behind _ _
    · exact keep_keptBack _ _ _
    · exact keep_update _ _ fun o => rfl
theorem keep_frameObject (l : List Env) : KeepTree (frameObject l) := by
  unfold frameObject
  split
  · trivial
  · exact KeepTree.bind' (keep_readyFrames _) fun _ => trivial
theorem keep_frameOf (env : Env) : KeepTree (PySem.frameOf env) := by
  unfold PySem.frameOf frameEnvs
  refine KeepTree.bind' ?_ fun _ => KeepTree.bind' ?_ fun _ => ?_
  · (repeat' (first | exact trivial | exact keep_pure _ | assumption | (refine KeepTree.bind' ?_ (fun _ => ?_)) | (intro _; skip) | split))
  · unfold frameObject
    split
    · trivial
    · refine KeepTree.bind' (keep_readyFrames _) fun _ => ?_
      trivial
  · split
    · trivial
    · exact keep_unsup _
theorem keep_newFields (t : String) (vs : List Value) : KeepTree (newFields t vs) := by
  unfold newFields newObj
  dsimp only
  (repeat' (first | exact trivial | exact keep_pure _ | assumption | (refine KeepTree.bind' ?_ (fun _ => ?_)) | (intro _; skip) | split))
theorem keep_entryPlace (f : Addr) (b : Bool) : KeepTree (entryPlaceOf f b) := by
  unfold entryPlaceOf
  (repeat' (first | exact trivial | exact keep_pure _ | assumption | (refine KeepTree.bind' ?_ (fun _ => ?_)) | (intro _; skip) | split))
theorem keep_noteFrame (e : Value) (env : Env) : KeepTree (noteFrame e env) := by
  unfold noteFrame
  split
  · refine KeepTree.bind' (keep_field _ _) fun _ => ?_
    (repeat' (first | exact trivial | exact keep_pure _ | assumption | (refine KeepTree.bind' ?_ (fun _ => ?_)) | (intro _; skip) | split))
    all_goals first | exact keep_fieldsOf _ | exact keep_setField _ _ _ | exact keep_frameObject _ | exact keep_newFields _ _
  · exact keep_unsup _
theorem keep_leaving (env : Env) (e : Value) : KeepTree (leaving env e) := by
  unfold leaving
  exact KeepTree.bind' (keep_noteFrame _ _) fun _ => keep_setFlight _ _
end
section
open PySem PySem.W PyProof.Rows PySem.Calls PyProof.V PySem.Spec
set_option maxRecDepth 100000
set_option maxHeartbeats 1000000
noncomputable abbrev excO (C d t : Addr) : Obj := { cls := .ref C, dict := some d, data := .fields #[.ref t, .none, .none, .none, .bool false, .none] }
section
variable {M : Model} {A : Around} {E : Value → Shared → Prop} {env : Env} {nm q : Str} {C N : Addr} {bs bm : List Value} {hdct : Bool} {sn : List Str} {sub : List Value} {ab : Bool} {col : Option Bool} {dd : Option Addr} {k0 k1 k2 k3 k5 : Option Value} {newId : String}
/-- raising an exception that has a dict of its own -/
theorem raise_dict {s : Shared} {x : Sem Value} {Q : Flow → Shared → Prop} (hbase : bm.contains (.type "BaseException") = true) (hh : A.handled = none)
    (h : wpAny M A x (fun v s₁ => ∃ e t d, v = .ref e ∧ s₁.heap.get? C = some (excClassObj nm q C N bs bm hdct sn sub ab col dd k0 k1 k2 k3 k5 newId) ∧ s₁.heap.get? e = some (excO C d t) ∧ E (.ref e) s₁) E s) :
    wpAny M A (raiseStmt env (some x) none) Q E s := by
  have hcB : (Value.ref C :: bm).contains (.type "BaseException") = true := by rw [List.contains_cons, hbase, Bool.or_true]
  unfold raiseStmt
  refine wpAny_bind (wpAny_mono h (fun v s₁ h₁ => ?_) fun _ _ x => x)
  obtain ⟨e, t, d, rfl, hC, he, hE⟩ := h₁
  obtain ⟨hp, g, dr, tk, os⟩ := s₁
  repeat (first | with_reducible refine wpAny_loadPart_at he ?_ | with_reducible refine wpAny_loadPart_at hC ?_ | (with_reducible refine wpAny_isSubtype_exc hC ?_; rw [hcB]) | wp_step)
  exact wpAny_raiseNew_none hh hE
end
theorem K_41 (P : Params) : (K P).lookup 41 = some (excClassObj (Str.ofString "BasicError") (Str.ofString "BasicError") 41 40 [.type "Exception"] [.type "Exception", .type "BaseException", .type "object"] true [] [] false none none (some (.ref 22)) none (some (.str (Str.ofString "BasicError") 201)) (some (.str (Str.ofString "BasicError") 209)) (some (.bool true)) "Exception.__new__") := by kernel_rfl
theorem get_raw {h : Heap} {a : Addr} {o : Obj} (e : h.get? a = some o) : h.objs[a]? = some o := by
  unfold Heap.get? at e
  split at e
  · cases e
  · exact e
theorem dict_after {h h' : Heap} {e : Addr} {o o' : Obj} (k : RawKept h h') (x : h.get? e = some o) (y : h'.get? e = some o') : o'.dict = o.dict := by
  obtain ⟨o2, e2, d2⟩ := k e o (get_raw x)
  rw [get_raw y] at e2
  cases e2
  exact d2
noncomputable def DictIs (h : Heap) (e d : Addr) : Prop := ∃ o, h.get? e = some o ∧ o.dict = some d
section
variable {M : Model} {A : Around} {E : Value → Shared → Prop} {s' : Shared} {base g g₂ : Heap} {outer : List Env} {L a e t d C : Addr} {m : Str → Option Value} {name : Str} {scope : Scope} {cd : Value} {Q : Unit → Shared → Prop} {news : Led} {vs : List Value}
/-- out of the frame that raised -/
theorem leave_firstD (K : Below A base outer g) (F : Fr g L s'.heap m) (N : News g L s'.heap news) (he : s'.heap.get? e = some (excO C d t)) (hge : g.get? e = none) (hgt : g.get? t = none) (htp : s'.heap.TupAt t vs) (hne : ∀ q ∈ news, q.1 ≠ e ∧ q.1 ≠ t)
    (hQ : ∀ h', RaisedK base outer e (.ref C) t vs news h' → DictIs h' e d → g.UpToSlots h' → Q () { s' with heap := h' }) (hk : scope.kind = .function := by rfl) :
    wpAny M (A.deeper (envOf name scope L a cd)) (leaving (envOf name scope L a cd) (.ref e)) Q E s' := by
  have K' := K.push (name := name) (a := a) (cd := cd) F hk
  have hin : ∀ env ∈ (envOf name scope L a cd :: outer), ∀ b, env.frame = some b → b ∈ e :: t :: (envOf name scope L a cd :: outer).filterMap (·.frame) := fun env he b hb => .tail _ (.tail _ (List.mem_filterMap.mpr ⟨env, he, hb⟩))
  have hbe : base.get? e = none := fresh_of_stays K.stays hge
  have hbt : base.get? t = none := fresh_of_stays K.stays hgt
  have st : base.StaysIn (hideAll s'.heap (e :: t :: (envOf name scope L a cd :: outer).filterMap (·.frame))) := fun b o q => hideAll_get _ (K'.stays b o q) fun hm => by
    rcases List.mem_cons.mp hm with rfl | hm
    · rw [hbe] at q; cases q
    rcases List.mem_cons.mp hm with rfl | hm
    · rw [hbt] at q; cases q
    rw [(K'.frames.mem hm).1] at q; cases q
  have hl : ∀ q ∈ news, (hideAll s'.heap (e :: t :: (envOf name scope L a cd :: outer).filterMap (·.frame))).get? q.1 = some q.2 ∧ base.get? q.1 = none := fun q hq => by
    refine ⟨hideAll_get _ (N q hq).1 fun hm => ?_, fresh_of_stays K.stays (N q hq).2.2⟩
    rcases List.mem_cons.mp hm with hm | hm
    · exact (hne q hq).1 hm
    rcases List.mem_cons.mp hm with hm | hm
    · exact (hne q hq).2 hm
    obtain ⟨env, he, hf⟩ := List.mem_filterMap.mp hm
    rcases List.mem_cons.mp he with rfl | he
    · exact (N q hq).2.1 (Option.some.inj hf).symm
    · obtain ⟨o, ho, _⟩ := (K.frames.mem (List.mem_filterMap.mpr ⟨env, he, hf⟩)).2
      rw [(N q hq).2.2] at ho; cases ho
  have hen : (hideAll s'.heap (e :: t :: (envOf name scope L a cd :: outer).filterMap (·.frame))).get? e = none := hideAll_none _ (.head _)
  have hent : (hideAll s'.heap (e :: t :: (envOf name scope L a cd :: outer).filterMap (·.frame))).get? t = none := hideAll_none _ (.tail _ (.head _))
  refine wpAny_mono (wpAny_keep (keep_leaving _ _) (wpAny_leaving_firstW (Q := fun _ s₂ => ∃ h', s₂ = { s' with heap := h' } ∧ Heap.LeftW _ _ e (.ref C) (.ref t) s'.heap h') (E := E) (a0 := .ref t) K'.stack (funFrames_hide K'.frames hin) rfl he (fun b o q => of_hideAll _ q) hen rfl rfl rfl fun h' hL => ⟨h', rfl, hL⟩)) (fun _ s₂ hx => ?_) fun _ _ y => y.1
  obtain ⟨⟨h', rfl, k1, ⟨_, _, k2⟩, k3, k4⟩, hr⟩ := hx
  have k3' := k3
  obtain ⟨oe, vs', T, oT, ts, he', _⟩ := k3'
  exact hQ h' ⟨⟨_, st, hl, ⟨k1, hen, k2, k3⟩, hent⟩, Heap.TupAt.of_slots htp k4⟩ ⟨oe, he', dict_after hr he he'⟩ ((Heap.UpToSlots.of_keeps F.keep).trans k4)
/-- out of a frame that it passes -/
theorem leave_onD {cls : Value} (K : Below A base outer g) (F : Fr g L g₂ m) (R : RaisedK base (envOf name scope L a cd :: outer) e cls t vs news s'.heap) (D : DictIs s'.heap e d) (hsm : g₂.UpToSlots s'.heap)
    (hQ : ∀ h', RaisedK base outer e cls t vs news h' → DictIs h' e d → g.UpToSlots h' → Q () { s' with heap := h' }) :
    wpAny M (A.deeper (envOf name scope L a cd)) (leaving (envOf name scope L a cd) (.ref e)) Q E s' := by
  refine wpAny_mono (wpAny_keep (keep_leaving _ _) (leave_onK (Q := fun _ s₂ => ∃ h', s₂ = { s' with heap := h' } ∧ RaisedK base outer e cls t vs news h' ∧ g.UpToSlots h') (E := E) K F R hsm fun h' r u => ⟨h', rfl, r, u⟩)) (fun _ s₂ hx => ?_) fun _ _ y => y.1
  obtain ⟨⟨h', rfl, r, u⟩, hr⟩ := hx
  obtain ⟨o, ho, hd⟩ := D
  obtain ⟨ob, hob, _⟩ := Heap.FlyingW.there r.1.choose_spec.2.2.1
  exact hQ h' r ⟨ob, hob, (dict_after hr ho hob).trans hd⟩ u
end
end
section
open PySem PySem.W PyProof.Rows PySem.Calls PyProof.V PySem.Spec
set_option maxRecDepth 100000
set_option maxHeartbeats 1000000
section
variable {M : Model} {A : Around} {E : Value → Shared → Prop} {s : Shared} {base : Heap} {env : Env} {outer : List Env} {l : List Env} {L e d : Addr} {cls a0 : Value} {Q : Unit → Shared → Prop}
theorem looks_onD (hfr : A.frames = some (env :: outer)) (hf : env.frame = some L) (hfl : Heap.FlyingW base (env :: outer) e cls a0 s.heap) (D : DictIs s.heap e d)
    (hQ : ∀ h', Heap.HeldW base (env :: outer) e cls a0 L h' → s.heap.UpToSlots h' → DictIs h' e d → Q () { s with heap := h' }) : wpAny M A (noteFrame (.ref e) env) Q E s := by
  refine wpAny_mono (wpAny_keep (keep_noteFrame _ _) (wpAny_looks_onW (Q := fun _ s₂ => ∃ h', s₂ = { s with heap := h' } ∧ Heap.HeldW base (env :: outer) e cls a0 L h' ∧ s.heap.UpToSlots h') (E := E) hfr hf hfl fun h' r u => ⟨h', rfl, r, u⟩)) (fun _ s₂ hx => ?_) fun _ _ y => y.1
  obtain ⟨⟨h', rfl, r, u⟩, hr⟩ := hx
  obtain ⟨o, ho, hd⟩ := D
  obtain ⟨ob, hob, _⟩ := r.there
  exact hQ h' r u ⟨ob, hob, (dict_after hr ho hob).trans hd⟩
theorem landsD (hh : Heap.HeldW base l e cls a0 L s.heap) (D : DictIs s.heap e d)
    (hQ : ∀ h', Heap.FlyingW base l e cls a0 h' → s.heap.UpToSlots h' → DictIs h' e d → Q () { s with heap := h' }) : wpAny M A (setFlight (.ref e) none) Q E s := by
  refine wpAny_mono (wpAny_keep (keep_setFlight _ _) (wpAny_landsW (Q := fun _ s₂ => ∃ h', s₂ = { s with heap := h' } ∧ Heap.FlyingW base l e cls a0 h' ∧ s.heap.UpToSlots h') (E := E) hh fun h' r u => ⟨h', rfl, r, u⟩)) (fun _ s₂ hx => ?_) fun _ _ y => y.1
  obtain ⟨⟨h', rfl, r, u⟩, hr⟩ := hx
  obtain ⟨o, ho, hd⟩ := D
  obtain ⟨ob, hob, _⟩ := r.there
  exact hQ h' r u ⟨ob, hob, (dict_after hr ho hob).trans hd⟩
theorem lands_againD (hh : Heap.FlyingW base l e cls a0 s.heap) (D : DictIs s.heap e d)
    (hQ : ∀ h', Heap.FlyingW base l e cls a0 h' → s.heap.UpToSlots h' → DictIs h' e d → Q () { s with heap := h' }) : wpAny M A (setFlight (.ref e) none) Q E s := by
  refine wpAny_mono (wpAny_keep (keep_setFlight _ _) (lands_againW (Q := fun _ s₂ => ∃ h', s₂ = { s with heap := h' } ∧ Heap.FlyingW base l e cls a0 h' ∧ s.heap.UpToSlots h') (E := E) hh fun h' r u => ⟨h', rfl, r, u⟩)) (fun _ s₂ hx => ?_) fun _ _ y => y.1
  obtain ⟨⟨h', rfl, r, u⟩, hr⟩ := hx
  obtain ⟨o, ho, hd⟩ := D
  obtain ⟨ob, hob, _⟩ := r.there
  exact hQ h' r u ⟨ob, hob, (dict_after hr ho hob).trans hd⟩
end
section
variable {w : World} {A₀ : Around} {E : Value → Shared → Prop} {s' : Shared} {h₀ h : Heap} {outer : List Env} {L a e t d : Addr} {m : Str → Option Value} {name : Str} {scope : Scope} {cd : Value} {vs : List Value} {n : Str} {b₀ : Stmt} {suite : List Stmt} {pos np : Pos} {rest : List ExceptHandler} {Q : Flow → Shared → Prop} {news : Led}
  {loose' : List Str} {p : Program} {mg mb : Str → Option Value}
end
end
section
open PySem PySem.W PyProof.Rows PySem.Calls PyProof.V PySem.Spec
set_option maxRecDepth 100000
set_option maxHeartbeats 1000000
theorem ei_slot : Slot "Exception" "__init__" "Exception.__init__" := .of (owner := "Exception") (n := "__init__") (by rw [typeLookup_type, builtinLookup_eq_fast]; kernel_rfl) (by decide +kernel) (by decide +kernel) (by decide +kernel)
  (by first | exact .inl (by decide +kernel) | exact .inr (by decide +kernel)) (by rw [isSubtype_type]; kernel_rfl)
theorem ei_type : typeOf (.builtin "Exception.__init__") = pure (.type "wrapper_descriptor") := by kernel_rfl
theorem wd_slot : Slot "wrapper_descriptor" "__get__" "wrapper_descriptor.__get__" := .of (owner := "wrapper_descriptor") (n := "__get__") (by rw [typeLookup_type, builtinLookup_eq_fast]; kernel_rfl) (by decide +kernel) (by decide +kernel) (by decide +kernel)
  (by first | exact .inl (by decide +kernel) | exact .inr (by decide +kernel)) (by rw [isSubtype_type]; kernel_rfl)
theorem wd_entry : entryFor table "wrapper_descriptor.__get__" = some Builtin.«wrapper_descriptor.__get__» := entryFor_of_tree (by kernel_rfl)
theorem wd_args (a b c : Value) : argsOk "wrapper_descriptor.__get__" ⟨[a, b, c], []⟩ := by unfold argsOk; kernel_rfl
theorem ei_entry : entryFor table "Exception.__init__" = some Builtin.«BaseException.__init__» := PySem.F.excBase_Exception.initEntry
theorem ei_bound {M : Model} {A : Around} {E : Value → Shared → Prop} {Q : Unit → Shared → Prop} {h : Heap} {g : Array GenState} {d : Drawn} {t : Nat} {os : OsState} {e : Addr} {oe oc : Obj} {cd : ClassData} (c : Value) (he : h.get? e = some oe) (hc : oe.cls = .ref 41) (hC : h.get? 41 = some oc) (hd : oc.data = .cls cd) (hq : Q () ⟨h, g, d, t, os⟩) :
    wpAny M A (checkBoundCall "Exception.__init__" ⟨[.ref e, c], []⟩) Q E ⟨h, g, d, t, os⟩ := by
  unfold checkBoundCall
  rw [PySem.F.excBase_Exception.initRow, PySem.F.excBase_Exception.initKind]
  dsimp only
  rw [if_pos (by decide)]
  unfold Bind.checkArgs
  dsimp only
  refine wpAny_bind (m := Bind.printed "*" true _ _) ?_
  have step : ∀ (Q' : String → Shared → Prop), (∀ x, Q' x ⟨h, g, d, t, os⟩) → wpAny M A (Bind.printed "*" true { machinery := .positional, full := "*", short := "Exception", receiver := .self, params := [{ name := "args", kind := .varPos, required := false }] } (some (.ref e))) Q' E ⟨h, g, d, t, os⟩ := by
    intro Q' hQ
    unfold Bind.printed Bind.receiverType
    rw [if_neg (by decide)]
    refine wpAny_bind (m := (if (Manifest.Receiver.self == Manifest.Receiver.cls) = true then pure (Value.ref e) else typeOf (Value.ref e))) ?_
    rw [if_neg (by decide)]
    unfold typeOf
    refine wpAny_bind (wpAny_loadPart_at he ?_)
    rw [hc]
    refine wpAny_pure (wpAny_bind ?_)
    show wpAny _ _ (classData 41 >>= _) _ _ _
    unfold classData
    refine wpAny_bind (wpAny_bind (wpAny_loadPart_at hC ?_))
    rw [hd]
    exact wpAny_pure (wpAny_pure (wpAny_pure (hQ _)))
  refine step _ fun full => ?_
  refine wpAny_bind (m := Bind.printed "Exception" false _ _) (printed_name (by decide) ?_)
  show wpAny M A (Sem.onRaise (Bind.check _ full "Exception" _ []) _) Q E _
  rw [check_varPos]
  exact wpAny_pure hq
section
variable {prog : Program} {w : World} {A : Around} {E : Value → Shared → Prop} {h : Heap} {g : Array GenState} {d : Drawn} {t : Nat} {os : OsState} {Q : Value → Shared → Prop} {b e : Addr} {c : Value} {oe oc : Obj} {cd : ClassData}
noncomputable abbrev mwO (e : Addr) : Obj := { cls := .type "method-wrapper", data := .fields #[.builtin "Exception.__init__", .ref e] }
theorem call_mw (he : h.get? e = some oe) (hc : oe.cls = .ref 41) (hC : h.get? 41 = some oc) (hd : oc.data = .cls cd) (hb : h.get? b = some (mwO e)) (hq : codeAny (model prog w) A (.builtin "Exception.__init__" ⟨[.ref e, c], []⟩) (fun r s' => match r with | .ok (.ret v) => Q v s' | .ok _ => False | .error x => E x s') ⟨h, g, d, t, os⟩) :
    wpAny (model prog w) A (call (.ref b) [c]) Q E ⟨h, g, d, t, os⟩ := by
  refine wpAny_call (codeAny_of_tree ?_)
  show wpAny _ _ (callAny (.ref b) _) _ _ _
  unfold callAny
  refine wpAny_bind (wpAny_loadPart_at hb ?_)
  show wpAny _ _ (checkBoundCall "Exception.__init__" ⟨[.ref e, c], []⟩ >>= _) _ _ _
  refine wpAny_bind (ei_bound _ he hc hC hd ?_)
  exact wpAny_pure ⟨Code.quiet_builtin _ (by decide +kernel), hq⟩
theorem exc_init {s : Shared} {ob : Obj} {vs : Array Value} {t0 : Addr} (he : s.heap.get? e = some ob) (hd : ob.data = .fields vs) (h0 : vs[0]? = some (.ref t0))
    (hq : Q .none { s with heap := (s.heap.push { cls := .type "tuple", data := .seq [c].toArray }).update e (Obj.mapFields (·.setIfInBounds 0 (.ref s.heap.objs.size))) }) :
    codeAny (model prog w) A (.builtin "Exception.__init__" ⟨[.ref e, c], []⟩) (fun r s' => match r with | .ok (.ret v) => Q v s' | .ok _ => False | .error x => E x s') s := by
  refine codeAny_builtin ei_entry ?_
  unfold Builtin.«BaseException.__init__»
  dsimp only
  rw [if_neg (by simp)]
  unfold newTuple Builtin.BaseException.bexcPut
  have hsz : 0 < vs.size := (Array.getElem?_eq_some_iff.mp h0).1
  have he₁ := Heap.get?_push_of_some (h := s.heap) { cls := .type "tuple", data := .seq [c].toArray } he
  refine wpAny_bind (wpAny_newObj_type (wpAny_bind (wpAny_bind (wpAny_field he₁ hd h0 (wpAny_bind (wpAny_setField he₁ hd hsz ?_))))) (by show [c].toArray.size ≤ sizeLine; rw [sizeLine_eq]; simp))
  exact wpAny_letGo (wpAny_pure hq)
end
end
section
open PySem PySem.W PyProof.Rows PySem.Calls PyProof.V PySem.Spec
set_option maxRecDepth 100000
set_option maxHeartbeats 1000000
section
variable {prog : Program} {w : World} {A : Around} {E : Value → Shared → Prop} {h : Heap} {g : Array GenState} {d : Drawn} {t : Nat} {os : OsState}
theorem wd_get {x C : Addr} {ox : Obj} {Q : Fin → Shared → Prop} (hx : h.get? x = some ox) (hcls : ox.cls = .ref 41) (hC : h.get? 41 = some (excClassObj (Str.ofString "BasicError") (Str.ofString "BasicError") 41 40 [.type "Exception"] [.type "Exception", .type "BaseException", .type "object"] true [] [] false none none (some (.ref 22)) none (some (.str (Str.ofString "BasicError") 201)) (some (.str (Str.ofString "BasicError") 209)) (some (.bool true)) "Exception.__new__"))
    (hq : Q (.done (.ret (.ref h.objs.size))) ⟨h.push (mwO x), g, d, t, os⟩) :
    wpAny (model prog w) A (Builtin.«wrapper_descriptor.__get__» ⟨[.builtin "Exception.__init__", .ref x, .ref C], []⟩) Q E ⟨h, g, d, t, os⟩ := by
  have e1 : (".".intercalate ("Exception.__init__".cutAt '.').dropLast) = "Exception" := by decide +kernel
  unfold Builtin.«wrapper_descriptor.__get__»
  simp only [bind]
  repeat wp_step
  rw [hcls, e1]
  refine wpAny_isSubtype_exc hC ?_
  rw [show (Value.ref 41 :: [Value.type "Exception", .type "BaseException", .type "object"]).contains (.type "Exception") = true by decide]
  simp only [Bool.not_true, Bool.false_eq_true, if_false]
  refine wpAny_pure ?_
  unfold newFields
  refine wpAny_bind (wpAny_newObj_type ?_ (by show (2 : Nat) ≤ sizeLine + 2; omega))
  exact wpAny_pure hq
end
end
section
open PySem PySem.W PyProof.Rows PySem.Calls PyProof.V PySem.Spec
set_option maxRecDepth 100000
set_option maxHeartbeats 1000000
noncomputable abbrev bErr : Obj := excClassObj (Str.ofString "BasicError") (Str.ofString "BasicError") 41 40 [.type "Exception"] [.type "Exception", .type "BaseException", .type "object"] true [] [] false none none (some (.ref 22)) none (some (.str (Str.ofString "BasicError") 201)) (some (.str (Str.ofString "BasicError") 209)) (some (.bool true)) "Exception.__new__"
section
variable {prog : Program} {w : World} {A : Around} {E : Value → Shared → Prop} {h : Heap} {g : Array GenState} {d : Drawn} {t : Nat} {os : OsState}
theorem super_ga_b {so x : Addr} {ox : Obj} {l₀ l : List Value} {KF : Frag} {tk : Tok} {Q : Fin → Shared → Prop}
    (hso : h.get? so = some { cls := .type "super", dict := none, data := .fields #[.ref 41, .ref x, .ref 41], slots := #[] }) (hno : Looks (model prog w) h (opaqueClassAbove (.ref 41)) none)
    (hCm : Looks (model prog w) h (mroOf (.ref 41)) l₀) (hl : (l₀.dropWhile (· != .ref 41)).drop 1 = l) (X : KF.In h)
    (hf : alongIn KF "__init__" l = some (some (.builtin "Exception.__init__"))) (hx : h.get? x = some ox) (hcls : ox.cls = .ref 41) (hC : h.get? 41 = some bErr) (hxC : x ≠ 41)
    (hq : Q (.done (.ret (.ref h.objs.size))) ⟨h.push (mwO x), g, d, t, os⟩) :
    wpAny (model prog w) A (Builtin.«super.__getattribute__» ⟨[.ref so, .str "__init__" tk], []⟩) Q E ⟨h, g, d, t, os⟩ := by
  have hlk := wd_slot.lookup
  have hne : (Value.ref x == Value.ref 41) = false := by simp [hxC]
  have hTf : (⟨h, g, d, t, os⟩ : Shared).TypeIs (.builtin "Exception.__init__") "wrapper_descriptor" := by first | exact rfl | exact ei_type | trivial
  have hdt : ({ cls := .type "super", dict := none, data := .fields #[.ref 41, .ref x, .ref 41], slots := #[] } : Obj).data = .fields #[.ref 41, .ref x, .ref 41] := rfl
  have f0 : (#[.ref 41, .ref x, .ref 41] : Array Value)[0]? = some (.ref 41) := rfl
  have f1 : (#[.ref 41, .ref x, .ref 41] : Array Value)[1]? = some (.ref x) := rfl
  have f2 : (#[.ref 41, .ref x, .ref 41] : Array Value)[2]? = some (.ref 41) := rfl
  unfold Builtin.«super.__getattribute__»
  repeat (first
    | (with_reducible refine wpAny_field hso hdt f0 ?_) | (with_reducible refine wpAny_field hso hdt f1 ?_) | (with_reducible refine wpAny_field hso hdt f2 ?_)
    | (with_reducible refine ks_wpAny_notOpaque hno ?_)
    | (with_reducible refine Looks.at hCm ?_; rw [hl])
    | (refine ks_forIn_along X (fun _ _ => rfl) rfl ?_ hf)
    | (with_reducible refine wpAny_typeOf hTf ?_)
    | (with_reducible refine wpAny_call_entry wd_slot hTf wd_entry ?_ (wd_args _ _ _))
    | (with_reducible refine wd_get hx hcls hC ?_)
    | (with_reducible refine ⟨_, rfl, ?_⟩)
    | (simp only [hne, Bool.or_false, Bool.false_eq_true, if_false])
    | wp_step
    | dsimp only)
  all_goals exact hq
theorem getMethod_super_b {so x : Addr} {ox : Obj} {l₀ l : List Value} {KF : Frag} {pl : Sem Bool} {Q : Value × List Value → Shared → Prop}
    (hso : h.get? so = some { cls := .type "super", dict := none, data := .fields #[.ref 41, .ref x, .ref 41], slots := #[] }) (hno : Looks (model prog w) h (opaqueClassAbove (.ref 41)) none)
    (hCm : Looks (model prog w) h (mroOf (.ref 41)) l₀) (hl : (l₀.dropWhile (· != .ref 41)).drop 1 = l) (X : KF.In h)
    (hf : alongIn KF "__init__" l = some (some (.builtin "Exception.__init__"))) (hx : h.get? x = some ox) (hcls : ox.cls = .ref 41) (hC : h.get? 41 = some bErr) (hxC : x ≠ 41)
    (hq : Q (.ref h.objs.size, []) ⟨h.push (mwO x), g, d, t + 1, os⟩) :
    wpAny (model prog w) A (getMethod (.ref so) "__init__" pl) Q E ⟨h, g, d, t, os⟩ := by
  have hlk := PySem.F.ks_slot_super_ga.lookup
  have hcan := PySem.F.ks_canon_super_ga
  have hT : ∀ t', (⟨h, g, d, t', os⟩ : Shared).TypeIs (.ref so) "super" := fun _ => ⟨_, hso, rfl⟩
  unfold getMethod
  refine wpAny_bind (wpAny_specialOf (hT _) hlk ?_)
  show wpAny _ _ (if (Manifest.canonical "super.__getattribute__" != "object.__getattribute__") = true then _ else _) _ _ _
  rw [if_pos hcan]
  unfold getAttr getAttrBy
  refine wpAny_bind (wpAny_bind (wpAny_mkText (wpAny_holding (wpAny_bind (wpAny_typeOf (hT _) (wpAny_bind (wpAny_of_eq hlk ?_)))))))
  show wpAny _ _ (getAttrByItsOwn (.ref so) (.str "__init__" t) (.type "super") (.builtin "super.__getattribute__") true false) _ _ _
  unfold getAttrByItsOwn hookBefore callGetattribute boundAndCalled
  refine wpAny_bind (wpAny_of_eq (show (if onTheHeap (.type "super") then typeLookup (.type "super") "__getattr__" else pure none) = pure none from rfl) ?_)
  refine wpAny_bind (wpAny_attempt (wpAny_holding ?_))
  show wpAny _ _ (bindSpecial (.builtin "super.__getattribute__") (.ref so) >>= _) _ _ _
  refine wpAny_bind (wpAny_of_eq (PySem.F.ks_slot_super_ga.bind _) ?_)
  refine wpAny_mono (Q := fun v s' => v = .ref h.objs.size ∧ s' = ⟨h.push (mwO x), g, d, t + 1, os⟩) (E := fun _ _ => False)
    (wpAny_call_entry PySem.F.ks_slot_super_ga (hT _) PySem.F.ks_entry_super_ga (super_ga_b hso hno hCm hl X hf hx hcls hC hxC ⟨_, rfl, rfl, rfl⟩) (PySem.F.ks_gaArgs_super _ _)) (fun v s' hv => ?_) fun _ _ z => z.elim
  obtain ⟨rfl, rfl⟩ := hv
  exact wpAny_pure (wpAny_pure hq)
end
end
section
open PySem PySem.W PyProof.Rows PySem.Calls PyProof.V PySem.Spec Builtin Builtin.ObjectAttr
set_option maxRecDepth 100000
set_option maxHeartbeats 1000000
theorem refuse_exc (self : Value) : refuseLoop self "__setattr__" [.ref 41, .type "Exception", .type "BaseException", .type "object"] = pure () := by
  rw [refuseLoop_ref]
  kernel_rfl
theorem cls_41 (P : Params) : ∃ cd, clsIn (K P) 41 = some cd ∧ cd.mro = [.ref 41, .type "Exception", .type "BaseException", .type "object"] ∧ cd.hasDict = true := by
  unfold clsIn
  rw [K_41]
  exact ⟨_, rfl, rfl, rfl⟩
section
variable {w : World} {A : Around} {s : Shared} {R : Result → Shared → Prop} {x : Addr}
theorem osa_openE {ox : Obj} {od : Option Obj} {name : Str} {tk : Tok} {v : Value} (X : (K w.params).In s.heap) (I : InstAt s.heap x ox 41 od) (ht : takerIn (K w.params) 41 name = some none)
    (h : ∀ b, wpAny (model PySem.Challenge.rw_pq0176_01.row.prog w) A.in1 (storeInOwnDict (.ref x) (.ref 41) (.str name tk) name v b)
      (fun fin s' => match fin with | .done f => R (.ok f) s' | .again c' => c'.quiet = true ∧ codeAny (model PySem.Challenge.rw_pq0176_01.row.prog w) A c' R s') (fun e s' => R (.error e) s') s) :
    codeAny (model PySem.Challenge.rw_pq0176_01.row.prog w) A (.call (.builtin "object.__setattr__") ⟨[.ref x, .str name tk, v], []⟩) R s := by
  have SF := PySem.F.store_object
  obtain ⟨cd, hc, hm0, hd0⟩ := cls_41 w.params
  have ne : cd.mro.isEmpty = false := by rw [hm0]; rfl
  have sub : Looks (model PySem.Challenge.rw_pq0176_01.row.prog w) s.heap (isInstance (.ref x) (.type "object")) true := I.type.andThen (looks_mroIn X (by unfold mroIn; rw [hc, Option.bind_some, if_neg (by rw [ne]; decide), hm0]; decide))
  refine codeAny_call_builtin SF.slot.plain SF.entry (@check_slot (model PySem.Challenge.rw_pq0176_01.row.prog w) _ _ s "object.__setattr__" "object" "__setattr__" (.ref x) [.str name tk, v] [] _ SF.kind SF.split sub (SF.args (.ref x) (.str name tk) v) ?_)
  obtain ⟨attr, ha, hr⟩ := Option.bind_eq_some_iff.mp ht
  have hm : Looks (model PySem.Challenge.rw_pq0176_01.row.prog w) s.heap (mroOf (.ref 41)) cd.mro := (looks_clsIn X hc).andThen .now
  have L3 : Looks (model PySem.Challenge.rw_pq0176_01.row.prog w) s.heap (storeTaker? attr) none := by
    cases attr with
    | none => exact .now
    | some a =>
      obtain ⟨b, hb, hr'⟩ := Option.map_eq_some_iff.mp hr
      refine (looks_takesIn X hb).andThen ?_
      cases b
      · exact .now
      · cases hr'
  rw [osa_eq, refuse_eq]
  refine wpAny_bind (wpAny_bind (I.type.here (wpAny_bind (hm.here ?_))))
  rw [hm0, refuse_exc]
  refine wpAny_pure (wpAny_bind (I.type.here (wpAny_bind ((looks_findIn X ha).here (wpAny_bind (L3.here ?_))))))
  exact h _
/-- a store in the exception's own dict, which stands at dx -/
theorem store_in {h₀ : Heap} {L dx : Addr} {m : Str → Option Value} {pre post : Led} {es : List DictEntry} {n : Nat} {name : Str} {tk : Tok} {v : Value} {Q : Fin → Shared → Prop} {E : Value → Shared → Prop}
    (F : Fr h₀ L s.heap m) (N : News h₀ L s.heap (pre ++ (dx, dictOf es n) :: post)) (hl : es.any (·.refKey) = false) (h1 : ∀ p ∈ pre, p.1 ≠ dx) (h2 : ∀ p ∈ post, p.1 ≠ dx) (hz : (putL name (PyData.keyHash w.params name) (.str name s.toks) v es).length ≤ 1000)
    (h : ∀ h', Fr h₀ L h' m → News h₀ L h' (pre ++ (dx, dictOf (putL name (PyData.keyHash w.params name) (.str name s.toks) v es) (putN name es n)) :: post) → Q (.done (.ret .none)) { s with heap := h', toks := s.toks + 1 }) :
    wpAny (model PySem.Challenge.rw_pq0176_01.row.prog w) A (storeInDict dx (.str name tk) name v) Q E s := by
  obtain ⟨U1, U2⟩ := news_upd (f := Obj.putName name (PyData.keyHash w.params name) (.str name s.toks) v) F N h1 h2 (putName_dict _ _ _ _ _ _) rfl
  have D := (N (dx, dictOf es n) (by simp)).1
  have D' := (U2 (dx, _) (by simp; exact .inr (.inl rfl))).1
  refine wpAny_bind (wpAny_pure (wpAny_bind ?_))
  unfold nsSet
  refine wpAny_bind (wpAny_bind (wpAny_askSetting (wpAny_pure (wpAny_bind (wpAny_mkText (wpAny_bind (wpAny_loadPart D ?_)))))))
  dsimp only
  have c : (!es.toArray.any (·.key.isStr name) && es.toArray.any (·.refKey)) = false := by
    rw [show es.toArray.any (fun x => x.refKey) = es.any (·.refKey) from List.any_toArray, hl, Bool.and_false]
  rw [aRefKeyMayBeTheName_at, c]
  refine wpAny_updatePart D ?_
  refine wpAny_bind (wpAny_lookBehind D' (pastItsLine_dict (by rw [List.size_toArray, sizeLine_eq]; omega)) ?_)
  exact wpAny_pure (h _ U1 U2)
theorem own_some {ox : Obj} {dx : Addr} {nameV : Value} {name : Str} {v : Value} {b : Bool} {Q : Fin → Shared → Prop} {E : Value → Shared → Prop} (X : (K w.params).In s.heap) (hx : s.heap.get? x = some ox) (hc : ox.cls = .ref 41) (hd : ox.dict = some dx)
    (h : wpAny (model PySem.Challenge.rw_pq0176_01.row.prog w) A (storeInDict dx nameV name v) Q E s) :
    wpAny (model PySem.Challenge.rw_pq0176_01.row.prog w) A (storeInOwnDict (.ref x) (.ref 41) nameV name v b) Q E s := by
  obtain ⟨cd, hcd, hm0, hd0⟩ := cls_41 w.params
  obtain ⟨oc, odi, oda, osl⟩ := ox
  dsimp only at hc hd
  subst hc hd
  refine wpAny_bind (wpAny_pure (wpAny_bind (wpAny_bind (wpAny_loadPart hx (wpAny_bind ((looks_clsIn X hcd).here ?_))))))
  rw [hd0]
  exact wpAny_pure (a := some dx) h
theorem own_none {ox : Obj} {nameV : Value} {name : Str} {v : Value} {b : Bool} {Q : Fin → Shared → Prop} {E : Value → Shared → Prop} {vs : Array Value} (X : (K w.params).In s.heap) (hx : s.heap.get? x = some ox) (hc : ox.cls = .ref 41) (hd : ox.dict = none) (hf : ox.data = .fields vs)
    (h : wpAny (model PySem.Challenge.rw_pq0176_01.row.prog w) A (storeInDict s.heap.objs.size nameV name v) Q E { s with heap := (s.heap.push emptyDict).update x fun o => { o with dict := some s.heap.objs.size } }) :
    wpAny (model PySem.Challenge.rw_pq0176_01.row.prog w) A (storeInOwnDict (.ref x) (.ref 41) nameV name v b) Q E s := by
  obtain ⟨cd, hcd, hm0, hd0⟩ := cls_41 w.params
  obtain ⟨oc, odi, oda, osl⟩ := ox
  dsimp only at hc hd hf
  subst hc hd hf
  refine wpAny_bind (wpAny_pure (wpAny_bind (wpAny_bind (wpAny_loadPart hx (wpAny_bind ((looks_clsIn X hcd).here ?_))))))
  rw [hd0]
  dsimp only
  have hx₁ : (s.heap.push emptyDict).get? x = some _ := Heap.get?_push_of_some _ hx
  obtain ⟨hh, g, d, t, os⟩ := s
  refine wpAny_bind (wpAny_alloc' ?_)
  refine wpAny_bind (wpAny_update' hx₁ ?_)
  exact wpAny_pure (a := some hh.objs.size) h
/-- the first store: the dict is made -/
theorem set_first {h₀ : Heap} {L : Addr} {m : Str → Option Value} {pre post : Led} {name : Str} {v : Value} {Q : Unit → Shared → Prop} {E : Value → Shared → Prop} {vs : Array Value} {sl : Array (Option Value)}
    (F : Fr h₀ L s.heap m) (X₀ : (K w.params).In h₀) (N : News h₀ L s.heap (pre ++ (x, ⟨.ref 41, none, .fields vs, sl⟩) :: post)) (h1 : ∀ p ∈ pre, p.1 ≠ x) (h2 : ∀ p ∈ post, p.1 ≠ x) (ht : takerIn (K w.params) 41 name = some none)
    (h : ∀ dx h' tk, Fr h₀ L h' m → News h₀ L h' ((dx, dictOf [⟨PyData.keyHash w.params name, .str name tk, v⟩] 1) :: (pre ++ (x, ⟨.ref 41, some dx, .fields vs, sl⟩) :: post)) → (∀ p ∈ pre ++ (x, ⟨.ref 41, none, .fields vs, sl⟩) :: post, p.1 < dx) → Q () { s with heap := h', toks := s.toks + 2 }) :
    wpAny (model PySem.Challenge.rw_pq0176_01.row.prog w) A (setAttr (.ref x) name v) Q E s := by
  have X := X₀.keeps F.keep
  have D := (N (x, ⟨.ref 41, none, .fields vs, sl⟩) (by simp)).1
  have I : InstAt s.heap x ⟨.ref 41, none, .fields vs, sl⟩ 41 none := ⟨D, rfl, rfl, trivial⟩
  have lt : ∀ p ∈ pre ++ (x, ⟨.ref 41, none, .fields vs, sl⟩) :: post, p.1 < s.heap.objs.size := fun p hp => Heap.lt_size (N p hp).1
  have F1 := F.push emptyDict
  have N1 : News h₀ L (s.heap.push emptyDict) (((s.heap.objs.size, emptyDict) :: pre) ++ (x, ⟨.ref 41, none, .fields vs, sl⟩) :: post) := N.push F emptyDict
  obtain ⟨F2, N2⟩ := news_upd (f := fun o => { o with dict := some s.heap.objs.size }) (o' := ⟨.ref 41, some s.heap.objs.size, .fields vs, sl⟩) F1 N1 (fun p hp => by
    rcases List.mem_cons.mp hp with rfl | hp
    · exact Nat.ne_of_gt (lt (x, _) (List.mem_append_right _ (.head _)))
    · exact h1 p hp) h2 rfl rfl
  refine set_plain X I (by kernel_rfl) (osa_openE (s := { s with toks := s.toks + 1 }) X I ht fun b => own_none (s := { s with toks := s.toks + 1 }) X D rfl rfl rfl ?_)
  refine store_in (pre := []) (es := []) (n := 0) F2 N2 rfl (fun _ h => nomatch h) (fun p hp => Nat.ne_of_lt ?_) (by show (1 : Nat) ≤ 1000; omega) (fun h' F' N' => h _ h' _ F' N' lt)
  rcases List.mem_append.mp hp with hp | hp
  · exact lt p (List.mem_append_left _ hp)
  · rcases List.mem_cons.mp hp with rfl | hp
    · exact lt (x, ⟨.ref 41, none, .fields vs, sl⟩) (by simp)
    · exact lt p (List.mem_append_right _ (.tail _ hp))
/-- a later store -/
theorem set_next {h₀ : Heap} {L dx : Addr} {m : Str → Option Value} {pre post : Led} {name : Str} {v : Value} {Q : Unit → Shared → Prop} {E : Value → Shared → Prop} {vs : Array Value} {sl : Array (Option Value)} {es : List DictEntry} {n : Nat}
    (F : Fr h₀ L s.heap m) (X₀ : (K w.params).In h₀) (N : News h₀ L s.heap (pre ++ (dx, dictOf es n) :: post)) (hx : (x, (⟨.ref 41, some dx, .fields vs, sl⟩ : Obj)) ∈ pre ++ (dx, dictOf es n) :: post) (hl : es.any (·.refKey) = false) (hz : es.length ≤ 900) (h1 : ∀ p ∈ pre, p.1 ≠ dx) (h2 : ∀ p ∈ post, p.1 ≠ dx) (ht : takerIn (K w.params) 41 name = some none)
    (hz : ∀ t, (putL name (PyData.keyHash w.params name) (.str name t) v es).length ≤ 1000)
    (h : ∀ h' tk, Fr h₀ L h' m → News h₀ L h' (pre ++ (dx, dictOf (putL name (PyData.keyHash w.params name) (.str name tk) v es) (putN name es n)) :: post) → Q () { s with heap := h', toks := s.toks + 2 }) :
    wpAny (model PySem.Challenge.rw_pq0176_01.row.prog w) A (setAttr (.ref x) name v) Q E s := by
  have X := X₀.keeps F.keep
  have D := (N _ hx).1
  have I : InstAt s.heap x ⟨.ref 41, some dx, .fields vs, sl⟩ 41 (some (dictOf es n)) := ⟨D, rfl, rfl, (N (dx, dictOf es n) (by simp)).1⟩
  refine set_plain X I (by kernel_rfl) (osa_openE (s := { s with toks := s.toks + 1 }) X I ht fun b => own_some (s := { s with toks := s.toks + 1 }) X D rfl rfl ?_)
  exact store_in (s := { s with toks := s.toks + 1 }) F N hl h1 h2 (hz _) (fun h' F' N' => h h' _ F' N')
end
end
section
open PySem PySem.W PyProof.Rows PySem.Calls PyProof.V PySem.Spec Builtin Builtin.ObjectAttr
set_option maxRecDepth 100000
set_option maxHeartbeats 1000000
theorem ns_some_of {F : Frag} {h : Heap} {N : Addr} {mg : Str → Option Value} {n : Str} {v : Value} (X : F.In h) (G : h.Ns N mg) (e : nsIn F N n = some (some v)) : mg n = some v := by
  obtain ⟨o, es, ep, ho, hd, _, hf⟩ := G
  unfold nsIn at e
  split at e
  · rename_i c d es' n' sl q
    have := X _ _ q
    rw [ho] at this
    cases this
    cases hd
    split at e
    · rename_i en he
      cases e
      rw [← hf]
      unfold nsFind findBy
      rw [← Array.find?_toList, he]
      rfl
    · split at e <;> cases e
  · cases e
noncomputable abbrev f38 : Obj := ⟨.type "function", none, .func (ksFn (Str.ofString "__init__") (Str.ofString "BasicError.__init__") A_binit B_binit C_binit (.ref 30) .none .none (.str (Str.ofString "basicplus.values") 197) none (.ref 37) (.ref 31) 25), #[]⟩
theorem K_38 (P : Params) : (K P).lookup 38 = some f38 := by kernel_rfl
theorem K_30 (P : Params) : (K P).lookup 30 = some { cls := .type "tuple", data := .seq #[.str (Str.ofString "") 213] } := by kernel_rfl
theorem K_25 (P : Params) : (K P).lookup 25 = some { cls := .type "cell", data := .cell (some (.ref 41)) } := by kernel_rfl
theorem K_37 (P : Params) : (K P).lookup 37 = some { cls := .type "code", data := .fields #[Value.str (Str.ofString "__init__") 214, Value.str (Str.ofString "BasicError.__init__") 215, Value.str (Str.ofString "/claim/cut.py") 216, Value.int 9 0, Value.int 3 0, Value.int 0 0, Value.int 0 0, Value.int 3 0, Value.ref 32, Value.bool true, Value.int 181 0, Value.ref 33, Value.none, Value.ref 34, Value.ref 35, Value.ref 36, Value.int 221 0, Value.int 9 0, Value.str (Str.ofString "/claim/cut.py") 222] } := by kernel_rfl
noncomputable abbrev errEnts (P : Params) (c told : Value) (k1 k2 : Tok) : List DictEntry := [⟨PyData.keyHash P (Str.ofString "code"), .str (Str.ofString "code") k1, c⟩, ⟨PyData.keyHash P (Str.ofString "told"), .str (Str.ofString "told") k2, told⟩]
theorem callWith_mw0 {M : Model} {A : Around} {E : Value → Shared → Prop} {s : Shared} {pos : Pos} {u e : Addr} {first : List Value} {args : List (Bool × Sem Value)} {Q : Value → Shared → Prop} (hplain : args.any (·.1) = false)
    (h : wpAny M A (evalArgs (.ref u) true args []) (fun x s₁ => s₁.heap.get? u = some (mwO e) ∧ wpAny M A (call (.ref u) (first ++ x.pos) x.kw) Q E s₁) E s) :
    wpAny M A (callWith pos (.ref u) first args []) Q E s := by
  unfold callWith
  refine wpAny_bind (wpAny_holding (wpAny_mono h (fun x s₁ h₁ => wpAny_bind (wpAny_standAt ?_)) fun _ _ x => x))
  obtain ⟨ho, hcall⟩ := h₁
  simp only [hplain, List.any_nil, Bool.or_false]
  refine wpAny_bind (m := keeperOf (.ref u)) ?_
  unfold keeperOf
  refine wpAny_bind (wpAny_load ho ?_)
  simp only [show (Value.type "method-wrapper" != Value.type "method") = true by decide, show (Value.type "method-wrapper" == Value.type "builtin_function_or_method" || Value.type "method-wrapper" == Value.type "method-wrapper") = true by decide, if_true]
  refine wpAny_pure ?_
  exact wpAny_bind (wpAny_mono hcall (fun r s₂ hr => wpAny_bind (wpAny_holding (wpAny_point (wpAny_pure hr)))) fun _ _ x => x)
theorem callWith_mw {M : Model} {A : Around} {E : Value → Shared → Prop} {s : Shared} {pos : Pos} {u e : Addr} {first : List Value} {env : Env} {x : PySem.Expr} {Q : Value → Shared → Prop}
    (h : wpAny M A (spliced (backTo pos (starEach [x] env))) (fun vs s₁ => s₁.heap.get? u = some (mwO e) ∧ wpAny M A (call (.ref u) (first ++ vs)) Q E s₁) E s)
    (he : starEach [x] env = (false, PySem.eval x env) :: starEach [] env := by rfl) :
    wpAny M A (callWith pos (.ref u) first (backTo pos (starEach [x] env)) []) Q E s := by
  rw [he] at h ⊢
  refine callWith_mw0 (e := e) rfl ?_
  exact evalArgs_plain h
theorem make_err {w : World} {mean : ExcName → Option Value} {mg mb : Str → Option Value} {dp un : Nat} {gd : Option (List Code)} {cn : Str} {cs : Scope} {L a : Addr} {ccd : Value} {cl : List (Str × Addr)} {outer : List Env} {A₀ : Around} {base h₀ : Heap} {m : Str → Option Value} {imm : Led} {s : Shared} {Q E : Value → Shared → Prop} {c : Str} {tc : Tok} {told : Value}
    (B : Below A₀ base outer h₀) (F : Fr h₀ L s.heap m) (X : (K w.params).In h₀) (N : News h₀ L s.heap imm) (T : Top V LS mean mg mb h₀) (hk : cs.kind = .function) (hd : dp + 4 ≤ 900) (hu : un + 60 ≤ 9000)
    (ret : ∀ e dx t k1 k2 h' tk', Fr h₀ L h' m → News h₀ L h' ((dx, dictOf (errEnts w.params (.str c tc) told k1 k2) 2) :: (t, tupO [.str c tc] 0) :: (e, excO 41 dx t) :: imm) →
      (∀ p ∈ imm, p.1 ≠ e ∧ p.1 ≠ t) → dx ≠ e ∧ dx ≠ t ∧ e ≠ t → Q (.ref e) { s with heap := h', toks := tk' }) :
    wpAny (model PySem.Challenge.rw_pq0176_01.row.prog w) (ktrTop dp un gd cn cs L a ccd cl outer) (call (.ref 41) [.str c tc, told]) Q E s := by
  revert X
  k_fill
  intro X
  obtain ⟨hh, gg, dr, tk, os⟩ := s
  have X' := X.keeps F.keep
  have G : hh.Ns 40 (hh.nsMap 40) := .of_isNs (isNs_of_in X' (by kernel_rfl))
  refine wpAny_call_exc_init PySem.F.excBase_Exception (C := 41) (N := 40) (mN := hh.nsMap 40) (fI := 38) (X' _ _ (K_41 _)) G (ns_some_of X' G (by kernel_rfl)) (X' _ _ (K_38 _)) rfl (fun h1 e M => ?_)
  obtain ⟨mk, mn, t0, me, mtn, mt⟩ := M
  obtain ⟨oL, es, ep, hL, r⟩ := F.ns
  have F1 : Fr h₀ L h1 m := ⟨⟨oL, es, ep, mk _ _ hL, r⟩, fun b o q => mk b o (F.keep b o q), F.above⟩
  have N1 : News h₀ L h1 ((e, ⟨.ref 41, none, .fields #[.ref t0, .none, .none, .none, .bool false, .none], #[]⟩) :: imm) := fun p hp => by
    rcases List.mem_cons.mp hp with rfl | hp
    · refine ⟨me, fun q => ?_, ?_⟩
      · dsimp only at q; subst q; rw [mn] at hL; cases hL
      · cases q : h₀.get? e with
        | none => rfl
        | some o => have := F.keep _ _ q; rw [mn] at this; cases this
    · exact ⟨mk _ _ (N p hp).1, (N p hp).2⟩
  have X1 : (K w.params).In h1 := X.keeps F1.keep
  refine wpAny_call (ks_code_super (env := envX cn cs L a ccd cl) (outer := outer) (s := ⟨h1, gg, dr, tk, os⟩) B F1 X N1 T rfl rfl hk (K_38 _) (by kernel_rfl) (by show dp + 1 < 1000; omega) (binds := [(Str.ofString "self", .ref e), (Str.ofString "code", .str c tc), (Str.ofString "told", told)]) (BindsTo.of_defaults rfl (X1 _ _ (K_30 _)) rfl rfl rfl) (locs rfl) ?_)
  intro g' L' h2 FG F2 N2 B2 X2 T2 l1
  dsimp only [B_binit]
  generalize hPP : (fun (fl : Flow) (s' : Shared) => LeaveK _ _ _ _ _ _ _) = PP
  iterate 3 walk1
  obtain ⟨cd41, hcd, hm41, hd41⟩ := cls_41 w.params
  have I2 : InstAt h2 e ⟨.ref 41, none, .fields #[.ref t0, .none, .none, .none, .bool false, .none], #[]⟩ 41 none := ⟨(N2 _ (.head _)).1, rfl, rfl, trivial⟩
  refine ks_node F2 X2 N2 T2 (K_38 _) rfl rfl I2 (K_37 _) rfl (by decide +kernel) (K_25 _) hcd (by unfold mroIn; rw [hcd, Option.bind_some, hm41]; rfl) (by kernel_rfl) (by decide) rfl rfl rfl rfl (by decide +kernel) (by first | rfl | kernel_rfl) ?_
  intro so h3 F3 N3 l3
  have X3 := X2.keeps F3.keep
  have hne : e ≠ 41 := ks_ne (X2.keeps F2.keep) I2 hcd
  refine getMethod_super_b (l₀ := cd41.mro) (l := [.type "Exception", .type "BaseException", .type "object"]) (N3 _ (.head _)).1 (looks_opaque X3 (by kernel_rfl)) ((looks_clsIn X3 hcd).andThen .now) (by rw [hm41]; decide) X3 (by kernel_rfl) (N3 _ (.tail _ (.head _))).1 rfl (X3 _ _ (K_41 _)) hne ?_
  have F4 := F3.push (mwO e)
  have N4 := N3.push F3 (mwO e)
  refine callWith_mw (e := e) ?_
  iterate 4 walk1
  · exact (N4 _ (.head _)).1
  have N4' : News g' L' (h3.push (mwO e)) ([(h3.objs.size, mwO e), (so, ks_superObj 41 e 41)] ++ (e, ⟨.ref 41, none, .fields #[.ref t0, .none, .none, .none, .bool false, .none], #[]⟩) :: imm) := N4
  have le : e < so := l3 (e, _) (.head _)
  have ls : so < h3.objs.size := Heap.lt_size (N3 (so, _) (.head _)).1
  have lt : h3.objs.size < (h3.push (mwO e)).objs.size := Heap.lt_size (N4 _ (.head _)).1
  have hie : ∀ p ∈ imm, p.1 ≠ e := fun p hp q => by
    have := (N p hp).1
    rw [q, show Heap.get? _ e = none from mn] at this
    cases this
  have hit : ∀ p ∈ imm, p.1 < so := fun p hp => l3 p (.tail _ hp)
  have F5 := F4.push { cls := .type "tuple", data := .seq [.str c tc].toArray }
  have N5 : News g' L' ((h3.push (mwO e)).push { cls := .type "tuple", data := .seq [.str c tc].toArray }) ((((h3.push (mwO e)).objs.size, tupO [.str c tc] 0) :: [(h3.objs.size, mwO e), (so, ks_superObj 41 e 41)]) ++ (e, ⟨.ref 41, none, .fields #[.ref t0, .none, .none, .none, .bool false, .none], #[]⟩) :: imm) := N4'.push F4 _
  obtain ⟨F6, N6⟩ := news_upd (f := Obj.mapFields (·.setIfInBounds 0 (.ref (h3.push (mwO e)).objs.size))) (o' := ⟨.ref 41, none, .fields #[.ref (h3.push (mwO e)).objs.size, .none, .none, .none, .bool false, .none], #[]⟩) F5 N5 (fun p hp => by
    rcases List.mem_cons.mp hp with rfl | hp
    · exact Nat.ne_of_gt (Nat.lt_trans (Nat.lt_trans le ls) lt)
    rcases List.mem_cons.mp hp with rfl | hp
    · exact Nat.ne_of_gt (Nat.lt_trans le ls)
    · rw [List.mem_singleton.mp hp]; exact Nat.ne_of_gt le) hie rfl rfl
  refine call_mw (N4 (e, _) (.tail _ (.tail _ (.head _)))).1 rfl (F4.keep _ _ (X2 _ _ (K_41 _))) rfl (N4 _ (.head _)).1 (exc_init (N4 (e, _) (.tail _ (.tail _ (.head _)))).1 rfl rfl ?_)
  clear N N1 N2 N3 F1 F2 F3 F4 N4 N4' F5 N5
  generalize (((h3.push (mwO e)).push { cls := .type "tuple", data := .seq [.str c tc].toArray }).update e _) = h6 at F6 N6 ⊢
  have lt' := Nat.lt_trans ls lt
  generalize (h3.push (mwO e)).objs.size = t at N6 lt'
  have N7 : News g' L' h6 ([(t, tupO [.str c tc] 0)] ++ (e, ⟨.ref 41, none, .fields #[.ref t, .none, .none, .none, .bool false, .none], #[]⟩) :: imm) := News.sub N6 (fun q hq => by
    rcases List.mem_cons.mp hq with rfl | hq
    · exact .head _
    · exact List.mem_append_right _ hq)
  clear N6
  have hte : t ≠ e := Nat.ne_of_gt (Nat.lt_trans le lt')
  have htp : ∀ p ∈ [(t, tupO [.str c tc] 0)], p.1 ≠ e := fun p hp => by rw [List.mem_singleton.mp hp]; exact hte
  have hitt : ∀ p ∈ imm, p.1 < t := fun p hp => Nat.lt_trans (hit p hp) lt'
  iterate 5 walk1
  refine set_first F6 X2 N7 htp hie (by kernel_rfl) (fun dx h7 k1 F7 N8 l7 => ?_)
  have d1 : e ≠ dx := Nat.ne_of_lt (l7 (e, _) (.tail _ (.head _)))
  have d2 : t ≠ dx := Nat.ne_of_lt (l7 (t, _) (.head _))
  have d3 : ∀ p ∈ imm, p.1 ≠ dx := fun p hp => Nat.ne_of_lt (l7 p (.tail _ (.tail _ hp)))
  clear N7 F6
  iterate 6 walk1
  refine set_next (pre := []) F7 X2 N8 (.tail _ (.tail _ (.head _))) rfl (by simp) (fun _ h => nomatch h) (fun p hp => ?_) (by kernel_rfl) (fun _ => by show (2 : Nat) ≤ 1000; omega) (fun h8 k2 F8 N9 => ?_)
  · rcases List.mem_cons.mp hp with rfl | hp
    · exact d2
    rcases List.mem_cons.mp hp with rfl | hp
    · exact d1
    · exact d3 p hp
  clear N8 F7
  have N10 : News g' L' h8 ((dx, dictOf (errEnts w.params (.str c tc) told k1 k2) 2) :: (t, tupO [.str c tc] 0) :: (e, excO 41 dx t) :: imm) := N9
  clear N9
  iterate 1 walk1
  subst hPP
  refine ⟨L', _, _, F8, N10, fun FR NR => ⟨rfl, ?_⟩⟩
  exact ret e dx t k1 k2 h8 _ FR NR (fun p hp => ⟨hie p hp, Nat.ne_of_lt (hitt p hp)⟩) ⟨fun q => d1 q.symm, fun q => d2 q.symm, fun q => hte q.symm⟩
end
section
open PySem PySem.W PyProof.Rows PySem.Calls PyProof.V PySem.Spec Builtin Builtin.ObjectAttr
set_option maxRecDepth 100000
set_option maxHeartbeats 1000000
theorem Raise_err {M : Model} {A : Around} {E : Value → Shared → Prop} {s : Shared} {Q : Flow → Shared → Prop} {x : PySem.Expr} {env : Env} {pos : Pos} (hh : A.handled = none)
    (h : wpAny M A (PySem.eval x env) (fun v s₁ => ∃ e t d, v = .ref e ∧ s₁.heap.get? 41 = some bErr ∧ s₁.heap.get? e = some (excO 41 d t) ∧ E (.ref e) s₁) E s) : wpAny M A (exec (.Raise (some x) none pos) env) Q E s := by
  rw [arm_exec_Raise]
  simp only [evalOpt, Option.map]
  refine wpAny_bind (wpAny_standAt (raise_dict (nm := Str.ofString "BasicError") (q := Str.ofString "BasicError") (C := 41) (N := 40) (bs := [.type "Exception"]) (bm := [.type "Exception", .type "BaseException", .type "object"]) (hdct := true) (sn := []) (sub := []) (ab := false) (col := none) (dd := none) (k0 := some (.ref 22)) (k1 := none) (k2 := some (.str (Str.ofString "BasicError") 201)) (k3 := some (.str (Str.ofString "BasicError") 209)) (k5 := some (.bool true)) (newId := "Exception.__new__") (by decide) hh ?_))
  exact wpAny_bind (wpAny_mono h (fun v s₃ h₃ => wpAny_bind (wpAny_standAt (wpAny_pure h₃))) fun _ _ x => x)
/-- BasicError('SN', q) on its way out of the frames -/
noncomputable def Flown (w : World) (base : Heap) (envs : List Env) (keep : Led) (q : Nat) (e : Addr) (h : Heap) : Prop :=
  ∃ t dx vs news tc tq k1 k2, RaisedK base envs e (.ref 41) t vs news h ∧ DictIs h e dx ∧ (dx, dictOf (errEnts w.params (.str (Str.ofString "SN") tc) (.int (q : Nat) tq) k1 k2) 2) ∈ news ∧ ∀ p ∈ keep, p ∈ news
theorem Flown.mono {w : World} {base : Heap} {envs : List Env} {keep keep' : Led} {q : Nat} {e : Addr} {h : Heap} (x : Flown w base envs keep' q e h) (s : ∀ p ∈ keep, p ∈ keep') : Flown w base envs keep q e h := by
  obtain ⟨t, dx, vs, news, tc, tq, k1, k2, a, b, c, d⟩ := x
  exact ⟨t, dx, vs, news, tc, tq, k1, k2, a, b, c, fun p hp => d p (s p hp)⟩
/-- how a body raises it -/
noncomputable def BadX (w : World) (base : Heap) (env : Env) (outer : List Env) (g : Heap) (L : Addr) (keep : Led) (Bad : Nat → Prop) (s₀ : Shared) (v : Value) (s' : Shared) : Prop :=
  ∃ e q, v = .ref e ∧ Bad q ∧ s'.gens = s₀.gens ∧ s'.drawn = s₀.drawn ∧ s'.os = s₀.os ∧
    ((∃ m' t dx tc tq k1 k2 imm, Fr g L s'.heap m' ∧ News g L s'.heap ((dx, dictOf (errEnts w.params (.str (Str.ofString "SN") tc) (.int (q : Nat) tq) k1 k2) 2) :: (t, tupO [.str (Str.ofString "SN") tc] 0) :: (e, excO 41 dx t) :: imm) ∧ (∀ p ∈ imm, p.1 ≠ e ∧ p.1 ≠ t) ∧ (dx ≠ e ∧ dx ≠ t ∧ e ≠ t) ∧ ∀ p ∈ keep, p ∈ imm) ∨
     (∃ g₂ m', Fr g L g₂ m' ∧ g₂.UpToSlots s'.heap ∧ Flown w base (env :: outer) keep q e s'.heap))
/-- a call that may change `mt`, hands on new things, or raises BasicError('SN', q) -/
noncomputable def CallsE (w : World) (f : Addr) (vs : List Value) (d u : Nat) (mt : Led) (Pre : Led → Prop) (Post : Led → Led → Value → Prop) (Bad : Nat → Prop) : Prop :=
  ∀ (mean : ExcName → Option Value) (mg mb : Str → Option Value) (dp un : Nat) (gd : Option (List Code)) (cn : Str) (cs : Scope) (a : Addr) (ccd : Value) (cl : List (Str × Addr)) (outer : List Env) (A₀ : Around) (base h₀ : Heap) (L : Addr) (m : Str → Option Value) (own keep : Led) (s : Shared)
    (Q E : Value → Shared → Prop),
    Below A₀ base outer h₀ → Fr h₀ L s.heap m → (K w.params).In h₀ → News h₀ L s.heap (own ++ (mt ++ keep)) → Top V LS mean mg mb h₀ → cs.kind = .function → Sep own (mt ++ keep) → Sep mt keep → Pre keep → dp + d ≤ 900 → un + u ≤ 9000 →
    (∀ v mt' keep' h' tk', Fr h₀ L h' m → News h₀ L h' (own ++ (mt' ++ keep')) → Sep own (mt' ++ keep') → Sep mt' keep' → (∀ p ∈ keep, p ∈ keep') → Post mt' keep' v → Q v { s with heap := h', toks := tk' }) →
    (∀ e q h' tk' g₂, Bad q → Fr h₀ L g₂ m → g₂.UpToSlots h' → Flown w base (envX cn cs L a ccd cl :: outer) keep q e h' → E (.ref e) { s with heap := h', toks := tk' }) →
    wpAny (model PySem.Challenge.rw_pq0176_01.row.prog w) (ktrTop dp un gd cn cs L a ccd cl outer) (call (.ref f) vs) Q E s
theorem callsE_of2 {w : World} {D : Def} (I : D.Is) {vs : List Value} {d u : Nat} {mt : Led} {Pre : Led → Prop} {Post : Led → Led → Value → Prop} {Bad : Nat → Prop} (binds : List (Str × Value))
    (hbind : ∀ s, BindsTo s (fnOf D.name D.qual D.A D.B D.C D.dV .none .none D.pm none (.ref D.cd) .none) ⟨vs, []⟩ binds) (hloc : (binds.all fun x => decide (D.C.names.lookup x.1 = some .local)) = true)
    (body : ∀ (mean : ExcName → Option Value) (mg mb : Str → Option Value) (dp un : Nat) (gd : Option (List Code)) (cn : Str) (cs : Scope) (L₀ a : Addr) (ccd : Value) (cl : List (Str × Addr)) (outer : List Env) (base g : Heap) (L : Addr) (keep : Led) (s : Shared) (EL : Value → Shared → Prop),
      PassesOwn (model PySem.Challenge.rw_pq0176_01.row.prog w) ((ktrTop dp un gd cn cs L₀ a ccd cl outer).deeper (envOf D.qual D.C L D.f (.ref D.cd))) (envOf D.qual D.C L D.f (.ref D.cd)) EL →
      (∀ v s', BadX w base (envOf D.qual D.C L D.f (.ref D.cd)) (envX cn cs L₀ a ccd cl :: outer) g L keep Bad s v s' → EL v s') → Below (ktrTop dp un gd cn cs L₀ a ccd cl outer) base (envX cn cs L₀ a ccd cl :: outer) g → Fr g L s.heap (fun y => binds.reverse.lookup y) → (K w.params).In g → News g L s.heap (mt ++ keep) → Sep mt keep → Top V LS mean mg mb g → Pre keep → dp + d ≤ 900 → un + u ≤ 9000 →
      wpAny (model PySem.Challenge.rw_pq0176_01.row.prog w) ((ktrTop dp un gd cn cs L₀ a ccd cl outer).deeper (envOf D.qual D.C L D.f (.ref D.cd))) (execs D.B (envOf D.qual D.C L D.f (.ref D.cd))) (EndsX g L keep Post s) EL s) :
    CallsE w D.f vs d u mt Pre Post Bad := by
  intro mean mg mb dp un gd cn cs a ccd cl outer A₀ base h₀ L m own keep s Q E B F X N T hk S SM hP hd hu hret hbad
  refine enter (env := envX cn cs L a ccd cl) (outer := outer) (own := own) (imm := mt ++ keep) I B F X N T rfl rfl hk (by show dp < 1000; omega) (hbind s) hloc (fun g L' h₁ FG F' N' B' X' T' => ?_) S
  refine wpAny_mono (body mean mg mb dp un gd cn cs L a ccd cl outer base g L' keep _ _ PassesOwn.leaving (fun v s' hb => ?_) B' F' X' N' SM T' hP hd hu) (fun fl s' he => ?_) fun _ _ z => z
  rotate_left
  · obtain ⟨m', mt', keep', F2, N2, SM2, hs, hp, e1, e2, e3⟩ := he
    refine ⟨m', mt' ++ keep', F2, N2, fun FR NR SR => ?_⟩
    have z := hret _ mt' keep' s'.heap s'.toks FR NR SR SM2 hs hp
    obtain ⟨hh, gg, dd, tt, oo⟩ := s'
    dsimp only at e1 e2 e3
    subst e1 e2 e3
    exact z
  · obtain ⟨e, q, rfl, hq, e1, e2, e3, hb⟩ := hb
    obtain ⟨hh, gg, dd, tt, oo⟩ := s'
    dsimp only at e1 e2 e3 hb
    subst e1 e2 e3
    rcases hb with ⟨m', t, dx, tc, tq, k1, k2, imm, F2, N2, hne, ⟨x1, x2, x3⟩, hsub⟩ | ⟨g₂, m', F2, U, hf⟩
    · have he := N2 (e, _) (.tail _ (.tail _ (.head _)))
      have ht := N2 (t, _) (.tail _ (.head _))
      refine leave_firstD (news := (dx, dictOf (errEnts w.params (.str (Str.ofString "SN") tc) (.int (q : Nat) tq) k1 k2) 2) :: imm) (vs := [.str (Str.ofString "SN") tc]) B' F2 (News.sub N2 (fun p hp => ?_)) he.1 he.2.2 ht.2.2 ?_ ?_ (fun h' R DI U => hbad e q h' tt g hq FG U ⟨t, dx, _, _, tc, tq, k1, k2, R, DI, .head _, fun p hp => .tail _ (hsub p hp)⟩) I.kind
      · rcases List.mem_cons.mp hp with rfl | hp
        · exact .head _
        · exact .tail _ (.tail _ (.tail _ hp))
      · exact ⟨_, 0, ht.1, rfl, rfl⟩
      · intro p hp
        rcases List.mem_cons.mp hp with rfl | hp
        · exact ⟨x1, x2⟩
        · exact hne p hp
    · obtain ⟨t, dx, vs', news, tc, tq, k1, k2, R, DI, hm, hsub⟩ := hf
      exact leave_onD B' F2 R DI U (fun h' R' DI' U' => hbad e q h' tt g hq FG U' ⟨t, dx, vs', news, tc, tq, k1, k2, R', DI', hm, hsub⟩)
theorem callsE_of {w : World} {D : Def} (I : D.Is) {vs : List Value} {d u : Nat} {mt : Led} {Pre : Led → Prop} {Post : Led → Led → Value → Prop} {Bad : Nat → Prop} (binds : List (Str × Value))
    (hbind : ∀ s, BindsTo s (fnOf D.name D.qual D.A D.B D.C D.dV .none .none D.pm none (.ref D.cd) .none) ⟨vs, []⟩ binds) (hloc : (binds.all fun x => decide (D.C.names.lookup x.1 = some .local)) = true)
    (body : ∀ (mean : ExcName → Option Value) (mg mb : Str → Option Value) (dp un : Nat) (gd : Option (List Code)) (cn : Str) (cs : Scope) (L₀ a : Addr) (ccd : Value) (cl : List (Str × Addr)) (outer : List Env) (base g : Heap) (L : Addr) (keep : Led) (s : Shared),
      Below (ktrTop dp un gd cn cs L₀ a ccd cl outer) base (envX cn cs L₀ a ccd cl :: outer) g → Fr g L s.heap (fun y => binds.reverse.lookup y) → (K w.params).In g → News g L s.heap (mt ++ keep) → Sep mt keep → Top V LS mean mg mb g → Pre keep → dp + d ≤ 900 → un + u ≤ 9000 →
      wpAny (model PySem.Challenge.rw_pq0176_01.row.prog w) ((ktrTop dp un gd cn cs L₀ a ccd cl outer).deeper (envOf D.qual D.C L D.f (.ref D.cd))) (execs D.B (envOf D.qual D.C L D.f (.ref D.cd))) (EndsX g L keep Post s) (BadX w base (envOf D.qual D.C L D.f (.ref D.cd)) (envX cn cs L₀ a ccd cl :: outer) g L keep Bad s) s) :
    CallsE w D.f vs d u mt Pre Post Bad :=
  callsE_of2 I binds hbind hloc fun mean mg mb dp un gd cn cs L₀ a ccd cl outer base g L keep s _ _ hb B F X N S T hP hd hu => wpAny_mono (body mean mg mb dp un gd cn cs L₀ a ccd cl outer base g L keep s B F X N S T hP hd hu) (fun _ _ z => z) hb
end
section
open PySem PySem.W PyProof.Rows PySem.Calls PyProof.V PySem.Spec Builtin Builtin.ObjectAttr
set_option maxRecDepth 100000
set_option maxHeartbeats 1000000
theorem expect_ (w : World) (ra : Addr) (row : List Tk) (hr : row.length ≤ 20) (p : Nat) (i : Int) (t u : Tok) (sg : Tk) (hs : sg.isSg = true) (hi : i = (p : Int)) :
    CallsE w 90 [.ref ra, .int i t, .str sg.told u] 12 160 [] (fun keep => RowIn keep ra row) (fun mt' _ v => mt' = [] ∧ row[p]? = some sg ∧ ∃ u, v = .int ((p + 1 : Nat) : Int) u) (fun q => q = p ∧ ¬ row[p]? = some sg) := by
  subst hi
  refine callsE_of I_expect [(Str.ofString "tokens", .ref ra), (Str.ofString "at", .int p t), (Str.ofString "sign", .str sg.told u)] (fun s => BindsTo.of_eq rfl) (by rfl) ?_
  k_fill
  intro mean mg mb dp un gd cn cs L₀ a ccd cl outer base g L keep s B F X N S T hP hd hu
  dsimp only [D_expect, B_expect]
  generalize hPP : EndsX g L keep _ s = PP
  generalize hEE : BadX w base _ _ g L keep _ s = EE
  have N₀ : News g L s.heap keep := N
  clear N
  iterate 15 walk1
  refine use0 (is_sign_ w ra row hr p _ _ _ sg hs rfl) (by assumption) (by assumption) X (by assumption) T rfl (hP) (by first | exact roomD hd (by decide) | (show dp + 1 + _ ≤ 900; omega)) (by first | exact roomU hu (by decide) | (show un + 3 + _ ≤ 9000; omega)) ?_
  rintro _ led₂ h₃ tk₃ F₃ N₃ hs₂ rfl
  by_cases hop : row[p]? = some sg
  · rw [decide_eq_true hop]
    iterate 9 walk1
    subst hPP
    refine (show EndsX g L keep _ s (Flow.ret (.int ((p : Int) + 1) _)) _ from endsX (mt' := []) (by assumption) N₃ (Sep.nil _) hs₂ ⟨rfl, hop, _, rfl⟩)
  · rw [decide_eq_false hop]
    iterate 3 walk1
    refine Raise_err rfl ?_
    iterate 9 walk1
    refine make_err (by assumption) (by assumption) X N₃ T rfl (by first | exact roomD hd (by decide) | (show dp + 1 + _ ≤ 900; omega)) (by first | exact roomU hu (by decide) | (show un + 3 + _ ≤ 9000; omega)) (fun e dx t k1 k2 h' tk' F4 N4 hne hdx => ?_)
    refine ⟨e, t, dx, rfl, F4.keep _ _ (X _ _ (K_41 _)), (N4 _ (.tail _ (.tail _ (.head _)))).1, ?_⟩
    subst hEE
    exact ⟨e, p, rfl, ⟨rfl, hop⟩, rfl, rfl, rfl, .inl ⟨_, t, dx, _, _, k1, k2, led₂, F4, N4, hne, hdx, hs₂⟩⟩
end
section
open PySem PySem.W PyProof.Rows PySem.Calls
/-- what `p` tokens may have heaped up -/
noncomputable def Fit (p : Nat) (lvs : List Lv) : Prop := lvs.length ≤ p + 1 ∧ ∀ lv ∈ lvs, lv.args.length ≤ p ∧ lv.opds.length ≤ p ∧ lv.oprs.length ≤ p
theorem joinUp_len (q : Nat) : ∀ (os : List (Str × Nat)) (ds ds' : List Dat) (os' : List (Str × Nat)), joinUp q ds os = some (ds', os') → ds'.length ≤ ds.length ∧ os'.length ≤ os.length
  | [], ds, ds', os', h => by unfold joinUp at h; cases h; exact ⟨Nat.le_refl _, Nat.le_refl _⟩
  | (o, x) :: os, ds, ds', os', h => by
    unfold joinUp at h
    by_cases hx : x < q
    · rw [if_pos hx] at h; cases h; exact ⟨Nat.le_refl _, Nat.le_refl _⟩
    rw [if_neg hx] at h
    by_cases hu : isUn o = true
    · rw [if_pos hu] at h
      cases ds with
      | nil => cases h
      | cons d ds => have z := joinUp_len q os _ _ _ h; simp only [List.length_cons] at z ⊢; omega
    · rw [if_neg hu] at h
      rcases ds with _ | ⟨d, _ | ⟨d2, ds⟩⟩
      · cases h
      · cases h
      · have z := joinUp_len q os _ _ _ h; simp only [List.length_cons] at z ⊢; omega
theorem Fit.mono {p p' : Nat} {lvs : List Lv} (h : Fit p lvs) (hp : p ≤ p') : Fit p' lvs := ⟨by have := h.1; omega, fun lv hl => by have := h.2 lv hl; omega⟩
theorem Fit.cons {p : Nat} {lv lv' : Lv} {r : List Lv} (h : Fit p (lv :: r)) (a : lv'.args.length ≤ p + 1) (b : lv'.opds.length ≤ p + 1) (c : lv'.oprs.length ≤ p + 1) : Fit (p + 1) (lv' :: r) :=
  ⟨by have := h.1; simp only [List.length_cons] at this ⊢; omega, fun x hx => by
    rcases List.mem_cons.mp hx with rfl | hx
    · exact ⟨a, b, c⟩
    · have := h.2 x (.tail _ hx); omega⟩
theorem Fit.opened {p : Nat} {lvs : List Lv} {k w : Str} (h : Fit p lvs) : Fit (p + 1) (openLv lvs k w) :=
  ⟨by have := h.1; simp only [openLv, List.length_cons]; omega, fun x hx => by
    rcases List.mem_cons.mp hx with rfl | hx
    · exact ⟨Nat.zero_le _, Nat.zero_le _, Nat.zero_le _⟩
    · have := h.2 x hx; omega⟩
theorem some_lt {row : List Tk} {p : Nat} {t : Tk} (h : row[p]? = some t) : p < row.length := (List.getElem?_eq_some_iff.mp h).1
theorem plainAt_lt {row : List Tk} {p : Nat} {d : Dat} (h : plainAt row p = some d) : p < row.length := by
  unfold plainAt at h
  split at h <;> first | exact some_lt (by assumption) | cases h
theorem stepOpd_fit {row : List Tk} {lvs lvs' : List Lv} {o : Bool} {p p' : Nat} (h : stepOpd row lvs p = .go lvs' o p') (hf : Fit p lvs) (hne : lvs ≠ []) : Fit p' lvs' ∧ p < p' ∧ p' ≤ row.length ∧ lvs' ≠ [] := by
  obtain ⟨lv, r, rfl⟩ : ∃ lv r, lvs = lv :: r := by cases lvs with | nil => exact absurd rfl hne | cons lv r => exact ⟨_, _, rfl⟩
  have hh := hf.2 lv (.head _)
  unfold stepOpd at h
  split at h
  · rename_i d hd
    cases h
    exact ⟨hf.cons (by dsimp only; omega) (by simp only [List.length_cons]; omega) (by dsimp only; omega), by omega, plainAt_lt hd, by simp [pushOpd]⟩
  · split at h
    · rename_i e; cases h; exact ⟨hf.cons (by dsimp only; omega) (by dsimp only; omega) (by simp only [List.length_cons]; omega), by omega, some_lt e, by simp [pushOpr]⟩
    · rename_i e; cases h; exact ⟨hf.cons (by dsimp only; omega) (by dsimp only; omega) (by simp only [List.length_cons]; omega), by omega, some_lt e, by simp [pushOpr]⟩
    · rename_i e; cases h; exact ⟨hf.mono (by omega), by omega, some_lt e, by simp⟩
    · rename_i e; split at h
      · cases h
      · cases h; exact ⟨hf.opened, by omega, some_lt e, by simp [openLv]⟩
    · split at h
      · rename_i e; split at h
        · cases h
        · cases h; exact ⟨hf.opened.mono (by omega), by omega, some_lt e, by simp [openLv]⟩
      · cases h
    · split at h
      · rename_i e; split at h
        · cases h
        · cases h; exact ⟨hf.opened.mono (by omega), by omega, some_lt e, by simp [openLv]⟩
      · cases h
    · split at h
      · rename_i e; split at h
        · cases h
        · cases h; exact ⟨hf.opened.mono (by omega), by omega, some_lt e, by simp [openLv]⟩
      · cases h
    · cases h
theorem stepOpr_fit {row : List Tk} {lvs lvs' : List Lv} {o : Bool} {p p' : Nat} (h : stepOpr row lvs p = .go lvs' o p') (hf : Fit p lvs) : Fit p' lvs' ∧ p < p' ∧ p' ≤ row.length ∧ lvs' ≠ [] := by
  unfold stepOpr at h
  split at h
  · cases h
  · rename_i lv r
    have hh := hf.2 lv (.head _)
    split at h
    · rename_i hs
      have hlt := strength_lt hs
      split at h
      · rename_i ds os hj
        cases h
        have z := joinUp_len _ _ _ _ _ hj
        exact ⟨hf.cons (by dsimp only; omega) (by dsimp only; omega) (by simp only [List.length_cons]; omega), by omega, hlt, by simp⟩
      · cases h
    · split at h
      · cases h
      · split at h
        · rename_i hc
          split at h
          · rename_i d ds os hj
            cases h
            have z := joinUp_len _ _ _ _ _ hj
            simp only [List.length_cons] at z
            exact ⟨hf.cons (by simp only [List.length_append, List.length_cons, List.length_nil]; omega) (by dsimp only; omega) (by dsimp only; omega), by omega, some_lt hc.1, by simp⟩
          · cases h
        · split at h
          · rename_i hc
            cases hfin : finLv lv with
            | none => rw [hfin] at h; cases h
            | some d =>
            rw [hfin] at h
            cases r with
            | nil => cases h
            | cons lv' r' =>
              cases h
              have h2 := hf.2 lv' (.tail _ (.head _))
              have h3 : Fit p (lv' :: r') := ⟨by have := hf.1; simp only [List.length_cons] at this ⊢; omega, fun x hx => hf.2 x (.tail _ hx)⟩
              exact ⟨h3.cons (by dsimp only; omega) (by simp only [List.length_cons]; omega) (by dsimp only; omega), by omega, some_lt hc, by simp⟩
          · cases h
theorem step_fit {row : List Tk} {lvs lvs' : List Lv} {opd o : Bool} {p p' : Nat} (h : step row lvs opd p = .go lvs' o p') (hf : Fit p lvs) (hne : lvs ≠ []) : Fit p' lvs' ∧ p < p' ∧ p' ≤ row.length ∧ lvs' ≠ [] := by
  unfold step at h
  split at h
  · exact stepOpd_fit h hf hne
  · exact stepOpr_fit h hf
end
section
open PySem PySem.W PyProof.Rows PySem.Calls PyProof.V PySem.Spec Builtin Builtin.ObjectAttr
set_option maxRecDepth 100000
set_option maxHeartbeats 1000000
/-- a level as it stands in the heap -/
structure LvH where
  x : Addr
  aa : Addr
  oa : Addr
  pa : Addr
  va : List Value
  vo : List Value
  vp : List Value
  ca : Nat
  co : Nat
  cp : Nat
noncomputable def LvH.led (l : LvH) : Led := [(l.aa, listOf l.va.toArray l.ca), (l.oa, rl l.vo l.co), (l.pa, rl l.vp l.cp)]
noncomputable def lvsLed (ls : List LvH) : Led := ls.flatMap LvH.led
structure LvOk (w : World) (keep : Led) (l : LvH) (lv : Lv) : Prop where
  is : IsLv w keep l.x l.aa l.oa l.pa lv.kind lv.word
  args : DatAll keep l.va lv.args
  opds : DatAll keep l.vo lv.opds
  oprs : DatAll keep l.vp (lv.oprs.map oprD)
inductive LvsOk (w : World) (keep : Led) : List LvH → List Lv → Prop
  | nil : LvsOk w keep [] []
  | cons {l : LvH} {lv : Lv} {ls : List LvH} {lvs : List Lv} : LvOk w keep l lv → LvsOk w keep ls lvs → LvsOk w keep (l :: ls) (lv :: lvs)
theorem LvOk.mono {w : World} {keep keep' : Led} {l : LvH} {lv : Lv} (h : LvOk w keep l lv) (s : ∀ q ∈ keep, q ∈ keep') : LvOk w keep' l lv := ⟨h.is.mono s, h.args.mono s, h.opds.mono s, h.oprs.mono s⟩
theorem LvsOk.mono {w : World} {keep keep' : Led} (s : ∀ q ∈ keep, q ∈ keep') : ∀ {ls : List LvH} {lvs : List Lv}, LvsOk w keep ls lvs → LvsOk w keep' ls lvs
  | _, _, .nil => .nil
  | _, _, .cons h r => .cons (h.mono s) (r.mono s)
theorem LvsOk.len {w : World} {keep : Led} : ∀ {ls : List LvH} {lvs : List Lv}, LvsOk w keep ls lvs → ls.length = lvs.length
  | _, _, .nil => rfl
  | _, _, .cons _ r => congrArg (· + 1) r.len
/-- no address twice -/
noncomputable def Apart (mt : Led) : Prop := (mt.map (·.1)).Nodup
theorem Apart.head {p : Addr × Obj} {r : Led} (h : Apart (p :: r)) : ∀ q ∈ r, q.1 ≠ p.1 := fun q hq e => (List.nodup_cons.mp h).1 (List.mem_map.mpr ⟨q, hq, e⟩)
theorem Apart.tail {p : Addr × Obj} {r : Led} (h : Apart (p :: r)) : Apart r := (List.nodup_cons.mp h).2
theorem Apart.cons {p : Addr × Obj} {r : Led} (h : Apart r) (a : ∀ q ∈ r, q.1 ≠ p.1) : Apart (p :: r) := List.nodup_cons.mpr ⟨fun hm => by
  obtain ⟨q, hq, e⟩ := List.mem_map.mp hm
  exact a q hq e, h⟩
theorem Apart.same {a b : Led} (h : Apart a) (e : a.map (·.1) = b.map (·.1)) : Apart b := by unfold Apart at h ⊢; rw [← e]; exact h
theorem Sep.same {a b keep : Led} (h : Sep a keep) (e : b.map (·.1) = a.map (·.1)) : Sep b keep := fun q hq p hp x => by
  have : q.1 ∈ a.map (·.1) := e ▸ List.mem_map_of_mem hq
  obtain ⟨q', hq', e'⟩ := List.mem_map.mp this
  exact h q' hq' p hp (x.trans e'.symm)
theorem Sep.left {a b : Led} {keep : Led} (h : Sep (a ++ b) keep) : Sep a keep := fun q hq => h q (List.mem_append_left _ hq)
theorem Sep.right {a b : Led} {keep : Led} (h : Sep (a ++ b) keep) : Sep b keep := fun q hq => h q (List.mem_append_right _ hq)
theorem Sep.tail {p : Addr × Obj} {b : Led} {keep : Led} (h : Sep (p :: b) keep) : Sep b keep := fun q hq => h q (.tail _ hq)
theorem Sep.grow {a keep keep' : Led} (h : Sep a keep') (s : ∀ p ∈ keep, p ∈ keep') : Sep a keep := fun q hq p hp => h q hq p (s p hp)
section
variable {g : Heap} {L : Addr} {mt' led keep : Led} {Post : Led → Led → Value → Prop} {s s' : Shared} {m : Str → Option Value} {D : Addr} {o : Obj}
theorem News.swap {h : Heap} (N : News g L h ((D, o) :: (mt' ++ led))) : News g L h (mt' ++ (D, o) :: led) := News.sub N fun q hq => by
  rcases List.mem_append.mp hq with hq | hq
  · exact .tail _ (List.mem_append_left _ hq)
  · rcases List.mem_cons.mp hq with rfl | hq
    · exact .head _
    · exact .tail _ (List.mem_append_right _ hq)
theorem Sep.add (S : Sep mt' led) (hD : ∀ q ∈ mt' ++ led, q.1 < D) : Sep mt' ((D, o) :: led) := fun q hq p hp' => by
  rcases List.mem_cons.mp hp' with rfl | hp'
  · exact Nat.ne_of_gt (hD q (List.mem_append_left _ hq))
  · exact S q hq p hp'
theorem ends_tup (F : Fr g L s'.heap m) (N : News g L s'.heap ((D, o) :: (mt' ++ led))) (hD : ∀ q ∈ mt' ++ led, q.1 < D) (S : Sep mt' led) (hs : ∀ p ∈ keep, p ∈ led) (hp : Post mt' ((D, o) :: led) (.ref D)) (e1 : s'.gens = s.gens := by rfl) (e2 : s'.drawn = s.drawn := by rfl) (e3 : s'.os = s.os := by rfl) :
    EndsX g L keep Post s (.ret (.ref D)) s' := endsX (mt' := mt') (keep' := (D, o) :: led) F (News.swap N) (Sep.add S hD) (fun p hp => .tail _ (hs p hp)) hp e1 e2 e3
end
/-- the machine's state in the heap -/
noncomputable abbrev stLed (la : Addr) (ls : List LvH) (c : Nat) : Led := (la, rl (ls.map fun l => .ref l.x) c) :: lvsLed ls
structure TopAp (la : Addr) (l : LvH) (rest : Led) : Prop where
  h1 : la ≠ l.aa
  h2 : la ≠ l.oa
  h3 : la ≠ l.pa
  h4 : l.aa ≠ l.oa
  h5 : l.aa ≠ l.pa
  h6 : l.oa ≠ l.pa
  r0 : ∀ q ∈ rest, q.1 ≠ la
  r1 : ∀ q ∈ rest, q.1 ≠ l.aa
  r2 : ∀ q ∈ rest, q.1 ≠ l.oa
  r3 : ∀ q ∈ rest, q.1 ≠ l.pa
theorem top_ap {la : Addr} {l : LvH} {ls : List LvH} {c : Nat} {keep : Led} (hap : Apart (stLed la (l :: ls) c)) (S : Sep (stLed la (l :: ls) c) keep) : TopAp la l (lvsLed ls ++ keep) := by
  have a1 := Apart.head hap
  have a2 := Apart.head hap.tail
  have a3 := Apart.head hap.tail.tail
  have a4 := Apart.head hap.tail.tail.tail
  exact ⟨(a1 _ (.head _)).symm, (a1 _ (.tail _ (.head _))).symm, (a1 _ (.tail _ (.tail _ (.head _)))).symm, (a2 _ (.head _)).symm, (a2 _ (.tail _ (.head _))).symm, (a3 _ (.head _)).symm,
    fun q hq => (List.mem_append.mp hq).elim (fun h => a1 q (.tail _ (.tail _ (.tail _ h)))) (fun h => S _ (.head _) q h), fun q hq => (List.mem_append.mp hq).elim (fun h => a2 q (.tail _ (.tail _ h))) (fun h => S _ (.tail _ (.head _)) q h),
    fun q hq => (List.mem_append.mp hq).elim (fun h => a3 q (.tail _ h)) (fun h => S _ (.tail _ (.tail _ (.head _))) q h), fun q hq => (List.mem_append.mp hq).elim (fun h => a4 q h) (fun h => S _ (.tail _ (.tail _ (.tail _ (.head _)))) q h)⟩
section
variable {la : Addr} {l : LvH} {rest : Led} {a b c d : Obj} {o : Obj}
theorem TopAp.updA (h : TopAp la l rest) : Upd l.aa b o ((la, a) :: (l.aa, b) :: (l.oa, c) :: (l.pa, d) :: rest) ((la, a) :: (l.aa, o) :: (l.oa, c) :: (l.pa, d) :: rest) :=
  .tail h.h1 (.head fun q hq => by
    rcases List.mem_cons.mp hq with rfl | hq
    · exact h.h4.symm
    rcases List.mem_cons.mp hq with rfl | hq
    · exact h.h5.symm
    · exact h.r1 q hq)
theorem TopAp.updO (h : TopAp la l rest) : Upd l.oa c o ((la, a) :: (l.aa, b) :: (l.oa, c) :: (l.pa, d) :: rest) ((la, a) :: (l.aa, b) :: (l.oa, o) :: (l.pa, d) :: rest) :=
  .tail h.h2 (.tail h.h4 (.head fun q hq => by
    rcases List.mem_cons.mp hq with rfl | hq
    · exact h.h6.symm
    · exact h.r2 q hq))
theorem TopAp.updP (h : TopAp la l rest) : Upd l.pa d o ((la, a) :: (l.aa, b) :: (l.oa, c) :: (l.pa, d) :: rest) ((la, a) :: (l.aa, b) :: (l.oa, c) :: (l.pa, o) :: rest) :=
  .tail h.h3 (.tail h.h5 (.tail h.h6 (.head h.r3)))
end
noncomputable def MS (w : World) (la : Addr) (keep mt : Led) (lvs : List Lv) : Prop := ∃ ls c, mt = stLed la ls c ∧ LvsOk w keep ls lvs ∧ Apart mt
end
section
open PySem PySem.W PyProof.Rows PySem.Calls PyProof.V PySem.Spec Builtin Builtin.ObjectAttr
set_option maxRecDepth 100000
set_option maxHeartbeats 1000000
/-- a call that may raise, by its contract -/
theorem useE {w : World} {f : Addr} {vs : List Value} {d u : Nat} {mt : Led} {Pre : Led → Prop} {Post : Led → Led → Value → Prop} {Bad : Nat → Prop} (C : CallsE w f vs d u mt Pre Post Bad) (own keep : Led) {mean : ExcName → Option Value} {mg mb : Str → Option Value} {dp un : Nat} {gd : Option (List Code)} {cn : Str} {cs : Scope} {a : Addr} {ccd : Value} {cl : List (Str × Addr)} {outer : List Env} {A₀ : Around} {base h₀ : Heap} {L : Addr} {m : Str → Option Value} {s : Shared} {Q E : Value → Shared → Prop}
    (B : Below A₀ base outer h₀) (F : Fr h₀ L s.heap m) (X : (K w.params).In h₀) (N : News h₀ L s.heap (own ++ (mt ++ keep))) (T : Top V LS mean mg mb h₀) (hk : cs.kind = .function) (S : Sep own (mt ++ keep)) (SM : Sep mt keep) (hP : Pre keep) (hd : dp + d ≤ 900) (hu : un + u ≤ 9000)
    (bad : ∀ e q h' tk' g₂, Bad q → Fr h₀ L g₂ m → g₂.UpToSlots h' → Flown w base (envX cn cs L a ccd cl :: outer) keep q e h' → E (.ref e) { s with heap := h', toks := tk' })
    (ret : ∀ v mt' keep' h' tk', Fr h₀ L h' m → News h₀ L h' (own ++ (mt' ++ keep')) → Sep own (mt' ++ keep') → Sep mt' keep' → (∀ p ∈ keep, p ∈ keep') → Post mt' keep' v → Q v { s with heap := h', toks := tk' }) :
    wpAny (model PySem.Challenge.rw_pq0176_01.row.prog w) (ktrTop dp un gd cn cs L a ccd cl outer) (call (.ref f) vs) Q E s :=
  C mean mg mb dp un gd cn cs a ccd cl outer A₀ base h₀ L m own keep s Q E B F X N T hk S SM hP hd hu ret bad
/-- a call upon a part of what may change -/
theorem CallsX.frame {w : World} {f : Addr} {vs : List Value} {d u : Nat} {mt0 : Led} {Pre Pre' : Led → Prop} {Post Post' : Led → Led → Value → Prop} (C : CallsX w f vs d u mt0 Pre Post) (R mt : Led) (hm : ∀ q ∈ R ++ mt0, q ∈ mt) (hR : Sep R mt0) (hpre : ∀ keep, Pre' keep → Pre keep)
    (hpost : ∀ keep mt' keep' v, Pre' keep → (∀ p ∈ keep, p ∈ keep') → Sep R mt' → Post mt' keep' v → ∃ mt'', (∀ q ∈ mt'', q ∈ R ++ mt') ∧ Post' mt'' keep' v) : CallsX w f vs d u mt Pre' Post' := by
  intro mean mg mb dp un gd cn cs a ccd cl outer A₀ base h₀ L m own keep s Q E B F X N T hk S SM hP hd hu hret
  refine C mean mg mb dp un gd cn cs a ccd cl outer A₀ base h₀ L m (own ++ R) keep s Q E B F X (News.sub N fun q hq => ?_) T hk (fun q hq p hp => ?_) (fun q hq p hp => SM q (hm q (List.mem_append_right _ hq)) p hp) (hpre _ hP) hd hu ?_
  · rw [List.append_assoc] at hq
    rcases List.mem_append.mp hq with hq | hq
    · exact List.mem_append_left _ hq
    · rw [← List.append_assoc] at hq
      rcases List.mem_append.mp hq with hq | hq
      · exact List.mem_append_right _ (List.mem_append_left _ (hm q hq))
      · exact List.mem_append_right _ (List.mem_append_right _ hq)
  · rcases List.mem_append.mp hq with hq | hq
    · rcases List.mem_append.mp hp with hp | hp
      · exact S q hq p (List.mem_append_left _ (hm p (List.mem_append_right _ hp)))
      · exact S q hq p (List.mem_append_right _ hp)
    · rcases List.mem_append.mp hp with hp | hp
      · exact hR q hq p hp
      · exact SM q (hm q (List.mem_append_left _ hq)) p hp
  · intro v mt' keep' h' tk' F' N₁ S₁ SM₁ hs hp
    have SR : Sep R (mt' ++ keep') := S₁.right
    obtain ⟨mt'', hsub, hp''⟩ := hpost keep mt' keep' v hP hs (fun q hq p hp => SR q hq p (List.mem_append_left _ hp)) hp
    refine hret v mt'' keep' h' tk' F' (News.sub N₁ fun q hq => ?_) (fun q hq p hp => ?_) (fun q hq p hp => ?_) hs hp''
    · rcases List.mem_append.mp hq with hq | hq
      · exact List.mem_append_left _ (List.mem_append_left _ hq)
      · rcases List.mem_append.mp hq with hq | hq
        · rcases List.mem_append.mp (hsub q hq) with hq | hq
          · exact List.mem_append_left _ (List.mem_append_right _ hq)
          · exact List.mem_append_right _ (List.mem_append_left _ hq)
        · exact List.mem_append_right _ (List.mem_append_right _ hq)
    · rcases List.mem_append.mp hp with hp | hp
      · rcases List.mem_append.mp (hsub p hp) with hp | hp
        · exact S q hq p (List.mem_append_left _ (hm p (List.mem_append_left _ hp)))
        · exact S₁ q (List.mem_append_left _ hq) p (List.mem_append_left _ hp)
      · exact S₁ q (List.mem_append_left _ hq) p (List.mem_append_right _ hp)
    · rcases List.mem_append.mp (hsub q hq) with hq | hq
      · exact S₁ q (List.mem_append_right _ hq) p (List.mem_append_right _ hp)
      · exact SM₁ q hq p hp
theorem Apart.sep {a b : Led} (h : Apart (a ++ b)) : Sep a b := fun q hq p hp e => by
  unfold Apart at h
  rw [List.map_append, List.nodup_append] at h
  exact h.2.2 q.1 (List.mem_map_of_mem hq) p.1 (List.mem_map_of_mem hp) e.symm
/-- opened(..) upon the machine's state -/
theorem opened_st (w : World) (la : Addr) (kd wd : Str) (t1 t2 : Tok) (ls : List LvH) (lvs : List Lv) (c : Nat) (hap : Apart (stLed la ls c)) (hl : ls.length ≤ 60) :
    CallsX w 153 [.ref la, .str kd t1, .str wd t2] 8 100 (stLed la ls c) (fun keep => LvsOk w keep ls lvs) (fun mt' keep' v => v = .none ∧ MS w la keep' mt' (openLv lvs kd wd)) := by
  refine CallsX.frame (opened_ w la kd wd t1 t2 (ls.map fun l => .ref l.x) c (by rw [List.length_map]; exact hl)) (lvsLed ls) _ (fun q hq => ?_) (fun q hq p hp => ?_) (fun _ _ => trivial) ?_
  · rcases List.mem_append.mp hq with hq | hq
    · exact .tail _ hq
    · rw [List.mem_singleton.mp hq]; exact .head _
  · rw [List.mem_singleton.mp hp]; exact (hap.head q hq).symm
  · rintro keep _ keep' _ hP hs SL ⟨rfl, x, aa, oa, pa, rfl, hx, n1, n2, n3, n4, n5, n6⟩
    refine ⟨stLed la (⟨x, aa, oa, pa, [], [], [], 0, 0, 0⟩ :: ls) (c + 1), fun q hq => ?_, rfl, _, _, rfl, .cons ⟨hx, .nil, .nil, .nil⟩ (LvsOk.mono hs hP), ?_⟩
    · have e : stLed la (⟨x, aa, oa, pa, [], [], [], 0, 0, 0⟩ :: ls) (c + 1) = [(la, rl (.ref x :: ls.map fun l => .ref l.x) (c + 1)), (aa, rl [] 0), (oa, rl [] 0), (pa, rl [] 0)] ++ lvsLed ls := rfl
      rw [e] at hq
      exact List.mem_append.mpr (List.mem_append.mp hq).symm
    · refine Apart.cons (Apart.cons (Apart.cons (Apart.cons hap.tail ?_) ?_) ?_) ?_
      · exact fun q hq => (SL q hq _ (.tail _ (.tail _ (.tail _ (.head _))))).symm
      · intro q hq
        rcases List.mem_cons.mp hq with rfl | hq
        · exact n6.symm
        · exact (SL q hq _ (.tail _ (.tail _ (.head _)))).symm
      · intro q hq
        rcases List.mem_cons.mp hq with rfl | hq
        · exact n4.symm
        rcases List.mem_cons.mp hq with rfl | hq
        · exact n5.symm
        · exact (SL q hq _ (.tail _ (.head _))).symm
      · intro q hq
        rcases List.mem_cons.mp hq with rfl | hq
        · exact n1.symm
        rcases List.mem_cons.mp hq with rfl | hq
        · exact n2.symm
        rcases List.mem_cons.mp hq with rfl | hq
        · exact n3.symm
        · exact (SL q hq _ (.head _)).symm
/-- join_up(..) upon the machine's state -/
theorem join_st (w : World) (la x aa oa pa : Addr) (va vo vp : List Value) (ca co cp : Nat) (ls : List LvH) (lv : Lv) (c q : Nat) (i : Int) (t : Tok) (hi : i = (q : Int)) (ds' : List Dat) (os' : List (Str × Nat)) (hj : joinUp q lv.opds lv.oprs = some (ds', os')) (ap : TopAp la ⟨x, aa, oa, pa, va, vo, vp, ca, co, cp⟩ (lvsLed ls)) (zo : vo.length ≤ 60) (zp : vp.length ≤ 60) :
    CallsX w 139 [.ref x, .int i t] 4 60 (stLed la (⟨x, aa, oa, pa, va, vo, vp, ca, co, cp⟩ :: ls) c) (fun keep => LvOk w keep ⟨x, aa, oa, pa, va, vo, vp, ca, co, cp⟩ lv) (fun mt' keep' v => v = .none ∧ ∃ vo' co' vp' cp', mt' = stLed la (⟨x, aa, oa, pa, va, vo', vp', ca, co', cp'⟩ :: ls) c ∧ DatAll keep' vo' ds' ∧ DatAll keep' vp' (os'.map oprD)) := by
  obtain ⟨h1, h2, h3, h4, h5, h6, r0, r1, r2, r3⟩ := ap
  dsimp only at h1 h2 h3 h4 h5 h6 r0 r1 r2 r3
  refine CallsX.frame (join_up_ w x aa oa pa lv.kind lv.word h6 q i t hi vo vp co cp lv.opds ds' lv.oprs os' hj zo zp) ((la, rl ((⟨x, aa, oa, pa, va, vo, vp, ca, co, cp⟩ :: ls).map fun l => .ref l.x) c) :: (aa, listOf va.toArray ca) :: lvsLed ls) _ (fun q hq => ?_) (fun q hq p hp => ?_) (fun _ h => ⟨h.is, h.opds, h.oprs⟩) ?_
  · rcases List.mem_append.mp hq with hq | hq
    · rcases List.mem_cons.mp hq with rfl | hq
      · exact .head _
      rcases List.mem_cons.mp hq with rfl | hq
      · exact .tail _ (.head _)
      · exact .tail _ (.tail _ (.tail _ (.tail _ hq)))
    · rcases List.mem_cons.mp hq with rfl | hq
      · exact .tail _ (.tail _ (.head _))
      · rw [List.mem_singleton.mp hq]; exact .tail _ (.tail _ (.tail _ (.head _)))
  · rcases List.mem_cons.mp hp with rfl | hp
    · rcases List.mem_cons.mp hq with rfl | hq
      · exact h2.symm
      rcases List.mem_cons.mp hq with rfl | hq
      · exact h4.symm
      · exact (r2 q hq).symm
    · rw [List.mem_singleton.mp hp]
      rcases List.mem_cons.mp hq with rfl | hq
      · exact h3.symm
      rcases List.mem_cons.mp hq with rfl | hq
      · exact h5.symm
      · exact (r3 q hq).symm
  · rintro keep _ keep' _ hP hs SL ⟨rfl, vo', co', vp', cp', rfl, ho, hp⟩
    refine ⟨stLed la (⟨x, aa, oa, pa, va, vo', vp', ca, co', cp'⟩ :: ls) c, fun q hq => ?_, rfl, vo', co', vp', cp', rfl, ho, hp⟩
    rcases List.mem_cons.mp hq with rfl | hq
    · exact .head _
    rcases List.mem_cons.mp hq with rfl | hq
    · exact .tail _ (.head _)
    rcases List.mem_cons.mp hq with rfl | hq
    · exact List.mem_append_right _ (.head _)
    rcases List.mem_cons.mp hq with rfl | hq
    · exact List.mem_append_right _ (.tail _ (.head _))
    · exact List.mem_append_left _ (.tail _ (.tail _ hq))
/-- finished(..) upon the machine's state: the level goes -/
theorem fin_st (w : World) (la x aa oa pa : Addr) (va vo vp : List Value) (ca co cp : Nat) (A : Obj) (R : Led) (lv : Lv) (d : Dat) (hf : finLv lv = some d) (ap : TopAp la ⟨x, aa, oa, pa, va, vo, vp, ca, co, cp⟩ R) (za : va.length ≤ 60) (zo : vo.length ≤ 60) (zp : vp.length ≤ 60) :
    CallsX w 146 [.ref x] 8 120 ((la, A) :: (aa, listOf va.toArray ca) :: (oa, rl vo co) :: (pa, rl vp cp) :: R) (fun keep => LvOk w keep ⟨x, aa, oa, pa, va, vo, vp, ca, co, cp⟩ lv) (fun mt' keep' v => mt' = (la, A) :: R ∧ DatIn keep' v d) := by
  obtain ⟨h1, h2, h3, h4, h5, h6, r0, r1, r2, r3⟩ := ap
  dsimp only at h1 h2 h3 h4 h5 h6 r0 r1 r2 r3
  refine CallsX.frame (finished_ w x aa oa pa h6 h4 h5 lv d hf va vo vp ca co cp za zo zp) ((la, A) :: R) _ (fun q hq => ?_) (fun q hq p hp => ?_) (fun _ h => ⟨h.is, h.args, h.opds, h.oprs⟩) ?_
  · rcases List.mem_append.mp hq with hq | hq
    · rcases List.mem_cons.mp hq with rfl | hq
      · exact .head _
      · exact .tail _ (.tail _ (.tail _ (.tail _ hq)))
    · rcases List.mem_cons.mp hq with rfl | hq
      · exact .tail _ (.head _)
      rcases List.mem_cons.mp hq with rfl | hq
      · exact .tail _ (.tail _ (.head _))
      · rw [List.mem_singleton.mp hq]; exact .tail _ (.tail _ (.tail _ (.head _)))
  · rcases List.mem_cons.mp hp with rfl | hp
    · rcases List.mem_cons.mp hq with rfl | hq
      · exact h1.symm
      · exact (r1 q hq).symm
    rcases List.mem_cons.mp hp with rfl | hp
    · rcases List.mem_cons.mp hq with rfl | hq
      · exact h2.symm
      · exact (r2 q hq).symm
    · rw [List.mem_singleton.mp hp]
      rcases List.mem_cons.mp hq with rfl | hq
      · exact h3.symm
      · exact (r3 q hq).symm
  · rintro keep mt' keep' v hP hs SL hd
    exact ⟨_, fun q hq => List.mem_append_left _ hq, rfl, hd⟩
end
section
open PySem PySem.W PyProof.Rows PySem.Calls PyProof.V PySem.Spec Builtin Builtin.ObjectAttr
set_option maxRecDepth 100000
set_option maxHeartbeats 1000000
/-- callsE_of2 with both ends as words of their own, and the state in its parts -/
theorem callsE_ofR {w : World} {D : Def} (I : D.Is) {vs : List Value} {d u : Nat} {mt : Led} {Pre : Led → Prop} {Post : Led → Led → Value → Prop} {Bad : Nat → Prop} (binds : List (Str × Value))
    (hbind : ∀ s, BindsTo s (fnOf D.name D.qual D.A D.B D.C D.dV .none .none D.pm none (.ref D.cd) .none) ⟨vs, []⟩ binds) (hloc : (binds.all fun x => decide (D.C.names.lookup x.1 = some .local)) = true)
    (body : ∀ (mean : ExcName → Option Value) (mg mb : Str → Option Value) (dp un : Nat) (gd : Option (List Code)) (cn : Str) (cs : Scope) (L₀ a : Addr) (ccd : Value) (cl : List (Str × Addr)) (outer : List Env) (base g : Heap) (L : Addr) (keep : Led) (hp : Heap) (gs : Array GenState) (dr : Drawn) (tk : Nat) (os : OsState) (R : Flow → Shared → Prop) (EL : Value → Shared → Prop),
      PassesOwn (model PySem.Challenge.rw_pq0176_01.row.prog w) ((ktrTop dp un gd cn cs L₀ a ccd cl outer).deeper (envOf D.qual D.C L D.f (.ref D.cd))) (envOf D.qual D.C L D.f (.ref D.cd)) EL →
      (∀ fl m' mt' keep' h' tk', Fr g L h' m' → News g L h' (mt' ++ keep') → Sep mt' keep' → (∀ p ∈ keep, p ∈ keep') → Post mt' keep' (match fl with | .ret v => v | _ => .none) → R fl ⟨h', gs, dr, tk', os⟩) →
      (∀ q e dx t tc tq k1 k2 imm m' h' tk', Fr g L h' m' → News g L h' ((dx, dictOf (errEnts w.params (.str (Str.ofString "SN") tc) (.int (q : Nat) tq) k1 k2) 2) :: (t, tupO [.str (Str.ofString "SN") tc] 0) :: (e, excO 41 dx t) :: imm) → (∀ p ∈ imm, p.1 ≠ e ∧ p.1 ≠ t) → dx ≠ e ∧ dx ≠ t ∧ e ≠ t → Bad q → (∀ p ∈ keep, p ∈ imm) → EL (.ref e) ⟨h', gs, dr, tk', os⟩) →
      (∀ q e g₂ m' h' tk', Fr g L g₂ m' → g₂.UpToSlots h' → Flown w base (envOf D.qual D.C L D.f (.ref D.cd) :: envX cn cs L₀ a ccd cl :: outer) keep q e h' → Bad q → EL (.ref e) ⟨h', gs, dr, tk', os⟩) →
      Below (ktrTop dp un gd cn cs L₀ a ccd cl outer) base (envX cn cs L₀ a ccd cl :: outer) g → Fr g L hp (fun y => binds.reverse.lookup y) → (K w.params).In g → News g L hp (mt ++ keep) → Sep mt keep → Top V LS mean mg mb g → Pre keep → dp + d ≤ 900 → un + u ≤ 9000 →
      wpAny (model PySem.Challenge.rw_pq0176_01.row.prog w) ((ktrTop dp un gd cn cs L₀ a ccd cl outer).deeper (envOf D.qual D.C L D.f (.ref D.cd))) (execs D.B (envOf D.qual D.C L D.f (.ref D.cd))) R EL ⟨hp, gs, dr, tk, os⟩) :
    CallsE w D.f vs d u mt Pre Post Bad :=
  callsE_of2 I binds hbind hloc fun mean mg mb dp un gd cn cs L₀ a ccd cl outer base g L keep s EL hE hb B F X N S T hP hd hu =>
    body mean mg mb dp un gd cn cs L₀ a ccd cl outer base g L keep s.heap s.gens s.drawn s.toks s.os (EndsX g L keep Post s) EL hE
      (fun _ m' mt' keep' _ _ F' N' S' hs hp => ⟨m', mt', keep', F', N', S', hs, hp, rfl, rfl, rfl⟩)
      (fun q e dx t tc tq k1 k2 imm m' _ _ F' N' x y z z2 => hb _ _ ⟨e, q, rfl, z, rfl, rfl, rfl, .inl ⟨m', t, dx, tc, tq, k1, k2, imm, F', N', x, y, z2⟩⟩)
      (fun q e g₂ m' _ _ F' U hf z => hb _ _ ⟨e, q, rfl, z, rfl, rfl, rfl, .inr ⟨g₂, m', F', U, hf⟩⟩) B F X N S T hP hd hu
section
variable {w : World} {mean : ExcName → Option Value} {mg mb : Str → Option Value} {dp un : Nat} {gd : Option (List Code)} {cn : Str} {cs : Scope} {a : Addr} {ccd : Value} {cl : List (Str × Addr)} {outer : List Env} {A₀ : Around} {base h₀ : Heap} {L : Addr} {m : Str → Option Value} {hp : Heap} {gs : Array GenState} {dr : Drawn} {tk : Nat} {os : OsState} {Q E : Value → Shared → Prop}
/-- a call that changes things and answers None -/
theorem useXn {f : Addr} {vs : List Value} {d u : Nat} {mt : Led} {Pre : Led → Prop} {Post : Led → Led → Prop} (C : CallsX w f vs d u mt Pre (fun mt' keep' v => v = .none ∧ Post mt' keep')) (own keep : Led)
    (B : Below A₀ base outer h₀) (F : Fr h₀ L hp m) (X : (K w.params).In h₀) (N : News h₀ L hp (own ++ (mt ++ keep))) (T : Top V LS mean mg mb h₀) (hk : cs.kind = .function) (S : Sep own (mt ++ keep)) (SM : Sep mt keep) (hP : Pre keep) (hd : dp + d ≤ 900) (hu : un + u ≤ 9000)
    (ret : ∀ mt' keep' h' tk', Fr h₀ L h' m → News h₀ L h' (own ++ (mt' ++ keep')) → Sep own (mt' ++ keep') → Sep mt' keep' → (∀ p ∈ keep, p ∈ keep') → Post mt' keep' → Q .none ⟨h', gs, dr, tk', os⟩) :
    wpAny (model PySem.Challenge.rw_pq0176_01.row.prog w) (ktrTop dp un gd cn cs L a ccd cl outer) (call (.ref f) vs) Q E ⟨hp, gs, dr, tk, os⟩ :=
  useX C own keep B F X N T hk S SM hP hd hu fun v mt' keep' h' tk' F' N' S' SM' hs e => by obtain ⟨e, p⟩ := e; subst e; exact ret mt' keep' h' tk' F' N' S' SM' hs p
/-- expect(..) -/
theorem use_expect {ra : Addr} {row : List Tk} (hr : row.length ≤ 20) (p : Nat) {i : Int} {t u : Tok} {sg : Tk} (hs : sg.isSg = true) (hi : i = (p : Int)) (own keep : Led)
    (B : Below A₀ base outer h₀) (F : Fr h₀ L hp m) (X : (K w.params).In h₀) (N : News h₀ L hp (own ++ keep)) (T : Top V LS mean mg mb h₀) (hk : cs.kind = .function) (S : Sep own keep) (hP : RowIn keep ra row) (hd : dp + 12 ≤ 900) (hu : un + 160 ≤ 9000)
    (bad : ∀ e h' tk' g₂, ¬ row[p]? = some sg → Fr h₀ L g₂ m → g₂.UpToSlots h' → Flown w base (envX cn cs L a ccd cl :: outer) keep p e h' → E (.ref e) ⟨h', gs, dr, tk', os⟩)
    (ret : ∀ u keep' h' tk', Fr h₀ L h' m → News h₀ L h' (own ++ keep') → Sep own keep' → (∀ p ∈ keep, p ∈ keep') → row[p]? = some sg → Q (.int ((p + 1 : Nat) : Int) u) ⟨h', gs, dr, tk', os⟩) :
    wpAny (model PySem.Challenge.rw_pq0176_01.row.prog w) (ktrTop dp un gd cn cs L a ccd cl outer) (call (.ref 90) [.ref ra, .int i t, .str sg.told u]) Q E ⟨hp, gs, dr, tk, os⟩ :=
  useE (expect_ w ra row hr p i t u sg hs hi) own keep B F X N T hk S (Sep.nil _) hP hd hu
    (fun e q h' tk' g₂ hq Fg U hf => by obtain ⟨rfl, hq⟩ := hq; exact bad e h' tk' g₂ hq Fg U hf)
    (fun v mt' keep' h' tk' F' N' S' _ hs x => by obtain ⟨rfl, x, u, rfl⟩ := x; exact ret u keep' h' tk' F' N' S' hs x)
/-- raise BasicError('SN', ..): the making, and the way out -/
theorem make_errE {imm : Led} {c : Str} {tc : Tok} {told : Value} {E' : Value → Shared → Prop}
    (B : Below A₀ base outer h₀) (F : Fr h₀ L hp m) (X : (K w.params).In h₀) (N : News h₀ L hp imm) (T : Top V LS mean mg mb h₀) (hk : cs.kind = .function) (hd : dp + 4 ≤ 900) (hu : un + 60 ≤ 9000)
    (ret : ∀ e dx t k1 k2 h' tk', Fr h₀ L h' m → News h₀ L h' ((dx, dictOf (errEnts w.params (.str c tc) told k1 k2) 2) :: (t, tupO [.str c tc] 0) :: (e, excO 41 dx t) :: imm) →
      (∀ p ∈ imm, p.1 ≠ e ∧ p.1 ≠ t) → dx ≠ e ∧ dx ≠ t ∧ e ≠ t → E' (.ref e) ⟨h', gs, dr, tk', os⟩) :
    wpAny (model PySem.Challenge.rw_pq0176_01.row.prog w) (ktrTop dp un gd cn cs L a ccd cl outer) (call (.ref 41) [.str c tc, told]) (fun v s₁ => ∃ e t d, v = .ref e ∧ s₁.heap.get? 41 = some bErr ∧ s₁.heap.get? e = some (excO 41 d t) ∧ E' (.ref e) s₁) E ⟨hp, gs, dr, tk, os⟩ :=
  make_err B F X N T hk hd hu fun e dx t k1 k2 h' tk' F4 N4 hne hdx => ⟨e, t, dx, rfl, F4.keep _ _ (X _ _ (K_41 _)), (N4 _ (.tail _ (.tail _ (.head _)))).1, ret e dx t k1 k2 h' tk' F4 N4 hne hdx⟩
end
theorem MS.mono {w : World} {la : Addr} {keep keep' mt : Led} {lvs : List Lv} (h : MS w la keep mt lvs) (s : ∀ q ∈ keep, q ∈ keep') : MS w la keep' mt lvs :=
  let ⟨ls, c, e, a, b⟩ := h; ⟨ls, c, e, a.mono s, b⟩
theorem LvsOk.inv {w : World} {keep : Led} {l : LvH} {lv : Lv} {ls : List LvH} {lvs : List Lv} (h : LvsOk w keep (l :: ls) (lv :: lvs)) : LvOk w keep l lv ∧ LvsOk w keep ls lvs := by cases h with | cons a b => exact ⟨a, b⟩
theorem le100 {n : Nat} (h : n ≤ 60) : n ≤ 100 := Nat.le_trans h (by decide)
theorem cast_pred (n : Nat) : (((n + 1 : Nat) : Int) - 1) = (n : Int) := by omega
/-- a call that changes things and answers a thing of the machine's -/
theorem useXd {w : World} {f : Addr} {vs : List Value} {d u : Nat} {mt MT : Led} {dd : Dat} {Pre : Led → Prop} (C : CallsX w f vs d u mt Pre (fun mt' keep' v => mt' = MT ∧ DatIn keep' v dd)) (own keep : Led)
    {mean : ExcName → Option Value} {mg mb : Str → Option Value} {dp un : Nat} {gd : Option (List Code)} {cn : Str} {cs : Scope} {a : Addr} {ccd : Value} {cl : List (Str × Addr)} {outer : List Env} {A₀ : Around} {base h₀ : Heap} {L : Addr} {m : Str → Option Value} {hp : Heap} {gs : Array GenState} {dr : Drawn} {tk : Nat} {os : OsState} {Q E : Value → Shared → Prop}
    (B : Below A₀ base outer h₀) (F : Fr h₀ L hp m) (X : (K w.params).In h₀) (N : News h₀ L hp (own ++ (mt ++ keep))) (T : Top V LS mean mg mb h₀) (hk : cs.kind = .function) (S : Sep own (mt ++ keep)) (SM : Sep mt keep) (hP : Pre keep) (hd : dp + d ≤ 900) (hu : un + u ≤ 9000)
    (ret : ∀ v keep' h' tk', Fr h₀ L h' m → News h₀ L h' (own ++ (MT ++ keep')) → Sep own (MT ++ keep') → Sep MT keep' → (∀ p ∈ keep, p ∈ keep') → DatIn keep' v dd → Q v ⟨h', gs, dr, tk', os⟩) :
    wpAny (model PySem.Challenge.rw_pq0176_01.row.prog w) (ktrTop dp un gd cn cs L a ccd cl outer) (call (.ref f) vs) Q E ⟨hp, gs, dr, tk, os⟩ :=
  useX C own keep B F X N T hk S SM hP hd hu fun v mt' keep' h' tk' F' N' S' SM' hs e => by obtain ⟨e, p⟩ := e; subst e; exact ret v keep' h' tk' F' N' S' SM' hs p
/-- join_up(..) upon the machine's state, its answer in parts -/
theorem use_join {w : World} {la x aa oa pa : Addr} {va vo vp : List Value} {ca co cp : Nat} {ls : List LvH} {lv : Lv} {c : Nat} (q : Nat) {i : Int} {t : Tok} (hi : i = (q : Int)) {ds' : List Dat} {os' : List (Str × Nat)} (hj : joinUp q lv.opds lv.oprs = some (ds', os')) (ap : TopAp la ⟨x, aa, oa, pa, va, vo, vp, ca, co, cp⟩ (lvsLed ls)) (zo : vo.length ≤ 60) (zp : vp.length ≤ 60)
    {mean : ExcName → Option Value} {mg mb : Str → Option Value} {dp un : Nat} {gd : Option (List Code)} {cn : Str} {cs : Scope} {a : Addr} {ccd : Value} {cl : List (Str × Addr)} {outer : List Env} {A₀ : Around} {base h₀ : Heap} {L : Addr} {m : Str → Option Value} {hp : Heap} {gs : Array GenState} {dr : Drawn} {tk : Nat} {os : OsState} {Q E : Value → Shared → Prop} (keep : Led)
    (B : Below A₀ base outer h₀) (F : Fr h₀ L hp m) (X : (K w.params).In h₀) (N : News h₀ L hp (stLed la (⟨x, aa, oa, pa, va, vo, vp, ca, co, cp⟩ :: ls) c ++ keep)) (T : Top V LS mean mg mb h₀) (hk : cs.kind = .function) (SM : Sep (stLed la (⟨x, aa, oa, pa, va, vo, vp, ca, co, cp⟩ :: ls) c) keep) (hP : LvOk w keep ⟨x, aa, oa, pa, va, vo, vp, ca, co, cp⟩ lv) (hd : dp + 4 ≤ 900) (hu : un + 60 ≤ 9000)
    (ret : ∀ vo' co' vp' cp' keep' h' tk', Fr h₀ L h' m → News h₀ L h' ((la, rl (.ref x :: ls.map fun l => .ref l.x) c) :: (aa, listOf va.toArray ca) :: (oa, rl vo' co') :: (pa, rl vp' cp') :: (lvsLed ls ++ keep')) → Sep (stLed la (⟨x, aa, oa, pa, va, vo', vp', ca, co', cp'⟩ :: ls) c) keep' → (∀ p ∈ keep, p ∈ keep') → DatAll keep' vo' ds' → DatAll keep' vp' (os'.map oprD) → Q .none ⟨h', gs, dr, tk', os⟩) :
    wpAny (model PySem.Challenge.rw_pq0176_01.row.prog w) (ktrTop dp un gd cn cs L a ccd cl outer) (call (.ref 139) [.ref x, .int i t]) Q E ⟨hp, gs, dr, tk, os⟩ :=
  useX (join_st w la x aa oa pa va vo vp ca co cp ls lv c q i t hi ds' os' hj ap zo zp) [] keep B F X N T hk (Sep.nil _) SM hP hd hu fun v mt' keep' h' tk' F' N' _ SM' hs e => by
    obtain ⟨rfl, vo', co', vp', cp', rfl, a, b⟩ := e
    exact ret vo' co' vp' cp' keep' h' tk' F' N' SM' hs a b
end
section
open PySem PySem.W PyProof.Rows PySem.Calls PyProof.V PySem.Spec Builtin Builtin.ObjectAttr
set_option maxRecDepth 100000
set_option maxHeartbeats 1000000
theorem plain_tup {row : List Tk} {p : Nat} {d : Dat} (h : plainAt row p = some d) : ∃ ds, d = .tuple ds := by
  have h1 : ∀ b, ∃ ds, numDat b = .tuple ds := fun b => by cases b <;> exact ⟨_, rfl⟩
  have h2 : ∀ i, ∃ ds, nameDat i = .tuple ds := fun i => by unfold nameDat; split <;> exact ⟨_, rfl⟩
  unfold plainAt at h
  split at h
  · cases h; exact h1 _
  · cases h; exact ⟨_, rfl⟩
  · split at h
    · cases h
    · cases h; exact h2 _
  · split at h
    · cases h
    · cases h; exact ⟨_, rfl⟩
  · cases h
noncomputable abbrev OpdPost (w : World) (la : Addr) (row : List Tk) (lvs : List Lv) (p : Nat) (mt' keep' : Led) (v : Value) : Prop := ∃ lvs' o p', stepOpd row lvs p = .go lvs' o p' ∧ MS w la keep' mt' lvs' ∧ DatIn keep' v (.tuple [.int (p' : Nat), .bool (!o)])
theorem ne_of_beqF {a b : Str} (h : (a == b) = false) : ¬ a = b := fun e => by rw [e, beq_self_eq_true] at h; cases h
theorem KT.fail {row : List Tk} {lvs : List Lv} {p : Nat} {kd td : Str} (h : KT row p kd td) (hpl : plainAt row p = none) (hc : (kd = Str.ofString "sign" ∧ ¬ td = Str.ofString "-" ∧ ¬ td = Str.ofString "(" ∧ ¬ td = Str.ofString "+") ∨ (kd = Str.ofString "word" ∧ ¬ td = Str.ofString "NOT" ∧ ¬ td = Str.ofString "LEN" ∧ ¬ td = Str.ofString "RND") ∨ row[p]? = none) : stepOpd row lvs p = .fail p := by
  unfold stepOpd
  rw [hpl]
  rcases h with ⟨h1, rfl, rfl⟩ | ⟨t, h1, rfl, rfl⟩
  · rw [h1]
  · rw [h1]
    rcases hc with ⟨k, a, b, c⟩ | ⟨k, a, b, c⟩ | e
    · cases t with
      | minus => exact absurd rfl a
      | lpar => exact absurd rfl b
      | plus => exact absurd rfl c
      | nott | len | rnd => exact absurd k (by decide)
      | name i => exact absurd k (by show ¬ Str.ofString "name" = Str.ofString "sign"; decide)
      | _ => rfl
    · cases t with
      | nott => exact absurd rfl a
      | len => exact absurd rfl b
      | rnd => exact absurd rfl c
      | minus | lpar | plus => exact absurd k (by decide)
      | name i => exact absurd k (by show ¬ Str.ofString "name" = Str.ofString "word"; decide)
      | _ => rfl
    · rw [h1] at e; cases e
theorem KT.rest {row : List Tk} {p : Nat} {kd td : Str} (h : KT row p kd td) (hpl : plainAt row p = none) (h1 : ¬ kd = Str.ofString "sign") (h2 : ¬ kd = Str.ofString "word") : kd = Str.ofString "name" ∨ (kd = Str.ofString "end" ∧ td = Str.ofString "" ∧ row[p]? = none) := by
  rcases h with ⟨e1, e2, e3⟩ | ⟨t, e1, rfl, rfl⟩
  · exact .inr ⟨e2, e3, e1⟩
  · unfold plainAt at hpl
    rw [e1] at hpl
    cases t with
    | name i => exact .inl rfl
    | num b => cases hpl
    | text => cases hpl
    | bop j => have hb : ∀ j : Fin 13, Tk.kind (.bop j) = Str.ofString "word" ∨ Tk.kind (.bop j) = Str.ofString "sign" := by decide +kernel
               exact (hb j).elim (fun h => absurd h h2) (fun h => absurd h h1)
    | plus | minus | lpar | rpar | comma | semi => exact absurd rfl h1
    | len | rnd | thn | nott => exact absurd rfl h2
theorem in_known {w : World} {A : Around} {E : Value → Shared → Prop} {s : Shared} {g : Heap} {L kD : Addr} {led led' : Led} {Q : Value → Shared → Prop} {x : Str} {t : Tok} (hkn : KnownIn led (.ref kD)) (N : News g L s.heap led') (hs : ∀ q ∈ led, q ∈ led') (hx : PyData.strOk x = true) (hu : A.units ≤ 9500) (h : Q (.bool (known.any fun y => y == x)) s) :
    wpAny (model PySem.Challenge.rw_pq0176_01.row.prog w) A (compareOp .In (.str x t) (.ref kD)) Q E s := by
  obtain ⟨D, l, e, hm, hst⟩ := hkn
  cases e
  have ra : Reads s.heap (.ref kD) (.list (known.map .str)) _ := reads_list_at (N.get (hs _ hm)) rfl rfl (by simpa using strs_readAll s.heap hst)
  refine SeqAt.in_list_reads ra (Reads.str x t) (by decide +kernel) (by simpa [PyData.canLay0] using hx) ?_ (by rw [List.any_map]; exact h)
  have := cLine_is
  have : PyData.depth (.str x) = 0 := by simp [PyData.depth]
  omega
theorem KT.knownTk {row : List Tk} {p : Nat} {kd td : Str} (h : KT row p kd td) (hk : (known.any fun y => y == td) = true) : (row[p]? = some .len ∧ td = Str.ofString "LEN") ∨ (row[p]? = some .rnd ∧ td = Str.ofString "RND") := by
  rcases h with ⟨h1, rfl, rfl⟩ | ⟨t, h1, rfl, rfl⟩
  · rw [known_none] at hk; cases hk
  · rw [known_tok, Bool.or_eq_true, decide_eq_true_eq, decide_eq_true_eq] at hk
    rcases hk with rfl | rfl
    · exact .inl ⟨h1, rfl⟩
    · exact .inr ⟨h1, rfl⟩
theorem KT.unknown {row : List Tk} {p : Nat} {kd td : Str} (_ : KT row p kd td) (hk : (known.any fun y => y == td) = false) : ¬ td = Str.ofString "LEN" ∧ ¬ td = Str.ofString "RND" := by
  refine ⟨fun e => ?_, fun e => ?_⟩
  · have := known_tok .len
    rw [show Tk.told .len = Str.ofString "LEN" from rfl, ← e, hk] at this; exact absurd this (by decide)
  · have := known_tok .rnd
    rw [show Tk.told .rnd = Str.ofString "RND" from rfl, ← e, hk] at this; exact absurd this (by decide)
theorem plain_ref {row : List Tk} {p : Nat} {d : Dat} {led : Led} {v : Value} (h : plainAt row p = some d) (hv : DatIn led v d) : ∃ tv, v = .ref tv := by
  obtain ⟨ds, rfl⟩ := plain_tup h
  cases hv
  exact ⟨_, rfl⟩
theorem over1 {m : Str → Option Value} {n : Str} {v : Value} (h : m n = some v) : m = over [(n, v)] m := (over_self fun q hq => by rw [List.mem_singleton.mp hq]; exact h).symm
theorem take_operand_ (w : World) (la ra kD : Addr) (row : List Tk) (hr : row.length ≤ 20) (p : Nat) (i : Int) (t : Tok) (hi : i = (p : Int)) (lv : Lv) (lvs : List Lv) (l : LvH) (ls : List LvH) (c : Nat) (hap : Apart (stLed la (l :: ls) c)) (hfit : Fit p (lv :: lvs)) (hp : p ≤ row.length) :
    CallsE w 167 [.ref la, .ref ra, .int i t, .ref kD] 30 400 (stLed la (l :: ls) c) (fun keep => RowIn keep ra row ∧ KnownIn keep (.ref kD) ∧ LvsOk w keep (l :: ls) (lv :: lvs)) (OpdPost w la row (lv :: lvs) p) (fun q => stepOpd row (lv :: lvs) p = .fail q) := by
  subst hi
  refine callsE_ofR I_take_operand [(Str.ofString "levels", .ref la), (Str.ofString "tokens", .ref ra), (Str.ofString "at", .int p t), (Str.ofString "known", .ref kD)] (fun s => BindsTo.of_eq rfl) (by rfl) ?_
  k_fill
  intro mean mg mb dp un gd cn cs L₀ a ccd cl outer base g L keep hp₀ gs dr tk os PP EE hPE hR hE1 hE2 B F X N S T hP hd hu
  dsimp only [D_take_operand, B_take_operand]
  have hrow := hP.1
  have hkn := hP.2.1
  have hls := hP.2.2
  iterate 11 walk1
  refine use1 (own := stLed la (l :: ls) c) (token_at_ w ra row hr p _ _ rfl) (by assumption) (by assumption) X (by assumption) T rfl (S) (hrow) (by first | exact roomD hd (by decide) | (show dp + 1 + _ ≤ 900; omega)) (by first | exact roomU hu (by decide) | (show un + 3 + _ ≤ 9000; omega)) ?_
  rintro v led₁ h₁ tk₁ F₁ N₁ S₁ hs₁ hv
  refine wp_cut (fun R' => ∀ v kd td t1 t2 h' tk', KT row p kd td → Fr g L h' (fun y => if y = Str.ofString "told" then some (Value.str td t2) else if y = Str.ofString "kind" then some (Value.str kd t1) else [(Str.ofString "levels", Value.ref la), (Str.ofString "tokens", Value.ref ra), (Str.ofString "at", Value.int p t), (Str.ofString "known", Value.ref kD)].reverse.lookup y) → News g L h' (stLed la (l :: ls) c ++ led₁) → R' v ⟨h', gs, dr, tk', os⟩) (fun R' hR' => ?_) ?_
  · unfold TokAt at hv
    cases e : row[p]? with
    | some tkn =>
      rw [e] at hv
      apply o4_2 (tok_open hv)
      intro a1 n1 t1 t2 ev hm
      subst ev
      have hm' := List.mem_append_right (stLed la (l :: ls) c) hm
      iterate 8 walk1
      exact hR' _ _ _ _ _ _ _ (.inr ⟨tkn, e, rfl, rfl⟩) (by assumption) (by assumption)
    | none =>
      rw [e] at hv
      subst hv
      iterate 8 walk1
      exact hR' _ _ _ _ _ _ _ (.inl ⟨e, rfl, rfl⟩) (by assumption) (by assumption)
  intro _ kd td t1 t2 h₂ tk₂ hkt F₂ N₂
  have hok := hkt.ok
  clear F F₁ N N₁ hv v
  have hrow₁ := hrow.mono hs₁
  have hkn₁ := hkn.mono hs₁
  have hls₁ := hls.mono hs₁
  iterate 11 walk1
  refine use1 (own := stLed la (l :: ls) c) (plain_operand_ w ra row hr p _ _ rfl) (by assumption) (by assumption) X (by assumption) T rfl (S₁) (hrow₁) (by first | exact roomD hd (by decide) | (show dp + 1 + _ ≤ 900; omega)) (by first | exact roomU hu (by decide) | (show un + 3 + _ ≤ 9000; omega)) ?_
  rintro v led₂ h₃ tk₃ F₃ N₃ S₂ hs₂ hv
  have hrow₂ := hrow₁.mono hs₂
  have hkn₂ := hkn₁.mono hs₂
  have hls₂ := hls₁.mono hs₂
  have hsub₂ : ∀ q ∈ keep, q ∈ led₂ := fun q hq => hs₂ q (hs₁ q hq)
  clear F₂ N₂ hrow hrow₁ hkn hkn₁ hls hls₁ S S₁ hs₁ hs₂
  obtain ⟨x, aa, oa, pa, va, vo, vp, ca, co, cp⟩ := l
  have hlr := hls₂.inv.2
  have hlv : IsLv w led₂ x aa oa pa lv.kind lv.word := hls₂.inv.1.is
  have hva : DatAll led₂ va lv.args := hls₂.inv.1.args
  have hvo : DatAll led₂ vo lv.opds := hls₂.inv.1.opds
  have hvp : DatAll led₂ vp (lv.oprs.map oprD) := hls₂.inv.1.oprs
  have z60 : (LvH.mk x aa oa pa va vo vp ca co cp :: ls).length ≤ 60 := by rw [hls₂.len]; have := hfit.1; omega
  have hfl := hfit.2 lv (.head _)
  have zo : vo.length ≤ 60 := by rw [hvo.length]; omega
  have zp : vp.length ≤ 60 := by rw [hvp.length, List.length_map]; omega
  have zl : (ls.map fun l => Value.ref l.x).length ≤ 60 := by rw [List.length_map, hlr.len]; have := hfit.1; simp only [List.length_cons] at this; omega
  have e0 : ∀ a b c d e led, stLed la (⟨x, aa, oa, pa, va, a, b, ca, c, d⟩ :: ls) e ++ led = (la, rl (.ref x :: ls.map fun l => .ref l.x) e) :: (aa, listOf va.toArray ca) :: (oa, rl a c) :: (pa, rl b d) :: (lvsLed ls ++ led) := fun _ _ _ _ _ _ => rfl
  have ap := top_ap hap S₂
  have hlv0 := hlv
  apply o4_2 hlv
  intro dx y1 y2 k hx1 hx2
  have up : ∀ {a b c d : Addr × Obj} {q : Addr × Obj}, q ∈ led₂ → q ∈ a :: b :: c :: d :: (lvsLed ls ++ led₂) := fun h => List.mem_cons_of_mem _ (List.mem_cons_of_mem _ (List.mem_cons_of_mem _ (List.mem_cons_of_mem _ (List.mem_append_right _ h))))
  rw [e0] at N₃
  have hx1' : _ ∈ (la, rl (.ref x :: ls.map fun l => .ref l.x) c) :: (aa, listOf va.toArray ca) :: (oa, rl vo co) :: (pa, rl vp cp) :: (lvsLed ls ++ led₂) := up hx1
  have hx2' : _ ∈ (la, rl (.ref x :: ls.map fun l => .ref l.x) c) :: (aa, listOf va.toArray ca) :: (oa, rl vo co) :: (pa, rl vp cp) :: (lvsLed ls ++ led₂) := up hx2
  cases hpl : plainAt row p with
  | some d =>
    unfold PlainRes at hv
    rw [hpl] at hv
    dsimp only at hv
    apply Exists.elim (plain_ref hpl hv)
    intro tv ev
    subst ev
    iterate 19 walk1
    refine item_last (by assumption) (.head _) ?_
    iterate 6 walk1
    refine push_rl (D := oa) (v := .ref tv) (vs := vo) (n := co) (by assumption) (by assumption) ap.updO (le100 zo) (fun h₄ F₄ N₄ => ?_)
    iterate 12 walk1
    refine kup_newTuple (by assumption) N₄ (fun D h₅ F₅ N₅ l5 => ?_) (by simp [sizeLine_eq])
    refine hR _ _ (stLed la (⟨x, aa, oa, pa, va, .ref tv :: vo, vp, ca, co + 1, cp⟩ :: ls) c) ((D, _) :: led₂) _ _ F₅ (News.swap (mt' := stLed la (⟨x, aa, oa, pa, va, .ref tv :: vo, vp, ca, co + 1, cp⟩ :: ls) c) (led := led₂) N₅) (Sep.add (S₂.same rfl) l5) (fun q hq => .tail _ (hsub₂ q hq)) ⟨pushOpd (lv :: lvs) d, false, p + 1, (by unfold stepOpd; rw [hpl]), ⟨_, c, rfl, .cons ⟨hlv0.mono ?_, hva.mono ?_, .cons (hv.mono ?_) (hvo.mono ?_), hvp.mono ?_⟩ (hlr.mono ?_), hap.same rfl⟩, .tuple (.head _) (.cons (.int _ _) (.cons (.bool _) .nil))⟩
    all_goals exact fun q hq => .tail _ hq
  | none =>
    have ev : v = .none := by unfold PlainRes at hv; rw [hpl] at hv; exact hv
    subst ev
    iterate 12 walk1
    refine wp_cut (fun R' => ∀ lvs' q tq m' mm mt' led' h' tk', stepOpd row (lv :: lvs) p = .go lvs' true (q + 1) → Fr g L h' m' → m' = over [(Str.ofString "at", .int (q : Nat) tq)] mm → News g L h' (mt' ++ led') → Sep mt' led' → (∀ q ∈ keep, q ∈ led') → MS w la led' mt' lvs' → R' Flow.next ⟨h', gs, dr, tk', os⟩) (fun R' hR' => ?_) ?_
    · have h60 : ¬ 60 < (lv :: lvs).length := by have := hfit.1; omega
      by_cases hks : kd = Str.ofString "sign"
      · subst hks
        iterate 15 walk1
        · rename_i hm
          have htk := hkt.sg "-" (by decide) (eq_of_beq hm) .minus rfl (by decide)
          iterate 12 walk1
          refine item_last (by assumption) (.head _) ?_
          iterate 10 walk1
          refine kup_newTuple (by assumption) (by assumption) (fun D h₄ F₄ N₄ l4 => ?_) (by simp [sizeLine_eq])
          iterate 1 walk1
          refine push_rl (D := pa) (v := .ref D) (vs := vp) (n := cp) F₄ N₄ (.tail (Nat.ne_of_gt (l4 _ (.tail _ (.tail _ (.tail _ (.head _)))))) ap.updP) (le100 zp) (fun h₅ F₅ N₅ => ?_)
          iterate 2 walk1
          refine hR' (pushOpr (lv :: lvs) (Str.ofString "neg") 12) p _ _ _ (stLed la (⟨x, aa, oa, pa, va, vo, .ref D :: vp, ca, co, cp + 1⟩ :: ls) c) ((D, _) :: led₂) _ _ (by unfold stepOpd; rw [hpl, htk]) F₅ (over1 rfl) (News.swap N₅) ((Sep.add S₂ l4).same rfl) (fun q hq => .tail _ (hsub₂ q hq)) ⟨_, c, rfl, .cons ⟨hlv0.mono ?_, hva.mono ?_, hvo.mono ?_, .cons (.tuple (.head _) (.cons (.str _ _) (.cons (.int _ _) .nil))) (hvp.mono ?_)⟩ (hlr.mono ?_), hap.same rfl⟩
          all_goals exact fun q hq => .tail _ hq
        · rename_i hm
          iterate 29 walk1
          · rename_i hm2
            have htk := hkt.sg "(" (by decide) (eq_of_beq hm2) .lpar rfl (by decide)
            iterate 16 walk1
            refine useXn (opened_st w la (Str.ofString "group") (Str.ofString "") _ _ (⟨x, aa, oa, pa, va, vo, vp, ca, co, cp⟩ :: ls) (lv :: lvs) c hap z60) [] led₂ (by assumption) (by assumption) X (by assumption) T rfl (Sep.nil _) S₂ hls₂ (by first | exact roomD hd (by decide) | (show dp + 1 + _ ≤ 900; omega)) (by first | exact roomU hu (by decide) | (show un + 3 + _ ≤ 9000; omega)) ?_
            intro mt' keep' h₅ tk₅ F₅ N₅ _ S₆ hs₅ hms
            iterate 3 walk1
            exact hR' (openLv (lv :: lvs) (Str.ofString "group") (Str.ofString "")) p _ _ _ mt' keep' _ _ (by unfold stepOpd; rw [hpl, htk]; exact if_neg h60) F₅ (over1 rfl) N₅ S₆ (fun q hq => hs₅ q (hsub₂ q hq)) hms
          · rename_i hm2
            iterate 39 walk1
            · rename_i hm3
              have hbad : stepOpd row (lv :: lvs) p = .fail p := hkt.fail hpl (.inl ⟨rfl, ne_of_beqF hm, ne_of_beqF hm2, fun h => by rw [h] at hm3; exact absurd hm3 (by decide)⟩)
              iterate 3 walk1
              refine Raise_err rfl ?_
              iterate 9 walk1
              refine make_errE (by assumption) (by assumption) X (by assumption) T rfl (by first | exact roomD hd (by decide) | (show dp + 1 + _ ≤ 900; omega)) (by first | exact roomU hu (by decide) | (show un + 3 + _ ≤ 9000; omega)) (fun e dx t k1 k2 h' tk' F4 N4 hne hdx => hE1 p e dx t _ _ k1 k2 _ _ _ _ F4 N4 hne hdx (hbad) (fun q hq => List.mem_append_right (stLed la (⟨x, aa, oa, pa, va, vo, vp, ca, co, cp⟩ :: ls) c) (hsub₂ q hq)))
            · rename_i hm3
              have htk := hkt.sg "+" (by decide) (by simpa using hm3) .plus rfl (by decide)
              iterate 8 walk1
              exact hR' (lv :: lvs) p _ _ _ (stLed la (⟨x, aa, oa, pa, va, vo, vp, ca, co, cp⟩ :: ls) c) led₂ _ _ (by unfold stepOpd; rw [hpl, htk]) (by assumption) (over1 rfl) (by assumption) S₂ hsub₂ ⟨_, c, rfl, hls₂, hap⟩
      · by_cases hkw : kd = Str.ofString "word"
        · subst hkw
          iterate 26 walk1
          · rename_i hm
            have htk := hkt.sg "NOT" (by decide) (eq_of_beq hm) .nott rfl (by decide)
            iterate 12 walk1
            refine item_last (by assumption) (.head _) ?_
            iterate 10 walk1
            refine kup_newTuple (by assumption) (by assumption) (fun D h₄ F₄ N₄ l4 => ?_) (by simp [sizeLine_eq])
            iterate 1 walk1
            refine push_rl (D := pa) (v := .ref D) (vs := vp) (n := cp) F₄ N₄ (.tail (Nat.ne_of_gt (l4 _ (.tail _ (.tail _ (.tail _ (.head _)))))) ap.updP) (le100 zp) (fun h₅ F₅ N₅ => ?_)
            iterate 3 walk1
            refine hR' (pushOpr (lv :: lvs) (Str.ofString "not") 6) p _ _ _ (stLed la (⟨x, aa, oa, pa, va, vo, .ref D :: vp, ca, co, cp + 1⟩ :: ls) c) ((D, _) :: led₂) _ _ (by unfold stepOpd; rw [hpl, htk]) F₅ (over1 rfl) (News.swap N₅) ((Sep.add S₂ l4).same rfl) (fun q hq => .tail _ (hsub₂ q hq)) ⟨_, c, rfl, .cons ⟨hlv0.mono ?_, hva.mono ?_, hvo.mono ?_, .cons (.tuple (.head _) (.cons (.str _ _) (.cons (.int _ _) .nil))) (hvp.mono ?_)⟩ (hlr.mono ?_), hap.same rfl⟩
            all_goals exact fun q hq => .tail _ hq
          · rename_i hm
            iterate 34 walk1
            refine in_known hkn₂ (by assumption) (fun q hq => List.mem_append_right (stLed la (⟨x, aa, oa, pa, va, vo, vp, ca, co, cp⟩ :: ls) c) hq) hok.2 (by first | exact roomV hu | (show un + 3 ≤ 9500; omega)) ?_
            cases hkk : known.any fun y => y == td with
            | false =>
              iterate 18 walk1
              refine Raise_err rfl ?_
              iterate 9 walk1
              refine make_errE (by assumption) (by assumption) X (by assumption) T rfl (by first | exact roomD hd (by decide) | (show dp + 1 + _ ≤ 900; omega)) (by first | exact roomU hu (by decide) | (show un + 3 + _ ≤ 9000; omega)) (fun e dx t k1 k2 h' tk' F4 N4 hne hdx => hE1 p e dx t _ _ k1 k2 _ _ _ _ F4 N4 hne hdx (hkt.fail hpl (.inr (.inl ⟨rfl, ne_of_beqF hm, hkt.unknown hkk⟩))) (fun q hq => List.mem_append_right (stLed la (⟨x, aa, oa, pa, va, vo, vp, ca, co, cp⟩ :: ls) c) (hsub₂ q hq)))
            | true =>
              iterate 23 walk1
              refine use_expect hr (p + 1) (sg := .lpar) rfl rfl (stLed la (⟨x, aa, oa, pa, va, vo, vp, ca, co, cp⟩ :: ls) c) led₂ (by assumption) (by assumption) X (by assumption) T rfl S₂ hrow₂ (by first | exact roomD hd (by decide) | (show dp + 1 + _ ≤ 900; omega)) (by first | exact roomU hu (by decide) | (show un + 3 + _ ≤ 9000; omega)) ?_ ?_
              · intro e h' tk' g₂ hq Fg U hf
                refine hE2 _ e g₂ _ _ _ Fg U (hf.mono hsub₂) ?_
                unfold stepOpd; rw [hpl]
                rcases hkt.knownTk hkk with ⟨hi, -⟩ | ⟨hi, -⟩ <;> (rw [hi]; exact if_neg hq)
              intro u keep' h₅ tk₅ F₅ N₅ S₅ hs₅ hop
              have N₅' : News g L h₅ (stLed la (⟨x, aa, oa, pa, va, vo, vp, ca, co, cp⟩ :: ls) c ++ keep') := N₅
              iterate 24 walk1
              refine useXn (opened_st w la (Str.ofString "call") td _ _ (⟨x, aa, oa, pa, va, vo, vp, ca, co, cp⟩ :: ls) (lv :: lvs) c hap z60) [] keep' (by assumption) (by assumption) X (by assumption) T rfl (Sep.nil _) S₅ (hls₂.mono hs₅) (by first | exact roomD hd (by decide) | (show dp + 1 + _ ≤ 900; omega)) (by first | exact roomU hu (by decide) | (show un + 3 + _ ≤ 9000; omega)) ?_
              intro mt₇ keep₇ h₇ tk₇ F₇ N₇ _ S₇ hs₇ hms
              iterate 4 walk1
              refine hR' (openLv (lv :: lvs) (Str.ofString "call") td) (p + 1) _ _ _ mt₇ keep₇ _ _ ?_ F₇ (over1 (congrArg (fun z => some (Value.int z _)) (cast_pred _))) N₇ S₇ (fun q hq => hs₇ q (hs₅ q (hsub₂ q hq))) hms
              unfold stepOpd; rw [hpl]
              rcases hkt.knownTk hkk with ⟨hi, rfl⟩ | ⟨hi, rfl⟩ <;> (rw [hi]; exact (if_pos hop).trans (if_neg h60))
        · rcases hkt.rest hpl hks hkw with hkn | ⟨hke, hte, htk⟩
          · subst hkn
            iterate 60 walk1
            refine use_expect hr (p + 1) (sg := .lpar) rfl rfl (stLed la (⟨x, aa, oa, pa, va, vo, vp, ca, co, cp⟩ :: ls) c) led₂ (by assumption) (by assumption) X (by assumption) T rfl S₂ hrow₂ (by first | exact roomD hd (by decide) | (show dp + 1 + _ ≤ 900; omega)) (by first | exact roomU hu (by decide) | (show un + 3 + _ ≤ 9000; omega)) ?_ ?_
            · intro e h' tk' g₂ hq Fg U hf
              refine hE2 _ e g₂ _ _ _ Fg U (hf.mono hsub₂) ?_
              obtain ⟨i, hi, rfl⟩ := hkt.name rfl
              unfold stepOpd; rw [hpl, hi]; exact if_neg hq
            intro u keep' h₅ tk₅ F₅ N₅ S₅ hs₅ hop
            obtain ⟨i, hi, rfl⟩ := hkt.name rfl
            have N₅' : News g L h₅ (stLed la (⟨x, aa, oa, pa, va, vo, vp, ca, co, cp⟩ :: ls) c ++ keep') := N₅
            have hsz : (nameStr i).length ≤ sizeLine := Nat.le_trans (name_len i) (by rw [sizeLine_eq]; omega)
            iterate 28 walk1
            k_dflt (refine' slice_strN_ns ?q1 ?q2 ?_ ?q3 ?q4 ?q5; (case q1 => k_asm); (case q2 => k_asm); (case q3 => with_unfolding_all rfl); (case q4 => intro _; with_unfolding_all rfl); (case q5 => exact hsz))
            intro h7 t7 k7 F7 N7
            have hmid : ∀ k, k = nameKind i → stepOpd row (lv :: lvs) p = .go (openLv (lv :: lvs) k (nameStr i)) true (p + 1 + 1) := fun k hk => by
              unfold stepOpd; rw [hpl, hi, hk]; exact (if_pos hop).trans (if_neg h60)
            iterate 4 walk1
            · rename_i hf
              iterate 5 walk1
              refine useXn (opened_st w la (Str.ofString "fn") (nameStr i) _ _ (⟨x, aa, oa, pa, va, vo, vp, ca, co, cp⟩ :: ls) (lv :: lvs) c hap z60) [] keep' (by assumption) (by assumption) X (by assumption) T rfl (Sep.nil _) S₅ (hls₂.mono hs₅) (by first | exact roomD hd (by decide) | (show dp + 1 + _ ≤ 900; omega)) (by first | exact roomU hu (by decide) | (show un + 3 + _ ≤ 9000; omega)) ?_
              intro mt₇ keep₇ h₇ tk₇ F₇ N₇ _ S₇ hs₇ hms
              iterate 4 walk1
              exact hR' (openLv (lv :: lvs) (Str.ofString "fn") (nameStr i)) (p + 1) _ _ _ mt₇ keep₇ _ _ (hmid _ (if_pos (fn_yes i hf)).symm) F₇ (over1 (congrArg (fun z => some (Value.int z _)) (cast_pred _))) N₇ S₇ (fun q hq => hs₇ q (hs₅ q (hsub₂ q hq))) hms
            · rename_i hf
              iterate 5 walk1
              refine useXn (opened_st w la (Str.ofString "item") (nameStr i) _ _ (⟨x, aa, oa, pa, va, vo, vp, ca, co, cp⟩ :: ls) (lv :: lvs) c hap z60) [] keep' (by assumption) (by assumption) X (by assumption) T rfl (Sep.nil _) S₅ (hls₂.mono hs₅) (by first | exact roomD hd (by decide) | (show dp + 1 + _ ≤ 900; omega)) (by first | exact roomU hu (by decide) | (show un + 3 + _ ≤ 9000; omega)) ?_
              intro mt₇ keep₇ h₇ tk₇ F₇ N₇ _ S₇ hs₇ hms
              iterate 4 walk1
              exact hR' (openLv (lv :: lvs) (Str.ofString "item") (nameStr i)) (p + 1) _ _ _ mt₇ keep₇ _ _ (hmid _ (if_neg (fn_no i hf)).symm) F₇ (over1 (congrArg (fun z => some (Value.int z _)) (cast_pred _))) N₇ S₇ (fun q hq => hs₇ q (hs₅ q (hsub₂ q hq))) hms
          · subst hke hte
            iterate 65 walk1
            refine Raise_err rfl ?_
            iterate 9 walk1
            refine make_errE (by assumption) (by assumption) X (by assumption) T rfl (by first | exact roomD hd (by decide) | (show dp + 1 + _ ≤ 900; omega)) (by first | exact roomU hu (by decide) | (show un + 3 + _ ≤ 9000; omega)) (fun e dx t k1 k2 h' tk' F4 N4 hne hdx => hE1 p e dx t _ _ k1 k2 _ _ _ _ F4 N4 hne hdx (hkt.fail hpl (.inr (.inr htk))) (fun q hq => List.mem_append_right (stLed la (⟨x, aa, oa, pa, va, vo, vp, ca, co, cp⟩ :: ls) c) (hsub₂ q hq)))
    · intro lvs' q tq m' mm mt' led' h₆ tk₆ hst F₆ em N₆ S₆ hs₆ hms
      subst em
      iterate 11 walk1
      refine kup_newTuple (by assumption) N₆ (fun D h₅ F₅ N₅ l5 => ?_) (by simp [sizeLine_eq])
      exact hR _ _ mt' ((D, _) :: led') _ _ F₅ (News.swap N₅) (Sep.add S₆ l5) (fun q hq => .tail _ (hs₆ q hq)) ⟨lvs', true, q + 1, hst, hms.mono (fun q hq => .tail _ hq), .tuple (.head _) (.cons (.int _ _) (.cons (.bool _) .nil))⟩
end
section
open PySem PySem.W PyProof.Rows PySem.Calls PyProof.V PySem.Spec Builtin Builtin.ObjectAttr
set_option maxRecDepth 100000
set_option maxHeartbeats 1000000
theorem K_66 (P : Params) : ∃ es n, (K P).lookup 66 = some ⟨.type "dict", none, .dict es n, #[]⟩ ∧ KeysLit P es.toList := ⟨#[de P "IMP" 269 (Value.int 1 270), de P "EQV" 272 (Value.int 2 273), de P "XOR" 275 (Value.int 3 276), de P "OR" 278 (Value.int 4 279), de P "AND" 281 (Value.int 5 282), de P "=" 284 (Value.int 7 285), de P "<>" 287 (Value.int 7 288), de P "<" 290 (Value.int 7 291), de P ">" 293 (Value.int 7 294), de P "<=" 296 (Value.int 7 297), de P ">=" 299 (Value.int 7 300), de P "+" 302 (Value.int 8 303), de P "-" 305 (Value.int 8 306), de P "MOD" 308 (Value.int 9 309), de P "\\" 311 (Value.int 10 312), de P "*" 314 (Value.int 11 315), de P "/" 317 (Value.int 11 318), de P "^" 320 (Value.int 13 321)], 18, by kernel_rfl, ⟨_, _, rfl, rfl⟩, ⟨_, _, rfl, rfl⟩, ⟨_, _, rfl, rfl⟩, ⟨_, _, rfl, rfl⟩, ⟨_, _, rfl, rfl⟩, ⟨_, _, rfl, rfl⟩, ⟨_, _, rfl, rfl⟩, ⟨_, _, rfl, rfl⟩, ⟨_, _, rfl, rfl⟩, ⟨_, _, rfl, rfl⟩, ⟨_, _, rfl, rfl⟩, ⟨_, _, rfl, rfl⟩, ⟨_, _, rfl, rfl⟩, ⟨_, _, rfl, rfl⟩, ⟨_, _, rfl, rfl⟩, ⟨_, _, rfl, rfl⟩, ⟨_, _, rfl, rfl⟩, ⟨_, _, rfl, rfl⟩, trivial⟩
noncomputable def sgTok : Tk → Tok
  | .plus => 303 | .minus => 306
  | .bop j => [321, 315, 318, 312, 309, 285, 291, 300, 282, 279, 276, 273, 270].getD j.val 0
  | _ => 0
theorem bop_str (P : Params) : ∀ j : Fin 13, nsIn (K P) 66 (bopStr j) = some (some (.int (bopNum j : Nat) (sgTok (.bop j))))
  | ⟨0, _⟩ => by kernel_rfl
  | ⟨1, _⟩ => by kernel_rfl
  | ⟨2, _⟩ => by kernel_rfl
  | ⟨3, _⟩ => by kernel_rfl
  | ⟨4, _⟩ => by kernel_rfl
  | ⟨5, _⟩ => by kernel_rfl
  | ⟨6, _⟩ => by kernel_rfl
  | ⟨7, _⟩ => by kernel_rfl
  | ⟨8, _⟩ => by kernel_rfl
  | ⟨9, _⟩ => by kernel_rfl
  | ⟨10, _⟩ => by kernel_rfl
  | ⟨11, _⟩ => by kernel_rfl
  | ⟨12, _⟩ => by kernel_rfl
  | ⟨_ + 13, h⟩ => absurd h (by omega)
theorem bop_pos : ∀ j : Fin 13, bopNum j ≠ 0 := by decide
/-- STRENGTH of a token's word -/
theorem strength_of (P : Params) (t : Tk) (h : t.kind = Str.ofString "sign" ∨ t.kind = Str.ofString "word") : nsIn (K P) 66 t.told = some (if t.bin = 0 then none else some (.int (t.bin : Nat) (sgTok t))) := by
  cases t with
  | bop j => exact (bop_str P j).trans (congrArg some (if_neg (bop_pos j)).symm)
  | num b => rcases h with h | h <;> exact absurd (show Str.ofString "number" = _ from h) (by decide)
  | name i => rcases h with h | h <;> exact absurd (show Str.ofString "name" = _ from h) (by decide)
  | _ => first | (kernel_rfl; done) | (rcases h with h | h <;> exact absurd h (by decide))
section
variable {w : World} {A : Around} {E : Value → Shared → Prop} {s : Shared} {g : Heap} {L : Addr} {m : Str → Option Value} {Q : Value → Shared → Prop} {x : Str} {t : Tok}
theorem in_str1 {v : Value} (F : Fr g L s.heap m) (X : (K w.params).In g) (e : nsIn (K w.params) 66 x = some (some v)) (h : Q (.bool true) { s with toks := s.toks + 1 }) : wpAny (model PySem.Challenge.rw_pq0176_01.row.prog w) A (compareOp .In (.str x t) (.ref 66)) Q E s := by
  obtain ⟨es, n, hl, hk⟩ := K_66 w.params
  exact topIn_K F X hl hk e (by decide) h
theorem in_str0 (F : Fr g L s.heap m) (X : (K w.params).In g) (e : nsIn (K w.params) 66 x = some none) (h : Q (.bool false) { s with toks := s.toks + 1 }) : wpAny (model PySem.Challenge.rw_pq0176_01.row.prog w) A (compareOp .In (.str x t) (.ref 66)) Q E s := by
  obtain ⟨es, n, hl, hk⟩ := K_66 w.params
  exact topIn_K F X hl hk e (by decide) h
theorem item_str {v : Value} {value slice : PySem.Expr} (F : Fr g L s.heap m) (X : (K w.params).In g) (e : nsIn (K w.params) 66 x = some (some v)) (h : Q v { s with toks := s.toks + 1 })
    (hs : subscripted slice false (.ref 66) (.str x t) = operate [.ref 66, .str x t] (getItem (.ref 66) (.str x t)) := by with_unfolding_all rfl) : wpAny (model PySem.Challenge.rw_pq0176_01.row.prog w) A (subscriptTail value slice (.ref 66) (.str x t)) Q E s := by
  obtain ⟨es, n, hl, hk⟩ := K_66 w.params
  exact topItem_K F X hl hk e h hs
end
noncomputable def opr1 (row : List Tk) (lv : Lv) (r : List Lv) (p b : Nat) : Option (List Dat × List (Str × Nat)) → Step
  | some (ds, os) => .go ({ lv with opds := ds, oprs := (toldAt row p, b) :: os } :: r) true (p + 1)
  | none => .junk
theorem opr_bin {row : List Tk} {lv : Lv} {r : List Lv} {p b : Nat} (e : strengthAt row p = b) (hb : b ≠ 0) : stepOpr row (lv :: r) p = opr1 row lv r p b (joinUp b lv.opds lv.oprs) := by
  subst e
  refine (if_pos hb).trans ?_
  cases joinUp (strengthAt row p) lv.opds lv.oprs <;> rfl
theorem opr_top {row : List Tk} {lv : Lv} {r : List Lv} {p : Nat} (e : strengthAt row p = 0) (hk : lv.kind = Str.ofString "top") : stepOpr row (lv :: r) p = .fin (lv :: r) p :=
  (if_neg (fun h => h e)).trans (if_pos hk)
noncomputable def opr2 (lv : Lv) (r : List Lv) (p : Nat) : Option (List Dat × List (Str × Nat)) → Step
  | some (d :: ds, os) => .go ({ lv with opds := ds, oprs := os, args := lv.args ++ [d] } :: r) true (p + 1)
  | _ => .junk
theorem opr_comma {row : List Tk} {lv : Lv} {r : List Lv} {p : Nat} (e : strengthAt row p = 0) (hk : ¬ lv.kind = Str.ofString "top") (hc : row[p]? = some .comma ∧ lv.kind ≠ Str.ofString "group") : stepOpr row (lv :: r) p = opr2 lv r p (joinUp 0 lv.opds lv.oprs) := by
  refine (if_neg (fun h => h e)).trans ((if_neg hk).trans ((if_pos hc).trans ?_))
  rcases joinUp 0 lv.opds lv.oprs with _ | ⟨_ | ⟨d, ds⟩, os⟩ <;> rfl
noncomputable def opr3 (p : Nat) : Option Dat → List Lv → Step
  | some d, lv' :: r' => .go ({ lv' with opds := d :: lv'.opds } :: r') false (p + 1)
  | _, _ => .junk
theorem opr_rpar {row : List Tk} {lv : Lv} {r : List Lv} {p : Nat} (e : strengthAt row p = 0) (hk : ¬ lv.kind = Str.ofString "top") (hc : ¬ (row[p]? = some .comma ∧ lv.kind ≠ Str.ofString "group")) (hr : row[p]? = some .rpar) : stepOpr row (lv :: r) p = opr3 p (finLv lv) r := by
  refine (if_neg (fun h => h e)).trans ((if_neg hk).trans ((if_neg hc).trans ((if_pos hr).trans ?_)))
  rcases finLv lv with _ | d <;> rcases r with _ | ⟨lv', r'⟩ <;> rfl
theorem opr_fail {row : List Tk} {lv : Lv} {r : List Lv} {p : Nat} (e : strengthAt row p = 0) (hk : ¬ lv.kind = Str.ofString "top") (hc : ¬ (row[p]? = some .comma ∧ lv.kind ≠ Str.ofString "group")) (hr : ¬ row[p]? = some .rpar) : stepOpr row (lv :: r) p = .fail p :=
  (if_neg (fun h => h e)).trans ((if_neg hk).trans ((if_neg hc).trans (if_neg hr)))
theorem any2 {a b x : Str} (h : ([a, b].any fun y => y == x) = true) : x = a ∨ x = b := by
  simp only [List.any_cons, List.any_nil, Bool.or_false, Bool.or_eq_true, beq_iff_eq] at h
  exact h.imp Eq.symm Eq.symm
theorem KT.comma {row : List Tk} {p : Nat} {kd td : Str} (h : KT row p kd td) (h1 : kd = Str.ofString "sign") (h2 : td = Str.ofString ",") : row[p]? = some .comma := by
  have hb : ∀ j : Fin 13, Tk.told (.bop j) ≠ Str.ofString "," := by decide +kernel
  rcases h with ⟨_, e, _⟩ | ⟨t, e, rfl, rfl⟩
  · rw [e] at h1; exact absurd h1 (by decide)
  · cases t with
    | comma => exact e
    | bop j => exact absurd h2 (hb j)
    | num b => exact absurd (show Str.ofString "number" = _ from h1) (by decide)
    | name i => exact absurd (show Str.ofString "name" = _ from h1) (by decide)
    | _ => exact absurd h2 (by decide)
theorem TopAp.updL {la : Addr} {l : LvH} {rest : Led} {a b c d o : Obj} (h : TopAp la l rest) : Upd la a o ((la, a) :: (l.aa, b) :: (l.oa, c) :: (l.pa, d) :: rest) ((la, o) :: (l.aa, b) :: (l.oa, c) :: (l.pa, d) :: rest) :=
  .head fun q hq => by
    rcases List.mem_cons.mp hq with rfl | hq
    · exact h.h1.symm
    rcases List.mem_cons.mp hq with rfl | hq
    · exact h.h2.symm
    rcases List.mem_cons.mp hq with rfl | hq
    · exact h.h3.symm
    · exact h.r0 q hq
theorem push_l {w : World} {A : Around} {E : Value → Shared → Prop} {s : Shared} {g : Heap} {L : Addr} {led led' : Led} {m : Str → Option Value} {Q : Value → Shared → Prop} {D : Addr} {v : Value} {vs : List Value} {n : Nat} (F : Fr g L s.heap m) (N : News g L s.heap led) (U : Upd D (listOf vs.toArray n) (listOf (vs ++ [v]).toArray (n + 1)) led led') (hz : vs.length ≤ 100) (h : ∀ h', Fr g L h' m → News g L h' led' → Q .none { s with heap := h' }) :
    wpAny (model PySem.Challenge.rw_pq0176_01.row.prog w) A (call (.builtin "list.append") [.ref D, v]) Q E s :=
  append_K (its := vs.toArray) F N (by rw [List.push_toArray]; exact U) h (by rw [List.size_toArray, sizeLine_eq]; omega)
noncomputable abbrev OprPost (w : World) (la : Addr) (row : List Tk) (lvs : List Lv) (p : Nat) (mt' keep' : Led) (v : Value) : Prop :=
  (∃ lvs' o p', stepOpr row lvs p = .go lvs' o p' ∧ MS w la keep' mt' lvs' ∧ DatIn keep' v (.tuple [.int (p' : Nat), .str (Str.ofString (if o then "operand" else "operator"))])) ∨
  (∃ lvs', stepOpr row lvs p = .fin lvs' p ∧ MS w la keep' mt' lvs' ∧ DatIn keep' v (.tuple [.int (p : Nat), .str (Str.ofString "end")]))
section
variable {row : List Tk} {p b : Nat} {kd td : Str} {lv : Lv} {r : List Lv}
theorem kt_word (h : KT row p kd td) (hk : ([Str.ofString "sign", Str.ofString "word"].any fun y => y == kd) = true) : ∃ tkn, row[p]? = some tkn ∧ kd = tkn.kind ∧ td = tkn.told := by
  rcases h with ⟨h1, rfl, _⟩ | h
  · exact absurd hk (by decide)
  · exact h
theorem kt_bin (h : KT row p kd td) (hst : ¬ strengthAt row p = 0) : ∃ tkn, row[p]? = some tkn ∧ kd = tkn.kind ∧ td = tkn.told := by
  rcases h with ⟨h1, _⟩ | h
  · unfold strengthAt at hst; rw [h1] at hst; exact absurd rfl hst
  · exact h
theorem kt_comma (h : KT row p kd td) (hc : row[p]? = some .comma) : kd = Str.ofString "sign" ∧ td = Str.ofString "," := by
  rcases h with ⟨h1, _⟩ | ⟨tkn, h1, rfl, rfl⟩
  · rw [hc] at h1; cases h1
  · rw [hc] at h1; cases h1; exact ⟨rfl, rfl⟩
theorem comma_join (e : strengthAt row p = 0) (hk : ¬ lv.kind = Str.ofString "top") (hc : row[p]? = some .comma ∧ lv.kind ≠ Str.ofString "group") (hju : stepOpr row (lv :: r) p ≠ .junk) : ∃ d ds os, joinUp 0 lv.opds lv.oprs = some (d :: ds, os) := by
  rw [opr_comma e hk hc] at hju
  cases hj : joinUp 0 lv.opds lv.oprs with
  | none => rw [hj] at hju; exact absurd rfl hju
  | some z =>
    obtain ⟨ds, os⟩ := z
    cases ds with
    | nil => rw [hj] at hju; exact absurd rfl hju
    | cons d ds => exact ⟨d, ds, os, rfl⟩
theorem bin_join (e : strengthAt row p = b) (hb : ¬ b = 0) (hju : stepOpr row (lv :: r) p ≠ .junk) : ∃ ds os, joinUp b lv.opds lv.oprs = some (ds, os) := by
  rw [opr_bin e hb] at hju
  cases hj : joinUp b lv.opds lv.oprs with
  | none => rw [hj] at hju; exact absurd rfl hju
  | some z => exact ⟨z.1, z.2, rfl⟩
theorem rpar_fin (e : strengthAt row p = 0) (hk : ¬ lv.kind = Str.ofString "top") (hc : ¬ (row[p]? = some .comma ∧ lv.kind ≠ Str.ofString "group")) (hr : row[p]? = some .rpar) (hju : stepOpr row (lv :: r) p ≠ .junk) : ∃ d lv2 lvs2, finLv lv = some d ∧ r = lv2 :: lvs2 := by
  rw [opr_rpar e hk hc hr] at hju
  cases hf : finLv lv with
  | none => rw [hf] at hju; exact absurd rfl hju
  | some d =>
    cases r with
    | nil => rw [hf] at hju; exact absurd rfl hju
    | cons lv2 lvs2 => exact ⟨d, lv2, lvs2, rfl, rfl⟩
theorem lvs_cons {w : World} {keep : Led} {ls : List LvH} (h : LvsOk w keep ls (lv :: r)) : ∃ l2 ls2, ls = l2 :: ls2 ∧ LvOk w keep l2 lv ∧ LvsOk w keep ls2 r := by
  cases h with | cons a b => exact ⟨_, _, rfl, a, b⟩
end
theorem take_operator_ (w : World) (la ra : Addr) (row : List Tk) (hr : row.length ≤ 20) (p : Nat) (i : Int) (t : Tok) (hi : i = (p : Int)) (lv : Lv) (lvs : List Lv) (l : LvH) (ls : List LvH) (c : Nat) (hap : Apart (stLed la (l :: ls) c)) (hfit : Fit p (lv :: lvs)) (hp : p ≤ row.length) (hju : stepOpr row (lv :: lvs) p ≠ .junk) :
    CallsE w 174 [.ref la, .ref ra, .int i t] 30 400 (stLed la (l :: ls) c) (fun keep => RowIn keep ra row ∧ LvsOk w keep (l :: ls) (lv :: lvs)) (OprPost w la row (lv :: lvs) p) (fun q => stepOpr row (lv :: lvs) p = .fail q) := by
  subst hi
  refine callsE_ofR I_take_operator [(Str.ofString "levels", .ref la), (Str.ofString "tokens", .ref ra), (Str.ofString "at", .int p t)] (fun s => BindsTo.of_eq rfl) (by rfl) ?_
  k_fill
  intro mean mg mb dp un gd cn cs L₀ a ccd cl outer base g L keep hp₀ gs dr tk os PP EE hPE hR hE1 hE2 B F X N S T hP hd hu
  dsimp only [D_take_operator, B_take_operator]
  have hrow := hP.1
  have hls := hP.2
  iterate 11 walk1
  refine use1 (own := stLed la (l :: ls) c) (token_at_ w ra row hr p _ _ rfl) (by assumption) (by assumption) X (by assumption) T rfl (S) (hrow) (by first | exact roomD hd (by decide) | (show dp + 1 + _ ≤ 900; omega)) (by first | exact roomU hu (by decide) | (show un + 3 + _ ≤ 9000; omega)) ?_
  rintro v led₁ h₁ tk₁ F₁ N₁ S₁ hs₁ hv
  refine wp_cut (fun R' => ∀ v kd td t1 t2 h' tk', KT row p kd td → Fr g L h' (fun y => if y = Str.ofString "told" then some (Value.str td t2) else if y = Str.ofString "kind" then some (Value.str kd t1) else [(Str.ofString "levels", Value.ref la), (Str.ofString "tokens", Value.ref ra), (Str.ofString "at", Value.int p t)].reverse.lookup y) → News g L h' (stLed la (l :: ls) c ++ led₁) → R' v ⟨h', gs, dr, tk', os⟩) (fun R' hR' => ?_) ?_
  · unfold TokAt at hv
    cases e : row[p]? with
    | some tkn =>
      rw [e] at hv
      apply o4_2 (tok_open hv)
      intro a1 n1 t1 t2 ev hm
      subst ev
      have hm' := List.mem_append_right (stLed la (l :: ls) c) hm
      iterate 8 walk1
      exact hR' _ _ _ _ _ _ _ (.inr ⟨tkn, e, rfl, rfl⟩) (by assumption) (by assumption)
    | none =>
      rw [e] at hv
      subst hv
      iterate 8 walk1
      exact hR' _ _ _ _ _ _ _ (.inl ⟨e, rfl, rfl⟩) (by assumption) (by assumption)
  intro _ kd td t1 t2 h₂ tk₂ hkt F₂ N₂
  have hok := hkt.ok
  have hrow₁ := hrow.mono hs₁
  have hls₁ := hls.mono hs₁
  clear F F₁ N N₁ hv v S hrow hls
  obtain ⟨x, aa, oa, pa, va, vo, vp, ca, co, cp⟩ := l
  have hlr := hls₁.inv.2
  have hok₁ := hls₁.inv.1
  have hlv : IsLv w led₁ x aa oa pa lv.kind lv.word := hok₁.is
  have hva : DatAll led₁ va lv.args := hok₁.args
  have hvo : DatAll led₁ vo lv.opds := hok₁.opds
  have hvp : DatAll led₁ vp (lv.oprs.map oprD) := hok₁.oprs
  have hfl := hfit.2 lv (.head _)
  have zo : vo.length ≤ 60 := by rw [hvo.length]; omega
  have zp : vp.length ≤ 60 := by rw [hvp.length, List.length_map]; omega
  have e0 : ∀ a b c d e led, stLed la (⟨x, aa, oa, pa, va, a, b, ca, c, d⟩ :: ls) e ++ led = (la, rl (.ref x :: ls.map fun l => .ref l.x) e) :: (aa, listOf va.toArray ca) :: (oa, rl a c) :: (pa, rl b d) :: (lvsLed ls ++ led) := fun _ _ _ _ _ _ => rfl
  have ap := top_ap hap S₁
  have ap0 := top_ap (keep := []) hap (fun _ _ _ h => nomatch h)
  have hlv0 := hlv
  apply o4_2 hlv
  intro dx y1 y2 k hx1 hx2
  have up : ∀ {a b c d : Addr × Obj} {q : Addr × Obj}, q ∈ led₁ → q ∈ a :: b :: c :: d :: (lvsLed ls ++ led₁) := fun h => List.mem_cons_of_mem _ (List.mem_cons_of_mem _ (List.mem_cons_of_mem _ (List.mem_cons_of_mem _ (List.mem_append_right _ h))))
  rw [e0] at N₂
  have hx1' : _ ∈ (la, rl (.ref x :: ls.map fun l => .ref l.x) c) :: (aa, listOf va.toArray ca) :: (oa, rl vo co) :: (pa, rl vp cp) :: (lvsLed ls ++ led₁) := up hx1
  have hx2' : _ ∈ (la, rl (.ref x :: ls.map fun l => .ref l.x) c) :: (aa, listOf va.toArray ca) :: (oa, rl vo co) :: (pa, rl vp cp) :: (lvsLed ls ++ led₁) := up hx2
  iterate 7 walk1
  refine item_last (by assumption) (.head _) ?_
  by_cases hst : strengthAt row p = 0
  · iterate 2 walk1
    refine wp_cut (fun R' => ∀ h' tk', Fr g L h' (fun y => if y = Str.ofString "here" then some (Value.ref x) else if y = Str.ofString "told" then some (Value.str td t2) else if y = Str.ofString "kind" then some (Value.str kd t1) else [(Str.ofString "levels", Value.ref la), (Str.ofString "tokens", Value.ref ra), (Str.ofString "at", Value.int p t)].reverse.lookup y) → News g L h' ((la, rl (.ref x :: ls.map fun l => .ref l.x) c) :: (aa, listOf va.toArray ca) :: (oa, rl vo co) :: (pa, rl vp cp) :: (lvsLed ls ++ led₁)) → R' Flow.next ⟨h', gs, dr, tk', os⟩) (fun R' hR' => ?_) ?_
    · iterate 10 walk1
      refine kup_newTuple (by assumption) (by assumption) (fun D h₃ F₃ N₃ l3 => ?_) (by simp [sizeLine_eq])
      iterate 3 walk1
      · rename_i hk
        replace N₃ := News.sub N₃ (fun q hq => List.mem_cons_of_mem _ hq)
        apply o1_3 (kt_word hkt hk)
        intro tkn htk ek et
        subst ek et
        have hin := strength_of w.params tkn (any2 hk)
        rw [if_pos (by unfold strengthAt at hst; rw [htk] at hst; exact hst)] at hin
        iterate 4 walk1
        refine in_str0 (by assumption) X hin ?_
        iterate 5 walk1
        exact hR' _ _ (by assumption) N₃
      · replace N₃ := News.sub N₃ (fun q hq => List.mem_cons_of_mem _ hq)
        iterate 3 walk1
        exact hR' _ _ (by assumption) N₃
    · intro h₃ tk₃ F₃ N₃
      iterate 10 walk1
      · rename_i hk
        iterate 9 walk1
        refine kup_newTuple (by assumption) N₃ (fun D₂ h₈ F₈ N₈ l8 => ?_) (by simp [sizeLine_eq])
        exact hR _ _ (stLed la (⟨x, aa, oa, pa, va, vo, vp, ca, co, cp⟩ :: ls) c) ((D₂, _) :: led₁) _ _ F₈ (News.swap (mt' := stLed la (⟨x, aa, oa, pa, va, vo, vp, ca, co, cp⟩ :: ls) c) (led := led₁) N₈) (Sep.add S₁ l8) (fun q hq => .tail _ (hs₁ q hq)) (.inr ⟨lv :: lvs, opr_top hst (eq_of_beq hk), ⟨_, c, rfl, hls₁.mono (fun q hq => .tail _ hq), hap⟩, .tuple (.head _) (.cons (.int _ _) (.cons (.str _ _) .nil))⟩)
      · rename_i hk
        have hk' := ne_of_beqF hk
        iterate 2 walk1
        by_cases hcm : row[p]? = some .comma ∧ lv.kind ≠ Str.ofString "group"
        · have ek := (kt_comma hkt hcm.1).1
          have et := (kt_comma hkt hcm.1).2
          subst ek et
          iterate 24 walk1
          · rename_i hg
            apply o3_1 (comma_join hst hk' hcm hju)
            intro d ds' os' hj
            iterate 14 walk1
            refine use_join (ls := ls) (c := c) 0 rfl hj (by rw [List.append_nil] at ap0; exact ap0) zo zp led₁ (by assumption) (by assumption) X (by assumption) T rfl S₁ hok₁ (by first | exact roomD hd (by decide) | (show dp + 1 + _ ≤ 900; omega)) (by first | exact roomU hu (by decide) | (show un + 3 + _ ≤ 9000; omega)) ?_
            intro vo' co' vp' cp' keep₅ h₅ tk₅ F₅ N₅ S₅ hs₅ hvo' hvp'
            apply o2_3 (inCons hvo')
            intro v vo₂ ev hvd hvo₂
            subst ev
            have up₅ : ∀ {A B C D : Addr × Obj} {q : Addr × Obj}, q ∈ keep₅ → q ∈ A :: B :: C :: D :: (lvsLed ls ++ keep₅) := fun h => List.mem_cons_of_mem _ (List.mem_cons_of_mem _ (List.mem_cons_of_mem _ (List.mem_cons_of_mem _ (List.mem_append_right _ h))))
            have N₅ := N₅
            have hx1a : _ ∈ (la, rl (.ref x :: ls.map fun l => .ref l.x) c) :: (aa, listOf va.toArray ca) :: (oa, rl (v :: vo₂) co') :: (pa, rl vp' cp') :: (lvsLed ls ++ keep₅) := up₅ (hs₅ _ hx1)
            have hx2a : _ ∈ (la, rl (.ref x :: ls.map fun l => .ref l.x) c) :: (aa, listOf va.toArray ca) :: (oa, rl (v :: vo₂) co') :: (pa, rl vp' cp') :: (lvsLed ls ++ keep₅) := up₅ (hs₅ _ hx2)
            have hap₅ : Apart (stLed la (⟨x, aa, oa, pa, va, v :: vo₂, vp', ca, co', cp'⟩ :: ls) c) := hap.same rfl
            clear hx1' hx2'
            have zl := joinUp_len _ _ _ _ _ hj
            simp only [List.length_cons] at zl
            iterate 15 walk1
            refine pop_rl (D := oa) (vs := vo₂) (n := co') (by assumption) (by assumption) (top_ap hap₅ S₅).updO (by rw [hvo₂.length]; omega) (fun h₆ F₆ N₆ => ?_)
            iterate 1 walk1
            refine push_l (D := aa) (vs := va) (n := ca) F₆ N₆ (top_ap (hap.same rfl : Apart (stLed la (⟨x, aa, oa, pa, va, vo₂, vp', ca, co' + 1, cp'⟩ :: ls) c)) (S₅.same rfl)).updA (by rw [hva.length]; omega) (fun h₇ F₇ N₇ => ?_)
            replace N₇ : News g L h₇ (stLed la (⟨x, aa, oa, pa, va ++ [v], vo₂, vp', ca + 1, co' + 1, cp'⟩ :: ls) c ++ keep₅) := N₇
            iterate 11 walk1
            refine kup_newTuple (by assumption) N₇ (fun D₂ h₈ F₈ N₈ l8 => ?_) (by simp [sizeLine_eq])
            refine hR _ _ _ ((D₂, _) :: keep₅) _ _ F₈ (News.swap N₈) (Sep.add (S₅.same rfl) l8) (fun q hq => .tail _ (hs₅ q (hs₁ q hq))) (.inl ⟨{ lv with opds := ds', oprs := os', args := lv.args ++ [d] } :: lvs, true, p + 1, (by rw [opr_comma hst hk' hcm, hj]; rfl), ⟨_, c, rfl, .cons ⟨hlv0.mono ?_, datAll_snoc (hvd.mono ?_) (hva.mono ?_), hvo₂.mono ?_, hvp'.mono ?_⟩ (hlr.mono ?_), hap.same rfl⟩, .tuple (.head _) (.cons (.int _ _) (.cons (.str _ _) .nil))⟩)
            all_goals exact fun q hq => .tail _ (by first | exact hs₅ q hq | exact hq)
          · rename_i hg
            exact absurd hcm.2 (by simpa using hg)
        · refine wp_cut (fun R' => ∀ h' tk', Fr g L h' (fun y => if y = Str.ofString "here" then some (Value.ref x) else if y = Str.ofString "told" then some (Value.str td t2) else if y = Str.ofString "kind" then some (Value.str kd t1) else [(Str.ofString "levels", Value.ref la), (Str.ofString "tokens", Value.ref ra), (Str.ofString "at", Value.int p t)].reverse.lookup y) → News g L h' ((la, rl (.ref x :: ls.map fun l => .ref l.x) c) :: (aa, listOf va.toArray ca) :: (oa, rl vo co) :: (pa, rl vp cp) :: (lvsLed ls ++ led₁)) → R' Flow.next ⟨h', gs, dr, tk', os⟩) (fun R' hR' => ?_) ?_
          · iterate 8 walk1
            · rename_i h1
              have h1' := eq_of_beq h1
              iterate 7 walk1
              · rename_i h2
                have hco := hkt.comma h1' (eq_of_beq h2)
                iterate 9 walk1
                · rename_i hg
                  exact absurd ⟨hco, by simpa using hg⟩ hcm
                · iterate 3 walk1
                  exact hR' _ _ (by assumption) (by assumption)
              · iterate 3 walk1
                exact hR' _ _ (by assumption) (by assumption)
            · iterate 3 walk1
              exact hR' _ _ (by assumption) (by assumption)
          · intro h₄ tk₄ F₄ N₄
            iterate 13 walk1
            refine use_expect hr p (sg := .rpar) rfl rfl (stLed la (⟨x, aa, oa, pa, va, vo, vp, ca, co, cp⟩ :: ls) c) led₁ (by assumption) (by assumption) X (by assumption) T rfl S₁ hrow₁ (by first | exact roomD hd (by decide) | (show dp + 1 + _ ≤ 900; omega)) (by first | exact roomU hu (by decide) | (show un + 3 + _ ≤ 9000; omega)) ?_ ?_
            · intro e h' tk' g₂ hq Fg U hf
              exact hE2 _ e g₂ _ _ _ Fg U (hf.mono hs₁) (opr_fail hst hk' hcm hq)
            intro u keep' h₅ tk₅ F₅ N₅ S₅ hs₅ hop
            apply o3_2 (rpar_fin hst hk' hcm hop hju)
            intro d lv2 lvs2 hfin el
            subst el
            apply o2_3 (lvs_cons hlr)
            intro l2 ls2 el hl2 hlr2
            subst el
            obtain ⟨x2, aa2, oa2, pa2, va2, vo2, vp2, ca2, co2, cp2⟩ := l2
            replace N₅ : News g L h₅ ((la, rl (.ref x :: .ref x2 :: ls2.map fun l => .ref l.x) c) :: (aa, listOf va.toArray ca) :: (oa, rl vo co) :: (pa, rl vp cp) :: (lvsLed (⟨x2, aa2, oa2, pa2, va2, vo2, vp2, ca2, co2, cp2⟩ :: ls2) ++ keep')) := N₅
            iterate 8 walk1
            refine pop_rl (D := la) (v := .ref x) (vs := .ref x2 :: ls2.map fun l => .ref l.x) (n := c) (by assumption) (by assumption) (top_ap hap S₅).updL (by have h1 := hfit.1; have h2 := hlr2.len; simp only [List.length_map, List.length_cons] at h1 ⊢; omega) (fun h₆ F₆ N₆ => ?_)
            apply o4_2 (hl2.is.mono hs₅)
            intro dx2 y3 y4 k2 hz1 hz2
            have up₆ : ∀ {A B C D : Addr × Obj} {q : Addr × Obj}, q ∈ keep' → q ∈ A :: B :: C :: D :: (lvsLed (⟨x2, aa2, oa2, pa2, va2, vo2, vp2, ca2, co2, cp2⟩ :: ls2) ++ keep') := fun h => List.mem_cons_of_mem _ (List.mem_cons_of_mem _ (List.mem_cons_of_mem _ (List.mem_cons_of_mem _ (List.mem_append_right _ h))))
            have hz1' : _ ∈ (la, rl (.ref x2 :: ls2.map fun l => .ref l.x) (c + 1)) :: (aa, listOf va.toArray ca) :: (oa, rl vo co) :: (pa, rl vp cp) :: (lvsLed (⟨x2, aa2, oa2, pa2, va2, vo2, vp2, ca2, co2, cp2⟩ :: ls2) ++ keep') := up₆ hz1
            have hz2' : _ ∈ (la, rl (.ref x2 :: ls2.map fun l => .ref l.x) (c + 1)) :: (aa, listOf va.toArray ca) :: (oa, rl vo co) :: (pa, rl vp cp) :: (lvsLed (⟨x2, aa2, oa2, pa2, va2, vo2, vp2, ca2, co2, cp2⟩ :: ls2) ++ keep') := up₆ hz2
            clear hx1' hx2'
            iterate 9 walk1
            refine item_last (by assumption) (.head _) ?_
            iterate 11 walk1
            have hpo : stepOpr row (lv :: lv2 :: lvs2) p = .go ({ lv2 with opds := d :: lv2.opds } :: lvs2) false (p + 1) := by rw [opr_rpar hst hk' hcm hop, hfin]; rfl
            have hap₂ : Apart (stLed la (⟨x2, aa2, oa2, pa2, va2, vo2, vp2, ca2, co2, cp2⟩ :: ls2) (c + 1)) := Apart.cons hap.tail.tail.tail.tail (fun q hq => hap.head q (.tail _ (.tail _ (.tail _ hq))))
            refine useXd (fin_st w la x aa oa pa va vo vp ca co cp (rl (.ref x2 :: ls2.map fun l => .ref l.x) (c + 1)) (lvsLed (⟨x2, aa2, oa2, pa2, va2, vo2, vp2, ca2, co2, cp2⟩ :: ls2)) lv d hfin (by rw [List.append_nil] at ap0; exact ap0) (by rw [hva.length]; omega) zo zp) [] keep' (by assumption) (by assumption) X (by assumption) T rfl (Sep.nil _) (S₅.same rfl) ⟨hlv0.mono hs₅, hva.mono hs₅, hvo.mono hs₅, hvp.mono hs₅⟩ (by first | exact roomD hd (by decide) | (show dp + 1 + _ ≤ 900; omega)) (by first | exact roomU hu (by decide) | (show un + 3 + _ ≤ 9000; omega)) ?_
            intro v keep₇ h₇ tk₇ F₇ N₇ _ S₇ hs₇ hvd
            replace N₇ : News g L h₇ ((la, rl (.ref x2 :: ls2.map fun l => .ref l.x) (c + 1)) :: (aa2, listOf va2.toArray ca2) :: (oa2, rl vo2 co2) :: (pa2, rl vp2 cp2) :: (lvsLed ls2 ++ keep₇)) := N₇
            have hf2 := hfit.2 lv2 (.tail _ (.head _))
            iterate 1 walk1
            refine push_rl (D := oa2) (v := v) (vs := vo2) (n := co2) F₇ N₇ (top_ap hap₂ S₇).updO (by rw [hl2.opds.length]; omega) (fun h₈ F₈ N₈ => ?_)
            replace N₈ : News g L h₈ (stLed la (⟨x2, aa2, oa2, pa2, va2, v :: vo2, vp2, ca2, co2 + 1, cp2⟩ :: ls2) (c + 1) ++ keep₇) := N₈
            iterate 8 walk1
            refine kup_newTuple (by assumption) N₈ (fun D₂ h₉ F₉ N₉ l9 => ?_) (by simp [sizeLine_eq])
            refine hR _ _ _ ((D₂, _) :: keep₇) _ _ F₉ (News.swap N₉) (Sep.add (S₇.same rfl) l9) (fun q hq => .tail _ (hs₇ q (hs₅ q (hs₁ q hq)))) (.inl ⟨_, false, p + 1, hpo, ⟨_, c + 1, rfl, .cons ⟨hl2.is.mono ?_, hl2.args.mono ?_, .cons (hvd.mono ?_) (hl2.opds.mono ?_), hl2.oprs.mono ?_⟩ (hlr2.mono ?_), hap₂.same rfl⟩, .tuple (.head _) (.cons (.int _ _) (.cons (.str _ _) .nil))⟩)
            all_goals exact fun q hq => .tail _ (by first | exact hs₇ q (hs₅ q hq) | exact hq)
  · apply o1_3 (kt_bin hkt hst)
    intro tkn htk ek et
    subst ek et
    have hbin : strengthAt row p = tkn.bin := by unfold strengthAt; rw [htk]
    have htold : toldAt row p = tkn.told := by unfold toldAt; rw [htk]
    rw [hbin] at hst
    have hkind : tkn.kind = Str.ofString "sign" ∨ tkn.kind = Str.ofString "word" := Decidable.byContradiction fun h => hst (bin_zero tkn h)
    have hin := strength_of w.params tkn hkind
    rw [if_neg hst] at hin
    iterate 12 walk1
    refine kup_newTuple (by assumption) (by assumption) (fun D h₃ F₃ N₃ l3 => ?_) (by simp [sizeLine_eq])
    iterate 3 walk1
    · rename_i hk
      replace N₃ := News.sub N₃ (fun q hq => List.mem_cons_of_mem _ hq)
      iterate 4 walk1
      refine in_str1 (by assumption) X hin ?_
      iterate 16 walk1
      refine item_str (by assumption) X hin ?_
      apply o2_1 (bin_join hbin hst hju)
      intro ds' os' hj


      iterate 2 walk1
      refine use_join (ls := ls) (c := c) tkn.bin rfl hj (by rw [List.append_nil] at ap0; exact ap0) zo zp led₁ (by assumption) (by assumption) X (by assumption) T rfl S₁ hok₁ (by first | exact roomD hd (by decide) | (show dp + 1 + _ ≤ 900; omega)) (by first | exact roomU hu (by decide) | (show un + 3 + _ ≤ 9000; omega)) ?_
      intro vo' co' vp' cp' keep₅ h₅ tk₅ F₅ N₅ S₅ hs₅ hvo' hvp'
      have up₅ : ∀ {q : Addr × Obj}, q ∈ keep₅ → q ∈ (la, rl (.ref x :: ls.map fun l => .ref l.x) c) :: (aa, listOf va.toArray ca) :: (oa, rl vo' co') :: (pa, rl vp' cp') :: (lvsLed ls ++ keep₅) := fun h => List.mem_cons_of_mem _ (List.mem_cons_of_mem _ (List.mem_cons_of_mem _ (List.mem_cons_of_mem _ (List.mem_append_right _ h))))
      have N₅' : News g L h₅ ((la, rl (.ref x :: ls.map fun l => .ref l.x) c) :: (aa, listOf va.toArray ca) :: (oa, rl vo' co') :: (pa, rl vp' cp') :: (lvsLed ls ++ keep₅)) := N₅
      have hx1a := up₅ (hs₅ _ hx1)
      have hx2a := up₅ (hs₅ _ hx2)
      have hap₅ : Apart (stLed la (⟨x, aa, oa, pa, va, vo', vp', ca, co', cp'⟩ :: ls) c) := hap.same rfl
      clear N₅ N₃ hx1' hx2'
      iterate 16 walk1
      refine item_str (by assumption) X hin ?_
      iterate 1 walk1
      refine kup_newTuple (by assumption) N₅' (fun D' h₆ F₆ N₆ l6 => ?_) (by simp [sizeLine_eq])
      iterate 1 walk1
      refine push_rl (D := pa) (v := .ref D') (vs := vp') (n := cp') F₆ N₆ (.tail (Nat.ne_of_gt (l6 _ (.tail _ (.tail _ (.tail _ (.head _)))))) (top_ap hap₅ S₅).updP) (by have := joinUp_len _ _ _ _ _ hj; rw [hvp'.length, List.length_map]; omega) (fun h₇ F₇ N₇ => ?_)
      replace N₇ : News g L h₇ (stLed la (⟨x, aa, oa, pa, va, vo', .ref D' :: vp', ca, co', cp' + 1⟩ :: ls) c ++ (D', _) :: keep₅) := News.swap N₇
      iterate 11 walk1
      refine kup_newTuple (by assumption) N₇ (fun D₂ h₈ F₈ N₈ l8 => ?_) (by simp [sizeLine_eq])
      refine hR _ _ _ ((D₂, _) :: (D', _) :: keep₅) _ _ F₈ (News.swap N₈) (Sep.add ((Sep.add S₅ l6).same rfl) l8) (fun q hq => .tail _ (.tail _ (hs₅ q (hs₁ q hq)))) (.inl ⟨{ lv with opds := ds', oprs := (tkn.told, tkn.bin) :: os' } :: lvs, true, p + 1, (by rw [opr_bin hbin hst, hj, opr1, htold]), ⟨_, c, rfl, .cons ⟨hlv0.mono ?_, hva.mono ?_, hvo'.mono ?_, .cons (.tuple (.tail _ (.head _)) (.cons (.str _ _) (.cons (.int _ _) .nil))) (hvp'.mono ?_)⟩ (hlr.mono ?_), hap.same rfl⟩, .tuple (.head _) (.cons (.int _ _) (.cons (.str _ _) .nil))⟩)
      all_goals exact fun q hq => .tail _ (.tail _ (by first | exact hs₅ q hq | exact hq))
    · rename_i hk
      rcases hkind with h | h <;> (rw [h] at hk; exact absurd hk (by decide))
end
section
open PySem PySem.W PyProof.Rows PySem.Calls PyProof.V PySem.Spec Builtin Builtin.ObjectAttr
set_option maxRecDepth 100000
set_option maxHeartbeats 1000000
section
variable {row : List Tk} {lvs lvs' : List Lv} {o : Bool} {p p' n : Nat} {res : Res}
theorem run_bad (hs : step row lvs o p = .fail p') (h : run (n + 1) row lvs o p = some res) : res = .bad p' := by
  unfold run at h; rw [hs] at h; exact (Option.some.inj h).symm
theorem run_nojunk (h : run (n + 1) row lvs o p = some res) : step row lvs o p ≠ .junk := fun hs => by
  unfold run at h; rw [hs] at h; cases h
theorem run_fin (hs : step row lvs o p = .fin lvs' p') (h : run (n + 1) row lvs o p = some res) : ∃ lv d, lvs' = [lv] ∧ finLv lv = some d ∧ res = .ok d p' := by
  unfold run at h; rw [hs] at h
  rcases lvs' with _ | ⟨lv, _ | ⟨a, b⟩⟩
  · cases h
  · obtain ⟨d, h1, h2⟩ := Option.map_eq_some_iff.mp h
    exact ⟨lv, d, rfl, h1, h2.symm⟩
  · cases h
end
theorem pair_bool {led : Led} {v : Value} {i : Int} {b : Bool} (h : DatIn led v (.tuple [.int i, .bool b])) : ∃ a n t, v = .ref a ∧ (a, tupO [.int i t, .bool b] n) ∈ led := by
  obtain ⟨a, n, p, q, e, hm, h1, h2⟩ := pair_open h
  obtain ⟨t1, rfl⟩ := inInt h1
  obtain rfl := inBool h2
  exact ⟨a, n, t1, e, hm⟩
theorem pair_str {led : Led} {v : Value} {i : Int} {x : Str} (h : DatIn led v (.tuple [.int i, .str x])) : ∃ a n t u, v = .ref a ∧ (a, tupO [.int i t, .str x u] n) ∈ led := by
  obtain ⟨a, n, p, q, e, hm, h1, h2⟩ := pair_open h
  obtain ⟨t1, rfl⟩ := inInt h1
  obtain ⟨t2, rfl⟩ := inStr h2
  exact ⟨a, n, t1, t2, e, hm⟩
theorem over5 {m : Str → Option Value} {a b c d e : Str} {v1 v2 v3 v4 v5 : Value} (h1 : m a = some v1) (h2 : m b = some v2) (h3 : m c = some v3) (h4 : m d = some v4) (h5 : m e = some v5) : m = over [(a, v1), (b, v2), (c, v3), (d, v4), (e, v5)] m := (over_self fun q hq => by
  simp only [List.mem_cons, List.not_mem_nil, or_false] at hq
  rcases hq with rfl | rfl | rfl | rfl | rfl <;> assumption).symm
theorem fin_same {row : List Tk} {lvs l2 : List Lv} {p p2 : Nat} (h : stepOpr row lvs p = .fin l2 p2) : l2 = lvs := by
  cases lvs with
  | nil => cases h
  | cons lv r =>
    by_cases h0 : strengthAt row p = 0
    · by_cases hk : lv.kind = Str.ofString "top"
      · rw [opr_top h0 hk] at h; cases h; rfl
      · by_cases hc : row[p]? = some .comma ∧ lv.kind ≠ Str.ofString "group"
        · rw [opr_comma h0 hk hc] at h
          generalize joinUp 0 lv.opds lv.oprs = z at h
          rcases z with _ | ⟨_ | ⟨d, ds⟩, os⟩ <;> cases h
        · by_cases hr : row[p]? = some .rpar
          · rw [opr_rpar h0 hk hc hr] at h
            generalize finLv lv = z at h
            rcases z with _ | d <;> rcases r with _ | ⟨lv', r'⟩ <;> cases h
          · rw [opr_fail h0 hk hc hr] at h; cases h
    · rw [opr_bin rfl h0] at h
      generalize joinUp (strengthAt row p) lv.opds lv.oprs = z at h
      rcases z with _ | ⟨ds, os⟩ <;> cases h
theorem run_pos {row : List Tk} {lvs : List Lv} {o : Bool} {p n : Nat} {res : Res} (h : run n row lvs o p = some res) : ∃ k, n = k + 1 := by
  cases n with
  | zero => unfold run at h; cases h
  | succ k => exact ⟨k, rfl⟩
theorem lvs_ne {w : World} {keep : Led} {ls : List LvH} {lvs : List Lv} (hne : lvs ≠ []) (h : LvsOk w keep ls lvs) : ∃ lv r l q, lvs = lv :: r ∧ ls = l :: q := by
  cases h with
  | nil => exact absurd rfl hne
  | cons a b => exact ⟨_, _, _, _, rfl, rfl⟩
theorem lvs_one {w : World} {keep : Led} {ls : List LvH} {lv : Lv} (h : LvsOk w keep ls [lv]) : ∃ l, ls = [l] ∧ LvOk w keep l lv := by
  cases h with
  | cons a b => cases b; exact ⟨_, rfl, a⟩
/-- between two turns of the machine's loop -/
noncomputable def XpJ (w : World) (row : List Tk) (res : Res) (la ra kD : Addr) (keep : Led) (n : Nat) (m : Str → Option Value) (led : Led) : Prop :=
  ∃ u due td tp lvs p mt keep', m = over [(Str.ofString "levels", .ref la), (Str.ofString "due", .str due td), (Str.ofString "known", .ref kD), (Str.ofString "tokens", .ref ra), (Str.ofString "at", .int (p : Nat) tp)] u ∧ led = mt ++ keep' ∧ Sep mt keep' ∧ (∀ q ∈ keep, q ∈ keep') ∧ MS w la keep' mt lvs ∧ Fit p lvs ∧ p ≤ row.length ∧ lvs ≠ [] ∧
    ((∃ o, due = Str.ofString (if o then "operand" else "operator") ∧ run n row lvs o p = some res) ∨ (n = 0 ∧ due = Str.ofString "end" ∧ ∃ lv d, lvs = [lv] ∧ finLv lv = some d ∧ res = .ok d p))
theorem expression_ (w : World) (ra : Addr) (row : List Tk) (hr : row.length ≤ 20) (t : Tok) (n : Nat) (res : Res) (hrun : run n row [topLv] true 0 = some res) :
    CallsE w 181 [.ref ra, .int 0 t] 40 600 [] (fun keep => RowIn keep ra row) (fun mt' keep' v => ∃ d q, res = .ok d q ∧ DatIn keep' v (.tuple [d, .int (q : Nat)])) (fun q => res = .bad q) := by
  refine callsE_ofR I_expression [(Str.ofString "tokens", .ref ra), (Str.ofString "at", .int 0 t)] (fun s => BindsTo.of_eq rfl) (by rfl) ?_
  k_fill
  intro mean mg mb dp un gd cn cs L₀ a ccd cl outer base g L keep hp₀ gs dr tk₀ os PP EE hpo hR hE1 hE2 B F X N S T hP hd hu
  dsimp only [D_expression, B_expression] at hpo hE1 hE2 ⊢
  have N₀ : News g L hp₀ keep := N
  clear N
  iterate 15 walk1
  refine level_new (by assumption) (by assumption) X N₀ T rfl (by first | exact roomD hd (by decide) | (show dp + 1 + _ ≤ 900; omega)) (by first | exact roomU hu (by decide) | (show un + 3 + _ ≤ 9000; omega)) (fun x dx aa oa pa k h₁ tk₁ F₁ N₁ l1 l2 l3 l4 l5 => ?_)
  iterate 2 walk1
  rename_i la h₂ F₂ N₂ l6
  obtain ⟨q1, q2, q3, q4, q5, q6⟩ := l6
  have hap : Apart (stLed la [⟨x, aa, oa, pa, [], [], [], 0, 0, 0⟩] 0) := by
    refine Apart.cons (Apart.cons (Apart.cons (Apart.cons (by exact List.nodup_nil) (fun _ h => nomatch h)) ?_) ?_) ?_
    · intro q hq
      rw [List.mem_singleton.mp hq]; exact Nat.ne_of_gt l5
    · intro q hq
      rcases List.mem_cons.mp hq with rfl | hq
      · exact Nat.ne_of_gt l4
      · rw [List.mem_singleton.mp hq]; exact Nat.ne_of_gt (Nat.lt_trans l4 l5)
    · intro q hq
      rcases List.mem_cons.mp hq with rfl | hq
      · exact Nat.ne_of_lt q3
      rcases List.mem_cons.mp hq with rfl | hq
      · exact Nat.ne_of_lt q2
      · rw [List.mem_singleton.mp hq]; exact Nat.ne_of_lt q1
  have S₂ : Sep (stLed la [⟨x, aa, oa, pa, [], [], [], 0, 0, 0⟩] 0) ((x, instObj 128 dx) :: (dx, dictOf (lvEnts w.params (Str.ofString "top") (Str.ofString "") aa oa pa tk₀ (tk₀ + 1) k) 5) :: keep) := by
    have ka : ∀ p ∈ keep, p.1 < x := fun p hp => Nat.lt_trans (l1 p hp) l2
    intro q hq p hp
    have hp' : p.1 < aa := by
      rcases List.mem_cons.mp hp with rfl | hp
      · exact l3
      rcases List.mem_cons.mp hp with rfl | hp
      · exact Nat.lt_trans l2 l3
      · exact Nat.lt_trans (ka p hp) l3
    rcases List.mem_cons.mp hq with rfl | hq
    · exact Nat.ne_of_lt (Nat.lt_trans hp' q3)
    rcases List.mem_cons.mp hq with rfl | hq
    · exact Nat.ne_of_lt hp'
    rcases List.mem_cons.mp hq with rfl | hq
    · exact Nat.ne_of_lt (Nat.lt_trans hp' l4)
    · rw [List.mem_singleton.mp hq]; exact Nat.ne_of_lt (Nat.lt_trans hp' (Nat.lt_trans l4 l5))
  have N₃ : News g L h₂ (stLed la [⟨x, aa, oa, pa, [], [], [], 0, 0, 0⟩] 0 ++ ((x, instObj 128 dx) :: (dx, dictOf (lvEnts w.params (Str.ofString "top") (Str.ofString "") aa oa pa tk₀ (tk₀ + 1) k) 5) :: keep)) := News.sub N₂ (fun q hq => by
    rcases List.mem_cons.mp hq with rfl | hq
    · exact .head _
    rcases List.mem_cons.mp hq with rfl | hq
    · exact .tail _ (.tail _ (.tail _ (.head _)))
    rcases List.mem_cons.mp hq with rfl | hq
    · exact .tail _ (.tail _ (.head _))
    rcases List.mem_cons.mp hq with rfl | hq
    · exact .tail _ (.head _)
    · exact .tail _ (.tail _ (.tail _ (.tail _ hq))))
  have hlv : LvsOk w ((x, instObj 128 dx) :: (dx, dictOf (lvEnts w.params (Str.ofString "top") (Str.ofString "") aa oa pa tk₀ (tk₀ + 1) k) 5) :: keep) [⟨x, aa, oa, pa, [], [], [], 0, 0, 0⟩] [topLv] := .cons ⟨⟨dx, _, _, k, .head _, .tail _ (.head _)⟩, .nil, .nil, .nil⟩ .nil
  clear N₂
  iterate 6 walk1
  refine use1 (own := stLed la [⟨x, aa, oa, pa, [], [], [], 0, 0, 0⟩] 0) (functions_ w) (by assumption) (by assumption) X N₃ T rfl S₂ trivial (by first | exact roomD hd (by decide) | (show dp + 1 + _ ≤ 900; omega)) (by first | exact roomU hu (by decide) | (show un + 3 + _ ≤ 9000; omega)) ?_
  rintro v keep₃ h₃ tk₃ F₃ N₄ S₃ hs₃ hkn
  apply o2_3 hkn
  intro kD kl ev hk1 hk2
  subst ev
  clear N₃
  iterate 15 walk1
  refine wp_hide fun QQ hQ => ?_
  refine While_R (XpJ w row res la ra kD keep₃) (n₀ := n) (by assumption) (News.sub (by assumption) (fun q hq => List.mem_cons_of_mem _ hq)) ⟨_, _, _, _, [topLv], 0, _, keep₃, over5 rfl rfl rfl rfl rfl, rfl, S₃, fun q hq => hq, ⟨_, 0, rfl, hlv.mono hs₃, hap⟩, ⟨Nat.le_refl _, fun lv hl => by rw [List.mem_singleton.mp hl]; exact ⟨Nat.zero_le _, Nat.zero_le _, Nat.zero_le _⟩⟩, Nat.zero_le _, by simp, .inl ⟨true, rfl, hrun⟩⟩ ?_
  intro n' m₁ led₁ h₅ tk₅ WW hn hb hw F₅ N₅ hJ
  apply o8_9 hJ
  intro u due td tp lvs p mt keep' em el S₅ hsub hms hfit hp hne hcase
  subst em el
  have hsub' : ∀ q ∈ keep, q ∈ keep' := fun q hq => hsub q (hs₃ q (.tail _ (.tail _ hq)))
  have hrow₅ := hP.mono hsub'
  have hkn₅ : KnownIn keep' (.ref kD) := ⟨kD, kl, rfl, hsub _ hk1, hk2⟩
  clear hlv hap S₂ hs₃ S₃
  rcases hcase with hcase | hcase
  · apply o1_2 hcase
    intro o ed hrn
    subst ed
    apply Exists.elim (run_pos hrn)
    intro n₁ en
    subst en
    apply o2_3 hms
    intro ls₀ c em hls hap
    subst em
    apply o4_2 (lvs_ne hne hls)
    intro lv lvs₁ l ls el₁ el₂
    subst el₁ el₂
    cases o with
    | true =>
      iterate 31 walk1
      refine useE (take_operand_ w la ra kD row hr p _ _ rfl lv lvs₁ l ls c hap hfit hp) [] keep' (by assumption) (by assumption) X (by assumption) T rfl (Sep.nil _) S₅ ⟨hrow₅, hkn₅, hls⟩ (by first | exact roomD hd (by decide) | (show dp + 1 + _ ≤ 900; omega)) (by first | exact roomU hu (by decide) | (show un + 3 + _ ≤ 9000; omega)) ?_ ?_
      · intro e q h' tk' g₂ hq Fg U hf
        exact hE2 q e g₂ _ _ _ Fg U (hf.mono hsub') (run_bad (show step row (lv :: lvs₁) true p = _ from hq) hrn)
      intro v mt₆ keep₆ h₆ tk₆ F₆ N₆ _ S₆ hs₆ hpost
      apply o3_3 hpost
      intro lvs2 o2 p2 hst hms2 hv
      apply o3_2 (pair_bool hv)
      intro tv nv ti ev hm
      subst ev
      have hsf := stepOpd_fit hst hfit hne
      have hfit2 := hsf.1
      have hp2 := hsf.2.2.1
      have hne2 := hsf.2.2.2
      rw [run_succ (show step row (lv :: lvs₁) true p = _ from hst)] at hrn
      replace N₆ : News g L h₆ (mt₆ ++ keep₆) := N₆
      have hm' := List.mem_append_right mt₆ hm
      cases o2 with
      | true =>
        iterate 20 walk1
        exact hn n₁ _ _ _ _ (Nat.lt_succ_self _) (by assumption) (by assumption) ⟨_, _, _, _, lvs2, p2, mt₆, keep₆, over5 rfl rfl rfl rfl rfl, rfl, S₆, fun q hq => hs₆ q (hsub q hq), hms2, hfit2, hp2, hne2, .inl ⟨true, rfl, hrn⟩⟩
      | false =>
        iterate 20 walk1
        exact hn n₁ _ _ _ _ (Nat.lt_succ_self _) (by assumption) (by assumption) ⟨_, _, _, _, lvs2, p2, mt₆, keep₆, over5 rfl rfl rfl rfl rfl, rfl, S₆, fun q hq => hs₆ q (hsub q hq), hms2, hfit2, hp2, hne2, .inl ⟨false, rfl, hrn⟩⟩
    | false =>
      iterate 29 walk1
      refine useE (take_operator_ w la ra row hr p _ _ rfl lv lvs₁ l ls c hap hfit hp (run_nojunk hrn)) [] keep' (by assumption) (by assumption) X (by assumption) T rfl (Sep.nil _) S₅ ⟨hrow₅, hls⟩ (by first | exact roomD hd (by decide) | (show dp + 1 + _ ≤ 900; omega)) (by first | exact roomU hu (by decide) | (show un + 3 + _ ≤ 9000; omega)) ?_ ?_
      · intro e q h' tk' g₂ hq Fg U hf
        exact hE2 q e g₂ _ _ _ Fg U (hf.mono hsub') (run_bad (show step row (lv :: lvs₁) false p = _ from hq) hrn)
      intro v mt₆ keep₆ h₆ tk₆ F₆ N₆ _ S₆ hs₆ hpost
      replace N₆ : News g L h₆ (mt₆ ++ keep₆) := N₆
      rcases hpost with hpost | hpost
      · apply o3_3 hpost
        intro lvs2 o2 p2 hst hms2 hv
        apply o4_2 (pair_str hv)
        intro tv nv ti ts ev hm
        subst ev
        have hsf := stepOpr_fit hst hfit
        have hfit2 := hsf.1
        have hp2 := hsf.2.2.1
        have hne2 := hsf.2.2.2
        rw [run_succ (show step row (lv :: lvs₁) false p = _ from hst)] at hrn
        have hm' := List.mem_append_right mt₆ hm
        iterate 11 walk1
        exact hn n₁ _ _ _ _ (Nat.lt_succ_self _) (by assumption) (by assumption) ⟨_, _, _, _, lvs2, p2, mt₆, keep₆, over5 rfl rfl rfl rfl rfl, rfl, S₆, fun q hq => hs₆ q (hsub q hq), hms2, hfit2, hp2, hne2, .inl ⟨o2, rfl, hrn⟩⟩
      · apply o1_3 hpost
        intro lvs2 hst hms2 hv
        apply o4_2 (pair_str hv)
        intro tv nv ti ts ev hm
        subst ev
        have hsame := fin_same hst
        apply o2_3 (run_fin (show step row (lv :: lvs₁) false p = _ from hst) hrn)
        intro lv' d el₃ hfin eres
        subst el₃
        have hm' := List.mem_append_right mt₆ hm
        rw [← hsame] at hfit
        iterate 11 walk1
        exact hn 0 _ _ _ _ (Nat.succ_pos _) (by assumption) (by assumption) ⟨_, _, _, _, [lv'], p, mt₆, keep₆, over5 rfl rfl rfl rfl rfl, rfl, S₆, fun q hq => hs₆ q (hsub q hq), hms2, hfit, hp, by simp, .inr ⟨rfl, rfl, lv', d, rfl, hfin, eres⟩⟩
  · have en := hcase.1
    have ed := hcase.2.1
    apply o2_3 hcase.2.2
    intro lv d el₁ hfin eres
    subst en ed el₁
    apply o2_3 hms
    intro ls₀ c em hls hap
    subst em
    apply o1_2 (lvs_one hls)
    intro l el₂ hlv
    subst el₂
    obtain ⟨x, aa, oa, pa, va, vo, vp, ca, co, cp⟩ := l
    have hfl := hfit.2 lv (.head _)
    iterate 6 walk1
    refine hQ _ _ ?_
    dsimp only
    iterate 12 walk1
    refine item_row (vs := [.ref x].reverse) (p := 0) (by assumption) (.head _) (by simp) (v := .ref x) rfl ?_
    iterate 2 walk1
    have ap0 := top_ap (keep := []) hap (fun _ _ _ h => nomatch h)
    refine useXd (fin_st w la x aa oa pa va vo vp ca co cp (rl [.ref x] c) [] lv d hfin ap0 (by rw [hlv.args.length]; omega) (by rw [hlv.opds.length]; omega) (by rw [hlv.oprs.length, List.length_map]; omega)) [] keep' (by assumption) (by assumption) X (by assumption) T rfl (Sep.nil _) S₅ hlv (by first | exact roomD hd (by decide) | (show dp + 1 + _ ≤ 900; omega)) (by first | exact roomU hu (by decide) | (show un + 3 + _ ≤ 9000; omega)) ?_
    intro v keep₇ h₇ tk₇ F₇ N₇ _ S₇ hs₇ hvd
    replace N₇ : News g L h₇ ([(la, rl [.ref x] c)] ++ keep₇) := N₇
    iterate 3 walk1
    refine kup_newTuple (by assumption) N₇ (fun D₂ h₉ F₉ N₉ l9 => ?_) (by simp [sizeLine_eq])
    exact hR _ _ _ ((D₂, _) :: keep₇) _ _ F₉ (News.swap N₉) (Sep.add S₇ l9) (fun q hq => .tail _ (hs₇ q (hsub' q hq))) ⟨d, p, eres, .tuple (.head _) (.cons (hvd.mono (fun q hq => .tail _ hq)) (.cons (.int _ _) .nil))⟩
end
section
open PySem PySem.W PyProof.Rows PySem.Calls PyProof.V PySem.Spec
set_option maxRecDepth 100000
set_option maxHeartbeats 1000000
theorem fmod_val (z : Int) {many : Nat} (h : 1 ≤ many) : ∃ r : Nat, z.fmod (many : Int) = (r : Int) ∧ r < many := by
  have h0 : (0 : Int) < many := by omega
  have a := Int.fmod_nonneg_of_pos z h0
  have b := Int.fmod_lt_of_pos z h0
  exact ⟨(z.fmod many).toNat, by omega, by omega⟩
theorem item_rowi {w : World} {A : Around} {E : Value → Shared → Prop} {s : Shared} {g : Heap} {L : Addr} {led : Led} {Q : Value → Shared → Prop} {ra : Addr} {vs : List Value} {v : Value} {n p : Nat} {i : Int} {u : Tok} {value slice : PySem.Expr} (N : News g L s.heap led) (hm : (ra, listOf vs.toArray n) ∈ led) (hz : vs.length ≤ 100) (hi : i = (p : Int)) (hv : vs[p]? = some v) (h : Q v s)
    (hs : subscripted slice false (.ref ra) (.int i u) = operate [.ref ra, .int i u] (getItem (.ref ra) (.int i u)) := by with_unfolding_all rfl) :
    wpAny (model PySem.Challenge.rw_pq0176_01.row.prog w) A (subscriptTail value slice (.ref ra) (.int i u)) Q E s := by
  subst hi
  exact item_row N hm hz hv h hs
noncomputable def IntsOnly (vs : List Value) : Prop := ∀ v ∈ vs, ∃ i t, v = .int i t
noncomputable abbrev jugO (sa : Addr) (k : Nat) (t : Tok) (n : Nat) : Obj := listOf #[.ref sa, .int (k : Nat) t] n
noncomputable def JugIn (keep : Led) (sa : Addr) : Prop := ∃ vs n, (sa, listOf vs.toArray n) ∈ keep ∧ IntsOnly vs ∧ vs.length ≤ 40
noncomputable def IsJug (ja sa : Addr) (k : Nat) (mt : Led) : Prop := ∃ t n, mt = [(ja, jugO sa k t n)]
theorem poured_ (w : World) (ja sa : Addr) (k : Nat) (t : Tok) (n : Nat) (i : Int) (many : Nat) (t2 : Tok) (hi : i = (many : Int)) (h1 : 1 ≤ many) (h2 : many ≤ 20) :
    CallsX w 195 [.ref ja, .int i t2] 3 60 [(ja, jugO sa k t n)] (fun keep => JugIn keep sa) (fun mt' keep' v => IsJug ja sa (k + 1) mt' ∧ ∃ (r : Nat) (u : Tok), v = .int (r : Nat) u ∧ r < many) := by
  subst hi
  refine callsX_of I_poured [(Str.ofString "jug", .ref ja), (Str.ofString "many", .int many t2)] (fun s => BindsTo.of_eq rfl) (by rfl) ?_
  k_fill
  intro mean mg mb dp un gd cn cs L₀ a ccd cl outer base g L keep s B F X N S T hP hd hu
  dsimp only [D_poured, B_poured]
  generalize hPP : EndsX g L keep _ s = PP
  obtain ⟨vs, ns, hsa, hints, hlen⟩ := hP
  have N₀ : News g L s.heap ((ja, jugO sa k t n) :: keep) := N
  clear N
  have so := S _ (.head _)
  iterate 11 walk1
  refine ki_set (by assumption) (by assumption) (by decide) (by decide) rfl (.head so) (fun h₁ F₁ N₁ => ?_)
  clear N₀
  obtain ⟨tj, N₁⟩ : ∃ tj, News g L h₁ ((ja, jugO sa (k + 1) tj n) :: keep) := ⟨_, N₁⟩
  have S₁ : Sep [(ja, jugO sa (k + 1) tj n)] keep := Sep.one so
  iterate 16 walk1
  refine len_row (by assumption) (List.mem_cons_of_mem _ hsa) (by omega) ?_
  by_cases hlt : k + 1 ≤ vs.length
  · obtain ⟨v, hv⟩ : ∃ v, vs[k]? = some v := ⟨_, List.getElem?_eq_getElem (by omega)⟩
    obtain ⟨z, tz, rfl⟩ := hints _ (List.mem_of_getElem? hv)
    iterate 19 walk1
    refine item_rowi (p := k) (by assumption) (List.mem_cons_of_mem _ hsa) (by omega) (by omega) hv ?_
    iterate 2 walk1
    obtain ⟨r, hr, hr2⟩ := fmod_val z h1
    subst hPP
    exact endsX (mt' := [_]) (by assumption) N₁ S₁ (fun _ h => h) ⟨⟨_, _, rfl⟩, r, _, by rw [hr], hr2⟩
  · iterate 26 walk1
    obtain ⟨r, hr, hr2⟩ := fmod_val ((4 * ((k : Int) + 1) + ((k : Int) + 1).fdiv 3)) h1
    subst hPP
    exact endsX (mt' := [_]) (by assumption) N₁ S₁ (fun _ h => h) ⟨⟨_, _, rfl⟩, r, _, congrArg (Value.int · _) hr, hr2⟩
theorem usePour {w : World} {ja sa : Addr} {k : Nat} {t : Tok} {n : Nat} {i : Int} {many : Nat} {t2 : Tok} (hi : i = (many : Int)) (h1 : 1 ≤ many) (h2 : many ≤ 20) (own keep : Led) {mean : ExcName → Option Value} {mg mb : Str → Option Value} {dp un : Nat} {gd : Option (List Code)} {cn : Str} {cs : Scope} {a : Addr} {ccd : Value} {cl : List (Str × Addr)} {outer : List Env} {A₀ : Around} {base h₀ : Heap} {L : Addr} {m : Str → Option Value} {h : Heap} {gs : Array GenState} {dr : Drawn} {tk : Nat} {os : OsState} {Q E : Value → Shared → Prop}
    (B : Below A₀ base outer h₀) (F : Fr h₀ L h m) (X : (K w.params).In h₀) (N : News h₀ L h (own ++ ([(ja, jugO sa k t n)] ++ keep))) (T : Top V LS mean mg mb h₀) (hk : cs.kind = .function) (S : Sep own ([(ja, jugO sa k t n)] ++ keep)) (SM : Sep [(ja, jugO sa k t n)] keep) (hP : JugIn keep sa) (hd : dp + 3 ≤ 900) (hu : un + 60 ≤ 9000)
    (ret : ∀ t' n' r u keep' h' tk', Fr h₀ L h' m → News h₀ L h' (own ++ ((ja, jugO sa (k + 1) t' n') :: keep')) → Sep own ((ja, jugO sa (k + 1) t' n') :: keep') → Sep [(ja, jugO sa (k + 1) t' n')] keep' → (∀ p ∈ keep, p ∈ keep') → r < many → Q (.int (r : Nat) u) ⟨h', gs, dr, tk', os⟩) :
    wpAny (model PySem.Challenge.rw_pq0176_01.row.prog w) (ktrTop dp un gd cn cs L a ccd cl outer) (call (.ref 195) [.ref ja, .int i t2]) Q E ⟨h, gs, dr, tk, os⟩ :=
  useX (s := ⟨h, gs, dr, tk, os⟩) (poured_ w ja sa k t n i many t2 hi h1 h2) own keep B F X N T hk S SM hP hd hu (by
    rintro _ _ keep' h' tk' F' N' S1 S2 hs ⟨⟨t', n', rfl⟩, r, u, rfl, hr⟩
    exact ret t' n' r u keep' h' tk' F' N' S1 S2 hs hr)
end
section
open PySem PySem.W PyProof.Rows PySem.Calls PyProof.V PySem.Spec
set_option maxRecDepth 100000
set_option maxHeartbeats 1000000
theorem JugIn.mono {keep keep' : Led} {sa : Addr} (h : JugIn keep sa) (s : ∀ q ∈ keep, q ∈ keep') : JugIn keep' sa := let ⟨vs, n, a, b, c⟩ := h; ⟨vs, n, s _ a, b, c⟩
noncomputable def bTok : Fin 15 → Tk := fun j => [Tk.bop 0, .bop 1, .bop 2, .bop 3, .bop 4, .plus, .minus, .bop 5, .bop 6, .bop 7, .bop 8, .bop 9, .bop 10, .bop 11, .bop 12].getD j.val .plus
theorem binds_told : ∀ j : Fin 15, bindsL[j.val]?.map (·.1) = some (bTok j).told := by decide +kernel
theorem bTok_in : ∀ j : Fin 15, Txt.contains (Str.ofString "AEIMOX") (Txt.item (bTok j).told 0) = decide ((bTok j).kind = Str.ofString "word") := by decide +kernel
theorem bTok_kind : ∀ j : Fin 15, ¬ (bTok j).kind = Str.ofString "word" → (bTok j).kind = Str.ofString "sign" := by decide +kernel
theorem bTok_len : ∀ j : Fin 15, 1 ≤ (bTok j).told.length := by decide +kernel
theorem list_binds {w : World} {A : Around} {E : Value → Shared → Prop} {s : Shared} {g : Heap} {L : Addr} {led imm : Led} {m : Str → Option Value} {Q : Value → Shared → Prop} {v : Value} (hh : A.handled = none) (F : Fr g L s.heap m) (N : News g L s.heap led) (hb : BindsAt w imm v) (hs : ∀ q ∈ imm, q ∈ led)
    (h : ∀ (B : Addr) (c : Nat) (h' : Heap) (tk : Nat) (vs : List Value), Fr g L h' m → News g L h' ((B, listOf vs.toArray c) :: led) → (∀ q ∈ led, q.1 < B) → vs.length = 15 → (∀ j : Fin 15, ∃ t, vs[j.val]? = some (Value.str (bTok j).told t)) → Q (Value.ref B) { s with heap := h', toks := tk }) :
    wpAny (model PySem.Challenge.rw_pq0176_01.row.prog w) A (call (.type "list") [v]) Q E s := by
  obtain ⟨a, o, rfl, hm, lo, kvs, hD, hf⟩ := hb
  obtain ⟨ep, hat⟩ := (kda_dict N (hs _ hm) hD).dictAt
  have hlen : kvs.length = 15 := hf.length.symm.trans rfl
  refine kdl_N (kdl_dict (knd := PySem.strKind _ _) (kvs := kvs) (ep := ep) lo) hh F N hat (kdl_size (by omega)) fun B c h' tk vs F' N' l1 hl hv => ?_
  refine h B c h' tk vs F' N' l1 (by rw [hl, hlen]) (fun j => ?_)
  have hj : j.val < vs.length := by rw [hl, hlen]; exact j.isLt
  have hu : vs[j.val]? = some vs[j.val] := List.getElem?_eq_getElem hj
  obtain ⟨k, x, hx, hk⟩ := hv j _ hu
  obtain ⟨t, ht⟩ := Value.isStrOf_shape hk
  obtain ⟨dv, hd, _⟩ := hf.at hx
  have z := binds_told j
  have y : bindsT[j.val]? = (bindsL[j.val]?).map fun x => (PyData.str x.1, PyData.int x.2) := List.getElem?_map
  rw [y] at hd
  cases e : bindsL[j.val]? with
  | none => rw [e] at hd; cases hd
  | some b =>
    rw [e] at hd z
    simp only [Option.map_some, Option.some.injEq, Prod.mk.injEq, PyData.str.injEq] at hd z
    exact ⟨t, by rw [hu, ht, ← z, hd.1]⟩
noncomputable def pick3 (r : Nat) (x y z : Value) : Value := if r = 0 then x else if r = 1 then y else z
theorem pick3_at (x y z : Value) {r : Nat} (h : r < 3) : ([x, y, z] : List Value)[r]? = some (pick3 r x y z) := by
  rcases r with _ | _ | _ | r
  · rfl
  · rfl
  · rfl
  · omega
theorem pick3_all {P : Value → Prop} {x y z : Value} (a : P x) (b : P y) (c : P z) (r : Nat) : P (pick3 r x y z) := by
  unfold pick3; split
  · exact a
  · split
    · exact b
    · exact c
theorem allLt_cons {D ja : Addr} {o : Obj} {led : Led} (h1 : ja < D) (h2 : ∀ q ∈ led, q.1 < D) : ∀ q ∈ [(ja, o)] ++ led, q.1 < D := fun q hq => (List.mem_cons.mp hq).elim (fun e => e ▸ h1) (h2 q)
theorem News.ne {g h : Heap} {L : Addr} {led : Led} {a b : Addr} {o p : Obj} (N : News g L h led) (h1 : (a, o) ∈ led) (h2 : (b, p) ∈ led) (hne : o = p → False) : a ≠ b := fun e => by
  subst e
  exact hne (Option.some.inj ((N _ h1).1.symm.trans (N _ h2).1))
noncomputable def seqSize (o : Obj) : Nat := match o.data with
  | .seq vs _ => vs.size
  | _ => 0
theorem tup_ne {vs : List Value} {ws : Array Value} {n m : Nat} : tupO vs n = listOf ws m → False := fun h => absurd (show Value.type "tuple" = Value.type "list" from congrArg Obj.cls h) (by decide)
theorem list_ne {a b c d e : Value} {n m : Nat} : listOf #[a, b, c] n = listOf #[d, e] m → False := fun h => absurd (show 3 = 2 from congrArg seqSize h) (by decide)
theorem allLt_all {D : Addr} {led : Led} (h : AllLt D led) : ∀ q ∈ led, q.1 < D := by
  induction led with
  | nil => intro q hq; cases hq
  | cons p r ih =>
    intro q hq
    rcases List.mem_cons.mp hq with rfl | hq
    · exact h.1
    · exact ih h.2 q hq
theorem fits2 {r : Nat} (h : r < 2) : fitsSsize (r : Int) = true := by
  rcases r with _ | _ | r
  · decide
  · decide
  · omega
theorem mem5 {a b c d e : Addr × Obj} {R : Led} : ∀ q, q ∈ [e] ++ (a :: b :: c :: d :: R) → q ∈ a :: b :: c :: d :: e :: R := fun q hq => by
  rcases List.mem_cons.mp hq with rfl | hq
  · exact .tail _ (.tail _ (.tail _ (.tail _ (.head _))))
  rcases List.mem_cons.mp hq with rfl | hq
  · exact .head _
  rcases List.mem_cons.mp hq with rfl | hq
  · exact .tail _ (.head _)
  rcases List.mem_cons.mp hq with rfl | hq
  · exact .tail _ (.tail _ (.head _))
  rcases List.mem_cons.mp hq with rfl | hq
  · exact .tail _ (.tail _ (.tail _ (.head _)))
  · exact .tail _ (.tail _ (.tail _ (.tail _ (.tail _ hq))))
theorem token_ (w : World) (ja sa : Addr) (k : Nat) (t : Tok) (n : Nat) :
    CallsX w 202 [.ref ja] 6 120 [(ja, jugO sa k t n)] (fun keep => JugIn keep sa) (fun mt' keep' v => (∃ k', IsJug ja sa k' mt') ∧ ∃ tk, DatIn keep' v (tkD tk)) := by
  refine callsX_of I_token [(Str.ofString "jug", .ref ja)] (fun s => BindsTo.of_eq rfl) (by rfl) ?_
  k_fill
  intro mean mg mb dp un gd cn cs L₀ a ccd cl outer base g L keep s B F X N S T hP hd hu
  dsimp only [D_token, B_token]
  generalize hPP : EndsX g L keep _ s = PP
  iterate 11 walk1
  refine usePour (sa := sa) (k := k) (t := t) (n := n) (many := 7) rfl (by decide) (by decide) [] keep (by assumption) (by assumption) X (by assumption) T rfl (Sep.nil _) S hP (by first | exact roomD hd (by decide) | (show dp + 1 + _ ≤ 900; omega)) (by first | exact roomU hu (by decide) | (show un + 3 + _ ≤ 9000; omega)) ?_
  intro t₁ n₁ r u keep₁ h₁ tk₁ F₁ N₁ _ S₁ hs₁ hr
  replace N₁ : News g L h₁ ((ja, jugO sa (k + 1) t₁ n₁) :: keep₁) := N₁
  have hP₁ := hP.mono hs₁
  clear F N S hP
  iterate 10 walk1
  · iterate 26 walk1
    rename_i D h₂ F₂ N₂ l₂
    refine usePour (sa := sa) (k := (k + 1)) (t := t₁) (n := n₁) (many := 3) rfl (by decide) (by decide) [] ((D, _) :: keep₁) (by assumption) (by assumption) X (News.swap (mt' := [(ja, jugO sa (k + 1) t₁ n₁)]) N₂) T rfl (Sep.nil _) (Sep.add S₁ (allLt_cons l₂.1 (allLt_all l₂.2))) (hP₁.mono (fun q hq => .tail _ hq)) (by first | exact roomD hd (by decide) | (show dp + 1 + _ ≤ 900; omega)) (by first | exact roomU hu (by decide) | (show un + 3 + _ ≤ 9000; omega)) ?_
    intro t₂ n₂ r₂ u₂ keep₄ h₄ tk₄ F₄ N₄ _ S₄ hs₄ hr₂
    replace N₄ : News g L h₄ ((ja, jugO sa (k + 1 + 1) t₂ n₂) :: keep₄) := N₄
    refine item_row (p := r₂) (by assumption) (List.mem_cons_of_mem _ (hs₄ _ (.head _))) (by simp) (pick3_at _ _ _ hr₂) ?_
    iterate 1 walk1
    refine kup_newTuple (by assumption) (by assumption) (fun D₅ h₅ F₅ N₅ l₅ => ?_) (by simp [sizeLine_eq])
    subst hPP
    refine ends_tup (mt' := [(ja, jugO sa (k + 1 + 1) t₂ n₂)]) (led := keep₄) F₅ N₅ l₅ S₄ (fun q hq => hs₄ q (.tail _ (hs₁ q hq))) ⟨⟨_, _, _, rfl⟩, ?_⟩
    obtain ⟨tk, h1, h2⟩ : ∃ tk : Tk, tk.kind = Str.ofString "name" ∧ DatIn ((D₅, _) :: keep₄) (pick3 r₂ _ _ _) (.str tk.told) := pick3_all (P := fun v => ∃ tk : Tk, tk.kind = Str.ofString "name" ∧ DatIn _ v (.str tk.told)) ⟨.name 0, rfl, .str _ _⟩ ⟨.name 1, rfl, .str _ _⟩ ⟨.name 2, rfl, .str _ _⟩ r₂
    exact ⟨tk, .tuple (.head _) (.cons (by rw [h1]; exact .str _ _) (.cons h2 .nil))⟩
  iterate 10 walk1
  · iterate 40 walk1
    rename_i D h₂ F₂ N₂ l₂
    refine usePour (sa := sa) (k := (k + 1)) (t := t₁) (n := n₁) (many := 3) rfl (by decide) (by decide) [] (_ :: _ :: _ :: _ :: keep₁) (by assumption) (by assumption) X (News.sub N₂ mem5) T rfl (Sep.nil _) ?_ (hP₁.mono (fun q hq => .tail _ (.tail _ (.tail _ (.tail _ hq))))) (by first | exact roomD hd (by decide) | (show dp + 1 + _ ≤ 900; omega)) (by first | exact roomU hu (by decide) | (show un + 3 + _ ≤ 9000; omega)) ?_
    · intro q hq p hp
      rw [List.mem_singleton.mp hq]
      rcases List.mem_cons.mp hp with rfl | hp
      · exact News.ne N₂ (.head _) (.tail _ (.tail _ (.tail _ (.tail _ (.head _))))) list_ne
      rcases List.mem_cons.mp hp with rfl | hp
      · exact News.ne N₂ (.tail _ (.head _)) (.tail _ (.tail _ (.tail _ (.tail _ (.head _))))) tup_ne
      rcases List.mem_cons.mp hp with rfl | hp
      · exact News.ne N₂ (.tail _ (.tail _ (.head _))) (.tail _ (.tail _ (.tail _ (.tail _ (.head _))))) tup_ne
      rcases List.mem_cons.mp hp with rfl | hp
      · exact News.ne N₂ (.tail _ (.tail _ (.tail _ (.head _)))) (.tail _ (.tail _ (.tail _ (.tail _ (.head _))))) tup_ne
      · exact S₁ _ (.head _) p hp
    intro t₂ n₂ r₂ u₂ keep₄ h₄ tk₄ F₄ N₄ _ S₄ hs₄ hr₂
    replace N₄ : News g L h₄ ((ja, jugO sa (k + 1 + 1) t₂ n₂) :: keep₄) := N₄
    refine item_row (p := r₂) (by assumption) (List.mem_cons_of_mem _ (hs₄ _ (.head _))) (by simp) (pick3_at _ _ _ hr₂) ?_
    subst hPP
    refine endsX (mt' := [(ja, jugO sa (k + 1 + 1) t₂ n₂)]) (keep' := keep₄) (by assumption) N₄ S₄ (fun q hq => hs₄ q (.tail _ (.tail _ (.tail _ (.tail _ (hs₁ q hq)))))) ⟨⟨_, _, _, rfl⟩, ?_⟩
    exact pick3_all (P := fun v => ∃ tk, DatIn keep₄ v (tkD tk)) ⟨.num false, .tuple (hs₄ _ (.tail _ (.tail _ (.tail _ (.head _))))) (.cons (.str _ _) (.cons (.str _ _) .nil))⟩ ⟨.text, .tuple (hs₄ _ (.tail _ (.tail _ (.head _)))) (.cons (.str _ _) (.cons (.str _ _) .nil))⟩ ⟨.num true, .tuple (hs₄ _ (.tail _ (.head _))) (.cons (.str _ _) (.cons (.str _ _) .nil))⟩ r₂
  iterate 10 walk1
  · iterate 11 walk1
    refine use1 (own := [(ja, jugO sa (k + 1) t₁ n₁)]) (binds_ w) (by assumption) (by assumption) X (by assumption) T rfl S₁ trivial (by first | exact roomD hd (by decide) | (show dp + 1 + _ ≤ 900; omega)) (by first | exact roomU hu (by decide) | (show un + 3 + _ ≤ 9000; omega)) ?_
    rintro v keep₂ h₂ tk₂ F₂ N₂ S₂ hs₂ hb
    iterate 1 walk1
    refine list_binds (led := (ja, jugO sa (k + 1) t₁ n₁) :: keep₂) rfl (by assumption) (by exact N₂) hb (fun q hq => List.mem_cons_of_mem _ hq) (fun B c h₃ tk₃ vs F₃ N₃ l₃ hvl hvs => ?_)
    iterate 9 walk1
    refine usePour (sa := sa) (k := (k + 1)) (t := t₁) (n := n₁) (many := 15) rfl (by decide) (by decide) [] ((B, listOf vs.toArray c) :: keep₂) (by assumption) (by assumption) X (News.swap (mt' := [(ja, jugO sa (k + 1) t₁ n₁)]) N₃) T rfl (Sep.nil _) (Sep.add S₂ l₃) (hP₁.mono (fun q hq => .tail _ (hs₂ q hq))) (by first | exact roomD hd (by decide) | (show dp + 1 + _ ≤ 900; omega)) (by first | exact roomU hu (by decide) | (show un + 3 + _ ≤ 9000; omega)) ?_
    intro t₂ n₂ r₂ u₂ keep₄ h₄ tk₄ F₄ N₄ _ S₄ hs₄ hr₂
    obtain ⟨tw, hw⟩ := hvs ⟨r₂, hr₂⟩
    replace N₄ : News g L h₄ ((ja, jugO sa (k + 1 + 1) t₂ n₂) :: keep₄) := N₄
    refine item_row (p := r₂) (by assumption) (List.mem_cons_of_mem _ (hs₄ _ (.head _))) (by omega) hw ?_
    iterate 11 walk1
    refine PyProof.Rows.item_str (by decide) (by have := bTok_len ⟨r₂, hr₂⟩; omega) (by have := bTok_len ⟨r₂, hr₂⟩; omega) (fun _ => ?_)
    iterate 1 walk1
    refine SB.contains ?_
    rw [bTok_in]
    by_cases hkw : (bTok ⟨r₂, hr₂⟩).kind = Str.ofString "word"
    · rw [decide_eq_true hkw]
      iterate 6 walk1
      refine kup_newTuple (by assumption) (by assumption) (fun D₅ h₅ F₅ N₅ l₅ => ?_) (by simp [sizeLine_eq])
      subst hPP
      exact ends_tup (mt' := [(ja, jugO sa (k + 1 + 1) t₂ n₂)]) (led := keep₄) F₅ N₅ l₅ S₄ (fun q hq => hs₄ q (.tail _ (hs₂ q (hs₁ q hq)))) ⟨⟨_, _, _, rfl⟩, bTok ⟨r₂, hr₂⟩, .tuple (.head _) (.cons (by rw [hkw]; exact .str _ _) (.cons (.str _ _) .nil))⟩
    · rw [decide_eq_false hkw]
      iterate 6 walk1
      refine kup_newTuple (by assumption) (by assumption) (fun D₅ h₅ F₅ N₅ l₅ => ?_) (by simp [sizeLine_eq])
      subst hPP
      exact ends_tup (mt' := [(ja, jugO sa (k + 1 + 1) t₂ n₂)]) (led := keep₄) F₅ N₅ l₅ S₄ (fun q hq => hs₄ q (.tail _ (hs₂ q (hs₁ q hq)))) ⟨⟨_, _, _, rfl⟩, bTok ⟨r₂, hr₂⟩, .tuple (.head _) (.cons (by rw [bTok_kind _ hkw]; exact .str _ _) (.cons (.str _ _) .nil))⟩
  iterate 10 walk1
  · iterate 18 walk1
    refine usePour (sa := sa) (k := (k + 1)) (t := t₁) (n := n₁) (many := 2) rfl (by decide) (by decide) [] keep₁ (by assumption) (by assumption) X (by assumption) T rfl (Sep.nil _) S₁ hP₁ (by first | exact roomD hd (by decide) | (show dp + 1 + _ ≤ 900; omega)) (by first | exact roomU hu (by decide) | (show un + 3 + _ ≤ 9000; omega)) ?_
    intro t₂ n₂ r₂ u₂ keep₄ h₄ tk₄ F₄ N₄ _ S₄ hs₄ hr₂
    replace N₄ : News g L h₄ ((ja, jugO sa (k + 1 + 1) t₂ n₂) :: keep₄) := N₄
    have hlen : (Str.ofString "()").length = 2 := by decide
    refine PyProof.Rows.item_str (fits2 hr₂) (by omega) (by omega) (fun _ => ?_)
    iterate 1 walk1
    refine kup_newTuple (by assumption) (by assumption) (fun D₅ h₅ F₅ N₅ l₅ => ?_) (by simp [sizeLine_eq])
    subst hPP
    refine ends_tup (mt' := [(ja, jugO sa (k + 1 + 1) t₂ n₂)]) (led := keep₄) F₅ N₅ l₅ S₄ (fun q hq => hs₄ q (hs₁ q hq)) ⟨⟨_, _, _, rfl⟩, ?_⟩
    obtain ⟨tk, h1, h2⟩ : ∃ tk : Tk, tk.kind = Str.ofString "sign" ∧ Txt.item (Str.ofString "()") (r₂ : Int) = tk.told := by
      rcases r₂ with _ | _ | r₂
      · exact ⟨.lpar, rfl, by decide +kernel⟩
      · exact ⟨.rpar, rfl, by decide +kernel⟩
      · omega
    exact ⟨tk, .tuple (.head _) (.cons (by rw [h1]; exact .str _ _) (.cons (by rw [← h2]; exact .str _ _) .nil))⟩
  iterate 10 walk1
  · iterate 26 walk1
    rename_i D h₂ F₂ N₂ l₂
    refine usePour (sa := sa) (k := (k + 1)) (t := t₁) (n := n₁) (many := 3) rfl (by decide) (by decide) [] ((D, _) :: keep₁) (by assumption) (by assumption) X (News.swap (mt' := [(ja, jugO sa (k + 1) t₁ n₁)]) N₂) T rfl (Sep.nil _) (Sep.add S₁ (allLt_cons l₂.1 (allLt_all l₂.2))) (hP₁.mono (fun q hq => .tail _ hq)) (by first | exact roomD hd (by decide) | (show dp + 1 + _ ≤ 900; omega)) (by first | exact roomU hu (by decide) | (show un + 3 + _ ≤ 9000; omega)) ?_
    intro t₂ n₂ r₂ u₂ keep₄ h₄ tk₄ F₄ N₄ _ S₄ hs₄ hr₂
    replace N₄ : News g L h₄ ((ja, jugO sa (k + 1 + 1) t₂ n₂) :: keep₄) := N₄
    refine item_row (p := r₂) (by assumption) (List.mem_cons_of_mem _ (hs₄ _ (.head _))) (by simp) (pick3_at _ _ _ hr₂) ?_
    iterate 1 walk1
    refine kup_newTuple (by assumption) (by assumption) (fun D₅ h₅ F₅ N₅ l₅ => ?_) (by simp [sizeLine_eq])
    subst hPP
    refine ends_tup (mt' := [(ja, jugO sa (k + 1 + 1) t₂ n₂)]) (led := keep₄) F₅ N₅ l₅ S₄ (fun q hq => hs₄ q (.tail _ (hs₁ q hq))) ⟨⟨_, _, _, rfl⟩, ?_⟩
    obtain ⟨tk, h1, h2⟩ : ∃ tk : Tk, tk.kind = Str.ofString "word" ∧ DatIn ((D₅, _) :: keep₄) (pick3 r₂ _ _ _) (.str tk.told) := pick3_all (P := fun v => ∃ tk : Tk, tk.kind = Str.ofString "word" ∧ DatIn _ v (.str tk.told)) ⟨.len, rfl, .str _ _⟩ ⟨.rnd, rfl, .str _ _⟩ ⟨.thn, rfl, .str _ _⟩ r₂
    exact ⟨tk, .tuple (.head _) (.cons (by rw [h1]; exact .str _ _) (.cons h2 .nil))⟩
  iterate 10 walk1
  · iterate 18 walk1
    refine usePour (sa := sa) (k := (k + 1)) (t := t₁) (n := n₁) (many := 2) rfl (by decide) (by decide) [] keep₁ (by assumption) (by assumption) X (by assumption) T rfl (Sep.nil _) S₁ hP₁ (by first | exact roomD hd (by decide) | (show dp + 1 + _ ≤ 900; omega)) (by first | exact roomU hu (by decide) | (show un + 3 + _ ≤ 9000; omega)) ?_
    intro t₂ n₂ r₂ u₂ keep₄ h₄ tk₄ F₄ N₄ _ S₄ hs₄ hr₂
    replace N₄ : News g L h₄ ((ja, jugO sa (k + 1 + 1) t₂ n₂) :: keep₄) := N₄
    have hlen : (Str.ofString ",;").length = 2 := by decide
    refine PyProof.Rows.item_str (fits2 hr₂) (by omega) (by omega) (fun _ => ?_)
    iterate 1 walk1
    refine kup_newTuple (by assumption) (by assumption) (fun D₅ h₅ F₅ N₅ l₅ => ?_) (by simp [sizeLine_eq])
    subst hPP
    refine ends_tup (mt' := [(ja, jugO sa (k + 1 + 1) t₂ n₂)]) (led := keep₄) F₅ N₅ l₅ S₄ (fun q hq => hs₄ q (hs₁ q hq)) ⟨⟨_, _, _, rfl⟩, ?_⟩
    obtain ⟨tk, h1, h2⟩ : ∃ tk : Tk, tk.kind = Str.ofString "sign" ∧ Txt.item (Str.ofString ",;") (r₂ : Int) = tk.told := by
      rcases r₂ with _ | _ | r₂
      · exact ⟨.comma, rfl, by decide +kernel⟩
      · exact ⟨.semi, rfl, by decide +kernel⟩
      · omega
    exact ⟨tk, .tuple (.head _) (.cons (by rw [h1]; exact .str _ _) (.cons (by rw [← h2]; exact .str _ _) .nil))⟩
  iterate 41 walk1
  rename_i D h₂ F₂ N₂ l₂
  refine usePour (sa := sa) (k := (k + 1)) (t := t₁) (n := n₁) (many := 3) rfl (by decide) (by decide) [] (_ :: _ :: _ :: _ :: keep₁) (by assumption) (by assumption) X (News.sub N₂ mem5) T rfl (Sep.nil _) ?_ (hP₁.mono (fun q hq => .tail _ (.tail _ (.tail _ (.tail _ hq))))) (by first | exact roomD hd (by decide) | (show dp + 1 + _ ≤ 900; omega)) (by first | exact roomU hu (by decide) | (show un + 3 + _ ≤ 9000; omega)) ?_
  · intro q hq p hp
    rw [List.mem_singleton.mp hq]
    rcases List.mem_cons.mp hp with rfl | hp
    · exact News.ne N₂ (.head _) (.tail _ (.tail _ (.tail _ (.tail _ (.head _))))) list_ne
    rcases List.mem_cons.mp hp with rfl | hp
    · exact News.ne N₂ (.tail _ (.head _)) (.tail _ (.tail _ (.tail _ (.tail _ (.head _))))) tup_ne
    rcases List.mem_cons.mp hp with rfl | hp
    · exact News.ne N₂ (.tail _ (.tail _ (.head _))) (.tail _ (.tail _ (.tail _ (.tail _ (.head _))))) tup_ne
    rcases List.mem_cons.mp hp with rfl | hp
    · exact News.ne N₂ (.tail _ (.tail _ (.tail _ (.head _)))) (.tail _ (.tail _ (.tail _ (.tail _ (.head _))))) tup_ne
    · exact S₁ _ (.head _) p hp
  intro t₂ n₂ r₂ u₂ keep₄ h₄ tk₄ F₄ N₄ _ S₄ hs₄ hr₂
  replace N₄ : News g L h₄ ((ja, jugO sa (k + 1 + 1) t₂ n₂) :: keep₄) := N₄
  refine item_row (p := r₂) (by assumption) (List.mem_cons_of_mem _ (hs₄ _ (.head _))) (by simp) (pick3_at _ _ _ hr₂) ?_
  subst hPP
  refine endsX (mt' := [(ja, jugO sa (k + 1 + 1) t₂ n₂)]) (keep' := keep₄) (by assumption) N₄ S₄ (fun q hq => hs₄ q (.tail _ (.tail _ (.tail _ (.tail _ (hs₁ q hq)))))) ⟨⟨_, _, _, rfl⟩, ?_⟩
  exact pick3_all (P := fun v => ∃ tk, DatIn keep₄ v (tkD tk)) ⟨.nott, .tuple (hs₄ _ (.tail _ (.tail _ (.tail _ (.head _))))) (.cons (.str _ _) (.cons (.str _ _) .nil))⟩ ⟨.minus, .tuple (hs₄ _ (.tail _ (.tail _ (.head _)))) (.cons (.str _ _) (.cons (.str _ _) .nil))⟩ ⟨.plus, .tuple (hs₄ _ (.tail _ (.head _))) (.cons (.str _ _) (.cons (.str _ _) .nil))⟩ r₂
end
section
open PySem PySem.W PyProof.Rows PySem.Calls PyProof.V PySem.Spec
set_option maxRecDepth 100000
set_option maxHeartbeats 1000000
noncomputable def RngEnd (h₀ : Heap) (L : Addr) (own : Led) (J : (Str → Option Value) → Led → Prop) (s₁ : Shared) (fl : Flow) (s' : Shared) : Prop := fl = .next ∧ ∃ h' tk' m₂ led₂, s' = { s₁ with heap := h', toks := tk' } ∧ Fr h₀ L h' m₂ ∧ News h₀ L h' (own ++ led₂) ∧ Sep own led₂ ∧ J m₂ led₂
theorem rng_inv {prog : Program} {w : World} {A : Around} {E : Value → Shared → Prop} {s : Shared} {env : Env} {h₀ : Heap} {x : Str} {body : List Stmt} {Q : Flow → Shared → Prop} {r : Addr} {n : Nat} {t u v : Tok} {m₀ : Str → Option Value} {led : Led} (J : Nat → (Str → Option Value) → Led → Prop)
    (hh : A.handled = none) (hn : n ≤ 1000) (hr : IsRange s.heap r 0 (n : Int) 1 t u v) (F : Fr h₀ env.locals s.heap m₀) (N : News h₀ env.locals s.heap led) (hj : J 0 m₀ led)
    (turn : ∀ i t m₁ led₁ h tk own, i < n → J i m₁ led₁ → Sep own led₁ → Fr h₀ env.locals h (fun y => if y = x then some (.int (i : Nat) t) else m₁ y) → News h₀ env.locals h (own ++ led₁) →
      wpAny (model prog w) A (execs body env) (RngEnd h₀ env.locals own (J (i + 1)) { s with heap := h, toks := tk }) E { s with heap := h, toks := tk })
    (done : ∀ m₁ led₁ h tk, J n m₁ led₁ → Fr h₀ env.locals h m₁ → News h₀ env.locals h led₁ → Q .next { s with heap := h, toks := tk }) :
    wpAny (model prog w) A (pyIter (.ref r)) (fun it s₂ => LoopAtV prog w A h₀ env x body Q E it s₂) E s := by
  have hsz : Builtin.Range.rangeSize 0 (n : Int) 1 = (n : Int) := by
    unfold Builtin.Range.rangeSize
    simp
    omega
  refine wpAny_pyIter_range hr ?_ ?_
  · exact small_one (by omega) (by omega) (by omega) (by omega)
  have W := LCg.range_walks (prog := prog) (w := w) (A := A) (I := s.heap.objs.size) hh 0 n
  have hI : h₀.get? s.heap.objs.size = none := next_is_new F
  refine ⟨_, _, _, n, _, _, m₀, led, J, rfl, W, ?_, ?_, ?_, ?_, F.push _, fun p hp => ⟨Heap.get?_push_of_some _ (N p hp).1, (N p hp).2⟩, hj, ?_, ?_⟩
  · intro hm
    exact absurd F.ns.lt ((List.mem_singleton.mp hm) ▸ Nat.lt_irrefl _)
  · intro b hb
    rw [List.mem_singleton.mp hb]; exact hI
  · intro p hp hb
    exact absurd (Heap.lt_size (N p hp).1) ((List.mem_singleton.mp hb) ▸ Nat.lt_irrefl _)
  · show IsRangeIter _ _ _ _ _
    rw [hsz]
    simpa using Heap.get?_push_size _ rfl
  · rintro i v m₁ news₁ s₁ own ⟨h, tk, rfl⟩ hi ⟨t, rfl⟩ hJ hoff hown hget hin hst F₁ N₁
    have hIo := hin _ (List.mem_singleton.mpr rfl) hI _ hst
    rw [Int.zero_add] at F₁
    refine wpAny_mono (turn i t m₁ news₁ h tk own hi hJ (fun q hq p hp e => hoff p hp (e ▸ hown q hq)) F₁ N₁) (fun fl s' he => ?_) fun _ _ z => z
    obtain ⟨rfl, h', tk', m₂, led₂, rfl, F₂, N₂, S₂, hJ₂⟩ := he
    exact .next ⟨rfl, h', tk', m₂, led₂, rfl, F₂, N₂, fun p hp hb => S₂ _ hIo p hp (List.mem_singleton.mp hb), hJ₂⟩
  · exact fun h' tk m' news' F' N' _ hJ => done m' news' h' tk hJ F' N'
theorem comp_rest {prog : Program} {w : World} {A : Around} {h₀ : Heap} {L : Addr} {m : Str → Option Value} {env : Env} {elt : PySem.Expr} {x : Str} {scope : Scope} {cl : List (Str × Addr)} {s : Shared} {S : Led → Prop} {P : Nat → Value → Prop} {Fin : List Value → Led → Prop} (J : Nat → List Value → Led → Prop)
    (turn : ∀ k i ys news v I oI C oC D m₂ h tk (E' : Value → Shared → Prop), J (k + 1) ys news → P i v → LCg.NsObj oC m₂ → m₂ x = some v → Fr h₀ L h m → News h₀ L h ((I, oI) :: (C, oC) :: (D, LCg.lst ys) :: news) → LCg.Off3 I C D news → ((@Ne Nat I C) ∧ (@Ne Nat I D) ∧ (@Ne Nat C D)) →
      wpAny (model prog w) A (PySem.eval elt (compEnvC scope cl C env)) (LCg.CompEnd h₀ L m { s with heap := h, toks := tk } I oI C oC D (LCg.lst ys) S (fun y news' => J k (ys ++ [y]) news')) E' { s with heap := h, toks := tk })
    (fin : ∀ ys news, J 0 ys news → Fin ys news) : ∀ k i ys news, J k ys news → LCg.CompRest prog w A h₀ L m env elt x scope cl s S P Fin k i ys news := by
  intro k
  induction k with
  | zero => exact fun i ys news h => LCg.CompRest.zero (fin ys news h)
  | succ k ih =>
    intro i ys news hj
    refine LCg.CompRest.succ fun v I oI C oC D m₂ h tk E' hP hn hx F N o1 o2 => ?_
    refine wpAny_mono (turn k i ys news v I oI C oC D m₂ h tk E' hj hP hn hx F N o1 o2) (fun y s₂ hy => ?_) fun _ _ z => z
    obtain ⟨h', tk', news', e, F', N', o', hS, hr⟩ := hy
    exact ⟨h', tk', news', e, F', N', o', hS, ih _ _ _ hr⟩
end
section
open PySem PySem.W PyProof.Rows PySem.Calls PyProof.V PySem.Spec
set_option maxRecDepth 100000
set_option maxHeartbeats 1000000
theorem K_207 (P : Params) : (K P).lookup 207 = some ⟨.type "function", none, .func (fnOf (Str.ofString "_law_row") (Str.ofString "_law_row") A_row B_row C_row .none .none .none (.str (Str.ofString "law_pq0176_01") 513) none (.ref 206) .none), #[]⟩ := by kernel_rfl
noncomputable abbrev rowC (L : Addr) : List (Str × Addr) := [(Str.ofString "jug", L + 1)]
theorem nil_ne {d e : Value} {n m : Nat} : listOf #[] n = listOf #[d, e] m → False := fun h => absurd (show 0 = 2 from congrArg seqSize h) (by decide)
theorem cell_ne {co : Obj} {vs : Array Value} {n : Nat} {v : Option Value} (hco : co.data = .cell v) : co = listOf vs n → False := fun h => by rw [h] at hco; cases hco
theorem rowIn_snoc {keep : Led} {D : Addr} {vs : List Value} {v : Value} {n : Nat} {row : List Tk} {t : Tk} (h : DatAll keep vs (row.map tkD)) (hv : DatIn keep v (tkD t)) : RowIn ((D, listOf (vs ++ [v]).toArray n) :: keep) D (row ++ [t]) := by
  unfold RowIn
  rw [List.map_append]
  exact .list (.head _) (datAll_snoc (hv.mono (fun q hq => .tail _ hq)) (h.mono (fun q hq => .tail _ hq)))
/-- between two turns of the first loop -/
noncomputable def RowJ (ja sa c : Addr) (co : Obj) (i : Nat) (m : Str → Option Value) (led : Led) : Prop := ∃ ra row u k t n keep, m = over [(Str.ofString "row", .ref ra)] u ∧ led = (ja, jugO sa k t n) :: keep ∧ Sep [(ja, jugO sa k t n)] keep ∧ RowIn keep ra row ∧ row.length = i ∧ (c, co) ∈ keep ∧ JugIn keep sa
/-- between two turns of the comprehension -/
noncomputable def RowK (ja sa c : Addr) (co : Obj) (ra : Addr) (row : List Tk) (n k : Nat) (ys : List Value) (led : Led) : Prop := ∃ (k' : Nat) (t' : Tok) (n' : Nat) (keep : Led) (toks : List Tk), led = (ja, jugO sa k' t' n') :: keep ∧ Sep [(ja, jugO sa k' t' n')] keep ∧ DatAll keep ys (toks.map tkD) ∧ toks.length + k = n ∧ (c, co) ∈ keep ∧ JugIn keep sa ∧ RowIn keep ra row
theorem range_size (n : Nat) : Builtin.Range.rangeSize 0 (n : Int) 1 = (n : Int) := by
  unfold Builtin.Range.rangeSize
  simp
  omega
theorem DatAll.append {led : Led} : ∀ {vs us : List Value} {ds es : List Dat}, DatAll led vs ds → DatAll led us es → DatAll led (vs ++ us) (ds ++ es)
  | _, _, _, _, .nil, h => h
  | _, _, _, _, .cons a r, h => .cons a (DatAll.append r h)
theorem over2 {m : Str → Option Value} {a b : Str} {v1 v2 : Value} (h1 : m a = some v1) (h2 : m b = some v2) : m = over [(a, v1), (b, v2)] m := (over_self fun q hq => by
  simp only [List.mem_cons, List.not_mem_nil, or_false] at hq
  rcases hq with rfl | rfl <;> assumption).symm
/-- between two turns of the last loop -/
noncomputable def TailJ (ja sa c : Addr) (co : Obj) (ra : Addr) (row : List Tk) (i : Nat) (m : Str → Option Value) (led : Led) : Prop := ∃ (ta : Addr) (toks : List Tk) (u : Str → Option Value) (k : Nat) (t : Tok) (n : Nat) (keep : Led), m = over [(Str.ofString "tail", .ref ta), (Str.ofString "row", .ref ra)] u ∧ led = (ja, jugO sa k t n) :: keep ∧ Sep [(ja, jugO sa k t n)] keep ∧ RowIn keep ta toks ∧ toks.length ≤ 3 * i ∧ (c, co) ∈ keep ∧ JugIn keep sa ∧ RowIn keep ra row
theorem sep_app {a b keep : Led} (h1 : Sep a keep) (h2 : Sep b keep) : Sep (a ++ b) keep := fun q hq p hp => (List.mem_append.mp hq).elim (fun h => h1 q h p hp) (fun h => h2 q h p hp)
theorem sep_cons {own keep : Led} {D : Addr} {o : Obj} (h1 : ∀ q ∈ own, D ≠ q.1) (h2 : Sep own keep) : Sep own ((D, o) :: keep) := fun q hq p hp => by
  rcases List.mem_cons.mp hp with rfl | hp
  · exact h1 q hq
  · exact h2 q hq p hp
theorem mem_mid {own keep : Led} (a b : Addr × Obj) : ∀ q, q ∈ own ++ ([a] ++ b :: keep) → q ∈ b :: (own ++ (a :: keep)) := fun q hq => by
  rcases List.mem_append.mp hq with hq | hq
  · exact .tail _ (List.mem_append_left _ hq)
  rcases List.mem_cons.mp hq with rfl | hq
  · exact .tail _ (List.mem_append_right own (.head _))
  rcases List.mem_cons.mp hq with rfl | hq
  · exact .head _
  · exact .tail _ (List.mem_append_right own (.tail _ hq))
theorem sep_two {own keep : Led} {j : Addr × Obj} {D : Addr} {o : Obj} (ho : ∀ q ∈ own, q.1 < D) (hj : j.1 < D) (S : Sep own (j :: keep) ∧ Sep [j] keep) : Sep own (j :: (D, o) :: keep) ∧ Sep [j] ((D, o) :: keep) := by
  refine ⟨fun q hq p hp => ?_, sep_cons (fun q hq => by rw [List.mem_singleton.mp hq]; exact Nat.ne_of_gt hj) S.2⟩
  rcases List.mem_cons.mp hp with rfl | hp
  · exact S.1 q hq _ (.head _)
  rcases List.mem_cons.mp hp with rfl | hp
  · exact Nat.ne_of_gt (ho q hq)
  · exact S.1 q hq p (.tail _ hp)
theorem News.move {g h : Heap} {L : Addr} {own keep : Led} {j a : Addr × Obj} (N : News g L h (a :: (own ++ (j :: keep)))) : News g L h (own ++ (j :: a :: keep)) := News.sub N fun q hq => by
  rcases List.mem_append.mp hq with hq | hq
  · exact .tail _ (List.mem_append_left _ hq)
  rcases List.mem_cons.mp hq with rfl | hq
  · exact .tail _ (List.mem_append_right own (.head _))
  rcases List.mem_cons.mp hq with rfl | hq
  · exact .head _
  · exact .tail _ (List.mem_append_right own (.tail _ hq))
theorem bed2 {g h : Heap} {L : Addr} {own keep : Led} {j a b : Addr × Obj} (N : News g L h (a :: b :: (own ++ (j :: keep)))) (lb : ∀ q ∈ own ++ (j :: keep), q.1 < b.1) (la : ∀ q ∈ own ++ (j :: keep), q.1 < a.1) (S : Sep own (j :: keep) ∧ Sep [j] keep) : News g L h (own ++ (j :: a :: b :: keep)) ∧ Sep own (j :: a :: b :: keep) ∧ Sep [j] (a :: b :: keep) :=
  ⟨News.move (News.sub N (fun q hq => by
    rcases List.mem_cons.mp hq with rfl | hq
    · exact .head _
    rcases List.mem_append.mp hq with hq | hq
    · exact .tail _ (.tail _ (List.mem_append_left _ hq))
    rcases List.mem_cons.mp hq with rfl | hq
    · exact .tail _ (.tail _ (List.mem_append_right own (.head _)))
    rcases List.mem_cons.mp hq with rfl | hq
    · exact .tail _ (.head _)
    · exact .tail _ (.tail _ (List.mem_append_right own (.tail _ hq))))),
  sep_two (fun q hq => la q (List.mem_append_left _ hq)) (la _ (List.mem_append_right own (.head _))) (sep_two (fun q hq => lb q (List.mem_append_left _ hq)) (lb _ (List.mem_append_right own (.head _))) S)⟩
theorem datAll_rep {led : Led} {v : Value} {d : Dat} (h : DatIn led v d) : ∀ c, DatAll led (List.replicate c v) (List.replicate c d)
  | 0 => .nil
  | c + 1 => .cons h (datAll_rep h c)
theorem News.pick {g h : Heap} {L : Addr} {a b c d e : Addr × Obj} {l : Led} (N : News g L h (a :: b :: c :: d :: e :: l)) : News g L h (a :: c :: l) := News.sub N fun q hq => by
  rcases List.mem_cons.mp hq with rfl | hq
  · exact .head _
  rcases List.mem_cons.mp hq with rfl | hq
  · exact .tail _ (.tail _ (.head _))
  · exact .tail _ (.tail _ (.tail _ (.tail _ (.tail _ hq))))
theorem row_ {w : World} {ja sa : Addr} {k : Nat} {t : Tok} {n : Nat} {mean : ExcName → Option Value} {mg mb : Str → Option Value} {dp un : Nat} {gd : Option (List Code)} {cn : Str} {cs : Scope} {a : Addr} {ccd : Value} {cl : List (Str × Addr)} {outer : List Env} {A₀ : Around} {base h₀ : Heap} {L : Addr} {m : Str → Option Value} {keep : Led} {s : Shared} {Q E : Value → Shared → Prop}
    (B : Below A₀ base outer h₀) (F : Fr h₀ L s.heap m) (X : (K w.params).In h₀) (N : News h₀ L s.heap ((ja, jugO sa k t n) :: keep)) (T : Top V LS mean mg mb h₀) (hk : cs.kind = .function) (S : Sep [(ja, jugO sa k t n)] keep) (hP : JugIn keep sa) (hd : dp + 10 ≤ 900) (hu : un + 300 ≤ 9000)
    (ret : ∀ ra row keep' h' tk', Fr h₀ L h' m → News h₀ L h' keep' → RowIn keep' ra row → row.length ≤ 20 → Q (.ref ra) { s with heap := h', toks := tk' }) :
    wpAny (model PySem.Challenge.rw_pq0176_01.row.prog w) (ktrTop dp un gd cn cs L a ccd cl outer) (call (.ref 207) [.ref ja]) Q E s := by
  revert X
  k_fill
  intro X
  refine wpAny_call (code_defC (s := s) (env := envX cn cs L a ccd cl) (outer := outer) B F X N T rfl rfl hk (K_207 _) (by kernel_rfl) (by show dp < 1000; omega) (binds := [(Str.ofString "jug", .ref ja)]) (BindsTo.of_eq rfl) (by kernel_rfl) (by decide) ?_ (by kernel_rfl) (by kernel_rfl) (by kernel_rfl))
  intro g L' h₁ tk cells FG F₁ N₁ Y B₁ X₁ T₁ l₁
  obtain ⟨co, rfl, hco⟩ := CellsAre.one (show CellsAre _ [(Str.ofString "jug", L' + 1)] cells from Y)
  replace hco : co.data = .cell (some (.ref ja)) := hco
  dsimp only [B_row]
  generalize hPP : (fun (fl : Flow) (s' : Shared) => LeaveK _ _ _ _ _ _ _) = PP
  iterate 8 walk1
  refine For_invV g (by rfl) (by rfl) ?_
  iterate 13 walk1
  rename_i r0 _ q0 h₂ F₂ N₂
  have S₂ : Sep [(ja, jugO sa k t n)] ((r0, listOf #[] 0) :: (L' + 1, co) :: keep) := by
    intro q hq p hp
    rw [List.mem_singleton.mp hq]
    rcases List.mem_cons.mp hp with rfl | hp
    · exact News.ne N₂ (.head _) (.tail _ (.tail _ (.head _))) nil_ne
    rcases List.mem_cons.mp hp with rfl | hp
    · exact News.ne N₂ (.tail _ (.head _)) (.tail _ (.tail _ (.head _))) (cell_ne hco)
    · exact S _ (.head _) p hp
  refine usePour (sa := sa) (k := k) (t := t) (n := n) (many := 5) rfl (by decide) (by decide) [] ((r0, listOf #[] 0) :: (L' + 1, co) :: keep) (by assumption) (by assumption) X₁ (News.sub N₂ ?_) T₁ rfl (Sep.nil _) S₂ (hP.mono (fun q hq => .tail _ (.tail _ hq))) (by first | exact roomD hd (by decide) | (show dp + 1 + _ ≤ 900; omega)) (by first | exact roomU hu (by decide) | (show un + 3 + _ ≤ 9000; omega)) ?_
  · intro q hq
    rcases List.mem_cons.mp hq with rfl | hq
    · exact .tail _ (.tail _ (.head _))
    rcases List.mem_cons.mp hq with rfl | hq
    · exact .head _
    rcases List.mem_cons.mp hq with rfl | hq
    · exact .tail _ (.head _)
    · exact .tail _ (.tail _ (.tail _ hq))
  intro t₃ n₃ r u keep₃ h₃ tk₃ F₃ N₃ _ S₃ hs₃ hr
  replace N₃ : News g L' h₃ ((ja, jugO sa (k + 1) t₃ n₃) :: keep₃) := N₃
  iterate 2 walk1
  rename_i R₄ F₄ N₄ k₄
  have hrow₀ : RowIn keep₃ r0 [] := .list (hs₃ _ (.head _)) .nil
  have hcm : (L' + 1, co) ∈ keep₃ := hs₃ _ (.tail _ (.head _))
  have hP₃ : JugIn keep₃ sa := hP.mono (fun q hq => hs₃ q (.tail _ (.tail _ hq)))
  refine rng_inv (RowJ ja sa (L' + 1) co) (by rfl) (by omega) R₄ F₄ N₄ ⟨r0, [], _, _, _, _, keep₃, over1 rfl, rfl, S₃, hrow₀, rfl, hcm, hP₃⟩ ?_ ?_
  · rintro i ti m₁ led₁ h tk own hi ⟨ra, row, u, k', t', n', keep', rfl, rfl, SJ, hrow, hlen, hcm', hP'⟩ So Fi Ni
    have hcm₂ := List.mem_append_right own (List.mem_cons_of_mem (ja, jugO sa k' t' n') hcm')
    iterate 10 walk1
    refine nameX_C (by assumption) (by rfl) hcm₂ hco ?_
    iterate 2 walk1
    refine useX (token_ w ja sa k' t' n') own keep' (by assumption) (by assumption) X₁ (by exact Ni) T₁ rfl So SJ hP' (by first | exact roomD hd (by decide) | (show dp + 1 + _ ≤ 900; omega)) (by first | exact roomU hu (by decide) | (show un + 3 + _ ≤ 9000; omega)) ?_
    rintro v _ keep₅ h₅ tk₅ F₅ N₅ S₅ S₆ hs₅ ⟨⟨k₅, t₅, n₅, rfl⟩, tkn, hv⟩
    obtain ⟨vs, nr, hvm, hva, hvl⟩ := (hrow.mono hs₅).open
    iterate 2 walk1
    rename_i D1 h₆ F₆ N₆ l₆
    refine kmk_add_lit (zs := vs ++ [v]) F₆ N₆ (News.isList N₆ (.tail _ (List.mem_append_right own (List.mem_cons_of_mem _ hvm)))) (News.isList N₆ (.head _)) (by simp) (fun D2 h₇ F₇ N₇ l₇ => ?_) (by rw [sizeLine_eq]; simp; omega)
    iterate 1 walk1
    rename_i h₈ F₈ N₈
    have hD2 : ∀ q ∈ own ++ ([(ja, jugO sa k₅ t₅ n₅)] ++ keep₅), q.1 < D2 := fun q hq => l₇ q (.tail _ hq)
    iterate 1 walk1
    refine ⟨rfl, _, _, _, (ja, jugO sa k₅ t₅ n₅) :: (D2, listOf (vs ++ [v]).toArray 0) :: keep₅, rfl, F₈, News.sub N₈ (fun q hq => ?_), ?_, D2, row ++ [tkn], _, k₅, t₅, n₅, (D2, listOf (vs ++ [v]).toArray 0) :: keep₅, over1 rfl, rfl, ?_, rowIn_snoc hva hv, by simp [hlen], .tail _ (hs₅ _ hcm'), hP'.mono (fun q hq => .tail _ (hs₅ q hq))⟩
    · rcases List.mem_append.mp hq with hq | hq
      · exact .tail _ (.tail _ (List.mem_append_left _ hq))
      rcases List.mem_cons.mp hq with rfl | hq
      · exact .tail _ (.tail _ (List.mem_append_right own (.head _)))
      rcases List.mem_cons.mp hq with rfl | hq
      · exact .head _
      · exact .tail _ (.tail _ (List.mem_append_right own (.tail _ hq)))
    · intro q hq p hp
      rcases List.mem_cons.mp hp with rfl | hp
      · exact S₅ q hq _ (.head _)
      rcases List.mem_cons.mp hp with rfl | hp
      · exact Nat.ne_of_gt (hD2 q (List.mem_append_left _ hq))
      · exact S₅ q hq p (.tail _ hp)
    · exact Sep.add S₆ (fun q hq => hD2 q (List.mem_append_right own hq))
  · rintro m₁ led₁ h tk ⟨ra, row, u, k', t', n', keep', rfl, rfl, SJ, hrow, hlen, hcm', hP'⟩ Fi Ni
    have hcm₂ := List.mem_cons_of_mem (ja, jugO sa k' t' n') hcm'
    iterate 12 walk1
    refine usePour (sa := sa) (k := k') (t := t') (n := n') (many := 2) rfl (by decide) (by decide) [] keep' (by assumption) (by assumption) X₁ (by assumption) T₁ rfl (Sep.nil _) SJ hP' (by first | exact roomD hd (by decide) | (show dp + 1 + _ ≤ 900; omega)) (by first | exact roomU hu (by decide) | (show un + 3 + _ ≤ 9000; omega)) ?_
    intro t₅ n₅ r₅ u₅ keep₅ h₅ tk₅ F₅ N₅ _ S₅ hs₅ hr₅
    replace N₅ : News g L' h₅ ((ja, jugO sa (k' + 1) t₅ n₅) :: keep₅) := N₅
    have hcm₃ := List.mem_cons_of_mem (ja, jugO sa (k' + 1) t₅ n₅) (hs₅ _ hcm')
    have hrow₅ := hrow.mono hs₅
    have hP₅ := hP'.mono hs₅
    clear hrow hP' hcm₂ N₂ F₂ S₂ hs₃ S₃ hP₃ SJ Fi Ni
    iterate 4 walk1
    · iterate 19 walk1
      refine usePour (sa := sa) (k := (k' + 1)) (t := t₅) (n := n₅) (many := 9) rfl (by decide) (by decide) [] keep₅ (by assumption) (by assumption) X₁ N₅ T₁ rfl (Sep.nil _) S₅ hP₅ (by first | exact roomD hd (by decide) | (show dp + 1 + _ ≤ 900; omega)) (by first | exact roomU hu (by decide) | (show un + 3 + _ ≤ 9000; omega)) ?_
      intro t₆ n₆ r₆ u₆ keep₆ h₆ tk₆ F₆ N₆ _ S₆ hs₆ hr₆
      replace N₆ : News g L' h₆ ((ja, jugO sa (k' + 1 + 1) t₆ n₆) :: keep₆) := N₆
      iterate 2 walk1
      rename_i R₇ F₇ N₇ k₇
      refine LCg.CompSrc.range (n := r₆) (by rfl) F₇ N₇ R₇ (small_one (by omega) (by omega) (by omega) (by omega)) (range_size r₆) (by rw [sizeLine_eq]; omega) (fun gg => ?_)
      refine comp_rest (RowK ja sa (L' + 1) co ra row r₆) ?_ ?_ r₆ 0 [] _ ⟨_, _, _, keep₆, [], rfl, S₆, .nil, by simp, hs₆ _ (hs₅ _ hcm'), hP₅.mono hs₆, hrow₅.mono hs₆⟩
      · rintro kk ii ys news v I oI C oC D m₂ h tk E' ⟨k₈, t₈, n₈, keep₈, toks, rfl, S₈, hys, hln, hcm₈, hP₈, hrow₈⟩ hPv hn hxv Fc Nc o1 o2
        iterate 5 walk1
        have hcm₉ : (L' + 1, co) ∈ (I, oI) :: (C, oC) :: (D, LCg.lst ys) :: (ja, jugO sa k₈ t₈ n₈) :: keep₈ := .tail _ (.tail _ (.tail _ (.tail _ hcm₈)))
        refine lcf_cell (by assumption) (by rfl) hcm₉ hco ?_ (by rfl) (by rfl)
        iterate 2 walk1
        refine useX (token_ w ja sa k₈ t₈ n₈) [(I, oI), (C, oC), (D, LCg.lst ys)] keep₈ (by assumption) (by assumption) X₁ (by exact Nc) T₁ rfl ?_ S₈ hP₈ (by first | exact roomD hd (by decide) | (show dp + 1 + _ ≤ 900; omega)) (by first | exact roomU hu (by decide) | (show un + 3 + _ ≤ 9000; omega)) ?_
        · intro q hq p hp
          have z := LCg.Off3.mem o1 p hp
          rcases List.mem_cons.mp hq with rfl | hq
          · exact z.1
          rcases List.mem_cons.mp hq with rfl | hq
          · exact z.2.1
          · rw [List.mem_singleton.mp hq]; exact z.2.2
        rintro y _ keep₉ h₉ tk₉ F₉ N₉ S₉ Sj hs₉ ⟨⟨k₉, t₉, n₉, rfl⟩, tkn, hv⟩
        refine (show LCg.CompEnd g L' _ _ I oI C oC D (LCg.lst ys) _ _ y _ from ⟨_, _, (ja, jugO sa k₉ t₉ n₉) :: keep₉, rfl, F₉, N₉, LCg.Off3.of (fun p hp => ⟨S₉ _ (.head _) p hp, S₉ _ (.tail _ (.head _)) p hp, S₉ _ (.tail _ (.tail _ (.head _))) p hp⟩), trivial, k₉, t₉, n₉, keep₉, toks ++ [tkn], rfl, Sj, ?_, by rw [List.length_append, List.length_singleton]; omega, hs₉ _ hcm₈, hP₈.mono hs₉, hrow₈.mono hs₉⟩)
        rw [List.map_append]
        exact datAll_snoc hv (hys.mono hs₉)
      · rintro ys news ⟨k₈, t₈, n₈, keep₈, toks, rfl, S₈, hys, hln, hcm₈, hP₈, hrow₈⟩
        intro D h tk Fc Nc o1
        obtain ⟨vs, nr, hvm, hva, hvl⟩ := hrow₈.open
        refine kmk_add_lit (zs := vs ++ ys) Fc Nc (News.isList Nc (.tail _ (.tail _ hvm))) (News.isList Nc (.head _)) (by simp) (fun D2 h₇ F₇ N₇ l₇ => ?_) (by have := hys.length; rw [sizeLine_eq]; simp at this ⊢; omega)
        subst hPP
        refine ⟨L', _, _, F₇, News.sub N₇ (b := (D2, listOf (vs ++ ys).toArray 0) :: keep₈) (fun q hq => ?_), fun FR NR => ?_⟩
        · rcases List.mem_cons.mp hq with rfl | hq
          · exact .head _
          · exact .tail _ (.tail _ (.tail _ hq))
        · refine ret D2 (row ++ toks) _ _ _ FR NR ?_ (by rw [List.length_append]; omega)
          unfold RowIn
          rw [List.map_append]
          exact .list (.head _) (DatAll.append (hva.mono (fun q hq => .tail _ hq)) (hys.mono (fun q hq => .tail _ hq)))
    · iterate 7 walk1
      rename_i T0 h₆ F₆ N₆ l₆
      have hcm₆ := List.mem_cons_of_mem (T0, listOf #[] 0) hcm₃
      have S₆ : Sep [(ja, jugO sa (k' + 1) t₅ n₅)] ((T0, listOf #[] 0) :: keep₅) := Sep.add S₅ (allLt_cons l₆.1 (allLt_all l₆.2))
      iterate 3 walk1
      refine For_invV g (by rfl) (by rfl) ?_
      iterate 15 walk1
      refine usePour (sa := sa) (k := (k' + 1)) (t := t₅) (n := n₅) (many := 4) rfl (by decide) (by decide) [] ((T0, listOf #[] 0) :: keep₅) (by assumption) (by assumption) X₁ (News.swap (mt' := [(ja, jugO sa (k' + 1) t₅ n₅)]) (by assumption)) T₁ rfl (Sep.nil _) S₆ (hP₅.mono (fun q hq => .tail _ hq)) (by first | exact roomD hd (by decide) | (show dp + 1 + _ ≤ 900; omega)) (by first | exact roomU hu (by decide) | (show un + 3 + _ ≤ 9000; omega)) ?_
      intro t₇ n₇ r₇ u₇ keep₇ h₇ tk₇ F₇ N₇ _ S₇ hs₇ hr₇
      replace N₇ : News g L' h₇ ((ja, jugO sa (k' + 1 + 1) t₇ n₇) :: keep₇) := N₇
      iterate 3 walk1
      rename_i R₈ F₈ N₈ k₈
      refine rng_inv (n := r₇ + 1) (TailJ ja sa (L' + 1) co ra row) (by rfl) (by omega) (by rw [show ((r₇ + 1 : Nat) : Int) = 1 + (r₇ : Int) by omega]; exact R₈) F₈ N₈ ⟨T0, [], _, _, _, _, keep₇, over2 rfl rfl, rfl, S₇, .list (hs₇ _ (.head _)) .nil, Nat.zero_le _, hs₇ _ (.tail _ (hs₅ _ hcm')), hP₅.mono (fun q hq => hs₇ q (.tail _ hq)), hrow₅.mono (fun q hq => hs₇ q (.tail _ hq))⟩ ?_ ?_
      · rintro i ti m₁ led₁ h tk own hi ⟨ta, toks, u, k₉, t₉, n₉, keep₉, rfl, rfl, S₉, htl, hln, hcm₉, hP₉, hrow₉⟩ So Fi Ni
        iterate 10 walk1
        refine use1 (own := own ++ [(ja, jugO sa k₉ t₉ n₉)]) (imm := keep₉) (binds_ w) (by assumption) (by assumption) X₁ (News.sub (by assumption) (fun q hq => by rw [List.append_assoc] at hq; exact hq)) T₁ rfl (sep_app (So.grow (fun q hq => .tail _ hq)) S₉) trivial (by first | exact roomD hd (by decide) | (show dp + 1 + _ ≤ 900; omega)) (by first | exact roomU hu (by decide) | (show un + 3 + _ ≤ 9000; omega)) ?_
        rintro v keepA hA tkA FA NA SA hsA hb
        replace NA : News g L' hA (own ++ ((ja, jugO sa k₉ t₉ n₉) :: keepA)) := by rw [List.append_assoc] at NA; exact NA
        have SoA : Sep own ((ja, jugO sa k₉ t₉ n₉) :: keepA) := sep_cons (fun q hq => So q hq _ (.head _)) SA.left
        iterate 1 walk1
        refine list_binds (led := own ++ ((ja, jugO sa k₉ t₉ n₉) :: keepA)) rfl FA NA hb (fun q hq => List.mem_append_right own (.tail _ hq)) (fun Bl cb hB tkB vs FB NB lB hvl hvs => ?_)
        iterate 4 walk1
        refine nameX_C NB (by rfl) (.tail _ (List.mem_append_right own (.tail _ (hsA _ hcm₉)))) hco ?_
        iterate 4 walk1
        refine usePour (sa := sa) (k := k₉) (t := t₉) (n := n₉) (many := 15) rfl (by decide) (by decide) own ((Bl, listOf vs.toArray cb) :: keepA) (by assumption) (by assumption) X₁ (News.sub NB (mem_mid _ _)) T₁ rfl (sep_cons (fun q hq => So q hq _ (.head _)) (sep_cons (fun q hq => Nat.ne_of_gt (lB q (List.mem_append_left _ hq))) SA.left)) (Sep.add SA.right (fun q hq => lB q (List.mem_append_right own hq))) (hP₉.mono (fun q hq => .tail _ (hsA q hq))) (by first | exact roomD hd (by decide) | (show dp + 1 + _ ≤ 900; omega)) (by first | exact roomU hu (by decide) | (show un + 3 + _ ≤ 9000; omega)) ?_
        intro tC nC rC uC keepC hC tkC FC NC SoC SC hsC hrC
        obtain ⟨tw, hw⟩ := hvs ⟨rC, hrC⟩
        replace NC : News g L' hC (own ++ ((ja, jugO sa (k₉ + 1) tC nC) :: keepC)) := NC
        refine item_row (p := rC) (by assumption) (List.mem_append_right own (.tail _ (hsC _ (.head _)))) (by omega) hw ?_
        iterate 1 walk1
        rename_i hW FW NW
        iterate 5 walk1
        refine wpAny_mono (Q := fun v s' => ∃ tt tk', v = .str (bTok ⟨rC, hrC⟩).kind tt ∧ s' = { s with heap := hW, toks := tk' }) ?_ ?_ (fun _ _ y => y)
        · iterate 5 walk1
          refine PyProof.Rows.item_str (by decide) (by have := bTok_len ⟨rC, hrC⟩; omega) (by have := bTok_len ⟨rC, hrC⟩; omega) (fun _ => ?_)
          iterate 1 walk1
          refine SB.contains ?_
          rw [bTok_in]
          by_cases hkw : (bTok ⟨rC, hrC⟩).kind = Str.ofString "word"
          · rw [decide_eq_true hkw]
            iterate 3 walk1
            exact ⟨_, _, by rw [hkw], rfl⟩
          · rw [decide_eq_false hkw]
            iterate 3 walk1
            exact ⟨_, _, by rw [bTok_kind _ hkw], rfl⟩
        rintro _ _ ⟨tt, tkW, rfl, rfl⟩
        iterate 3 walk1
        refine kup_newTuple (by assumption) NW (fun DS hS FS NS lS => ?_) (by simp [sizeLine_eq])
        iterate 24 walk1
        rename_i D1 hL FL NL lL
        obtain ⟨c1, hc1, hc1'⟩ : ∃ c : Nat, (if decide (0 < (i : Int)) = true then (1 : Int) else 0) = (c : Int) ∧ c ≤ 1 := by split; exact ⟨1, rfl, Nat.le_refl _⟩; exact ⟨0, rfl, Nat.zero_le _⟩
        rw [hc1]
        refine KMa.mul (vs := [.ref DS]) (ws := List.replicate c1 (.ref DS)) FL NL (News.isList NL (.head _)) (by omega) (by omega) (by simp; omega) (by simp) (fun D2 h2 F2 N2 l2 => ?_)
        obtain ⟨vsT, nT, hTm, hTa, hTl⟩ := ((htl.mono hsA).mono (fun q hq => hsC q (.tail _ hq))).open
        refine kmk_add_lit (zs := vsT ++ List.replicate c1 (.ref DS)) F2 N2 (News.isList N2 (.tail _ (.tail _ (.tail _ (List.mem_append_right own (.tail _ hTm)))))) (News.isList N2 (.head _)) (by simp) (fun D3 h3 F3 N3 l3 => ?_) (by rw [sizeLine_eq]; simp; omega)
        have N3' : News g L' h3 (own ++ ((ja, jugO sa (k₉ + 1) tC nC) :: (D3, listOf (vsT ++ List.replicate c1 (Value.ref DS)).toArray 0) :: (DS, _) :: keepC)) := News.sub N3 (fun q hq => by
          rcases List.mem_append.mp hq with hq | hq
          · exact .tail _ (.tail _ (.tail _ (.tail _ (List.mem_append_left _ hq))))
          rcases List.mem_cons.mp hq with rfl | hq
          · exact .tail _ (.tail _ (.tail _ (.tail _ (List.mem_append_right own (.head _)))))
          rcases List.mem_cons.mp hq with rfl | hq
          · exact .head _
          rcases List.mem_cons.mp hq with rfl | hq
          · exact .tail _ (.tail _ (.tail _ (.head _)))
          · exact .tail _ (.tail _ (.tail _ (.tail _ (List.mem_append_right own (.tail _ hq))))))
        have hDS : ∀ q ∈ own ++ ((ja, jugO sa (k₉ + 1) tC nC) :: keepC), q.1 < DS := lS
        have hD3 : ∀ q ∈ own ++ ((ja, jugO sa (k₉ + 1) tC nC) :: keepC), q.1 < D3 := fun q hq => l3 q (.tail _ (.tail _ (.tail _ hq)))
        obtain ⟨SoE, SE⟩ := sep_two (o := listOf (vsT ++ List.replicate c1 (Value.ref DS)).toArray 0) (fun q hq => hD3 q (List.mem_append_left _ hq)) (hD3 _ (List.mem_append_right own (.head _))) (sep_two (o := tupO [.str (bTok ⟨rC, hrC⟩).kind tt, .str (bTok ⟨rC, hrC⟩).told tw] 0) (fun q hq => hDS q (List.mem_append_left _ hq)) (hDS _ (List.mem_append_right own (.head _))) ⟨SoC, SC⟩)
        clear N3 N2 NL FL F2
        iterate 9 walk1
        refine kup_newTuple (by assumption) N3' (fun D4 h4 F4 N4 l4 => ?_) (by simp [sizeLine_eq])
        iterate 2 walk1
        rename_i D5 h5 F5 N5 l5
        have hcC : (L' + 1, co) ∈ keepC := hsC _ (.tail _ (hsA _ hcm₉))
        obtain ⟨N5', SoG, SG⟩ := bed2 N5 l4 (allLt_all l5.2) ⟨SoE, SE⟩
        clear SoE SE
        iterate 4 walk1
        refine nameX_C N5' (by rfl) (List.mem_append_right own (.tail _ (.tail _ (.tail _ (.tail _ (.tail _ hcC)))))) hco ?_
        iterate 4 walk1
        refine usePour (sa := sa) (k := (k₉ + 1)) (t := tC) (n := nC) (many := 2) rfl (by decide) (by decide) own (_ :: _ :: _ :: _ :: keepC) (by assumption) (by assumption) X₁ N5' T₁ rfl SoG SG (hP₉.mono (fun q hq => .tail _ (.tail _ (.tail _ (.tail _ (hsC q (.tail _ (hsA q hq)))))))) (by first | exact roomD hd (by decide) | (show dp + 1 + _ ≤ 900; omega)) (by first | exact roomU hu (by decide) | (show un + 3 + _ ≤ 9000; omega)) ?_
        intro tE nE c2 uE keepE hE tkE FE NE SoE SE hsE hc2
        replace NE : News g L' hE (own ++ ((ja, jugO sa (k₉ + 1 + 1) tE nE) :: keepE)) := NE
        refine KMa.mul (vs := [.ref D4]) (ws := List.replicate c2 (.ref D4)) FE NE (News.isList NE (List.mem_append_right own (.tail _ (hsE _ (.head _))))) (by omega) (by omega) (by simp; omega) (by simp) (fun D6 h6 F6 N6 l6 => ?_)
        refine kmk_add_lit (zs := (vsT ++ List.replicate c1 (.ref DS)) ++ List.replicate c2 (.ref D4)) F6 N6 (News.isList N6 (.tail _ (List.mem_append_right own (.tail _ (hsE _ (.tail _ (.tail _ (.head _)))))))) (News.isList N6 (.head _)) (by simp) (fun D7 h7 F7 N7 l7 => ?_) (by rw [sizeLine_eq]; simp; omega)
        iterate 9 walk1
        rename_i D8 h8 F8 N8 l8
        iterate 2 walk1
        rename_i D9 h9 F9 N9 l9
        refine kmk_add_lit (zs := (vsT ++ List.replicate c1 (.ref DS) ++ List.replicate c2 (.ref D4)) ++ [.ref D8]) F9 N9 (News.isList N9 (.tail _ (.tail _ (.head _)))) (News.isList N9 (.head _)) (by simp) (fun DX hX FX NX lX => ?_) (by rw [sizeLine_eq]; simp; omega)
        have hs9E : ∀ q ∈ keep₉, q ∈ keepE := fun q hq => hsE q (.tail _ (.tail _ (.tail _ (.tail _ (hsC q (.tail _ (hsA q hq)))))))
        iterate 2 walk1
        rename_i hY FY NY
        iterate 1 walk1
        obtain ⟨NZ, SoZ, SZ⟩ := bed2 (News.pick NY) (allLt_all l8.2.2) (fun q hq => lX q (.tail _ (.tail _ (.tail _ (.tail _ hq))))) ⟨SoE, SE⟩
        · refine ⟨rfl, _, _, _, _, rfl, FY, NZ, SoZ, DX, toks ++ List.replicate c1 (bTok ⟨rC, hrC⟩) ++ List.replicate c2 .nott ++ [.name 0], _, _, _, _, _, over2 rfl rfl, rfl, SZ, ?_, by simp; omega, .tail _ (.tail _ (hs9E _ hcm₉)), hP₉.mono (fun q hq => .tail _ (.tail _ (hs9E q hq))), hrow₉.mono (fun q hq => .tail _ (.tail _ (hs9E q hq)))⟩
          unfold RowIn
          simp only [List.map_append, List.map_replicate, List.map_cons, List.map_nil]
          refine .list (.head _) (DatAll.append (DatAll.append (DatAll.append (hTa.mono fun q hq => .tail _ (.tail _ (hsE q (.tail _ (.tail _ (.tail _ (.tail _ hq))))))) (datAll_rep (.tuple (.tail _ (.tail _ (hsE _ (.tail _ (.tail _ (.tail _ (.head _))))))) (.cons (.str _ _) (.cons (.str _ _) .nil))) c1)) (datAll_rep (.tuple (.tail _ (.tail _ (hsE _ (.tail _ (.head _))))) (.cons (.str _ _) (.cons (.str _ _) .nil))) c2)) (.cons (.tuple (.tail _ (.head _)) (.cons (.str _ _) (.cons (.str _ _) .nil))) .nil))
      · rintro m₁ led₁ h tk ⟨ta, toks, u, k₉, t₉, n₉, keep₉, rfl, rfl, S₉, htl, hln, hcm₉, hP₉, hrow₉⟩ Fi Ni
        iterate 5 walk1
        obtain ⟨vsT, nT, hTm, hTa, hTl⟩ := htl.open
        obtain ⟨vs, nr, hvm, hva, hvl⟩ := hrow₉.open
        refine kmk_add_lit (zs := vsT ++ vs) Fi Ni (News.isList Ni (.tail _ hTm)) (News.isList Ni (.tail _ hvm)) (by simp) (fun D2 h₇ F₇ N₇ l₇ => ?_) (by rw [sizeLine_eq]; simp; omega)
        subst hPP
        refine ⟨L', _, _, F₇, News.sub N₇ (b := (D2, listOf (vsT ++ vs).toArray 0) :: keep₉) (fun q hq => ?_), fun FR NR => ?_⟩
        · rcases List.mem_cons.mp hq with rfl | hq
          · exact .head _
          · exact .tail _ (.tail _ hq)
        · refine ret D2 (toks ++ row) _ _ _ FR NR ?_ (by rw [List.length_append]; omega)
          unfold RowIn
          rw [List.map_append]
          exact .list (.head _) (DatAll.append (hTa.mono (fun q hq => .tail _ hq)) (hva.mono (fun q hq => .tail _ hq)))
end
section
open PySem PySem.W PyProof.Rows PySem.Calls PyProof.V PySem.Spec
set_option maxRecDepth 100000
set_option maxHeartbeats 1000000
theorem eq_same {w : World} {A : Around} {E : Value → Shared → Prop} {s : Shared} {g : Heap} {L : Addr} {led : Led} {Q : Value → Shared → Prop} {a b : Addr} {d : Dat} (n : Nat) (N : News g L s.heap led) (ha : DatIn led (.ref a) d) (hb : DatIn led (.ref b) d) (hk : kqdOk n d = true) (hn : n ≤ 60) (hu : A.units ≤ 9500) (h : Q (.bool true) s) :
    wpAny (model PySem.Challenge.rw_pq0176_01.row.prog w) A (compareOp .Eq (.ref a) (.ref b)) Q E s := by
  obtain ⟨as, ra⟩ := kqd_in N n ha hk
  obtain ⟨bs, rb⟩ := kqd_in N n hb hk
  have la := kqd_lay n _ hk
  have sh : SeqAt.shaped (kqdP d) = true := by unfold SeqAt.shaped; rw [la.1, Bool.true_and]; exact decide_eq_true (Nat.le_trans la.2 (by omega))
  exact eq_dataH ra rb sh sh (by have := cLine_is; omega) (by rw [(kqd_eqv n d d n hk hk).mpr rfl]; exact h)
theorem fine_kqd {res : Res} (h : Fine res) : kqdOk 51 (resD res) = true := by
  cases res with
  | ok t q => have z := h.2; simp [resD, kqdOk, z]
  | bad q => simp [resD, dS, kqdOk]; decide +kernel
theorem row_kqd (row : List Tk) : kqdOk 2 (.list (row.map tkD)) = true := by
  simp only [kqdOk, List.all_map, List.all_eq_true]
  exact fun t _ => tk_ok t
theorem resD_ref {led : Led} {v : Value} {r : Res} (h : DatIn led v (resD r)) : ∃ a, v = .ref a := by
  cases r <;> (obtain ⟨a, n, x, y, rfl, _⟩ := pair_open h; exact ⟨a, rfl⟩)
/-- found == due and row == ahead -/
theorem law_end {w : World} {mean : ExcName → Option Value} {mg mb : Str → Option Value} {g : Heap} {fa L : Addr} {cd : Value} {s : Shared} {m : Str → Option Value} {ra da : Addr} {v due : Value} {row : List Tk} {res : Res} {led : Led} {PP : Flow → Shared → Prop} {EE : Value → Shared → Prop}
    (F : Fr g L s.heap (over [(Str.ofString "found", v), (Str.ofString "due", due), (Str.ofString "row", .ref ra), (Str.ofString "ahead", .ref da)] m)) (N : News g L s.heap led) (T : Top V LS mean mg mb g) (hv : DatIn led v (resD res)) (hd : DatIn led due (resD res)) (hf : Fine res) (hr : RowIn led ra row) (ha : RowIn led da row)
    (fin : ∀ h' tk' m', Fr g L h' m' → PP (.ret (.bool true)) { s with heap := h', toks := tk' }) :
    wpAny (model PySem.Challenge.rw_pq0176_01.row.prog w) (callerA.deeper (envOf (Str.ofString "law") C_law L fa cd)) (execs (B_law.drop 4) (envOf (Str.ofString "law") C_law L fa cd)) PP EE s := by
  obtain ⟨va, rfl⟩ := resD_ref hv
  obtain ⟨vd, rfl⟩ := resD_ref hd
  dsimp only [B_law, List.drop]
  iterate 6 walk1
  refine eq_same 51 N hv hd (fine_kqd hf) (by decide) (by show 7 ≤ 9500; decide) ?_
  iterate 6 walk1
  refine eq_same 2 N hr ha (row_kqd row) (by decide) (by show 7 ≤ 9500; decide) ?_
  exact fin _ _ _ (by assumption)
end
section
open PySem PySem.W PyProof.Rows PySem.Calls PyProof.V PySem.Spec Builtin Builtin.ObjectAttr
set_option maxRecDepth 100000
set_option maxHeartbeats 1000000
section
variable {w : World} {A : Around} {E : Value → Shared → Prop} {h : Heap} {g : Array GenState} {d : Drawn} {t : Nat} {os : OsState} {x : Addr} {ox : Obj} {od : Option Obj} {name : Str} {v : Value}
theorem find_ga (P : Params) : findIn (K P) (.ref 41) "__getattribute__" = some (some (.builtin "BaseException.__getattribute__")) := by kernel_rfl
theorem find_hook (P : Params) : findIn (K P) (.ref 41) "__getattr__" = some none := by kernel_rfl
theorem get_call {tk : Tok} {R : Result → Shared → Prop} (X : (K w.params).In h) (I : InstAt h x ox 41 od) (e : findObj (K w.params) 41 od name = some (.value v)) (hq : R (.ok (.ret v)) ⟨h, g, d, t, os⟩) :
    codeAny (model PySem.Challenge.rw_pq0176_01.row.prog w) A (.call (.builtin "BaseException.__getattribute__") ⟨[.ref x, .str name tk], []⟩) R ⟨h, g, d, t, os⟩ := by
  have FB := PySem.F.attrBase_Exception
  obtain ⟨cd, hc, hm0, hd0⟩ := cls_41 w.params
  have ne : cd.mro.isEmpty = false := by rw [hm0]; rfl
  have hk : builtinKind "BaseException.__getattribute__" = some .slot := by decide +kernel
  have hsplit : splitId "BaseException.__getattribute__" = some ("BaseException", "__getattribute__") := by decide +kernel
  have sub : Looks (model PySem.Challenge.rw_pq0176_01.row.prog w) h (isInstance (.ref x) (.type "BaseException")) true := I.type.andThen (looks_mroIn X (by unfold mroIn; rw [hc, Option.bind_some, if_neg (by rw [ne]; decide), hm0]; decide))
  refine codeAny_call_builtin FB.ga.plain PySem.F.entry_bexc_ga (@check_slot (model PySem.Challenge.rw_pq0176_01.row.prog w) _ _ ⟨h, g, d, t, os⟩ "BaseException.__getattribute__" "BaseException" "__getattribute__" (.ref x) [.str name tk] [] _ hk hsplit sub (PySem.F.args_bexc_ga _ _) ?_)
  have L := looks_find (M := model PySem.Challenge.rw_pq0176_01.row.prog w) X I e
  unfold Builtin.«object.__getattribute__»
  have T := I.type (M := model PySem.Challenge.rw_pq0176_01.row.prog w)
  repeat (any_goals (first | assumption | with_reducible refine T.here ?_ | with_reducible refine L.here ?_ | wp_step))
theorem get_by {tk : Tok} {fill expr : Bool} {Q : Value → Shared → Prop} (X : (K w.params).In h) (I : InstAt h x ox 41 od) (e : findObj (K w.params) 41 od name = some (.value v)) (hh : handedOut v = pure v) (hq : Q v ⟨h, g, d, t, os⟩) :
    wpAny (model PySem.Challenge.rw_pq0176_01.row.prog w) A (getAttrBy (.ref x) (.str name tk) fill expr) Q E ⟨h, g, d, t, os⟩ := by
  have FB := PySem.F.attrBase_Exception
  have f3 := FB.ga.bind (.ref x)
  have hx0 : (expr && onTheHeap (Value.builtin "BaseException.__getattribute__")) = false := by cases expr <;> rfl
  have hx2 : (Value.builtin "BaseException.__getattribute__" == Value.builtin "object.__getattribute__") = false := by decide +kernel
  have hx1 : (onTheHeap (Value.ref 41) && Value.builtin "BaseException.__getattribute__" == Value.builtin "object.__getattribute__") = false := by rw [hx2]; rfl
  have L1 := looks_findIn (M := model PySem.Challenge.rw_pq0176_01.row.prog w) X (find_ga w.params)
  have L2 := looks_findIn (M := model PySem.Challenge.rw_pq0176_01.row.prog w) X (find_hook w.params)
  have T := I.type (M := model PySem.Challenge.rw_pq0176_01.row.prog w)
  repeat (any_goals (first | assumption | with_reducible refine T.here ?_ | with_reducible refine L1.here ?_ | with_reducible refine L2.here ?_ | wp_step))
  refine get_call X I e ?_
  repeat (any_goals (first | assumption | wp_step))
theorem get_exc {expr : Bool} {Q : Value → Shared → Prop} (X : (K w.params).In h) (I : InstAt h x ox 41 od) (e : findObj (K w.params) 41 od name = some (.value v)) (hh : handedOut v = pure v) (hq : Q v ⟨h, g, d, t + 1, os⟩) :
    wpAny (model PySem.Challenge.rw_pq0176_01.row.prog w) A (getAttr (.ref x) name expr) Q E ⟨h, g, d, t, os⟩ := by
  unfold getAttr
  repeat (any_goals (first | assumption | with_reducible apply get_by X I e hh | wp_step))
end
section
variable {w : World} {A : Around} {E : Value → Shared → Prop} {s : Shared} {h₀ : Heap} {L x dx : Addr} {m : Str → Option Value} {led : Led} {ox : Obj} {c told : Value} {k1 k2 : Tok} {expr : Bool} {Q : Value → Shared → Prop}
theorem get_code (X₀ : (K w.params).In h₀) (F : Fr h₀ L s.heap m) (N : News h₀ L s.heap led) (he : (x, ox) ∈ led) (hc : ox.cls = .ref 41) (hn : notCls ox = true) (hd : ox.dict = some dx) (hdx : (dx, dictOf (errEnts w.params c told k1 k2) 2) ∈ led) (hh : handedOut c = pure c) (h : Q c { s with toks := s.toks + 1 }) :
    wpAny (model PySem.Challenge.rw_pq0176_01.row.prog w) A (getAttr (.ref x) (Str.ofString "code") expr) Q E s :=
  get_exc (ox := ox) (od := some (dictOf (errEnts w.params c told k1 k2) 2)) (X₀.keeps F.keep) ⟨(N _ he).1, hc, hn, by rw [hd]; exact (N _ hdx).1⟩ (findObj_own (attr := none) (by kernel_rfl) (by kernel_rfl) rfl (by rfl)) hh h
theorem get_told (X₀ : (K w.params).In h₀) (F : Fr h₀ L s.heap m) (N : News h₀ L s.heap led) (he : (x, ox) ∈ led) (hc : ox.cls = .ref 41) (hn : notCls ox = true) (hd : ox.dict = some dx) (hdx : (dx, dictOf (errEnts w.params c told k1 k2) 2) ∈ led) (hh : handedOut told = pure told) (h : Q told { s with toks := s.toks + 1 }) :
    wpAny (model PySem.Challenge.rw_pq0176_01.row.prog w) A (getAttr (.ref x) (Str.ofString "told") expr) Q E s :=
  get_exc (ox := ox) (od := some (dictOf (errEnts w.params c told k1 k2) 2)) (X₀.keeps F.keep) ⟨(N _ he).1, hc, hn, by rw [hd]; exact (N _ hdx).1⟩ (findObj_own (attr := none) (by kernel_rfl) (by kernel_rfl) rfl (by rfl)) hh h
end
section
variable {w : World} {A₀ : Around} {E : Value → Shared → Prop} {s' : Shared} {h₀ h : Heap} {outer : List Env} {L a e t d : Addr} {m : Str → Option Value} {name : Str} {scope : Scope} {cd : Value} {vs : List Value} {n : Str} {b₀ : Stmt} {suite : List Stmt} {pos np : Pos} {rest : List ExceptHandler} {Q : Flow → Shared → Prop} {news : Led}
  {loose' : List Str} {p : Program} {mg mb : Str → Option Value}
theorem caught_E (B : Below A₀ h₀ outer h₀) (F : Fr h₀ L h m) (hsm : h.UpToSlots s'.heap) (R : RaisedK h₀ (envOf name scope L a cd :: outer) e (.ref 41) t vs news s'.heap) (D : DictIs s'.heap e d)
    (X : (K w.params).In h₀) (T : TopRead p loose' mg mb h₀) (ex : nsIn (K w.params) mainGlobals "BasicError" = some (some (.ref 41)))
    (k : ∀ h' tk oe, Fr h₀ L h' (fun y => if y = n then some (.ref e) else m y) → News h₀ L h' ((e, oe) :: news) → oe.cls = .ref 41 → notCls oe = true → oe.dict = some d →
      wpAny (model PySem.Challenge.rw_pq0176_01.row.prog w) ((A₀.deeper (envOf name scope L a cd)).mark (some (.ref e))) (execs (b₀ :: suite) (envOf name scope L a cd))
        (fun f s₄ => wpAny (model PySem.Challenge.rw_pq0176_01.row.prog w) (A₀.deeper (envOf name scope L a cd)) (do bindName (envOf name scope L a cd) n .none; unbindBehindTheSuite (envOf name scope L a cd) n pos) (fun _ s₅ => Q f s₅) E s₄)
        (AsSuiteRaised (model PySem.Challenge.rw_pq0176_01.row.prog w) ((A₀.deeper (envOf name scope L a cd)).mark (some (.ref e))) (envOf name scope L a cd) n pos (notedBy (model PySem.Challenge.rw_pq0176_01.row.prog w) ((A₀.deeper (envOf name scope L a cd)).mark (some (.ref e))) (envOf name scope L a cd) (cameBackBy (model PySem.Challenge.rw_pq0176_01.row.prog w) (A₀.deeper (envOf name scope L a cd)) (envOf name scope L a cd) E)))
        { s' with heap := h', toks := tk })
    (hk : scope.kind = .function := by rfl) (hlo : (envOf name scope L a cd).kindOf n = some .local := by rfl) (hx : (envOf name scope L a cd).kindOf "BasicError" = some .globalImplicit := by rfl) :
    wpAny (model PySem.Challenge.rw_pq0176_01.row.prog w) (A₀.deeper (envOf name scope L a cd)) (noteFrame (.ref e) (envOf name scope L a cd))
      (fun _ s₂ => wpAny (model PySem.Challenge.rw_pq0176_01.row.prog w) (A₀.deeper (envOf name scope L a cd)) (setFlight (.ref e) none) (fun _ s₃ =>
        wpAny (model PySem.Challenge.rw_pq0176_01.row.prog w) (A₀.deeper (envOf name scope L a cd)) (handleBy (.ref e) (envOf name scope L a cd) (.ExceptHandler (some (.Name "BasicError" np)) (some n) (b₀ :: suite) pos :: rest)) Q E s₃) E s₂) E s' := by
  obtain ⟨⟨Bs, hB, hl, hfl, hnew⟩, htup⟩ := R
  have hL : Bs.get? L = none := by
    obtain ⟨_, ⟨L', _, hf, hn', _⟩, _⟩ := hfl.2.2.1
    obtain rfl : L = L' := Option.some.inj hf
    exact hn'
  refine looks_onD (Around.frames_deeper B.stack) rfl hfl D fun h₄ hheld₄ hsm₄ D₄ => ?_
  refine landsD hheld₄ D₄ fun h₅ hheld hsm₅' D₅ => ?_
  have hsm₅ := hsm₄.trans hsm₅'
  have hheld' := flyingW_base hB hheld
  have F₅ := F.of_stays hheld'.1 (hsm.trans hsm₅)
  obtain ⟨ob, hob, hobc⟩ := hheld'.there
  refine wpAny_handleBy_cons (codeAny_handlers_test (name_K F₅ X T ex ?_ hk hx (by decide))) (by intro q; cases q)
  refine wpAny_excMatches_sub_self ((X.keeps F₅.keep) _ _ (K_41 w.params)) hob hobc (by decide) (codeAny_handlers_suite_as ?_)
  refine lands_againD hheld D₅ fun h₆ hfl₆ hsm₆ D₆ => ?_
  have hfl₆' := flyingW_base hB hfl₆
  have F₆ := F.of_stays hfl₆'.1 ((hsm.trans hsm₅).trans hsm₆)
  obtain ⟨oe, ws, hoe, hoec, hoed, hoe0⟩ := hfl₆'.first
  have Nl : News h₀ L h₆ news := fun q hq => ⟨hfl₆.1 _ _ (hl q hq).1, (fun z => by have := (hl q hq).1; rw [z, hL] at this; cases this), (hl q hq).2⟩
  have N₆ := News.more F₆ Nl hoe (fun es n q => by rw [hoed] at q; cases q) hfl₆'.2.1
  obtain ⟨od, hod, hdd⟩ := D₆
  rw [hoe] at hod
  cases hod
  refine stN F₆ N₆ (fun h₇ F₇ N₇ => ?_) hk hlo
  exact k h₇ _ _ F₇ N₇ hoec (by unfold notCls; rw [hoed]) hdd
end
end
section
open PySem PySem.W PyProof.Rows PySem.Calls PyProof.V PySem.Spec
set_option maxRecDepth 100000
set_option maxHeartbeats 1000000
theorem jug_ne {sa : Addr} {ys : List Value} {t : Tok} {n n2 : Nat} (hI : IntsOnly ys) : jugO sa 0 t n = listOf ys.toArray n2 → False := fun e => by
  have z : ys = [.ref sa, .int (0 : Nat) t] := by
    have := congrArg Obj.data e
    simp at this
    exact this.1.symm
  obtain ⟨i, u, h⟩ := hI (.ref sa) (by rw [z]; exact .head _)
  cases h
theorem over4 {m : Str → Option Value} {a b c d : Str} {v1 v2 v3 v4 : Value} (h1 : m a = some v1) (h2 : m b = some v2) (h3 : m c = some v3) (h4 : m d = some v4) : m = over [(a, v1), (b, v2), (c, v3), (d, v4)] m := (over_self fun q hq => by
  simp only [List.mem_cons, List.not_mem_nil, or_false] at hq
  rcases hq with rfl | rfl | rfl | rfl <;> assumption).symm
theorem frOver4 {g h : Heap} {L : Addr} {m : Str → Option Value} {a b c d : Str} {v1 v2 v3 v4 : Value} (F : Fr g L h m) (h1 : m a = some v1) (h2 : m b = some v2) (h3 : m c = some v3) (h4 : m d = some v4) : Fr g L h (over [(a, v1), (b, v2), (c, v3), (d, v4)] m) := by
  rw [← Mine.over4 h1 h2 h3 h4]; exact F
theorem law_rest {w : World} {mean : ExcName → Option Value} {mg mb : Str → Option Value} {g : Heap} {fa L : Addr} {cd : Value} {s : Shared} {m : Str → Option Value} {ja sa : Addr} {ys : List Value} {t : Tok} {n n2 : Nat} {PP : Flow → Shared → Prop} {EE : Value → Shared → Prop}
    (B : Below callerA g [] g) (F : Fr g L s.heap m) (hm : m (Str.ofString "jug") = some (.ref ja)) (X : (K w.params).In g) (N : News g L s.heap [(ja, jugO sa 0 t n), (sa, listOf ys.toArray n2)]) (T : Top V LS mean mg mb g) (hI : IntsOnly ys) (hl : ys.length ≤ 40)
    (fin : ∀ h' tk' m', Fr g L h' m' → PP (.ret (.bool true)) { s with heap := h', toks := tk' }) :
    wpAny (model PySem.Challenge.rw_pq0176_01.row.prog w) (callerA.deeper (envOf (Str.ofString "law") C_law L fa cd)) (execs (B_law.drop 1) (envOf (Str.ofString "law") C_law L fa cd)) PP EE s := by
  rw [show m = over [(Str.ofString "jug", .ref ja)] m from over1 hm] at F
  revert X
  k_fill
  intro X
  dsimp only [B_law, List.drop]
  iterate 8 walk1
  refine ⟨X.keeps (Fr.keep (by assumption)), ?_⟩
  show PySem.wpAny _ (ktrTop 302 7 (some []) (Str.ofString "law") C_law L fa cd [] []) _ _ _ _
  refine row_ (k := 0) B (by assumption) X N T (by rfl) (Sep.one ?_) ⟨ys, n2, .head _, hI, hl⟩ (by show 302 + _ ≤ 900; omega) (by show 7 + _ ≤ 9000; omega) ?_
  · intro p hp
    rw [List.mem_singleton.mp hp]
    exact fun e => News.ne N (.head _) (.tail _ (.head _)) (fun z => jug_ne hI z) e.symm
  intro ra row keep h₁ tk₁ F₁ N₁ hrow hr
  iterate 2 walk1
  rename_i h₂ F₂ N₂
  iterate 4 walk1
  iterate 10 walk1
  refine ⟨X.keeps (Fr.keep (by assumption)), ?_⟩
  show PySem.wpAny _ (ktrTop 302 7 (some []) (Str.ofString "law") C_law L fa cd [] []) _ _ _ _
  obtain ⟨res, hres⟩ := Option.isSome_iff_exists.mp ((total row 123).2.2.2.1 0 0 (by omega))
  have hfine := fine_climb hr hres
  obtain ⟨kk, hrun⟩ := agree_top row hr hres
  refine use0 ((law_all w row hr 123 123 (Nat.le_refl _)).2.2 0 0 res hres ra 0 0 _ _ rfl rfl) B (by assumption) X N₂ T (by rfl) hrow (by show 302 + _ ≤ 900; omega) (by show 7 + _ ≤ 9000; omega) ?_
  intro due imm h₃ tk₃ F₃ N₃ hs₃ hdue
  have hrow₃ := hrow.mono hs₃
  obtain ⟨vs, nr, hvm, hva, hvl⟩ := hrow₃.open
  iterate 7 walk1
  refine kup_listOf (by assumption) N₃ hvm rfl (fun DA cA h₄ F₄ N₄ l₄ => ?_) (by rw [sizeLine_eq]; simp; omega)
  iterate 23 walk1
  rename_i F₅ N₅
  refine ⟨X.keeps (Fr.keep (by assumption)), ?_⟩
  show PySem.wpAny _ (ktrTop 302 7 (some []) (Str.ofString "law") C_law L fa cd [] []) _ _ _ _
  refine useE (expression_ w ra row hr _ kk res hrun) [] ((_, _) :: (DA, listOf vs.toArray.toList.toArray cA) :: imm) B F₅ X N₅ T (by rfl) (Sep.nil _) (Sep.nil _) (hrow₃.mono (fun q hq => .tail _ (.tail _ hq))) (by show 302 + _ ≤ 900; omega) (by show 7 + _ ≤ 9000; omega) ?_ ?_
  · intro e q h₆ tk₆ g₂ hbad F₆ hsm hfl
    obtain ⟨t, dx, vsx, news, tc, tq, k1, k2, R, D, hdx, hnk⟩ := hfl
    subst hbad
    refine caught_E B F₆ hsm R D X (topRead_of T) (by kernel_rfl) (fun h₇ tk₇ oe F₇ N₇ hoe hon hod => ?_)
    iterate 6 walk1
    refine get_code X (by assumption) N₇ (.head _) hoe hon hod (.tail _ hdx) rfl ?_
    iterate 10 walk1
    refine get_told X (by assumption) N₇ (.head _) hoe hon hod (.tail _ hdx) rfl ?_
    iterate 7 walk1
    rename_i F₈ N₈
    have hDA : (DA, listOf vs.toArray cA) ∈ news := by simpa using hnk _ (.tail _ (.head _))
    have up : ∀ p ∈ imm, p ∈ news := fun p hp => hnk p (.tail _ (.tail _ hp))
    exact law_end (res := .bad q) (frOver4 F₈ rfl rfl rfl rfl) N₈ T (.tuple (.head _) (.cons (.str _ _) (.cons (.int _ _) .nil))) (hdue.mono (fun q hq => .tail _ (.tail _ (up q hq)))) hfine (hrow₃.mono (fun q hq => .tail _ (.tail _ (up q hq)))) (.list (.tail _ (.tail _ hDA)) (hva.mono (fun q hq => .tail _ (.tail _ (up q hq))))) (fun h' tk' m' f => fin h' tk' m' f)
  · rintro v mt' keep' h₆ tk₆ F₆ N₆ _ _ hs₆ ⟨d, q, rfl, hv⟩
    iterate 3 walk1
    rename_i F₇ N₇
    dsimp only
    iterate 1 walk1
    dsimp only
    have hDA : (DA, listOf vs.toArray cA) ∈ keep' := by simpa using hs₆ _ (.tail _ (.head _))
    exact law_end (res := .ok d q) (frOver4 F₇ rfl rfl rfl rfl) (News.sub N₇ (fun q hq => List.mem_append_right mt' hq)) T hv (hdue.mono (fun q hq => hs₆ q (.tail _ (.tail _ hq)))) hfine (hrow₃.mono (fun q hq => hs₆ q (.tail _ (.tail _ hq)))) (.list hDA (hva.mono (fun q hq => hs₆ q (.tail _ (.tail _ hq))))) (fun h' tk' m' f => fin h' tk' m' f)
end
section
open PySem PySem.W PyProof.Rows PySem.Calls PyProof.V PySem.Spec
set_option maxRecDepth 100000
set_option maxHeartbeats 8000000
theorem intsOnly_of : ∀ {ys : List Value} {is : List Int}, IntsAre ys is → IntsOnly ys
  | _, _, .nil => fun v hv => nomatch hv
  | _, _, .cons n t r => fun v hv => (List.mem_cons.mp hv).elim (fun e => ⟨n, t, e⟩) (intsOnly_of r v)
theorem law_rest3 {w : World} {mean : ExcName → Option Value} {mg mb : Str → Option Value} {g : Heap} {fa L : Addr} {cd : Value} {s : Shared} {m : Str → Option Value} {ja sa : Addr} {ys : List Value} {t : Tok} {q : Addr × Obj} {is : List Int} {f : Int → Int} {PP : Flow → Shared → Prop} {EE : Value → Shared → Prop}
    (N : News g L s.heap [(ja, listOf #[.ref sa, .int 0 t] 0), (sa, LCg.lst ys), q]) (F : Fr g L s.heap m) (hm : m (Str.ofString "jug") = some (.ref ja)) (B : Below callerA g [] g) (X : (K w.params).In g) (T : Top V LS mean mg mb g) (hI : IntsAre ys (List.map f (List.take 40 is)))
    (fin : ∀ h' tk' m', Fr g L h' m' → PP (.ret (.bool true)) { s with heap := h', toks := tk' }) :
    wpAny (model PySem.Challenge.rw_pq0176_01.row.prog w) (callerA.deeper (envOf (Str.ofString "law") C_law L fa cd)) (execs (B_law.drop 1) (envOf (Str.ofString "law") C_law L fa cd)) PP EE s := by
  refine law_rest (sa := sa) (t := t) (n := 0) (n2 := ys.length) B F hm X (News.sub N fun p hp => ?_) T (intsOnly_of hI) ?_ fin
  · rcases List.mem_cons.mp hp with rfl | hp
    · exact .head _
    · rw [List.mem_singleton.mp hp]; exact .tail _ (.head _)
  · have := hI.length
    simp at this
    omega
end
end Mine
open PySem PySem.W PyProof.Rows PySem.Calls PyProof.V PySem.Spec
set_option maxRecDepth 100000
set_option maxHeartbeats 8000000
theorem PySem.Challenge.cw_pq0176_01_holds : PySem.Challenge.rw_pq0176_01.Holds := by
 exact Mine.hd (by
  k_fill
  intro w s₀ s₁ mg mb G Y fa o pm cd doc dV kV ho hd hcd hD hmg hg args vals as hpre hlay hrd hwl hlo
  have KX := kIn_of Y
  have X := (Ground.X G).1
  have V := (Ground.X G).2
  have GL := glob_more (Ground.glob G (by decide +kernel) (by decide +kernel)) V
  refine Ground.open G ?_
  intro T B D TE TW
  try (refine guard_noD D (by decide +kernel) ?_; clear D)
  obtain ⟨_, _, M⟩ := bmod_of_top T
  have TA := at_of_top T
  try (obtain ⟨_, _, he, B0⟩ := based_of_top T rfl hmg ho hd; have he' : cd = _ := he; subst he'; clear he)
  clear hmg
  wrow_args hpre hlay hrd hwl hlo
  all_goals (
    first | refine callC_kw (enter_call ?_) | refine enter_call ?_
    w_top on
    try refine codeAny_mono ?_ (fun _ _ g => GoodW.toG g)
    have K0 := below_caller (Top.heap T)
    w_call any ho hd hcd hD T F
    clear hd TA
    k_drop
    skip)
  all_goals try k_fold
  dsimp only [Mine.dLaw, Mine.B_law]
  generalize hPP : (fun (fl : Flow) (s' : Shared) => GoodW _ _ _ _ _ _ _) = PP
  iterate 5 walk1
  · iterate 15 walk1
  iterate 7 walk1
  rename_i N'
  refine Mine.law_rest3 N' (by assumption) (by rfl) (by assumption) (by assumption) (by assumption) (by assumption) fun h' tk' m' F => ?_
  subst hPP
  refine goodW_bool F (by assumption) (raisesW_false ?_) ?_
  · wrow_none_raised
  · first | kc_post | wrow_post)
