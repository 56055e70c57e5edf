import PyProof.Rows.All
import Wide.All
import OpenK.AllK
import Wide.FinOn
import Lean
import PySem.Challenge.RW_sm0002_01
set_option Elab.async false
set_option maxRecDepth 100000
set_option maxHeartbeats 40000000
set_option linter.unusedVariables false
set_option linter.unusedSectionVars false
set_option linter.unusedSimpArgs false
namespace Mine
open PySem PySem.W PyProof.Rows PySem.Calls PySem.Spec

/-! ### small steps, each said once -/
theorem or2 {k : Nat} (h : k < 2) : k = 0 ∨ k = 1 := by first | lia | omega
theorem or3 {k : Nat} (h : k < 3) : k = 0 ∨ k = 1 ∨ k = 2 := by first | lia | omega
theorem or4 {k : Nat} (h : k < 4) : k = 0 ∨ k = 1 ∨ k = 2 ∨ k = 3 := by first | lia | omega
theorem or6 {k : Nat} (h : k < 6) : k = 0 ∨ k = 1 ∨ k = 2 ∨ k = 3 ∨ k = 4 ∨ k = 5 := by first | lia | omega
theorem zt0 (n : Nat) : ((n : Int) - 0).toNat = n := by first | lia | omega
theorem zlo (n : Nat) : -(2 ^ 62 : Int) ≤ (n : Int) := by first | lia | omega
theorem zup {n : Nat} (h : n ≤ 100) : (n : Int) < 2 ^ 62 := by first | lia | omega
theorem zdn {l i : Nat} (h : i < l) : l - (i + 1) + 1 < l - i + 1 := Nat.succ_lt_succ (Nat.sub_succ_lt_self l i h)
theorem zeq {l i : Nat} (h : i ≤ l) (h2 : ¬ i < l) : i = l := Nat.le_antisymm h (Nat.le_of_not_lt h2)
theorem z6 (b : Nat) : ((6 : Int) - ((b : Int) + 1)).toNat = 6 - (b + 1) := by first | lia | omega
theorem z60 {a : Nat} (h : a ≤ 2) : a < 2 ^ 60 := Nat.lt_of_le_of_lt h (by decide)
theorem nadd {N a b : Nat} (h : a ≠ b) : (N + a : Nat) ≠ N + b := fun z => h (Nat.add_left_cancel z)
theorem nadd0 {N a : Nat} (h : a ≠ 0) : (N + a : Nat) ≠ N := fun z => h (Nat.add_left_cancel (z.trans (Nat.add_zero N).symm))
theorem zle100 {m : Nat} (h : m = 2 ∨ m = 3) : m ≤ 100 := h.elim (fun z => by rw [z]; decide) fun z => by rw [z]; decide
theorem zk25 (K : Nat) : 2 * K ≤ 5 * K := Nat.mul_le_mul_right K (by decide)
theorem zkk (K : Nat) : K + K ≤ 2 * K := Nat.le_of_eq (Nat.two_mul K).symm
theorem zkt {K : Nat} (h : 0 < K) : K + (K + 2 * K) + 1 ≤ 5 * K := by first | lia | omega
theorem zk1 (K : Nat) : K ≤ 2 * K := Nat.le_mul_of_pos_left K (by decide)
theorem zup3 {i n : Nat} (h : i < n) (hn : n ≤ 100) : (i : Int) < 2 ^ 63 := by first | lia | omega

/-! ### what the text's top leaves: its globals, its defs and their code objects (the defs' own parts are the row's) -/
noncomputable def fdAt (n : Nat) : Stmt := PySem.Challenge.pw_sm0002_01.main.body.getD n (.Pass ⟨0, 0, 0, 0⟩)
noncomputable def fdA (n : Nat) : Arguments := match fdAt n with | .FunctionDef _ a _ _ _ _ _ _ _ _ => a | _ => { posonlyargs := [], args := [], vararg := none, kwonlyargs := [], kw_defaults := [], kwarg := none, defaults := [] }
noncomputable def fdB (n : Nat) : List Stmt := match fdAt n with | .FunctionDef _ _ b _ _ _ _ _ _ _ => b | _ => []
noncomputable def fdS (n : Nat) : Scope := match fdAt n with | .FunctionDef _ _ _ _ _ _ s _ _ _ => s | _ => PySem.Challenge.pw_sm0002_01.main.scope
noncomputable def K0 : Params → Frag := fun P =>
  (nat_lit 3, { cls := Value.type "dict", data := Data.dict #[{ hash := PyData.keyHash P (Str.ofString "__name__"), key := Value.str (Str.ofString "__name__") 165, val := Value.str (Str.ofString "law_sm0002_01") 386 }, { hash := PyData.keyHash P (Str.ofString "__doc__"), key := Value.str (Str.ofString "__doc__") 166, val := Value.none }, { hash := PyData.keyHash P (Str.ofString "__package__"), key := Value.str (Str.ofString "__package__") 167, val := Value.none }, { hash := PyData.keyHash P (Str.ofString "__loader__"), key := Value.str (Str.ofString "__loader__") 168, val := Value.builtin "__main__.__loader__#opaque" }, { hash := PyData.keyHash P (Str.ofString "__spec__"), key := Value.str (Str.ofString "__spec__") 169, val := Value.none }, { hash := PyData.keyHash P (Str.ofString "__annotations__"), key := Value.str (Str.ofString "__annotations__") 170, val := Value.ref 6 }, { hash := PyData.keyHash P (Str.ofString "__builtins__"), key := Value.str (Str.ofString "__builtins__") 171, val := Value.ref 4 }, { hash := PyData.keyHash P (Str.ofString "__file__"), key := Value.str (Str.ofString "__file__") 173, val := Value.str (Str.ofString "/claim/cut.py") 172 }, { hash := PyData.keyHash P (Str.ofString "__cached__"), key := Value.str (Str.ofString "__cached__") 174, val := Value.none }, { hash := PyData.keyHash P (Str.ofString "MOST_EXPONENT"), key := Value.str (Str.ofString "MOST_EXPONENT") 190, val := Value.int 99 189 }, { hash := PyData.keyHash P (Str.ofString "BasicError"), key := Value.str (Str.ofString "BasicError") 224, val := Value.ref 34 }, { hash := PyData.keyHash P (Str.ofString "figures_of"), key := Value.str (Str.ofString "figures_of") 233, val := Value.ref 44 }, { hash := PyData.keyHash P (Str.ofString "rounded_by"), key := Value.str (Str.ofString "rounded_by") 244, val := Value.ref 51 }, { hash := PyData.keyHash P (Str.ofString "made"), key := Value.str (Str.ofString "made") 256, val := Value.ref 58 }, { hash := PyData.keyHash P (Str.ofString "UNLIKE"), key := Value.str (Str.ofString "UNLIKE") 260, val := Value.str (Str.ofString "BS") 259 }, { hash := PyData.keyHash P (Str.ofString "grid_shape"), key := Value.str (Str.ofString "grid_shape") 267, val := Value.ref 65 }, { hash := PyData.keyHash P (Str.ofString "grid_product"), key := Value.str (Str.ofString "grid_product") 273, val := Value.ref 70 }, { hash := PyData.keyHash P (Str.ofString "row_by_column"), key := Value.str (Str.ofString "row_by_column") 287, val := Value.ref 77 }, { hash := PyData.keyHash P (Str.ofString "common_divisor"), key := Value.str (Str.ofString "common_divisor") 295, val := Value.ref 84 }, { hash := PyData.keyHash P (Str.ofString "fraction"), key := Value.str (Str.ofString "fraction") 304, val := Value.ref 91 }, { hash := PyData.keyHash P (Str.ofString "fraction_of"), key := Value.str (Str.ofString "fraction_of") 313, val := Value.ref 98 }, { hash := PyData.keyHash P (Str.ofString "fraction_times"), key := Value.str (Str.ofString "fraction_times") 321, val := Value.ref 105 }, { hash := PyData.keyHash P (Str.ofString "fraction_less"), key := Value.str (Str.ofString "fraction_less") 329, val := Value.ref 112 }, { hash := PyData.keyHash P (Str.ofString "fraction_by"), key := Value.str (Str.ofString "fraction_by") 337, val := Value.ref 119 }, { hash := PyData.keyHash P (Str.ofString "decimal_of_fraction"), key := Value.str (Str.ofString "decimal_of_fraction") 350, val := Value.ref 126 }, { hash := PyData.keyHash P (Str.ofString "pivot_row"), key := Value.str (Str.ofString "pivot_row") 359, val := Value.ref 133 }, { hash := PyData.keyHash P (Str.ofString "cleared_row"), key := Value.str (Str.ofString "cleared_row") 365, val := Value.ref 138 }, { hash := PyData.keyHash P (Str.ofString "solved_rows"), key := Value.str (Str.ofString "solved_rows") 371, val := Value.ref 143 }, { hash := PyData.keyHash P (Str.ofString "square_rows"), key := Value.str (Str.ofString "square_rows") 377, val := Value.ref 148 }, { hash := PyData.keyHash P (Str.ofString "determinant_of"), key := Value.str (Str.ofString "determinant_of") 385, val := Value.ref 155 }, { hash := PyData.keyHash P (Str.ofString "_law_spun"), key := Value.str (Str.ofString "_law_spun") 396, val := Value.ref 162 }, { hash := PyData.keyHash P (Str.ofString "_law_grid"), key := Value.str (Str.ofString "_law_grid") 402, val := Value.ref 167 }, { hash := PyData.keyHash P (Str.ofString "_law_by_determinant"), key := Value.str (Str.ofString "_law_by_determinant") 408, val := Value.ref 172 }, { hash := PyData.keyHash P (Str.ofString "_law_joins"), key := Value.str (Str.ofString "_law_joins") 419, val := Value.ref 179 }, { hash := PyData.keyHash P (Str.ofString "_law_counted"), key := Value.str (Str.ofString "_law_counted") 431, val := Value.ref 186 }, { hash := PyData.keyHash P (Str.ofString "_law_ways"), key := Value.str (Str.ofString "_law_ways") 437, val := Value.ref 191 }, { hash := PyData.keyHash P (Str.ofString "_law_times"), key := Value.str (Str.ofString "_law_times") 445, val := Value.ref 198 }, { hash := PyData.keyHash P (Str.ofString "law"), key := Value.str (Str.ofString "law") 451, val := Value.ref 203 }] 38 }) ::
  (nat_lit 43, { cls := Value.type "code", data := Data.fields #[Value.str (Str.ofString "figures_of") 225, Value.str (Str.ofString "figures_of") 226, Value.str (Str.ofString "/claim/cut.py") 227, Value.int 9 0, Value.int 1 0, Value.int 0 0, Value.int 0 0, Value.int 3 0, Value.ref 38, Value.bool true, Value.int 181 0, Value.ref 39, Value.none, Value.ref 40, Value.ref 41, Value.ref 42, Value.int 231 0, Value.int 9 0, Value.str (Str.ofString "/claim/cut.py") 232] }) ::
  (nat_lit 44, { cls := Value.type "function", data := Data.func { name := Str.ofString "figures_of", qualname := Str.ofString "figures_of", params := fdA 3, body := PySem.FuncBody.stmts (fdB 3), scope := fdS 3, globals := 3, closure := [], defaults := Value.none, kwdefaults := Value.none, doc := Value.none, pyModule := Value.str (Str.ofString "basicplus.values") 187, annotations := none, code := Value.ref 43, closureTuple := Value.none, builtins := 0 } }) ::
  (nat_lit 50, { cls := Value.type "code", data := Data.fields #[Value.str (Str.ofString "rounded_by") 234, Value.str (Str.ofString "rounded_by") 235, Value.str (Str.ofString "/claim/cut.py") 236, Value.int 15 0, Value.int 2 0, Value.int 0 0, Value.int 0 0, Value.int 3 0, Value.ref 45, Value.bool true, Value.int 181 0, Value.ref 46, Value.none, Value.ref 47, Value.ref 48, Value.ref 49, Value.int 242 0, Value.int 15 0, Value.str (Str.ofString "/claim/cut.py") 243] }) ::
  (nat_lit 51, { cls := Value.type "function", data := Data.func { name := Str.ofString "rounded_by", qualname := Str.ofString "rounded_by", params := fdA 4, body := PySem.FuncBody.stmts (fdB 4), scope := fdS 4, globals := 3, closure := [], defaults := Value.none, kwdefaults := Value.none, doc := Value.none, pyModule := Value.str (Str.ofString "basicplus.values") 187, annotations := none, code := Value.ref 50, closureTuple := Value.none, builtins := 0 } }) ::
  (nat_lit 57, { cls := Value.type "code", data := Data.fields #[Value.str (Str.ofString "made") 245, Value.str (Str.ofString "made") 246, Value.str (Str.ofString "/claim/cut.py") 247, Value.int 25 0, Value.int 3 0, Value.int 0 0, Value.int 0 0, Value.int 3 0, Value.ref 52, Value.bool true, Value.int 181 0, Value.ref 53, Value.none, Value.ref 54, Value.ref 55, Value.ref 56, Value.int 254 0, Value.int 25 0, Value.str (Str.ofString "/claim/cut.py") 255] }) ::
  (nat_lit 58, { cls := Value.type "function", data := Data.func { name := Str.ofString "made", qualname := Str.ofString "made", params := fdA 5, body := PySem.FuncBody.stmts (fdB 5), scope := fdS 5, globals := 3, closure := [], defaults := Value.none, kwdefaults := Value.none, doc := Value.none, pyModule := Value.str (Str.ofString "basicplus.values") 187, annotations := none, code := Value.ref 57, closureTuple := Value.none, builtins := 0 } }) ::
  (nat_lit 64, { cls := Value.type "code", data := Data.fields #[Value.str (Str.ofString "grid_shape") 261, Value.str (Str.ofString "grid_shape") 262, Value.str (Str.ofString "/claim/cut.py") 263, Value.int 42 0, Value.int 1 0, Value.int 0 0, Value.int 0 0, Value.int 3 0, Value.ref 59, Value.bool true, Value.int 181 0, Value.ref 60, Value.none, Value.ref 61, Value.ref 62, Value.ref 63, Value.int 265 0, Value.int 42 0, Value.str (Str.ofString "/claim/cut.py") 266] }) ::
  (nat_lit 65, { cls := Value.type "function", data := Data.func { name := Str.ofString "grid_shape", qualname := Str.ofString "grid_shape", params := fdA 8, body := PySem.FuncBody.stmts (fdB 8), scope := fdS 8, globals := 3, closure := [], defaults := Value.none, kwdefaults := Value.none, doc := Value.none, pyModule := Value.str (Str.ofString "basicplus.matrices") 257, annotations := none, code := Value.ref 64, closureTuple := Value.none, builtins := 0 } }) ::
  (nat_lit 69, { cls := Value.type "code", data := Data.fields #[Value.str (Str.ofString "grid_product") 268, Value.str (Str.ofString "grid_product") 269, Value.str (Str.ofString "/claim/cut.py") 270, Value.int 44 0, Value.int 4 0, Value.int 0 0, Value.int 0 0, Value.int 3 0, Value.ref 66, Value.bool true, Value.int 181 0, Value.ref 67, Value.none, Value.none, Value.none, Value.ref 68, Value.int 271 0, Value.int 44 0, Value.str (Str.ofString "/claim/cut.py") 272] }) ::
  (nat_lit 70, { cls := Value.type "function", data := Data.func { name := Str.ofString "grid_product", qualname := Str.ofString "grid_product", params := fdA 9, body := PySem.FuncBody.stmts (fdB 9), scope := fdS 9, globals := 3, closure := [], defaults := Value.none, kwdefaults := Value.none, doc := Value.none, pyModule := Value.str (Str.ofString "basicplus.matrices") 257, annotations := none, code := Value.ref 69, closureTuple := Value.none, builtins := 0 } }) ::
  (nat_lit 76, { cls := Value.type "code", data := Data.fields #[Value.str (Str.ofString "row_by_column") 274, Value.str (Str.ofString "row_by_column") 275, Value.str (Str.ofString "/claim/cut.py") 276, Value.int 52 0, Value.int 5 0, Value.int 0 0, Value.int 0 0, Value.int 3 0, Value.ref 71, Value.bool true, Value.int 181 0, Value.ref 72, Value.none, Value.ref 73, Value.ref 74, Value.ref 75, Value.int 285 0, Value.int 52 0, Value.str (Str.ofString "/claim/cut.py") 286] }) ::
  (nat_lit 77, { cls := Value.type "function", data := Data.func { name := Str.ofString "row_by_column", qualname := Str.ofString "row_by_column", params := fdA 10, body := PySem.FuncBody.stmts (fdB 10), scope := fdS 10, globals := 3, closure := [], defaults := Value.none, kwdefaults := Value.none, doc := Value.none, pyModule := Value.str (Str.ofString "basicplus.matrices") 257, annotations := none, code := Value.ref 76, closureTuple := Value.none, builtins := 0 } }) ::
  (nat_lit 83, { cls := Value.type "code", data := Data.fields #[Value.str (Str.ofString "common_divisor") 288, Value.str (Str.ofString "common_divisor") 289, Value.str (Str.ofString "/claim/cut.py") 290, Value.int 57 0, Value.int 2 0, Value.int 0 0, Value.int 0 0, Value.int 3 0, Value.ref 78, Value.bool true, Value.int 181 0, Value.ref 79, Value.none, Value.ref 80, Value.ref 81, Value.ref 82, Value.int 293 0, Value.int 57 0, Value.str (Str.ofString "/claim/cut.py") 294] }) ::
  (nat_lit 84, { cls := Value.type "function", data := Data.func { name := Str.ofString "common_divisor", qualname := Str.ofString "common_divisor", params := fdA 11, body := PySem.FuncBody.stmts (fdB 11), scope := fdS 11, globals := 3, closure := [], defaults := Value.none, kwdefaults := Value.none, doc := Value.none, pyModule := Value.str (Str.ofString "basicplus.matrices") 257, annotations := none, code := Value.ref 83, closureTuple := Value.none, builtins := 0 } }) ::
  (nat_lit 90, { cls := Value.type "code", data := Data.fields #[Value.str (Str.ofString "fraction") 296, Value.str (Str.ofString "fraction") 297, Value.str (Str.ofString "/claim/cut.py") 298, Value.int 62 0, Value.int 2 0, Value.int 0 0, Value.int 0 0, Value.int 3 0, Value.ref 85, Value.bool true, Value.int 181 0, Value.ref 86, Value.none, Value.ref 87, Value.ref 88, Value.ref 89, Value.int 302 0, Value.int 62 0, Value.str (Str.ofString "/claim/cut.py") 303] }) ::
  (nat_lit 91, { cls := Value.type "function", data := Data.func { name := Str.ofString "fraction", qualname := Str.ofString "fraction", params := fdA 12, body := PySem.FuncBody.stmts (fdB 12), scope := fdS 12, globals := 3, closure := [], defaults := Value.none, kwdefaults := Value.none, doc := Value.none, pyModule := Value.str (Str.ofString "basicplus.matrices") 257, annotations := none, code := Value.ref 90, closureTuple := Value.none, builtins := 0 } }) ::
  (nat_lit 97, { cls := Value.type "code", data := Data.fields #[Value.str (Str.ofString "fraction_of") 305, Value.str (Str.ofString "fraction_of") 306, Value.str (Str.ofString "/claim/cut.py") 307, Value.int 66 0, Value.int 1 0, Value.int 0 0, Value.int 0 0, Value.int 3 0, Value.ref 92, Value.bool true, Value.int 181 0, Value.ref 93, Value.none, Value.ref 94, Value.ref 95, Value.ref 96, Value.int 311 0, Value.int 66 0, Value.str (Str.ofString "/claim/cut.py") 312] }) ::
  (nat_lit 98, { cls := Value.type "function", data := Data.func { name := Str.ofString "fraction_of", qualname := Str.ofString "fraction_of", params := fdA 13, body := PySem.FuncBody.stmts (fdB 13), scope := fdS 13, globals := 3, closure := [], defaults := Value.none, kwdefaults := Value.none, doc := Value.none, pyModule := Value.str (Str.ofString "basicplus.matrices") 257, annotations := none, code := Value.ref 97, closureTuple := Value.none, builtins := 0 } }) ::
  (nat_lit 104, { cls := Value.type "code", data := Data.fields #[Value.str (Str.ofString "fraction_times") 314, Value.str (Str.ofString "fraction_times") 315, Value.str (Str.ofString "/claim/cut.py") 316, Value.int 73 0, Value.int 2 0, Value.int 0 0, Value.int 0 0, Value.int 3 0, Value.ref 99, Value.bool true, Value.int 181 0, Value.ref 100, Value.none, Value.ref 101, Value.ref 102, Value.ref 103, Value.int 319 0, Value.int 73 0, Value.str (Str.ofString "/claim/cut.py") 320] }) ::
  (nat_lit 105, { cls := Value.type "function", data := Data.func { name := Str.ofString "fraction_times", qualname := Str.ofString "fraction_times", params := fdA 14, body := PySem.FuncBody.stmts (fdB 14), scope := fdS 14, globals := 3, closure := [], defaults := Value.none, kwdefaults := Value.none, doc := Value.none, pyModule := Value.str (Str.ofString "basicplus.matrices") 257, annotations := none, code := Value.ref 104, closureTuple := Value.none, builtins := 0 } }) ::
  (nat_lit 111, { cls := Value.type "code", data := Data.fields #[Value.str (Str.ofString "fraction_less") 322, Value.str (Str.ofString "fraction_less") 323, Value.str (Str.ofString "/claim/cut.py") 324, Value.int 75 0, Value.int 2 0, Value.int 0 0, Value.int 0 0, Value.int 3 0, Value.ref 106, Value.bool true, Value.int 181 0, Value.ref 107, Value.none, Value.ref 108, Value.ref 109, Value.ref 110, Value.int 327 0, Value.int 75 0, Value.str (Str.ofString "/claim/cut.py") 328] }) ::
  (nat_lit 112, { cls := Value.type "function", data := Data.func { name := Str.ofString "fraction_less", qualname := Str.ofString "fraction_less", params := fdA 15, body := PySem.FuncBody.stmts (fdB 15), scope := fdS 15, globals := 3, closure := [], defaults := Value.none, kwdefaults := Value.none, doc := Value.none, pyModule := Value.str (Str.ofString "basicplus.matrices") 257, annotations := none, code := Value.ref 111, closureTuple := Value.none, builtins := 0 } }) ::
  (nat_lit 118, { cls := Value.type "code", data := Data.fields #[Value.str (Str.ofString "fraction_by") 330, Value.str (Str.ofString "fraction_by") 331, Value.str (Str.ofString "/claim/cut.py") 332, Value.int 77 0, Value.int 2 0, Value.int 0 0, Value.int 0 0, Value.int 3 0, Value.ref 113, Value.bool true, Value.int 181 0, Value.ref 114, Value.none, Value.ref 115, Value.ref 116, Value.ref 117, Value.int 335 0, Value.int 77 0, Value.str (Str.ofString "/claim/cut.py") 336] }) ::
  (nat_lit 119, { cls := Value.type "function", data := Data.func { name := Str.ofString "fraction_by", qualname := Str.ofString "fraction_by", params := fdA 16, body := PySem.FuncBody.stmts (fdB 16), scope := fdS 16, globals := 3, closure := [], defaults := Value.none, kwdefaults := Value.none, doc := Value.none, pyModule := Value.str (Str.ofString "basicplus.matrices") 257, annotations := none, code := Value.ref 118, closureTuple := Value.none, builtins := 0 } }) ::
  (nat_lit 125, { cls := Value.type "code", data := Data.fields #[Value.str (Str.ofString "decimal_of_fraction") 338, Value.str (Str.ofString "decimal_of_fraction") 339, Value.str (Str.ofString "/claim/cut.py") 340, Value.int 79 0, Value.int 2 0, Value.int 0 0, Value.int 0 0, Value.int 3 0, Value.ref 120, Value.bool true, Value.int 181 0, Value.ref 121, Value.none, Value.ref 122, Value.ref 123, Value.ref 124, Value.int 348 0, Value.int 79 0, Value.str (Str.ofString "/claim/cut.py") 349] }) ::
  (nat_lit 126, { cls := Value.type "function", data := Data.func { name := Str.ofString "decimal_of_fraction", qualname := Str.ofString "decimal_of_fraction", params := fdA 17, body := PySem.FuncBody.stmts (fdB 17), scope := fdS 17, globals := 3, closure := [], defaults := Value.none, kwdefaults := Value.none, doc := Value.none, pyModule := Value.str (Str.ofString "basicplus.matrices") 257, annotations := none, code := Value.ref 125, closureTuple := Value.none, builtins := 0 } }) ::
  (nat_lit 132, { cls := Value.type "code", data := Data.fields #[Value.str (Str.ofString "pivot_row") 351, Value.str (Str.ofString "pivot_row") 352, Value.str (Str.ofString "/claim/cut.py") 353, Value.int 87 0, Value.int 2 0, Value.int 0 0, Value.int 0 0, Value.int 3 0, Value.ref 127, Value.bool true, Value.int 181 0, Value.ref 128, Value.none, Value.ref 129, Value.ref 130, Value.ref 131, Value.int 357 0, Value.int 87 0, Value.str (Str.ofString "/claim/cut.py") 358] }) ::
  (nat_lit 133, { cls := Value.type "function", data := Data.func { name := Str.ofString "pivot_row", qualname := Str.ofString "pivot_row", params := fdA 18, body := PySem.FuncBody.stmts (fdB 18), scope := fdS 18, globals := 3, closure := [], defaults := Value.none, kwdefaults := Value.none, doc := Value.none, pyModule := Value.str (Str.ofString "basicplus.matrices") 257, annotations := none, code := Value.ref 132, closureTuple := Value.none, builtins := 0 } }) ::
  (nat_lit 137, { cls := Value.type "code", data := Data.fields #[Value.str (Str.ofString "cleared_row") 360, Value.str (Str.ofString "cleared_row") 361, Value.str (Str.ofString "/claim/cut.py") 362, Value.int 92 0, Value.int 3 0, Value.int 0 0, Value.int 0 0, Value.int 3 0, Value.ref 134, Value.bool true, Value.int 181 0, Value.ref 135, Value.none, Value.none, Value.none, Value.ref 136, Value.int 363 0, Value.int 92 0, Value.str (Str.ofString "/claim/cut.py") 364] }) ::
  (nat_lit 138, { cls := Value.type "function", data := Data.func { name := Str.ofString "cleared_row", qualname := Str.ofString "cleared_row", params := fdA 19, body := PySem.FuncBody.stmts (fdB 19), scope := fdS 19, globals := 3, closure := [], defaults := Value.none, kwdefaults := Value.none, doc := Value.none, pyModule := Value.str (Str.ofString "basicplus.matrices") 257, annotations := none, code := Value.ref 137, closureTuple := Value.none, builtins := 0 } }) ::
  (nat_lit 142, { cls := Value.type "code", data := Data.fields #[Value.str (Str.ofString "solved_rows") 366, Value.str (Str.ofString "solved_rows") 367, Value.str (Str.ofString "/claim/cut.py") 368, Value.int 94 0, Value.int 1 0, Value.int 0 0, Value.int 0 0, Value.int 3 0, Value.ref 139, Value.bool true, Value.int 181 0, Value.ref 140, Value.none, Value.none, Value.none, Value.ref 141, Value.int 369 0, Value.int 94 0, Value.str (Str.ofString "/claim/cut.py") 370] }) ::
  (nat_lit 143, { cls := Value.type "function", data := Data.func { name := Str.ofString "solved_rows", qualname := Str.ofString "solved_rows", params := fdA 20, body := PySem.FuncBody.stmts (fdB 20), scope := fdS 20, globals := 3, closure := [], defaults := Value.none, kwdefaults := Value.none, doc := Value.none, pyModule := Value.str (Str.ofString "basicplus.matrices") 257, annotations := none, code := Value.ref 142, closureTuple := Value.none, builtins := 0 } }) ::
  (nat_lit 147, { cls := Value.type "code", data := Data.fields #[Value.str (Str.ofString "square_rows") 372, Value.str (Str.ofString "square_rows") 373, Value.str (Str.ofString "/claim/cut.py") 374, Value.int 111 0, Value.int 1 0, Value.int 0 0, Value.int 0 0, Value.int 3 0, Value.ref 144, Value.bool true, Value.int 181 0, Value.ref 145, Value.none, Value.none, Value.none, Value.ref 146, Value.int 375 0, Value.int 111 0, Value.str (Str.ofString "/claim/cut.py") 376] }) ::
  (nat_lit 148, { cls := Value.type "function", data := Data.func { name := Str.ofString "square_rows", qualname := Str.ofString "square_rows", params := fdA 21, body := PySem.FuncBody.stmts (fdB 21), scope := fdS 21, globals := 3, closure := [], defaults := Value.none, kwdefaults := Value.none, doc := Value.none, pyModule := Value.str (Str.ofString "basicplus.matrices") 257, annotations := none, code := Value.ref 147, closureTuple := Value.none, builtins := 0 } }) ::
  (nat_lit 154, { cls := Value.type "code", data := Data.fields #[Value.str (Str.ofString "determinant_of") 378, Value.str (Str.ofString "determinant_of") 379, Value.str (Str.ofString "/claim/cut.py") 380, Value.int 116 0, Value.int 2 0, Value.int 0 0, Value.int 0 0, Value.int 3 0, Value.ref 149, Value.bool true, Value.int 181 0, Value.ref 150, Value.none, Value.ref 151, Value.ref 152, Value.ref 153, Value.int 383 0, Value.int 116 0, Value.str (Str.ofString "/claim/cut.py") 384] }) ::
  (nat_lit 155, { cls := Value.type "function", data := Data.func { name := Str.ofString "determinant_of", qualname := Str.ofString "determinant_of", params := fdA 22, body := PySem.FuncBody.stmts (fdB 22), scope := fdS 22, globals := 3, closure := [], defaults := Value.none, kwdefaults := Value.none, doc := Value.none, pyModule := Value.str (Str.ofString "basicplus.matrices") 257, annotations := none, code := Value.ref 154, closureTuple := Value.none, builtins := 0 } }) ::
  (nat_lit 161, { cls := Value.type "code", data := Data.fields #[Value.str (Str.ofString "_law_spun") 388, Value.str (Str.ofString "_law_spun") 389, Value.str (Str.ofString "/claim/cut.py") 390, Value.int 119 0, Value.int 2 0, Value.int 0 0, Value.int 0 0, Value.int 3 0, Value.ref 156, Value.bool true, Value.int 181 0, Value.ref 157, Value.none, Value.ref 158, Value.ref 159, Value.ref 160, Value.int 394 0, Value.int 119 0, Value.str (Str.ofString "/claim/cut.py") 395] }) ::
  (nat_lit 162, { cls := Value.type "function", data := Data.func { name := Str.ofString "_law_spun", qualname := Str.ofString "_law_spun", params := fdA 24, body := PySem.FuncBody.stmts (fdB 24), scope := fdS 24, globals := 3, closure := [], defaults := Value.none, kwdefaults := Value.none, doc := Value.none, pyModule := Value.str (Str.ofString "law_sm0002_01") 386, annotations := none, code := Value.ref 161, closureTuple := Value.none, builtins := 0 } }) ::
  (nat_lit 166, { cls := Value.type "code", data := Data.fields #[Value.str (Str.ofString "_law_grid") 397, Value.str (Str.ofString "_law_grid") 398, Value.str (Str.ofString "/claim/cut.py") 399, Value.int 123 0, Value.int 2 0, Value.int 0 0, Value.int 0 0, Value.int 3 0, Value.ref 163, Value.bool true, Value.int 181 0, Value.ref 164, Value.none, Value.none, Value.none, Value.ref 165, Value.int 400 0, Value.int 123 0, Value.str (Str.ofString "/claim/cut.py") 401] }) ::
  (nat_lit 167, { cls := Value.type "function", data := Data.func { name := Str.ofString "_law_grid", qualname := Str.ofString "_law_grid", params := fdA 25, body := PySem.FuncBody.stmts (fdB 25), scope := fdS 25, globals := 3, closure := [], defaults := Value.none, kwdefaults := Value.none, doc := Value.none, pyModule := Value.str (Str.ofString "law_sm0002_01") 386, annotations := none, code := Value.ref 166, closureTuple := Value.none, builtins := 0 } }) ::
  (nat_lit 171, { cls := Value.type "code", data := Data.fields #[Value.str (Str.ofString "_law_by_determinant") 403, Value.str (Str.ofString "_law_by_determinant") 404, Value.str (Str.ofString "/claim/cut.py") 405, Value.int 128 0, Value.int 3 0, Value.int 0 0, Value.int 0 0, Value.int 3 0, Value.ref 168, Value.bool true, Value.int 181 0, Value.ref 169, Value.none, Value.none, Value.none, Value.ref 170, Value.int 406 0, Value.int 128 0, Value.str (Str.ofString "/claim/cut.py") 407] }) ::
  (nat_lit 172, { cls := Value.type "function", data := Data.func { name := Str.ofString "_law_by_determinant", qualname := Str.ofString "_law_by_determinant", params := fdA 26, body := PySem.FuncBody.stmts (fdB 26), scope := fdS 26, globals := 3, closure := [], defaults := Value.none, kwdefaults := Value.none, doc := Value.none, pyModule := Value.str (Str.ofString "law_sm0002_01") 386, annotations := none, code := Value.ref 171, closureTuple := Value.none, builtins := 0 } }) ::
  (nat_lit 178, { cls := Value.type "code", data := Data.fields #[Value.str (Str.ofString "_law_joins") 409, Value.str (Str.ofString "_law_joins") 410, Value.str (Str.ofString "/claim/cut.py") 411, Value.int 133 0, Value.int 1 0, Value.int 0 0, Value.int 0 0, Value.int 3 0, Value.ref 173, Value.bool true, Value.int 181 0, Value.ref 174, Value.none, Value.ref 175, Value.ref 176, Value.ref 177, Value.int 417 0, Value.int 133 0, Value.str (Str.ofString "/claim/cut.py") 418] }) ::
  (nat_lit 179, { cls := Value.type "function", data := Data.func { name := Str.ofString "_law_joins", qualname := Str.ofString "_law_joins", params := fdA 27, body := PySem.FuncBody.stmts (fdB 27), scope := fdS 27, globals := 3, closure := [], defaults := Value.none, kwdefaults := Value.none, doc := Value.none, pyModule := Value.str (Str.ofString "law_sm0002_01") 386, annotations := none, code := Value.ref 178, closureTuple := Value.none, builtins := 0 } }) ::
  (nat_lit 185, { cls := Value.type "code", data := Data.fields #[Value.str (Str.ofString "_law_counted") 420, Value.str (Str.ofString "_law_counted") 421, Value.str (Str.ofString "/claim/cut.py") 422, Value.int 140 0, Value.int 1 0, Value.int 0 0, Value.int 0 0, Value.int 3 0, Value.ref 180, Value.bool true, Value.int 181 0, Value.ref 181, Value.none, Value.ref 182, Value.ref 183, Value.ref 184, Value.int 429 0, Value.int 140 0, Value.str (Str.ofString "/claim/cut.py") 430] }) ::
  (nat_lit 186, { cls := Value.type "function", data := Data.func { name := Str.ofString "_law_counted", qualname := Str.ofString "_law_counted", params := fdA 28, body := PySem.FuncBody.stmts (fdB 28), scope := fdS 28, globals := 3, closure := [], defaults := Value.none, kwdefaults := Value.none, doc := Value.none, pyModule := Value.str (Str.ofString "law_sm0002_01") 386, annotations := none, code := Value.ref 185, closureTuple := Value.none, builtins := 0 } }) ::
  (nat_lit 190, { cls := Value.type "code", data := Data.fields #[Value.str (Str.ofString "_law_ways") 432, Value.str (Str.ofString "_law_ways") 433, Value.str (Str.ofString "/claim/cut.py") 434, Value.int 149 0, Value.int 3 0, Value.int 0 0, Value.int 0 0, Value.int 3 0, Value.ref 187, Value.bool true, Value.int 181 0, Value.ref 188, Value.none, Value.none, Value.none, Value.ref 189, Value.int 435 0, Value.int 149 0, Value.str (Str.ofString "/claim/cut.py") 436] }) ::
  (nat_lit 191, { cls := Value.type "function", data := Data.func { name := Str.ofString "_law_ways", qualname := Str.ofString "_law_ways", params := fdA 29, body := PySem.FuncBody.stmts (fdB 29), scope := fdS 29, globals := 3, closure := [], defaults := Value.none, kwdefaults := Value.none, doc := Value.none, pyModule := Value.str (Str.ofString "law_sm0002_01") 386, annotations := none, code := Value.ref 190, closureTuple := Value.none, builtins := 0 } }) ::
  (nat_lit 197, { cls := Value.type "code", data := Data.fields #[Value.str (Str.ofString "_law_times") 438, Value.str (Str.ofString "_law_times") 439, Value.str (Str.ofString "/claim/cut.py") 440, Value.int 157 0, Value.int 2 0, Value.int 0 0, Value.int 0 0, Value.int 3 0, Value.ref 192, Value.bool true, Value.int 181 0, Value.ref 193, Value.none, Value.ref 194, Value.ref 195, Value.ref 196, Value.int 443 0, Value.int 157 0, Value.str (Str.ofString "/claim/cut.py") 444] }) ::
  (nat_lit 198, { cls := Value.type "function", data := Data.func { name := Str.ofString "_law_times", qualname := Str.ofString "_law_times", params := fdA 30, body := PySem.FuncBody.stmts (fdB 30), scope := fdS 30, globals := 3, closure := [], defaults := Value.none, kwdefaults := Value.none, doc := Value.none, pyModule := Value.str (Str.ofString "law_sm0002_01") 386, annotations := none, code := Value.ref 197, closureTuple := Value.none, builtins := 0 } }) ::
  (nat_lit 202, { cls := Value.type "code", data := Data.fields #[Value.str (Str.ofString "law") 446, Value.str (Str.ofString "law") 447, Value.str (Str.ofString "/claim/cut.py") 448, Value.int 161 0, Value.int 1 0, Value.int 0 0, Value.int 0 0, Value.int 3 0, Value.ref 199, Value.bool true, Value.int 181 0, Value.ref 200, Value.none, Value.none, Value.none, Value.ref 201, Value.int 449 0, Value.int 161 0, Value.str (Str.ofString "/claim/cut.py") 450] }) ::
  (nat_lit 203, { cls := Value.type "function", data := Data.func { name := Str.ofString "law", qualname := Str.ofString "law", params := fdA 31, body := PySem.FuncBody.stmts (fdB 31), scope := fdS 31, globals := 3, closure := [], defaults := Value.none, kwdefaults := Value.none, doc := Value.none, pyModule := Value.str (Str.ofString "law_sm0002_01") 386, annotations := none, code := Value.ref 202, closureTuple := Value.none, builtins := 0 } }) :: []
def K0as : List Addr := 3 :: 43 :: 44 :: 50 :: 51 :: 57 :: 58 :: 64 :: 65 :: 69 :: 70 :: 76 :: 77 :: 83 :: 84 :: 90 :: 91 :: 97 :: 98 :: 104 :: 105 :: 111 :: 112 :: 118 :: 119 :: 125 :: 126 :: 132 :: 133 :: 137 :: 138 :: 142 :: 143 :: 147 :: 148 :: 154 :: 155 :: 161 :: 162 :: 166 :: 167 :: 171 :: 172 :: 178 :: 179 :: 185 :: 186 :: 190 :: 191 :: 197 :: 198 :: 202 :: 203 :: []
end Mine

namespace Mine
open PySem PySem.W PyProof.Rows PySem.Calls

abbrev PG : Program := PySem.Challenge.rw_sm0002_01.row.prog

inductive D where
  | none : D
  | bool : Bool → D
  | int : Int → D
  | tup : List D → D
  | lst : List D → D
  | fn : Nat → D

inductive AV where
  | d : D → AV
  | p : Addr → AV

abbrev Loc := List (Str × AV)
abbrev Own := List (Addr × List AV)

/-- the plain function objects that the program's lambdas make: `LamFd k fd` says which. -/
def LamFd (k : Nat) (fd : FuncData) : Prop :=
  ∃ x y p1 p2 p3, fd.body = .expr (.BinOp (.Name x p1) (if k = 0 then .Add else .Mult) (.Name y p2) p3) ∧ (∀ a b, bindArgs fd ⟨[a, b], []⟩ = pure [(x, a), (y, b)]) ∧ fd.scope.names.lookup x = some .local ∧ fd.scope.names.lookup y = some .local ∧
    (x == ("__debug__" : Str)) = false ∧ (y == ("__debug__" : Str)) = false ∧ (x == y) = false ∧ fd.scope.isCoroutine = false ∧ fd.scope.isGenerator = false ∧ fd.scope.kind = .function ∧ ∀ q ∈ fd.scope.names, q.2 ≠ .cell

def IsLam (Z : Addr → Prop) (h : Heap) (k : Nat) (a : Addr) : Prop :=
  ∃ o fd c oc vs t, ¬ Z a ∧ h.get? a = some o ∧ o.data = .func fd ∧ LamFd k fd ∧ fd.code = .ref c ∧ ¬ Z c ∧ h.get? c = some oc ∧ oc.data = .fields vs ∧ vs[1]? = some (.str fd.qualname t)

mutual
inductive Rep (Z : Addr → Prop) (h : Heap) : Value → D → Prop
  | none : Rep Z h .none .none
  | bool (b : Bool) : Rep Z h (.bool b) (.bool b)
  | int (i : Int) (t : Tok) : Rep Z h (.int i t) (.int i)
  | tup {a : Addr} {vs : List Value} {ds : List D} : ¬ Z a → h.IsTuple a vs.toArray → Reps Z h vs ds → Rep Z h (.ref a) (.tup ds)
  | lst {a : Addr} {vs : List Value} {ds : List D} : ¬ Z a → h.IsList a vs.toArray → Reps Z h vs ds → Rep Z h (.ref a) (.lst ds)
  | fn {a : Addr} {k : Nat} : IsLam Z h k a → Rep Z h (.ref a) (.fn k)
inductive Reps (Z : Addr → Prop) (h : Heap) : List Value → List D → Prop
  | nil : Reps Z h [] []
  | cons {v : Value} {vs : List Value} {d : D} {ds : List D} : Rep Z h v d → Reps Z h vs ds → Reps Z h (v :: vs) (d :: ds)
end

section
variable {Z Z' : Addr → Prop} {h h' : Heap} (hz : ∀ a, (∃ o, h.get? a = some o) → Z' a → Z a) (hk : ∀ a o, ¬ Z a → h.get? a = some o → h'.get? a = some o)
include hz hk
theorem IsLam.mono {k : Nat} {a : Addr} (x : IsLam Z h k a) : IsLam Z' h' k a := by
  obtain ⟨o, fd, c, oc, vs, t, h1, h2, h3, h4, h5, h6, h7, h8, h9⟩ := x
  exact ⟨o, fd, c, oc, vs, t, fun q => h1 (hz a ⟨o, h2⟩ q), hk a o h1 h2, h3, h4, h5, fun q => h6 (hz c ⟨oc, h7⟩ q), hk c oc h6 h7, h8, h9⟩
mutual
theorem Rep.mono : ∀ {v : Value} {d : D}, Rep Z h v d → Rep Z' h' v d
  | _, _, .none => .none
  | _, _, .bool b => .bool b
  | _, _, .int i t => .int i t
  | _, _, .tup (a := a) n x r => by
    obtain ⟨o, ho, hr⟩ := x
    exact .tup (fun q => n (hz a ⟨o, ho⟩ q)) ⟨o, hk a o n ho, hr⟩ (Reps.mono r)
  | _, _, .lst (a := a) n x r => by
    obtain ⟨o, ho, hr⟩ := x
    exact .lst (fun q => n (hz a ⟨o, ho⟩ q)) ⟨o, hk a o n ho, hr⟩ (Reps.mono r)
  | _, _, .fn x => .fn (IsLam.mono hz hk x)
theorem Reps.mono : ∀ {vs : List Value} {ds : List D}, Reps Z h vs ds → Reps Z' h' vs ds
  | _, _, .nil => .nil
  | _, _, .cons x r => .cons (Rep.mono x) (Reps.mono r)
end
end

theorem Reps.length {Z : Addr → Prop} {h : Heap} : ∀ {vs : List Value} {ds : List D}, Reps Z h vs ds → vs.length = ds.length
  | _, _, .nil => rfl
  | _, _, .cons _ r => by rw [List.length_cons, List.length_cons, Reps.length r]
theorem Reps.get {Z : Addr → Prop} {h : Heap} : ∀ {vs : List Value} {ds : List D} {k : Nat} {d : D}, Reps Z h vs ds → ds[k]? = some d → ∃ v, vs[k]? = some v ∧ Rep Z h v d
  | _, _, 0, _, .cons (v := v) x _, e => by cases e; exact ⟨v, rfl, x⟩
  | _, _, k + 1, _, .cons _ r, e => Reps.get (k := k) r e
theorem Reps.append {Z : Addr → Prop} {h : Heap} : ∀ {vs : List Value} {ds : List D} {ws : List Value} {es : List D}, Reps Z h vs ds → Reps Z h ws es → Reps Z h (vs ++ ws) (ds ++ es)
  | _, _, _, _, .nil, k => k
  | _, _, _, _, .cons x r, k => .cons x (Reps.append r k)
theorem Reps.take {Z : Addr → Prop} {h : Heap} : ∀ {vs : List Value} {ds : List D} (k : Nat), Reps Z h vs ds → Reps Z h (vs.take k) (ds.take k)
  | _, _, 0, _ => .nil
  | _, _, k + 1, .nil => .nil
  | _, _, k + 1, .cons x r => .cons x (Reps.take k r)
theorem Reps.drop {Z : Addr → Prop} {h : Heap} : ∀ {vs : List Value} {ds : List D} (k : Nat), Reps Z h vs ds → Reps Z h (vs.drop k) (ds.drop k)
  | _, _, 0, r => r
  | _, _, k + 1, .nil => .nil
  | _, _, k + 1, .cons _ r => Reps.drop k r

def ARep (Z : Addr → Prop) (h : Heap) (v : Value) : AV → Prop
  | .d x => Rep Z h v x
  | .p a => v = .ref a
inductive AReps (Z : Addr → Prop) (h : Heap) : List Value → List AV → Prop
  | nil : AReps Z h [] []
  | cons {v : Value} {vs : List Value} {d : AV} {ds : List AV} : ARep Z h v d → AReps Z h vs ds → AReps Z h (v :: vs) (d :: ds)

theorem ARep.mono {Z Z' : Addr → Prop} {h h' : Heap} (hz : ∀ a, (∃ o, h.get? a = some o) → Z' a → Z a) (hk : ∀ a o, ¬ Z a → h.get? a = some o → h'.get? a = some o) {v : Value} : ∀ {a : AV}, ARep Z h v a → ARep Z' h' v a
  | .d _, x => Rep.mono hz hk x
  | .p _, x => x
theorem AReps.mono {Z Z' : Addr → Prop} {h h' : Heap} (hz : ∀ a, (∃ o, h.get? a = some o) → Z' a → Z a) (hk : ∀ a o, ¬ Z a → h.get? a = some o → h'.get? a = some o) : ∀ {vs : List Value} {as : List AV}, AReps Z h vs as → AReps Z' h' vs as
  | _, _, .nil => .nil
  | _, _, .cons x r => .cons (ARep.mono hz hk x) (AReps.mono hz hk r)
theorem AReps.get {Z : Addr → Prop} {h : Heap} : ∀ {vs : List Value} {ds : List AV} {k : Nat} {d : AV}, AReps Z h vs ds → ds[k]? = some d → ∃ v, vs[k]? = some v ∧ ARep Z h v d
  | _, _, 0, _, .cons (v := v) x _, e => by cases e; exact ⟨v, rfl, x⟩
  | _, _, k + 1, _, .cons _ r, e => AReps.get (k := k) r e
theorem AReps.length {Z : Addr → Prop} {h : Heap} : ∀ {vs : List Value} {ds : List AV}, AReps Z h vs ds → vs.length = ds.length
  | _, _, .nil => rfl
  | _, _, .cons _ r => by rw [List.length_cons, List.length_cons, AReps.length r]
theorem AReps.set {Z : Addr → Prop} {h : Heap} : ∀ {vs : List Value} {ds : List AV} (k : Nat) {v : Value} {d : AV}, AReps Z h vs ds → ARep Z h v d → AReps Z h (vs.set k v) (ds.set k d)
  | _, _, _, _, _, .nil, _ => .nil
  | _, _, 0, _, _, .cons _ r, y => .cons y r
  | _, _, k + 1, _, _, .cons x r, y => .cons x (AReps.set k r y)
theorem AReps.append {Z : Addr → Prop} {h : Heap} : ∀ {vs : List Value} {ds : List AV} {ws : List Value} {es : List AV}, AReps Z h vs ds → AReps Z h ws es → AReps Z h (vs ++ ws) (ds ++ es)
  | _, _, _, _, .nil, k => k
  | _, _, _, _, .cons x r, k => .cons x (AReps.append r k)
theorem AReps.ofReps {Z : Addr → Prop} {h : Heap} : ∀ {vs : List Value} {ds : List D}, Reps Z h vs ds → AReps Z h vs (ds.map .d)
  | _, _, .nil => .nil
  | _, _, .cons x r => .cons x (AReps.ofReps r)
theorem AReps.toReps {Z : Addr → Prop} {h : Heap} : ∀ {vs : List Value} {ds : List D}, AReps Z h vs (ds.map .d) → Reps Z h vs ds
  | _, [], .nil => .nil
  | _, _ :: _, .cons x r => .cons x (AReps.toReps r)

def NotCode (o : Obj) : Prop := ∀ vs q t, o.data = .fields vs → vs[1]? = some (.str q t) → False

structure Ctx where
  w : World
  A : Around
  n : Nat
  h0 : Heap
  env : Env
  X0 : Addr → Prop
  V : Addr → Prop
  Iv : Heap → Prop
  pl : Bool

def Av (c : Ctx) (X : Addr → Prop) : Addr → Prop := fun a => X a ∨ c.V a
def Kp (V : Addr → Prop) (h h' : Heap) : Prop := ∀ a o, ¬ V a → h.get? a = some o → h'.get? a = some o
def Ext (h h' : Heap) : Prop := ∀ a o, h.get? a = some o → h'.get? a = some o
def Res (s s' : Shared) : Prop := s' = { s with heap := s'.heap, toks := s'.toks }

theorem Ext.kp {V : Addr → Prop} {h h' : Heap} (e : Ext h h') : Kp V h h' := fun a o _ x => e a o x
theorem Kp.refl {V : Addr → Prop} {h : Heap} : Kp V h h := fun _ _ _ x => x
theorem Kp.trans {V : Addr → Prop} {h h' h'' : Heap} (x : Kp V h h') (y : Kp V h' h'') : Kp V h h'' := fun a o n e => y a o n (x a o n e)
theorem Ext.trans {h h' h'' : Heap} (x : Ext h h') (y : Ext h' h'') : Ext h h'' := fun a o e => y a o (x a o e)
theorem Ext.refl {h : Heap} : Ext h h := fun _ _ x => x
theorem Ext.push {h : Heap} {o : Obj} : Ext h (h.push o) := fun _ _ e => Heap.get?_push_of_some _ e
theorem Res.refl {s : Shared} : Res s s := rfl
theorem Res.mk {s : Shared} {h : Heap} {t : Nat} : Res s { s with heap := h, toks := t } := rfl
theorem Res.trans {s s' s'' : Shared} (x : Res s s') (y : Res s' s'') : Res s s'' := by
  unfold Res at *
  rw [y, x]

def look (env : Env) (m cm : Str → Option Value) (x : Str) : Option Value :=
  match env.kindOf x with
  | some .local => m x
  | some .cell => if (env.cells.lookup x).isSome then cm x else none
  | some .free => if (env.cells.lookup x).isSome then cm x else none
  | _ => none

/-- the frame's own memory: the locals' namespace and the cells. -/
structure Fra (c : Ctx) (X W : Addr → Prop) (m cm : Str → Option Value) (h : Heap) : Prop where
  ns : h.Ns c.env.locals m
  lX : X c.env.locals
  lW : ¬ W c.env.locals
  lF : c.h0.get? c.env.locals = none
  cell : ∀ x k, c.env.cells.lookup x = some k → h.IsCell k (cm x)
  cX : ∀ x k, c.env.cells.lookup x = some k → X k ∧ ¬ W k ∧ c.h0.get? k = none ∧ k ≠ c.env.locals
  apart : ∀ x y k, c.env.cells.lookup x = some k → c.env.cells.lookup y = some k → x = y

structure OwnAt (c : Ctx) (X W : Addr → Prop) (h : Heap) (q : Addr × List AV) : Prop where
  x : X q.1
  w : ¬ W q.1
  f : c.h0.get? q.1 = none
  l : q.1 ≠ c.env.locals
  cl : ∀ x k, c.env.cells.lookup x = some k → k ≠ q.1
  has : ∃ vs : List Value, h.IsList q.1 vs.toArray ∧ (c.pl = true → PlainL h q.1 vs.toArray) ∧ AReps (Av c X) h vs q.2

structure Sta (c : Ctx) (X W : Addr → Prop) (ρ : Loc) (O : Own) (h : Heap) : Prop where
  base : Ext c.h0 h
  amb : ∀ a, c.X0 a → X a
  bn : ∀ a, X a → ∃ o, h.get? a = some o ∧ NotCode o
  vn : ∀ a, c.V a → ∃ o, h.get? a = some o ∧ NotCode o
  vx : ∀ a, c.V a → ¬ X a
  inv : c.Iv h
  wx : ∀ a, W a → X a ∧ c.h0.get? a = none
  fr : ∃ m cm, Fra c X W m cm h ∧ ∀ x a, ρ.lookup x = some a → ∃ v, look c.env m cm x = some v ∧ ARep (Av c X) h v a
  own : ∀ q ∈ O, OwnAt c X W h q
  nd : (O.map (·.1)).Nodup

theorem Sta.bnd {c : Ctx} {X W : Addr → Prop} {ρ : Loc} {O : Own} {h : Heap} (S : Sta c X W ρ O h) : ∀ a, X a → ∃ o, h.get? a = some o := fun a q => let ⟨o, e, _⟩ := S.bn a q; ⟨o, e⟩
theorem Sta.vb {c : Ctx} {X W : Addr → Prop} {ρ : Loc} {O : Own} {h : Heap} (S : Sta c X W ρ O h) : ∀ a, c.V a → ∃ o, h.get? a = some o := fun a q => let ⟨o, e, _⟩ := S.vn a q; ⟨o, e⟩
theorem Sta.ncX {c : Ctx} {X W : Addr → Prop} {ρ : Loc} {O : Own} {h : Heap} (S : Sta c X W ρ O h) {a : Addr} {o : Obj} (n : ¬ NotCode o) (e : h.get? a = some o) : ¬ X a := fun x => by
  obtain ⟨o', e', n'⟩ := S.bn a x
  rw [e] at e'; cases e'; exact n n'

def Base (w : World) (h : Heap) : Prop := ∃ (K : Frag) (p : Program) (loose : List Str) (mean : ExcName → Option Value) (mg mb : Str → Option Value), K.In h ∧ Top p loose mean mg mb h

structure Ctx.Ok (c : Ctx) : Prop where
  hd : c.A.handled = none
  room : c.A.depth + c.n < recursionLimit
  units : c.A.units + 8 * c.n + 64 < cLine
  kind : c.env.scope.kind = .function
  glob : c.env.globals = mainGlobals
  blt : c.env.builtins = builtinsNs
  v0 : ∀ a, c.V a → c.h0.get? a = none
  x0 : ∀ a, c.X0 a → ∃ o, c.h0.get? a = some o
  ivm : ∀ h h', (∀ a o, c.V a → h.get? a = some o → h'.get? a = some o) → (∀ a o, ¬ NotCode o → h.get? a = some o → h'.get? a = some o) → c.Iv h → c.Iv h'

def NoE : Value → Shared → Prop := fun _ _ => False
abbrev Wp (w : World) (A : Around) {α : Type} (t : Sem α) (Q : α → Shared → Prop) (s : Shared) : Prop := wpAny (model PG w) A t Q NoE s
theorem lift {w : World} {A : Around} {α : Type} {t : Sem α} {Q : α → Shared → Prop} {E : Value → Shared → Prop} {s : Shared} (h : Wp w A t Q s) : wpAny (model PG w) A t Q E s := wpAny_mono h (fun _ _ x => x) fun _ _ x => x.elim
theorem Wp.mono {w : World} {A : Around} {α : Type} {t : Sem α} {Q Q' : α → Shared → Prop} {s : Shared} (h : Wp w A t Q s) (k : ∀ v s', Q v s' → Q' v s') : Wp w A t Q' s := wpAny_mono h k fun _ _ x => x
theorem Wp.monoE {w : World} {A : Around} {α : Type} {t : Sem α} {Q Q' : α → Shared → Prop} {E : Value → Shared → Prop} {s : Shared} (h : Wp w A t Q s) (k : ∀ v s', Q v s' → Q' v s') : wpAny (model PG w) A t Q' E s := wpAny_mono h k fun _ _ x => x.elim

theorem Sta.ext {c : Ctx} (ok : c.Ok) {X W : Addr → Prop} {ρ : Loc} {O : Own} {h h' : Heap} (S : Sta c X W ρ O h) (e : Ext h h') : Sta c X W ρ O h' where
  base := S.base.trans e
  amb := S.amb
  bn := fun a x => let ⟨o, q, n⟩ := S.bn a x; ⟨o, e a o q, n⟩
  vn := fun a x => let ⟨o, q, n⟩ := S.vn a x; ⟨o, e a o q, n⟩
  vx := S.vx
  inv := ok.ivm _ _ (fun a o _ q => e a o q) (fun a o _ q => e a o q) S.inv
  wx := S.wx
  fr := by
    obtain ⟨m, cm, F, R⟩ := S.fr
    refine ⟨m, cm, ⟨F.ns.keeps e, F.lX, F.lW, F.lF, fun x k q => (F.cell x k q).keeps e, F.cX, F.apart⟩, fun x a q => ?_⟩
    obtain ⟨v, h1, h2⟩ := R x a q
    exact ⟨v, h1, ARep.mono (fun _ _ x => x) (fun a o _ q => e a o q) h2⟩
  own := fun q hq => by
    obtain ⟨x, w, f, l, cl, vs, h1, h3, h2⟩ := S.own q hq
    exact ⟨x, w, f, l, cl, vs, h1.at (e _), fun p => (h3 p).keeps e, AReps.mono (fun _ _ x => x) (fun a o _ q => e a o q) h2⟩
  nd := S.nd

structure Aft (c : Ctx) (X W : Addr → Prop) (ρ : Loc) (O : Own) (s s' : Shared) : Prop where
  sta : Sta c X W ρ O s'.heap
  kp : Kp c.V s.heap s'.heap
  res : Res s s'

theorem Aft.refl {c : Ctx} {X W : Addr → Prop} {ρ : Loc} {O : Own} {s : Shared} (S : Sta c X W ρ O s.heap) : Aft c X W ρ O s s := ⟨S, .refl, .refl⟩
theorem Aft.trans {c : Ctx} {X W : Addr → Prop} {ρ : Loc} {O : Own} {s s' s'' : Shared} (x : Aft c X W ρ O s s') (y : Aft c X W ρ O s' s'') : Aft c X W ρ O s s'' := ⟨y.sta, x.kp.trans y.kp, x.res.trans y.res⟩
theorem Aft.ext {c : Ctx} (ok : c.Ok) {X W : Addr → Prop} {ρ : Loc} {O : Own} {s : Shared} {h' : Heap} {tk : Nat} (S : Sta c X W ρ O s.heap) (e : Ext s.heap h') : Aft c X W ρ O s { s with heap := h', toks := tk } := ⟨S.ext ok e, e.kp, .mk⟩
theorem Aft.tok {c : Ctx} {X W : Addr → Prop} {ρ : Loc} {O : Own} {s : Shared} {tk : Nat} (S : Sta c X W ρ O s.heap) : Aft c X W ρ O s { s with toks := tk } := ⟨S, .refl, .mk⟩

theorem ARep.kp {c : Ctx} {X : Addr → Prop} {h h' : Heap} {v : Value} {a : AV} (x : ARep (Av c X) h v a) (k : Kp c.V h h') : ARep (Av c X) h' v a :=
  ARep.mono (fun _ _ q => q) (fun a o n e => k a o (fun q => n (.inr q)) e) x
theorem Rep.kp {c : Ctx} {X : Addr → Prop} {h h' : Heap} {v : Value} {a : D} (x : Rep (Av c X) h v a) (k : Kp c.V h h') : Rep (Av c X) h' v a :=
  Rep.mono (fun _ _ q => q) (fun a o n e => k a o (fun q => n (.inr q)) e) x
theorem AReps.kp {c : Ctx} {X : Addr → Prop} {h h' : Heap} {v : List Value} {a : List AV} (x : AReps (Av c X) h v a) (k : Kp c.V h h') : AReps (Av c X) h' v a :=
  AReps.mono (fun _ _ q => q) (fun a o n e => k a o (fun q => n (.inr q)) e) x

theorem Sta.off {c : Ctx} {X W : Addr → Prop} {ρ : Loc} {O : Own} {h : Heap} (S : Sta c X W ρ O h) {a : Addr} (e : h.get? a = none) : ¬ Av c X a := by
  rintro (q | q)
  · obtain ⟨o, x⟩ := S.bnd a q; rw [e] at x; cases x
  · obtain ⟨o, x⟩ := S.vb a q; rw [e] at x; cases x
theorem get_size (h : Heap) : h.get? h.objs.size = none := Heap.get?_none_of_le (Nat.le_refl _)

/-! ### judgements -/
structure Ev (c : Ctx) (ρ : Loc) (O : Own) (e : Expr) (Q : AV → Prop) : Prop where
  run : ∀ X W s, Sta c X W ρ O s.heap → Wp c.w c.A (eval e c.env) (fun v s' => Aft c X W ρ O s s' ∧ ∃ a, ARep (Av c X) s'.heap v a ∧ Q a) s
structure EvL (c : Ctx) (ρ : Loc) (O : Own) (es : List Expr) (Q : List AV → Prop) : Prop where
  run : ∀ X W s pos, Sta c X W ρ O s.heap → Wp c.w c.A (spliced (backTo pos (starEach es c.env))) (fun vs s' => Aft c X W ρ O s s' ∧ ∃ as, AReps (Av c X) s'.heap vs as ∧ Q as) s
structure Tr (c : Ctx) (ρ : Loc) (O : Own) (e : Expr) (Q : Bool → Prop) : Prop where
  run : ∀ X W s, Sta c X W ρ O s.heap → Wp c.w c.A (isTrue e c.env (eval e c.env)) (fun b s' => Aft c X W ρ O s s' ∧ Q b) s

theorem Ev.mono {c : Ctx} {ρ : Loc} {O : Own} {e : Expr} {Q Q' : AV → Prop} (x : Ev c ρ O e Q) (k : ∀ a, Q a → Q' a) : Ev c ρ O e Q' :=
  ⟨fun X W s S => (x.run X W s S).mono fun _ _ ⟨h1, a, h2, h3⟩ => ⟨h1, a, h2, k a h3⟩⟩

section
variable {c : Ctx} (ok : c.Ok) {ρ : Loc} {O : Own}

theorem ev_int {i : Int} {k : Nat} {pos : Pos} {Q : AV → Prop} (h : Q (.d (.int i))) : Ev c ρ O (.Constant (.int i) k pos) Q :=
  ⟨fun _ _ _ S => wpAny_Constant_int ⟨.tok S, AV.d _, Rep.int _ _, h⟩⟩
theorem ev_none {k : Nat} {pos : Pos} {Q : AV → Prop} (h : Q (.d .none)) : Ev c ρ O (.Constant .none k pos) Q :=
  ⟨fun _ _ _ S => wpAny_Constant_none ⟨.refl S, AV.d _, Rep.none, h⟩⟩
theorem ev_bool {b : Bool} {k : Nat} {pos : Pos} {Q : AV → Prop} (h : Q (.d (.bool b))) : Ev c ρ O (.Constant (.bool b) k pos) Q :=
  ⟨fun _ _ _ S => wpAny_Constant_bool ⟨.refl S, AV.d _, Rep.bool _, h⟩⟩

include ok in
theorem load_var {x : Str} {a : AV} {X W : Addr → Prop} {s : Shared} (S : Sta c X W ρ O s.heap) (hx : ρ.lookup x = some a) (hn : (x == ("__classdict__" : Str)) = false)
    {Q : Value → Shared → Prop} (h : ∀ v, ARep (Av c X) s.heap v a → Q v s) : Wp c.w c.A (loadName c.env x) Q s := by
  obtain ⟨m, cm, F, R⟩ := S.fr
  obtain ⟨v, hl, hv⟩ := R x a hx
  unfold look at hl
  split at hl
  · rename_i hk
    exact wpAny_loadName_local ok.kind hk F.ns hl (h v hv)
  · rename_i hk
    split at hl
    · rename_i hc
      obtain ⟨k, hc⟩ := Option.isSome_iff_exists.mp hc
      exact wpAny_loadName_cell ok.kind hk hc (hl ▸ F.cell x k hc) (h v hv)
    · cases hl
  · rename_i hk
    split at hl
    · rename_i hc
      obtain ⟨k, hc⟩ := Option.isSome_iff_exists.mp hc
      exact wpAny_loadName_free ok.kind hk hc (hl ▸ F.cell x k hc) (h v hv) hn
    · cases hl
  · cases hl

include ok in
theorem ev_var {x : Str} {pos : Pos} {a : AV} {Q : AV → Prop} (hx : ρ.lookup x = some a) (h : Q a) (hd : (x == ("__debug__" : Str)) = false := by decide +kernel) (hn : (x == ("__classdict__" : Str)) = false := by decide +kernel) :
    Ev c ρ O (.Name x pos) Q :=
  ⟨fun _ _ _ S => wpAny_Name (load_var ok S hx hn fun _ hv => ⟨.refl S, a, hv, h⟩) hd⟩

theorem ev_bin {op : Operator} {l r : Expr} {pos : Pos} {Q : AV → Prop} {P : AV → AV → Prop}
    (h : Ev c ρ O l fun a => Ev c ρ O r fun b => P a b)
    (hop : ∀ X W s u v a b, Sta c X W ρ O s.heap → ARep (Av c X) s.heap u a → ARep (Av c X) s.heap v b → P a b → Wp c.w c.A (binaryOp op u v) (fun v s' => Aft c X W ρ O s s' ∧ ∃ a, ARep (Av c X) s'.heap v a ∧ Q a) s) :
    Ev c ρ O (.BinOp l op r pos) Q := .mk fun X W s S => by
  refine wpAny_BinOp ((h.run X W s S).mono fun u s₁ ⟨A1, a, ha, h1⟩ => (h1.run X W s₁ A1.sta).mono fun v s₂ ⟨A2, b, hb, h2⟩ => ?_)
  exact (hop X W s₂ u v a b A2.sta (ha.kp A2.kp) hb h2).mono fun v s₃ ⟨A3, r⟩ => ⟨(A1.trans A2).trans A3, r⟩

theorem ev_binI {op : Operator} {l r : Expr} {pos : Pos} {Q : AV → Prop} {P : Int → Int → Int → Prop}
    (h : Ev c ρ O l fun a => ∃ x, a = .d (.int x) ∧ Ev c ρ O r fun b => ∃ y, b = .d (.int y) ∧ ∃ z, P x y z ∧ Q (.d (.int z)))
    (hop : ∀ {w : World} {A : Around} {s : Shared} {x y z : Int} {t u : Tok} {Q : Value → Shared → Prop}, P x y z → Q (.int z s.toks) { s with toks := s.toks + 1 } → Wp w A (binaryOp op (.int x t) (.int y u)) Q s) :
    Ev c ρ O (.BinOp l op r pos) Q := by
  refine ev_bin (P := fun a b => ∃ x y, a = .d (.int x) ∧ b = .d (.int y) ∧ ∃ z, P x y z ∧ Q (.d (.int z))) (h.mono fun a ⟨x, e, h1⟩ => h1.mono fun b ⟨y, e2, h2⟩ => ⟨x, y, e, e2, h2⟩) ?_
  rintro X W s u v _ _ S ha hb ⟨x, y, rfl, rfl, z, hp, hq⟩
  cases ha; cases hb
  exact hop hp ⟨.tok S, AV.d _, Rep.int _ _, hq⟩

theorem ev_add {l r : Expr} {pos : Pos} {Q : AV → Prop} (h : Ev c ρ O l fun a => ∃ x, a = .d (.int x) ∧ Ev c ρ O r fun b => ∃ y, b = .d (.int y) ∧ Q (.d (.int (x + y)))) : Ev c ρ O (.BinOp l .Add r pos) Q :=
  ev_binI (P := fun x y z => z = x + y) (h.mono fun _ ⟨x, e, h1⟩ => ⟨x, e, h1.mono fun _ ⟨y, e2, h2⟩ => ⟨y, e2, _, rfl, h2⟩⟩) fun e q => by subst e; exact add_int q
theorem ev_sub {l r : Expr} {pos : Pos} {Q : AV → Prop} (h : Ev c ρ O l fun a => ∃ x, a = .d (.int x) ∧ Ev c ρ O r fun b => ∃ y, b = .d (.int y) ∧ Q (.d (.int (x - y)))) : Ev c ρ O (.BinOp l .Sub r pos) Q :=
  ev_binI (P := fun x y z => z = x - y) (h.mono fun _ ⟨x, e, h1⟩ => ⟨x, e, h1.mono fun _ ⟨y, e2, h2⟩ => ⟨y, e2, _, rfl, h2⟩⟩) fun e q => by subst e; exact sub_int q
theorem ev_mul {l r : Expr} {pos : Pos} {Q : AV → Prop} (h : Ev c ρ O l fun a => ∃ x, a = .d (.int x) ∧ Ev c ρ O r fun b => ∃ y, b = .d (.int y) ∧ IntMulOk x y ∧ Q (.d (.int (x * y)))) : Ev c ρ O (.BinOp l .Mult r pos) Q :=
  ev_binI (P := fun x y z => IntMulOk x y ∧ z = x * y) (h.mono fun _ ⟨x, e, h1⟩ => ⟨x, e, h1.mono fun _ ⟨y, e2, hm, h2⟩ => ⟨y, e2, _, ⟨hm, rfl⟩, h2⟩⟩) fun e q => by obtain ⟨hm, rfl⟩ := e; exact mul_int q hm
theorem ev_fdiv {l r : Expr} {pos : Pos} {Q : AV → Prop} (h : Ev c ρ O l fun a => ∃ x, a = .d (.int x) ∧ Ev c ρ O r fun b => ∃ y, b = .d (.int y) ∧ y ≠ 0 ∧ y.natAbs.log2 < 9000 ∧ Q (.d (.int (x.fdiv y)))) : Ev c ρ O (.BinOp l .FloorDiv r pos) Q :=
  ev_binI (P := fun x y z => y ≠ 0 ∧ y.natAbs.log2 < 9000 ∧ z = x.fdiv y) (h.mono fun _ ⟨x, e, h1⟩ => ⟨x, e, h1.mono fun _ ⟨y, e2, h0, hm, h2⟩ => ⟨y, e2, _, ⟨h0, hm, rfl⟩, h2⟩⟩) fun e q => by obtain ⟨h0, hm, rfl⟩ := e; exact floordiv_int h0 q (.inl (PyProof.noPylong_of_log2 hm))
theorem ev_mod {l r : Expr} {pos : Pos} {Q : AV → Prop} (h : Ev c ρ O l fun a => ∃ x, a = .d (.int x) ∧ Ev c ρ O r fun b => ∃ y, b = .d (.int y) ∧ y ≠ 0 ∧ Q (.d (.int (x.fmod y)))) : Ev c ρ O (.BinOp l .Mod r pos) Q :=
  ev_binI (P := fun x y z => y ≠ 0 ∧ z = x.fmod y) (h.mono fun _ ⟨x, e, h1⟩ => ⟨x, e, h1.mono fun _ ⟨y, e2, h0, h2⟩ => ⟨y, e2, _, ⟨h0, rfl⟩, h2⟩⟩) fun e q => by obtain ⟨h0, rfl⟩ := e; exact mod_int' h0 q
theorem ev_pow {l r : Expr} {pos : Pos} {Q : AV → Prop} (h : Ev c ρ O l fun a => ∃ x, a = .d (.int x) ∧ Ev c ρ O r fun b => ∃ y, b = .d (.int y) ∧ 0 ≤ y ∧ y ≤ 1000000 ∧ x.natAbs < 2 ^ 64 ∧ Q (.d (.int (x ^ y.toNat)))) : Ev c ρ O (.BinOp l .Pow r pos) Q :=
  ev_binI (P := fun x y z => 0 ≤ y ∧ y ≤ 1000000 ∧ x.natAbs < 2 ^ 64 ∧ z = x ^ y.toNat) (h.mono fun _ ⟨x, e, h1⟩ => ⟨x, e, h1.mono fun _ ⟨y, e2, h0, h3, h4, h2⟩ => ⟨y, e2, _, ⟨h0, h3, h4, rfl⟩, h2⟩⟩) fun e q => by obtain ⟨h0, h3, h4, rfl⟩ := e; exact pow_int_small h0 h3 h4 q
theorem ev_neg {l : Expr} {pos : Pos} {Q : AV → Prop} (h : Ev c ρ O l fun a => ∃ x, a = .d (.int x) ∧ Q (.d (.int (-x)))) : Ev c ρ O (.UnaryOp .USub l pos) Q := .mk fun X W s S => by
  refine wpAny_UnaryOp ((h.run X W s S).mono fun u s₁ ⟨A1, a, ha, x, e, hq⟩ => ?_)
  subst e; cases ha
  exact neg_int ⟨A1.trans (.tok A1.sta), AV.d _, Rep.int _ _, hq⟩

theorem evl_nil {Q : List AV → Prop} (h : Q []) : EvL c ρ O [] Q := .mk fun _ _ _ _ S => wpAny_items_nil ⟨.refl S, _, .nil, h⟩
theorem evl_cons {e : Expr} {es : List Expr} {Q : List AV → Prop} (h : Ev c ρ O e fun a => EvL c ρ O es fun as => Q (a :: as))
    (he : starEach (e :: es) c.env = (false, eval e c.env) :: starEach es c.env := by rfl) : EvL c ρ O (e :: es) Q := .mk fun X W s pos S => by
  refine wpAny_items_cons ((h.run X W s S).mono fun v s₁ ⟨A1, a, ha, h1⟩ => (h1.run X W s₁ pos A1.sta).mono fun vs s₂ ⟨A2, as, has, h2⟩ => ?_) he
  exact ⟨A1.trans A2, _, .cons (ha.kp A2.kp) has, h2⟩

include ok in
theorem ev_tup {es : List Expr} {k : Nat} {pos : Pos} {Q : AV → Prop} (h : EvL c ρ O es fun as => ∃ ds : List D, as = ds.map .d ∧ as.length ≤ sizeLine ∧ Q (.d (.tup ds))) : Ev c ρ O (.Tuple es k pos) Q := .mk fun X W s S => by
  refine wpAny_Tuple ((h.run X W s pos S).mono fun vs s₁ ⟨A1, as, has, ds, e, hl, hq⟩ => ⟨by rw [has.length]; exact hl, ?_⟩)
  subst e
  have A2 : Aft c X W ρ O s₁ { s₁ with heap := s₁.heap.push { cls := .type "tuple", data := .seq vs.toArray } } := .ext ok A1.sta .push
  exact ⟨A1.trans A2, AV.d _, Rep.tup (A1.sta.off (get_size _)) ⟨_, Heap.get?_push_size _ rfl, rfl, _, rfl⟩ (AReps.toReps (has.kp A2.kp)), hq⟩
end
end Mine

namespace Mine
open PySem PySem.W PyProof.Rows PySem.Calls PySem.Spec

noncomputable abbrev KK (w : World) : Frag := K0 w.params

def Bas (w : World) (h : Heap) : Prop := ∃ (p : Program) (loose : List Str) (mean : ExcName → Option Value) (mg mb : Str → Option Value), (KK w).In h ∧ Top p loose mean mg mb h
theorem Bas.ext {w : World} {h h' : Heap} (b : Bas w h) (e : Ext h h') : Bas w h' := by
  obtain ⟨p, l, m, mg, mb, K, T⟩ := b
  exact ⟨p, l, m, mg, mb, K.keeps e, T.keeps e⟩
theorem Bas.nolimit {w : World} {h : Heap} (b : Bas w h) : h.NoLimit := by
  obtain ⟨p, l, m, mg, mb, K, T⟩ := b
  exact T.nolimit

/-! ### truth -/
section
variable {c : Ctx} (ok : c.Ok) {ρ : Loc} {O : Own}

def CmpOk (c : Ctx) (op : CmpOp) (P : AV → AV → Bool → Prop) : Prop :=
  ∀ ρ O X W s u v a b t, Sta c X W ρ O s.heap → ARep (Av c X) s.heap u a → ARep (Av c X) s.heap v b → P a b t → Wp c.w c.A (compareOp op u v) (fun r s' => r = .bool t ∧ Aft c X W ρ O s s') s

theorem tr_cmp {op : CmpOp} {P : AV → AV → Bool → Prop} (C : CmpOk c op P) {l r : Expr} {pos : Pos} {Q : Bool → Prop}
    (h : Ev c ρ O l fun a => Ev c ρ O r fun b => ∃ t, P a b t ∧ Q t) (hm : behindInMarks op r = false := by with_unfolding_all rfl) : Tr c ρ O (.Compare l [op] [r] pos) Q := .mk fun X W s S => by
  refine wpAny_isTrue_Compare1 ((h.run X W s S).mono fun u s₁ ⟨A1, a, ha, h1⟩ => (h1.run X W s₁ A1.sta).mono fun v s₂ ⟨A2, b, hb, t, hp, hq⟩ => ?_) hm
  refine (C ρ O X W s₂ u v a b t A2.sta (ha.kp A2.kp) hb hp).mono fun r s₃ ⟨e, A3⟩ => ?_
  subst e
  exact wpAny_truthy_bool ⟨(A1.trans A2).trans A3, hq⟩
theorem ev_cmp {op : CmpOp} {P : AV → AV → Bool → Prop} (C : CmpOk c op P) {l r : Expr} {pos : Pos} {Q : AV → Prop}
    (h : Ev c ρ O l fun a => Ev c ρ O r fun b => ∃ t, P a b t ∧ Q (.d (.bool t))) (hm : behindInMarks op r = false := by with_unfolding_all rfl) : Ev c ρ O (.Compare l [op] [r] pos) Q := .mk fun X W s S => by
  refine wpAny_Compare1 ((h.run X W s S).mono fun u s₁ ⟨A1, a, ha, h1⟩ => (h1.run X W s₁ A1.sta).mono fun v s₂ ⟨A2, b, hb, t, hp, hq⟩ => ?_) hm
  refine (C ρ O X W s₂ u v a b t A2.sta (ha.kp A2.kp) hb hp).mono fun r s₃ ⟨e, A3⟩ => ?_
  subst e
  exact ⟨(A1.trans A2).trans A3, AV.d _, Rep.bool _, hq⟩

def IntsP (f : Int → Int → Bool) : AV → AV → Bool → Prop := fun a b t => ∃ x y, a = .d (.int x) ∧ b = .d (.int y) ∧ t = f x y
theorem cmp_ints {op : CmpOp} {f : Int → Int → Bool} (h : ∀ {A : Around} {s : Shared} {x y : Int} {t u : Tok} {Q : Value → Shared → Prop}, Q (.bool (f x y)) s → Wp c.w A (compareOp op (.int x t) (.int y u)) Q s) : CmpOk c op (IntsP f) := by
  rintro ρ O X W s u v _ _ _ S ha hb ⟨x, y, rfl, rfl, rfl⟩
  cases ha; cases hb
  exact h ⟨rfl, .refl S⟩
theorem cmp_eqI : CmpOk c .Eq (IntsP fun x y => x == y) := cmp_ints fun h => eq_int h
theorem cmp_neI : CmpOk c .NotEq (IntsP fun x y => x != y) := cmp_ints fun h => ne_int h
theorem cmp_ltI : CmpOk c .Lt (IntsP fun x y => decide (x < y)) := cmp_ints fun h => PyProof.Rows.lt_int h
theorem cmp_leI : CmpOk c .LtE (IntsP fun x y => decide (x ≤ y)) := cmp_ints fun h => P.le_int h
theorem cmp_gtI : CmpOk c .Gt (IntsP fun x y => decide (y < x)) := cmp_ints fun h => PyProof.Rows.gt_int h
theorem cmp_geI : CmpOk c .GtE (IntsP fun x y => decide (y ≤ x)) := cmp_ints fun h => P.ge_int h

def IsNoneP : AV → AV → Bool → Prop := fun a b t => b = .d .none ∧ ((a = .d .none ∧ t = true) ∨ ∃ x, a = .d (.int x) ∧ t = false)
theorem cmp_isNone : CmpOk c .Is IsNoneP := by
  rintro ρ O X W s u v _ _ _ S ha hb ⟨rfl, ⟨rfl, rfl⟩ | ⟨x, rfl, rfl⟩⟩
  · cases ha; cases hb; exact is_none ⟨rfl, .refl S⟩
  · cases ha; cases hb; exact is_none ⟨rfl, .refl S⟩

theorem tr_and {a b : Expr} {pos : Pos} {Q : Bool → Prop} (h : Tr c ρ O a fun x => if x then Tr c ρ O b Q else Q false) : Tr c ρ O (.BoolOp .And [a, b] pos) Q := .mk fun X W s S => by
  refine wpAny_isTrue_BoolOp (wpAny_allTrue_And_cons ((h.run X W s S).mono fun x s₁ ⟨A1, h1⟩ => ?_))
  cases x
  · exact ⟨A1, h1⟩
  · refine wpAny_allTrue_And_cons ((h1.run X W s₁ A1.sta).mono fun y s₂ ⟨A2, h2⟩ => ?_)
    cases y
    · exact ⟨A1.trans A2, h2⟩
    · exact wpAny_allTrue_And_nil ⟨A1.trans A2, h2⟩
theorem tr_or {a b : Expr} {pos : Pos} {Q : Bool → Prop} (h : Tr c ρ O a fun x => if x then Q true else Tr c ρ O b Q) : Tr c ρ O (.BoolOp .Or [a, b] pos) Q := .mk fun X W s S => by
  refine wpAny_isTrue_BoolOp (wpAny_allTrue_Or_cons ((h.run X W s S).mono fun x s₁ ⟨A1, h1⟩ => ?_))
  cases x
  · refine wpAny_allTrue_Or_cons ((h1.run X W s₁ A1.sta).mono fun y s₂ ⟨A2, h2⟩ => ?_)
    cases y
    · exact wpAny_allTrue_Or_nil ⟨A1.trans A2, h2⟩
    · exact ⟨A1.trans A2, h2⟩
  · exact ⟨A1, h1⟩
theorem tr_val {e : Expr} {Q : Bool → Prop} (h : Ev c ρ O e fun a => ∃ b, a = .d (.bool b) ∧ Q b) (he : ∀ env whole, isTrue e env whole = (do let v ← whole; standAt e.pos; holding [v] (truthy v)) := by intro _ _; rfl) : Tr c ρ O e Q := .mk fun X W s S => by
  refine wpAny_isTrue_value ((h.run X W s S).mono fun v s₁ ⟨A1, a, ha, b, e, hq⟩ => ?_) (he _ _)
  subst e; cases ha
  exact wpAny_truthy_bool ⟨A1, hq⟩
theorem Tr.mono {e : Expr} {Q Q' : Bool → Prop} (x : Tr c ρ O e Q) (k : ∀ a, Q a → Q' a) : Tr c ρ O e Q' :=
  ⟨fun X W s S => (x.run X W s S).mono fun _ _ ⟨h1, h2⟩ => ⟨h1, k _ h2⟩⟩

theorem ev_ite {t a b : Expr} {pos : Pos} {Q : AV → Prop} (h : Tr c ρ O t fun x => if x then Ev c ρ O a Q else Ev c ρ O b Q) : Ev c ρ O (.IfExp t a b pos) Q := .mk fun X W s S => by
  refine wpAny_IfExp ((h.run X W s S).mono fun x s₁ ⟨A1, h1⟩ => ?_)
  cases x
  · exact (h1.run X W s₁ A1.sta).mono fun v s₂ ⟨A2, r⟩ => ⟨A1.trans A2, r⟩
  · exact (h1.run X W s₁ A1.sta).mono fun v s₂ ⟨A2, r⟩ => ⟨A1.trans A2, r⟩

/-! ### items -/
def ItemOf (O : Own) (a : AV) (k : Int) (r : AV) : Prop :=
  0 ≤ k ∧ k < 2 ^ 63 ∧ ((∃ ds d, (a = .d (.tup ds) ∨ a = .d (.lst ds)) ∧ ds[k.toNat]? = some d ∧ r = .d d) ∨ ∃ p as, a = .p p ∧ (p, as) ∈ O ∧ as[k.toNat]? = some r)

theorem ev_item {l i : Expr} {pos : Pos} {Q : AV → Prop} (h : Ev c ρ O l fun a => Ev c ρ O i fun b => ∃ k r, b = .d (.int k) ∧ ItemOf O a k r ∧ Q r)
    (hs : ∀ o v, subscripted i false o v = operate [o, v] (getItem o v) := by intro _ _; with_unfolding_all rfl) : Ev c ρ O (.Subscript l i pos) Q := .mk fun X W s S => by
  refine Subscript_ ((h.run X W s S).mono fun u s₁ ⟨A1, a, ha, h1⟩ => (h1.run X W s₁ A1.sta).mono fun v s₂ ⟨A2, b, hb, k, r, e, ⟨h0, h6, hi⟩, hq⟩ => ?_)
  subst e
  have ha' := ha.kp A2.kp
  have A12 := A1.trans A2
  cases hb
  rcases hi with ⟨ds, d, e | e, hd, rfl⟩ | ⟨p, as, e, hm, hd⟩
  · subst e
    cases ha' with
    | tup n x rs =>
      obtain ⟨v', hv, hr⟩ := rs.get hd
      have hlt := (List.getElem?_eq_some_iff.mp hv).1
      refine item_tupleT (j := k.toNat) x (by first | lia | omega) h6 ?_ hv ⟨A12, AV.d _, hr, hq⟩ (hs _ _)
      rw [seqIndex_of h0 (by first | lia | omega)]
  · subst e
    cases ha' with
    | lst n x rs =>
      obtain ⟨v', hv, hr⟩ := rs.get hd
      exact tail_any x.typeIs slot_list_getitem.lookup (wpAny_getItem_list x h0 h6 (by simpa using hv) ⟨A12, AV.d _, hr, hq⟩) (hs _ _)
  · subst e
    cases ha'
    obtain ⟨_, _, _, _, _, vs, hl, _, hr⟩ := A2.sta.own _ hm
    obtain ⟨v', hv, hr'⟩ := hr.get hd
    exact tail_any hl.typeIs slot_list_getitem.lookup (wpAny_getItem_list hl h0 h6 (by simpa using hv) ⟨A12, _, hr', hq⟩) (hs _ _)

/-! ### names of the module and the built-in ones -/
include ok in
theorem name_glob {x : Str} {p : Pos} {v : Value} {X W : Addr → Prop} {s : Shared} (S : Sta c X W ρ O s.heap) (B : Bas c.w c.h0) (hk : c.env.kindOf x = some .globalImplicit) (e : nsIn (KK c.w) mainGlobals x = some (some v))
    {Q : Value → Shared → Prop} (h : Q v s) (hd : (x == ("__debug__" : Str)) = false := by decide +kernel) : Wp c.w c.A (eval (.Name x p) c.env) Q s := by
  obtain ⟨pp, l, m, mg, mb, K, T⟩ := B.ext S.base
  exact Name_function_global ok.kind hk (loadGlobal_global (by rw [ok.glob]; exact T.g) (mg_of K T.g e) h) hd
include ok in
theorem name_blt {x : Str} {p : Pos} {v : Value} {X W : Addr → Prop} {s : Shared} (S : Sta c X W ρ O s.heap) (B : Bas c.w c.h0) (hk : c.env.kindOf x = some .globalImplicit) (e : nsIn (KK c.w) mainGlobals x = some none) (hv : bootBuiltins x = some v)
    {Q : Value → Shared → Prop} (h : Q v s) (hn : x ≠ "__name__" := by decide +kernel) (hd : (x == ("__debug__" : Str)) = false := by decide +kernel) : Wp c.w c.A (eval (.Name x p) c.env) Q s := by
  obtain ⟨pp, l, m, mg, mb, K, T⟩ := B.ext S.base
  exact Name_function_global ok.kind hk (loadGlobal_builtin (by rw [ok.glob]; exact T.g) (mg_none_of K T.g e) (by rw [ok.blt]; exact T.b) ((T.builtins x hn).trans hv) h) hd
include ok in
theorem ev_globI {x : Str} {p : Pos} {i : Int} {t : Tok} {Q : AV → Prop} (B : Bas c.w c.h0) (hk : c.env.kindOf x = some .globalImplicit) (e : nsIn (KK c.w) mainGlobals x = some (some (.int i t))) (h : Q (.d (.int i))) (hd : (x == ("__debug__" : Str)) = false := by decide +kernel) : Ev c ρ O (.Name x p) Q :=
  ⟨fun X W s S => name_glob ok S B hk e ⟨.refl S, AV.d _, Rep.int _ _, h⟩ hd⟩

/-! ### contracts of the text's functions -/
def Spec (w : World) (n : Nat) (f : Addr) (ds : List D) (R : D → Prop) : Prop :=
  ∀ (A : Around) (s : Shared) (Z : Addr → Prop) (vs : List Value), A.handled = none → A.depth + n < recursionLimit → A.units + 8 * n + 64 < cLine → Bas w s.heap → (∀ a, Z a → ∃ o, s.heap.get? a = some o ∧ NotCode o) → Reps Z s.heap vs ds →
    Wp w A (call (.ref f) vs) (fun v s' => Ext s.heap s'.heap ∧ Res s s' ∧ ∃ d, Rep Z s'.heap v d ∧ R d) s

theorem Spec.mono {w : World} {n : Nat} {f : Addr} {ds : List D} {R R' : D → Prop} (x : Spec w n f ds R) (k : ∀ d, R d → R' d) : Spec w n f ds R' :=
  fun A s Z vs h1 h2 h3 h4 h5 h6 => (x A s Z vs h1 h2 h3 h4 h5 h6).mono fun _ _ ⟨e, r, d, a, b⟩ => ⟨e, r, d, a, k d b⟩
theorem Spec.up {w : World} {n n' : Nat} {f : Addr} {ds : List D} {R : D → Prop} (x : Spec w n f ds R) (k : n ≤ n') : Spec w n' f ds R :=
  fun A s Z vs h1 h2 h3 h4 h5 h6 => x A s Z vs h1 (by first | lia | omega) (by first | lia | omega) h4 h5 h6

/-- what a list of arguments shows: an owned list is shown as data. -/
inductive Shown (O : Own) : Bool → List AV → List D → Prop
  | nil : Shown O true [] []
  | d {b : Bool} {x : D} {as : List AV} {ds : List D} : Shown O b as ds → Shown O b (.d x :: as) (x :: ds)
  | p {b : Bool} {p : Addr} {xs : List D} {as : List AV} {ds : List D} : (p, xs.map .d) ∈ O → Shown O b as ds → Shown O false (.p p :: as) (.lst xs :: ds)

theorem Shown.all {O : Own} {b : Bool} {as : List AV} {ds : List D} (x : Shown O b as ds) : b = true → as = ds.map .d := by
  induction x with
  | nil => intro _; rfl
  | d _ ih => intro h; rw [ih h]; rfl
  | p _ _ _ => intro h; cases h

def Flat : D → Prop
  | .none => True
  | .bool _ => True
  | .int _ => True
  | _ => False
theorem Flat.rep {Z Z' : Addr → Prop} {h h' : Heap} {v : Value} : ∀ {d : D}, Flat d → Rep Z h v d → Rep Z' h' v d
  | .none, _, .none => .none
  | .bool _, _, .bool b => .bool b
  | .int _, _, .int i t => .int i t

theorem shown_reps {X W : Addr → Prop} {h : Heap} (S : Sta c X W ρ O h) {b : Bool} {as : List AV} {ds : List D} (x : Shown O b as ds) : ∀ {vs : List Value}, AReps (Av c X) h vs as → Reps (fun _ => False) h vs ds := by
  induction x with
  | nil => intro vs r; cases r; exact .nil
  | d _ ih =>
    intro vs r
    cases r with
    | cons a r => exact .cons (Rep.mono (fun _ _ f => f.elim) (fun _ _ _ e => e) a) (ih r)
  | p hm _ ih =>
    intro vs r
    cases r with
    | cons a r =>
      cases a
      obtain ⟨_, _, _, _, _, us, hl, _, hr⟩ := S.own _ hm
      exact .cons (.lst (fun f => f) hl (Reps.mono (fun _ _ f => f.elim) (fun _ _ _ e => e) hr.toReps)) (ih r)

include ok in
theorem ev_call {x : Str} {p pos : Pos} {e : Expr} {es : List Expr} {f : Addr} {n : Nat} {Q : AV → Prop} (B : Bas c.w c.h0) (hk : c.env.kindOf x = some .globalImplicit) (hf : nsIn (KK c.w) mainGlobals x = some (some (.ref f)))
    (hn : n ≤ c.n) (hfn : ∃ o fd, (KK c.w).lookup f = some o ∧ o.data = .func fd)
    (h : EvL c ρ O (e :: es) fun as => ∃ b ds R, Shown O b as ds ∧ Spec c.w n f ds R ∧ (∀ d, R d → (b = true ∨ Flat d) ∧ Q (.d d)))
    (he : starEach (e :: es) c.env = (false, eval e c.env) :: starEach es c.env := by rfl) (hd : (x == ("__debug__" : Str)) = false := by decide +kernel) : Ev c ρ O (.Call (.Name x p) (e :: es) [] pos) Q := .mk fun X W s S => by
  refine wpAny_Call_Name_kw (name_glob ok S B hk hf ?_ hd)
  obtain ⟨o, fd, ho, hd⟩ := hfn
  have hh := h.run X W s pos S
  rw [he] at hh ⊢
  refine callWith_function (o := o) (fd := fd) (evalArgs_plain (Wp.mono hh fun vs s₁ ⟨A1, as, has, b, ds, R, hs, sp, hq⟩ => ?_))
  have B1 := B.ext A1.sta.base
  refine ⟨⟨?_, hd⟩, ?_⟩
  · obtain ⟨_, _, _, _, _, K, _⟩ := B1
    exact K _ _ ho
  · show Wp c.w c.A (call (.ref f) vs) _ s₁
    cases b with
    | true =>
      have := hs.all rfl; subst this
      refine (sp c.A s₁ (Av c X) vs ok.hd (by have := ok.room; omega) (by have := ok.units; omega) B1 ?_ has.toReps).mono fun v s₂ ⟨e2, r2, d, hr, hR⟩ => ?_
      · rintro a (q | q)
        · exact A1.sta.bn a q
        · exact A1.sta.vn a q
      · exact ⟨A1.trans ⟨A1.sta.ext ok e2, e2.kp, r2⟩, AV.d d, hr, (hq d hR).2⟩
    | false =>
      refine (sp c.A s₁ (fun _ => False) vs ok.hd (by have := ok.room; omega) (by have := ok.units; omega) B1 (fun _ f => f.elim) (shown_reps A1.sta hs has)).mono fun v s₂ ⟨e2, r2, d, hr, hR⟩ => ?_
      exact ⟨A1.trans ⟨A1.sta.ext ok e2, e2.kp, r2⟩, AV.d d, Flat.rep ((hq d hR).1.resolve_left (by decide)) hr, (hq d hR).2⟩
end
end Mine

namespace Mine
open PySem PySem.W PyProof.Rows PySem.Calls PySem.Spec

def Rel (V X W : Addr → Prop) (h : Heap) (X' : Addr → Prop) (h' : Heap) : Prop :=
  (∀ a o, (X a → W a) → ¬ V a → h.get? a = some o → h'.get? a = some o) ∧ ∀ a, (∃ o, h.get? a = some o) → ¬ V a → X' a → X a
theorem Rel.refl {V X W : Addr → Prop} {h : Heap} : Rel V X W h X h := ⟨fun _ _ _ _ e => e, fun _ _ _ x => x⟩
theorem Rel.kp {V X W : Addr → Prop} {h h' : Heap} (k : Kp V h h') : Rel V X W h X h' := ⟨fun a o _ n e => k a o n e, fun _ _ _ x => x⟩
theorem Rel.trans {V X X' X'' W : Addr → Prop} {h h' h'' : Heap} (r : Rel V X W h X' h') (q : Rel V X' W h' X'' h'') : Rel V X W h X'' h'' := by
  refine ⟨fun a o n v e => q.1 a o (fun x => n (r.2 a ⟨o, e⟩ v x)) v (r.1 a o n v e), fun a ⟨o, e⟩ v x => ?_⟩
  by_cases hx : X a
  · exact hx
  · exact r.2 a ⟨o, e⟩ v (q.2 a ⟨o, r.1 a o (fun z => absurd z hx) v e⟩ v x)
theorem Rel.less {V X X' W W' : Addr → Prop} {h h' : Heap} (r : Rel V X W h X' h') (k : ∀ a, W' a → W a) : Rel V X W' h X' h' := ⟨fun a o n v e => r.1 a o (fun z => k a (n z)) v e, r.2⟩
theorem Rel.off {V X X' W : Addr → Prop} {h h' : Heap} (r : Rel V X W h X' h') {a : Addr} {o : Obj} (n : ¬ X a) (v : ¬ V a) (e : h.get? a = some o) : h'.get? a = some o := r.1 a o (fun z => absurd z n) v e

def Fin1 (c : Ctx) (Qr : D → Prop) (v : Value) (h : Heap) : Prop := Ext c.h0 h ∧ c.Iv h ∧ (∀ a, c.V a → ∃ o, h.get? a = some o ∧ NotCode o) ∧ ∃ d, Rep (fun a => c.X0 a ∨ c.V a) h v d ∧ Qr d

def ExP (c : Ctx) (W : Addr → Prop) (Qn : Loc → Own → Prop) (Qr : D → Prop) (X : Addr → Prop) (s : Shared) (f : Flow) (s' : Shared) : Prop :=
  Res s s' ∧ match f with
    | .next => ∃ X' ρ' O', Sta c X' W ρ' O' s'.heap ∧ Rel c.V X W s.heap X' s'.heap ∧ Qn ρ' O'
    | .ret v => Fin1 c Qr v s'.heap
    | _ => False

structure Ex (c : Ctx) (ρ : Loc) (O : Own) (ss : List Stmt) (Qn : Loc → Own → Prop) (Qr : D → Prop) : Prop where
  run : ∀ X W s, Sta c X W ρ O s.heap → Wp c.w c.A (execs ss c.env) (ExP c W Qn Qr X s) s
/-- one statement. -/
structure Ex1 (c : Ctx) (ρ : Loc) (O : Own) (st : Stmt) (Qn : Loc → Own → Prop) (Qr : D → Prop) : Prop where
  run : ∀ X W s, Sta c X W ρ O s.heap → Wp c.w c.A (exec st c.env) (ExP c W Qn Qr X s) s
/-- a store into a target of a value that is at hand. -/
structure Asg (c : Ctx) (ρ : Loc) (O : Own) (t : Expr) (a : AV) (Q : Loc → Own → Prop) : Prop where
  run : ∀ X W s v, Sta c X W ρ O s.heap → ARep (Av c X) s.heap v a → Wp c.w c.A (assign t c.env v) (fun _ s' => Res s s' ∧ ∃ ρ' O', Sta c X W ρ' O' s'.heap ∧ Rel c.V X W s.heap X s'.heap ∧ Q ρ' O') s
structure AsgL (c : Ctx) (ρ : Loc) (O : Own) (ts : List Expr) (as : List AV) (Q : Loc → Own → Prop) : Prop where
  run : ∀ X W s vs, Sta c X W ρ O s.heap → AReps (Av c X) s.heap vs as → Wp c.w c.A (assignInOrder (ts.map fun t => assign t c.env) vs) (fun _ s' => Res s s' ∧ ∃ ρ' O', Sta c X W ρ' O' s'.heap ∧ Rel c.V X W s.heap X s'.heap ∧ Q ρ' O') s

section
variable {c : Ctx} (ok : c.Ok) {ρ : Loc} {O : Own}

theorem ExP.mono {W : Addr → Prop} {Qn Qn' : Loc → Own → Prop} {Qr Qr' : D → Prop} {X : Addr → Prop} {s s' : Shared} {f : Flow} (x : ExP c W Qn Qr X s f s') (k1 : ∀ ρ O, Qn ρ O → Qn' ρ O) (k2 : ∀ d, Qr d → Qr' d) : ExP c W Qn' Qr' X s f s' := by
  obtain ⟨r, x⟩ := x
  refine ⟨r, ?_⟩
  cases f with
  | next => obtain ⟨X', ρ', O', h1, h2, h3⟩ := x; exact ⟨X', ρ', O', h1, h2, k1 _ _ h3⟩
  | ret v => obtain ⟨h1, h4, h5, d, h2, h3⟩ := x; exact ⟨h1, h4, h5, d, h2, k2 _ h3⟩
  | brk => exact x
  | cont => exact x
theorem ExP.of {W : Addr → Prop} {Qn : Loc → Own → Prop} {Qr : D → Prop} {X X₁ : Addr → Prop} {s s₁ s' : Shared} {f : Flow} (r : Res s s₁) (l : Rel c.V X W s.heap X₁ s₁.heap) (x : ExP c W Qn Qr X₁ s₁ f s') : ExP c W Qn Qr X s f s' := by
  obtain ⟨r', x⟩ := x
  refine ⟨r.trans r', ?_⟩
  cases f with
  | next => obtain ⟨X', ρ', O', h1, h2, h3⟩ := x; exact ⟨X', ρ', O', h1, l.trans h2, h3⟩
  | ret v => exact x
  | brk => exact x
  | cont => exact x
theorem Ex.mono {ss : List Stmt} {Qn Qn' : Loc → Own → Prop} {Qr Qr' : D → Prop} (x : Ex c ρ O ss Qn Qr) (k1 : ∀ ρ O, Qn ρ O → Qn' ρ O) (k2 : ∀ d, Qr d → Qr' d) : Ex c ρ O ss Qn' Qr' :=
  ⟨fun X W s S => (x.run X W s S).mono fun _ _ h => h.mono k1 k2⟩

theorem ex_nil {Qn : Loc → Own → Prop} {Qr : D → Prop} (h : Qn ρ O) : Ex c ρ O [] Qn Qr := .mk fun X W s S => wpAny_execs_nil ⟨.refl, X, ρ, O, S, .refl, h⟩
theorem ex_cons {st : Stmt} {ss : List Stmt} {Qn : Loc → Own → Prop} {Qr : D → Prop} (h : Ex1 c ρ O st (fun ρ' O' => Ex c ρ' O' ss Qn Qr) Qr) : Ex c ρ O (st :: ss) Qn  Qr := .mk fun X W s S => by
  refine wpAny_execs_cons ((h.run X W s S).mono fun f s₁ h₁ => ?_)
  cases f with
  | next =>
    obtain ⟨r, X', ρ', O', S', l, h'⟩ := h₁
    exact (h'.run X' W s₁ S').mono fun f s₂ h₂ => h₂.of r l
  | ret v => exact h₁
  | brk => exact h₁.2.elim
  | cont => exact h₁.2.elim

theorem ex1_ret {e : Expr} {pos : Pos} {Qn : Loc → Own → Prop} {Qr : D → Prop} (h : Ev c ρ O e fun a => ∃ d, a = .d d ∧ Qr d) : Ex1 c ρ O (.Return (some e) pos) Qn  Qr := .mk fun X W s S => by
  refine wpAny_Return_some ((h.run X W s S).mono fun v s₁ ⟨A1, a, ha, d, e, hq⟩ => ?_)
  subst e
  exact ⟨A1.res, A1.sta.base, A1.sta.inv, A1.sta.vn, d, Rep.mono (fun a _ q => q.imp (A1.sta.amb a) id) (fun _ _ _ e => e) ha, hq⟩

theorem ex1_if {t : Expr} {b o : List Stmt} {pos : Pos} {Qn : Loc → Own → Prop} {Qr : D → Prop} (h : Tr c ρ O t fun x => if x then Ex c ρ O b Qn Qr else Ex c ρ O o Qn Qr) : Ex1 c ρ O (.If t b o pos) Qn  Qr := .mk fun X W s S => by
  refine wpAny_If ((h.run X W s S).mono fun x s₁ ⟨A1, h₁⟩ => ?_)
  cases x
  · exact (h₁.run X W s₁ A1.sta).mono fun f s₂ h₂ => h₂.of A1.res (.kp A1.kp)
  · exact (h₁.run X W s₁ A1.sta).mono fun f s₂ h₂ => h₂.of A1.res (.kp A1.kp)

/-! ### stores -/
theorem Sta.sub {X W : Addr → Prop} {ρ' : Loc} {h : Heap} (S : Sta c X W ρ O h) (k : ∀ x a, ρ'.lookup x = some a → ρ.lookup x = some a) : Sta c X W ρ' O h :=
  { S with fr := let ⟨m, cm, F, R⟩ := S.fr; ⟨m, cm, F, fun x a e => R x a (k x a e)⟩ }
theorem ex_sub {ρ' : Loc} {ss : List Stmt} {Qn : Loc → Own → Prop} {Qr : D → Prop} (h : Ex c ρ' O ss Qn Qr) (k : ∀ x a, ρ'.lookup x = some a → ρ.lookup x = some a) : Ex c ρ O ss Qn Qr :=
  ⟨fun X W s S => h.run X W s (S.sub k)⟩

include ok in
/-- an object of the frame's own memory is turned; all else stands. -/
theorem Sta.turn {X W : Addr → Prop} {h h' : Heap} {a : Addr} (S : Sta c X W ρ O h) (xa : X a) (wa : ¬ W a) (fa : c.h0.get? a = none) (hs : Heap.SameBut a h h') (ha : ∃ o, h'.get? a = some o ∧ NotCode o) :
    Ext c.h0 h' ∧ (∀ b, X b → ∃ o, h'.get? b = some o ∧ NotCode o) ∧ (∀ b, c.V b → ∃ o, h'.get? b = some o ∧ NotCode o) ∧ c.Iv h' ∧ Rel c.V X W h X h' := by
  have old : ∀ b o, b ≠ a → h.get? b = some o → h'.get? b = some o := fun b o n e => (hs.2 b n).trans e
  refine ⟨fun b o e => old b o (fun q => by rw [q, fa] at e; cases e) (S.base b o e), fun b q => ?_, fun b q => ?_, ?_, ?_⟩
  · by_cases hb : b = a
    · subst hb; exact ha
    · obtain ⟨o, e, n⟩ := S.bn b q; exact ⟨o, old b o hb e, n⟩
  · obtain ⟨o, e, n⟩ := S.vn b q
    exact ⟨o, old b o (fun z => S.vx b q (z ▸ xa)) e, n⟩
  · exact ok.ivm h h' (fun b o v e => old b o (fun z => S.vx b v (z ▸ xa)) e) (fun b o n e => old b o (fun z => S.ncX n e (z ▸ xa)) e) S.inv
  · exact ⟨fun b o n _ e => old b o (fun z => wa (z ▸ n (z ▸ xa))) e, fun _ _ _ x => x⟩

theorem turn_rep {X : Addr → Prop} {h h' : Heap} {a : Addr} (xa : X a) (hs : Heap.SameBut a h h') {v : Value} {r : AV} (x : ARep (Av c X) h v r) : ARep (Av c X) h' v r :=
  x.mono (fun _ _ q => q) fun b o n e => (hs.2 b fun z => n (.inl (z ▸ xa))).trans e
theorem turn_reps {X : Addr → Prop} {h h' : Heap} {a : Addr} (xa : X a) (hs : Heap.SameBut a h h') {v : List Value} {r : List AV} (x : AReps (Av c X) h v r) : AReps (Av c X) h' v r :=
  x.mono (fun _ _ q => q) fun b o n e => (hs.2 b fun z => n (.inl (z ▸ xa))).trans e

theorem lookup_cons_eq {x y : Str} {a b : AV} {ρ : Loc} (e : ((x, a) :: ρ).lookup y = some b) : (y = x ∧ b = a) ∨ (y ≠ x ∧ ρ.lookup y = some b) := by
  rw [List.lookup_cons] at e
  cases hb : y == x with
  | true => rw [hb] at e; exact .inl ⟨beq_iff_eq.mp hb, (Option.some.inj e).symm⟩
  | false => rw [hb] at e; exact .inr ⟨beq_eq_false_iff_ne.mp hb, e⟩

/-- a name that the frame may store into. -/
def MayStore (env : Env) (x : Str) : Bool := env.kindOf x == some .local || (env.kindOf x == some .cell && (env.cells.lookup x).isSome)

include ok in
theorem store_name {X W : Addr → Prop} {s : Shared} {x : Str} {a : AV} {v : Value} (S : Sta c X W ρ O s.heap) (hx : MayStore c.env x = true) (hv : ARep (Av c X) s.heap v a) :
    Wp c.w c.A (storeName c.env x v) (fun _ s' => Res s s' ∧ Sta c X W ((x, a) :: ρ) O s'.heap ∧ Rel c.V X W s.heap X s'.heap ∧ ∀ b o, b ≠ c.env.locals → c.env.cells.lookup x ≠ some b → s.heap.get? b = some o → s'.heap.get? b = some o) s := by
  obtain ⟨m, cm, F, R⟩ := S.fr
  unfold MayStore at hx
  rw [Bool.or_eq_true, Bool.and_eq_true] at hx
  rcases hx with hx | ⟨hx, hc⟩
  · have hk : c.env.kindOf x = some .local := beq_iff_eq.mp hx
    refine wpAny_storeName_local hk F.ns (fun h' hn hs => ?_) (by rw [ok.kind]; rfl)
    obtain ⟨t1, t2, t3, t4, t5⟩ := S.turn ok F.lX F.lW F.lF hs (by obtain ⟨o, _, _, e, d, _⟩ := hn; exact ⟨o, e, fun _ _ _ z => by rw [d] at z; cases z⟩)
    refine ⟨.mk, ⟨t1, S.amb, t2, t3, S.vx, t4, S.wx, ⟨_, cm, ⟨hn, F.lX, F.lW, F.lF, fun y k e => (F.cell y k e).sameBut hs (F.cX y k e).2.2.2, F.cX, F.apart⟩, fun y b e => ?_⟩, fun q hq => ?_, S.nd⟩, t5, fun b o n _ e => (hs.2 b n).trans e⟩
    · rcases lookup_cons_eq e with ⟨rfl, rfl⟩ | ⟨hy, e⟩
      · exact ⟨v, by simp [look, hk], turn_rep F.lX hs hv⟩
      · obtain ⟨u, h1, h2⟩ := R y b e
        refine ⟨u, ?_, turn_rep F.lX hs h2⟩
        unfold look at h1 ⊢
        split at h1 <;> simp_all
    · obtain ⟨h1, h2, h3, h4, h5, vs, h6, h8, h7⟩ := S.own q hq
      exact ⟨h1, h2, h3, h4, h5, vs, h6.at fun o e => (hs.2 _ h4).trans e, fun p => by obtain ⟨o, n, e, r⟩ := h8 p; exact ⟨o, n, (hs.2 _ h4).trans e, r⟩, turn_reps F.lX hs h7⟩
  · have hk : c.env.kindOf x = some .cell := beq_iff_eq.mp hx
    obtain ⟨k, hk'⟩ := Option.isSome_iff_exists.mp hc
    obtain ⟨kX, kW, kF, kL⟩ := F.cX x k hk'
    refine wpAny_storeName_cell ok.kind hk hk' (F.cell x k hk') fun h' hn hs => ?_
    obtain ⟨t1, t2, t3, t4, t5⟩ := S.turn ok kX kW kF hs (by obtain ⟨o, e, d⟩ := hn; exact ⟨o, e, fun _ _ _ z => by rw [d] at z; cases z⟩)
    refine ⟨.mk, ⟨t1, S.amb, t2, t3, S.vx, t4, S.wx, ⟨m, fun y => if y = x then some v else cm y, ⟨F.ns.sameBut hs (Ne.symm kL), F.lX, F.lW, F.lF, fun y k' e => ?_, F.cX, F.apart⟩, fun y b e => ?_⟩, fun q hq => ?_, S.nd⟩, t5, fun b o _ n e => (hs.2 b fun z => n (z ▸ hk')).trans e⟩
    · by_cases hy : y = x
      · subst hy
        rw [hk'] at e; cases e
        simpa using hn
      · rw [if_neg hy]
        exact (F.cell y k' e).sameBut hs fun z => hy (F.apart y x k (z ▸ e) hk')
    · rcases lookup_cons_eq e with ⟨rfl, rfl⟩ | ⟨hy, e⟩
      · exact ⟨v, by simp [look, hk, hk'], turn_rep kX hs hv⟩
      · obtain ⟨u, h1, h2⟩ := R y b e
        refine ⟨u, ?_, turn_rep kX hs h2⟩
        unfold look at h1 ⊢
        split at h1 <;> simp_all
    · obtain ⟨h1, h2, h3, h4, h5, vs, h6, h8, h7⟩ := S.own q hq
      have hne : q.1 ≠ k := fun z => h5 x k hk' z.symm
      exact ⟨h1, h2, h3, h4, h5, vs, h6.at fun o e => (hs.2 _ hne).trans e, fun p => by obtain ⟨o, n, e, r⟩ := h8 p; exact ⟨o, n, (hs.2 _ hne).trans e, r⟩, turn_reps kX hs h7⟩

include ok in
theorem asg_name {x : Str} {pos : Pos} {a : AV} {Q : Loc → Own → Prop} (hx : MayStore c.env x = true) (h : Q ((x, a) :: ρ) O) : Asg c ρ O (.Name x pos) a Q := .mk fun X W s v S hv =>
  wpAny_assign_Name ((store_name ok S hx hv).mono fun _ s' ⟨r, S', l, _⟩ => ⟨r, _, _, S', l, h⟩)

theorem asgl_nil {Q : Loc → Own → Prop} (h : Q ρ O) : AsgL c ρ O [] [] Q := .mk fun X W s vs S hv => by
  cases hv
  exact assignInOrder_nil ⟨.refl, _, _, S, .refl, h⟩
theorem asgl_cons {t : Expr} {ts : List Expr} {a : AV} {as : List AV} {Q : Loc → Own → Prop} (h : Asg c ρ O t a fun ρ' O' => AsgL c ρ' O' ts as Q) : AsgL c ρ O (t :: ts) (a :: as) Q := .mk fun X W s vs S hv => by
  cases hv with
  | cons x r =>
    refine assignInOrder_cons ((h.run X W s _ S x).mono fun _ s₁ ⟨r1, ρ', O', S', l, h'⟩ => ?_)
    refine (h'.run X W s₁ _ S' (r.mono (fun _ _ q => q) fun a o n e => l.off (fun q => n (.inl q)) (fun q => n (.inr q)) e)).mono fun _ s₂ ⟨r2, ρ'', O'', S'', l2, h''⟩ => ?_
    exact ⟨r1.trans r2, _, _, S'', l.trans l2, h''⟩

include ok in
theorem asg_tup {ts : List Expr} {k : Nat} {pos : Pos} {ds : List D} {Q : Loc → Own → Prop} (h : AsgL c ρ O ts (ds.map .d) Q) (hn : ts.length = ds.length)
    (he : assignEach ts c.env = ts.map fun t => (false, assign t c.env) := by rfl) : Asg c ρ O (.Tuple ts k pos) (.d (.tup ds)) Q := .mk fun X W s v S hv => by
  cases hv with
  | tup n x r =>
    refine assign_Tuple_tuple ok.hd x (by rw [he]; simp [hn, r.length]) (by rw [he]; simp [List.findIdx?_eq_none_iff]) fun h' e => ?_
    have e' : Ext s.heap h' := fun b o q => e b o (Nat.ne_of_lt (Heap.lt_size q)) q
    rw [he]
    have hm : ((ts.map fun t => (false, assign t c.env)).map (·.2)) = ts.map fun t => assign t c.env := by simp
    rw [hm]
    refine Wp.mono (h.run X W _ _ (S.ext ok e') ?_) fun _ s₁ ⟨r1, ρ', O', S', l, h'⟩ => ⟨Res.trans .mk r1, ρ', O', S', (Rel.kp e'.kp).trans l, h'⟩
    have := (AReps.ofReps r).mono (Z' := Av c X) (h' := h') (fun _ _ q => q) fun a o _ q => e' a o q
    simpa using this

def Own.setAt (O : Own) (p : Addr) (as : List AV) : Own := O.map fun q => if q.1 = p then (p, as) else q
theorem mem_setAt {O : Own} {p : Addr} {as : List AV} {q : Addr × List AV} (h : q ∈ O.setAt p as) : (q = (p, as) ∧ ∃ bs, (p, bs) ∈ O) ∨ (q ∈ O ∧ q.1 ≠ p) := by
  obtain ⟨r, hr, e⟩ := List.mem_map.mp h
  by_cases hp : r.1 = p
  · rw [if_pos hp] at e
    exact .inl ⟨e.symm, r.2, by rw [← hp]; exact hr⟩
  · rw [if_neg hp] at e
    subst e
    exact .inr ⟨hr, hp⟩
theorem setAt_fst {O : Own} {p : Addr} {as : List AV} : (O.setAt p as).map (·.1) = O.map (·.1) := by
  unfold Own.setAt
  rw [List.map_map]
  apply List.map_congr_left
  intro q _
  by_cases hp : q.1 = p <;> simp [hp]

include ok in
theorem asg_item {o i : Expr} {pos : Pos} {a : AV} {Q : Loc → Own → Prop} (hp : c.pl = false) (h : Ev c ρ O o fun b => Ev c ρ O i fun k => ∃ p n as, b = .p p ∧ k = .d (.int n) ∧ (p, as) ∈ O ∧ 0 ≤ n ∧ n < as.length ∧ n < 2 ^ 63 ∧ Q ρ (O.setAt p (as.set n.toNat a))) : Asg c ρ O (.Subscript o i pos) a Q := .mk fun X W s v S hv => by
  rw [assign_Subscript]
  refine wpAny_bind (wpAny_holding (Wp.mono (h.run X W s S) fun ov s₁ ⟨A1, b, hb, h1⟩ => wpAny_bind (wpAny_holding (Wp.mono (h1.run X W s₁ A1.sta) fun iv s₂ ⟨A2, k, hk, p, n, as, e1, e2, hm, h0, hlt, h63, hq⟩ => wpAny_bind (wpAny_standAt ?_)))))
  subst e1; subst e2
  cases hb; cases hk
  have S2 := A2.sta
  have hv2 := (hv.kp A1.kp).kp A2.kp
  obtain ⟨x, w, f, l, cl, vs, hl, _, hr'⟩ := S2.own _ hm
  have hlen : vs.length = as.length := hr'.length
  refine wpAny_bind (wpAny_holding (wpAny_setItem_list hl h0 h63 (by simp; omega) fun h' hl' hs => ?_))
  refine wpAny_release ?_
  obtain ⟨t1, t2, t3, t4, t5⟩ := S2.turn ok x w f hs (by obtain ⟨o, e, _, _, d⟩ := hl'; exact ⟨o, e, fun _ _ _ z => by rw [d] at z; cases z⟩)
  obtain ⟨m, cm, F, R⟩ := S2.fr
  refine ⟨(A1.res.trans A2.res).trans .mk, ρ, _, ⟨t1, S2.amb, t2, t3, S2.vx, t4, S2.wx, ⟨m, cm, ⟨F.ns.sameBut hs (Ne.symm l), F.lX, F.lW, F.lF, fun y k e => (F.cell y k e).sameBut hs (cl y k e), F.cX, F.apart⟩, fun y b e => ?_⟩, fun q hq => ?_, by rw [setAt_fst]; exact S2.nd⟩, ((Rel.kp A1.kp).trans (Rel.kp A2.kp)).trans t5, hq⟩
  · obtain ⟨u, g1, g2⟩ := R y b e
    exact ⟨u, g1, turn_rep x hs g2⟩
  · rcases mem_setAt hq with ⟨rfl, _⟩ | ⟨hq, hne⟩
    · refine ⟨x, w, f, l, cl, vs.set n.toNat v, by simpa using hl', (fun z => absurd (hp.symm.trans z) (by decide)), turn_reps x hs (hr'.set _ hv2)⟩
    · obtain ⟨g1, g2, g3, g4, g5, us, g6, g8, g7⟩ := S2.own q hq
      exact ⟨g1, g2, g3, g4, g5, us, g6.at fun o e => (hs.2 _ hne).trans e, (fun z => absurd (hp.symm.trans z) (by decide)), turn_reps x hs g7⟩

include ok in
theorem ex1_assign {t e : Expr} {pos : Pos} {Qn : Loc → Own → Prop} {Qr : D → Prop} (h : Ev c ρ O e fun a => Asg c ρ O t a Qn)
    (hs : swapsWithSole [t] e pos.line c.env = pure false := by rfl) (hw : swappedStores [t] e c.env = pure none := by rfl) (he : (assignEach [t] c.env).map (·.2) = [assign t c.env] := by rfl) : Ex1 c ρ O (.Assign [t] e pos) Qn  Qr := .mk fun X W s S => by
  refine wpAny_Assign_stores ((h.run X W s S).mono fun v s₁ ⟨A1, a, ha, h1⟩ => ?_) hs hw
  rw [he]
  show Wp _ _ (assign t c.env v) _ _
  refine (h1.run X W s₁ v A1.sta ha).mono fun _ s₂ ⟨r, ρ', O', S', l, hq⟩ => ?_
  exact ⟨A1.res.trans r, X, ρ', O', S', (Rel.kp A1.kp).trans l, hq⟩

include ok in
/-- two or three names stored from a display: the machine stores them backwards. -/
theorem ex1_swapped {es vs : List Expr} {k k2 : Nat} {tp vp pos : Pos} {names : List Str} {Qn : Loc → Own → Prop} {Qr : D → Prop}
    (h : EvL c ρ O vs fun as => ∃ ds : List D, as = ds.map .d ∧ as.length = names.length ∧ as.length ≤ sizeLine ∧ Qn ((names.reverse.zip (ds.reverse.map AV.d)).reverse ++ ρ) O)
    (hm : ∀ x ∈ names, MayStore c.env x = true)
    (hs : swapsWithSole [.Tuple es k tp] (.Tuple vs k2 vp) pos.line c.env = pure false := by rfl) (hw : swappedStores [.Tuple es k tp] (.Tuple vs k2 vp) c.env = pure (some names) := by rfl) :
    Ex1 c ρ O (.Assign [.Tuple es k tp] (.Tuple vs k2 vp) pos) Qn  Qr := .mk fun X W s S => by
  refine Assign_Tuple_swapped (Wp.mono ((ev_tup (Q := fun a => ∃ ds : List D, a = .d (.tup ds) ∧ ds.length = names.length ∧ Qn ((names.reverse.zip (ds.reverse.map AV.d)).reverse ++ ρ) O) ok (.mk fun X W s pos S => (h.run X W s pos S).mono fun us s₁ ⟨A1, as, has, ds, e1, e2, e3, hq⟩ => ⟨A1, as, has, ds, e1, e3, ds, rfl, by rw [e1] at e2; simpa using e2, hq⟩)).run X W s S) fun v s₁ ⟨A1, a, ha, ds, e, hlen, hq⟩ => ?_) hs hw
  subst e
  cases ha with
  | tup n x r =>
    rename_i us _
    have hsz : names.length = us.toArray.size := hlen.symm.trans (r.length.symm.trans (by simp))
    rw [hsz]
    refine unpackItems_tuple ok.hd x fun h' e => ?_
    have e' : Ext s₁.heap h' := fun b o q => e b o (Nat.ne_of_lt (Heap.lt_size q)) q
    have key : ∀ (ns : List Str) (ds : List D) (us : List Value) (ρ : Loc) (s₂ : Shared), (∀ x ∈ ns, MayStore c.env x = true) → ns.length = ds.length → Sta c X W ρ O s₂.heap → Reps (Av c X) s₂.heap us ds →
        Wp c.w c.A (assignInOrder (ns.map fun n => bindName c.env n) us) (fun _ s' => Res s₂ s' ∧ Sta c X W ((ns.zip (ds.map AV.d)).reverse ++ ρ) O s'.heap ∧ Rel c.V X W s₂.heap X s'.heap) s₂ := by
      intro ns
      induction ns with
      | nil =>
        intro ds us ρ s₂ _ hl S2 R
        cases ds with
        | nil => cases R; exact assignInOrder_nil ⟨.refl, S2, .refl⟩
        | cons _ _ => cases hl
      | cons n ns ih =>
        intro ds us ρ s₂ hm hl S2 R
        cases R with
        | nil => cases hl
        | cons x r =>
          rename_i d ds
          refine assignInOrder_cons (wpAny_bindName ((store_name ok S2 (hm n List.mem_cons_self) (a := .d d) x).mono fun _ s₃ ⟨r3, S3, l3, _⟩ => ?_))
          refine (ih ds _ _ s₃ (fun x hx => hm x (List.mem_cons_of_mem _ hx)) (by simpa using hl) S3 (r.mono (fun _ _ q => q) fun a o n e => l3.off (fun q => n (.inl q)) (fun q => n (.inr q)) e)).mono fun _ s₄ ⟨r4, S4, l4⟩ => ?_
          refine ⟨r3.trans r4, ?_, l3.trans l4⟩
          have e5 : (((n :: ns).zip ((d :: ds).map AV.d)).reverse ++ ρ) = ((ns.zip (ds.map AV.d)).reverse ++ (n, AV.d d) :: ρ) := by simp
          rw [e5]; exact S4
    have rr : Reps (Av c X) h' (List.reverse us) (List.reverse ds) := by
      have : ∀ {us : List Value} {ds : List D}, Reps (Av c X) h' us ds → Reps (Av c X) h' us.reverse ds.reverse := by
        intro us
        induction us with
        | nil => intro ds r; cases r; exact .nil
        | cons u us ih =>
          intro ds r
          cases r with
          | cons x r => rw [List.reverse_cons, List.reverse_cons]; exact (ih r).append (.cons x .nil)
      exact this (r.mono (fun _ _ q => q) fun a o _ q => e' a o q)
    refine Wp.monoE (key names.reverse ds.reverse _ ρ { s₁ with heap := h' } (fun x hx => hm x (List.mem_reverse.mp hx)) (by simp [hlen]) (A1.sta.ext ok e') rr) fun _ s₄ ⟨r4, S4, l4⟩ => ?_
    exact ⟨A1.res.trans (Res.trans .mk r4), X, _, _, S4, (Rel.kp A1.kp).trans ((Rel.kp e'.kp).trans l4), hq⟩

include ok in
theorem ex1_aug {x : Str} {p pos : Pos} {op : Operator} {e : Expr} {i : Int} {P : Int → Int → Prop} {Qn : Loc → Own → Prop} {Qr : D → Prop} (hx : ρ.lookup x = some (.d (.int i))) (hm : MayStore c.env x = true)
    (h : Ev c ρ O e fun a => ∃ j r, a = .d (.int j) ∧ P j r ∧ Qn ((x, .d (.int r)) :: ρ) O)
    (hop : ∀ {w : World} {A : Around} {s : Shared} {j r : Int} {t u : Tok} {Q : Value → Shared → Prop}, P j r → Q (.int r s.toks) { s with toks := s.toks + 1 } → Wp w A (inplaceOp op (.int i t) (.int j u)) Q s)
    (hn : (x == ("__classdict__" : Str)) = false := by decide +kernel) : Ex1 c ρ O (.AugAssign (.Name x p) op e pos) Qn  Qr := .mk fun X W s S => by
  refine wpAny_AugAssign_Name (load_var ok S hx hn fun v hv => ?_)
  cases hv
  refine (h.run X W s S).mono fun v s₁ ⟨A1, a, ha, j, r, e, hP, hq⟩ => ?_
  subst e; cases ha
  refine hop hP ?_
  refine (store_name ok (s := { s₁ with toks := s₁.toks + 1 }) A1.sta hm (a := .d (.int r)) (Rep.int _ _)).mono fun _ s₂ ⟨r2, S2, l2, _⟩ => ?_
  exact ⟨(A1.res.trans .mk).trans r2, X, _, _, S2, (Rel.kp A1.kp).trans l2, hq⟩
theorem aug_add {i : Int} : ∀ {w : World} {A : Around} {s : Shared} {j r : Int} {t u : Tok} {Q : Value → Shared → Prop}, r = i + j → Q (.int r s.toks) { s with toks := s.toks + 1 } → Wp w A (inplaceOp .Add (.int i t) (.int j u)) Q s :=
  fun e q => by subst e; exact iadd_int q
theorem aug_mul {i : Int} : ∀ {w : World} {A : Around} {s : Shared} {j r : Int} {t u : Tok} {Q : Value → Shared → Prop}, (IntMulOk i j ∧ r = i * j) → Q (.int r s.toks) { s with toks := s.toks + 1 } → Wp w A (inplaceOp .Mult (.int i t) (.int j u)) Q s :=
  fun e q => by obtain ⟨h, rfl⟩ := e; exact imul_int q h

/-- a while: an invariant over the frame, and a measure. -/
theorem ex1_while {t : Expr} {b : List Stmt} {pos : Pos} {Qn : Loc → Own → Prop} {Qr : D → Prop} (I : Nat → Loc → Own → Prop) (n : Nat) (h0 : I n ρ O)
    (turn : ∀ n ρ O, I n ρ O → Tr c ρ O t fun x => if x then Ex c ρ O b (fun ρ' O' => ∃ m, m < n ∧ I m ρ' O') Qr else Qn ρ O) : Ex1 c ρ O (.While t b [] pos) Qn  Qr := .mk fun X W s S => by
  refine wpAny_While (codeAny_whileLoop (fun n s' => ∃ X' ρ' O', Sta c X' W ρ' O' s'.heap ∧ Rel c.V X W s.heap X' s'.heap ∧ Res s s' ∧ I n ρ' O') ?_ n ⟨X, ρ, O, S, .refl, .refl, h0⟩)
  rintro n s₁ ⟨X', ρ', O', S', l, r, hI⟩
  refine Wp.monoE ((turn n ρ' O' hI).run X' W s₁ S') fun x s₂ ⟨A2, h2⟩ => ?_
  cases x
  · exact wpAny_execs_nil ⟨r.trans A2.res, X', ρ', O', A2.sta, l.trans (.kp A2.kp), h2⟩
  · refine Wp.monoE (h2.run X' W s₂ A2.sta) fun f s₃ h3 => ?_
    obtain ⟨r3, h3⟩ := h3
    cases f with
    | next =>
      obtain ⟨X3, ρ3, O3, S3, l3, m, hm, hI3⟩ := h3
      exact ⟨m, hm, X3, ρ3, O3, S3, (l.trans (.kp A2.kp)).trans l3, (r.trans A2.res).trans r3, hI3⟩
    | ret v => exact ⟨(r.trans A2.res).trans r3, h3⟩
    | brk => exact h3.elim
    | cont => exact h3.elim
end
end Mine

namespace Mine
open PySem PySem.W PyProof.Rows PySem.Calls PySem.Spec

/-- the environment of a def's frame. -/
abbrev fenv (qual : Str) (scope : Scope) (f : Addr) (cdv : Value) (L : Addr) : Env :=
  newEnv scope L mainGlobals (cellsFrom (L + 1) scope.names []) (qual ++ ".<locals>.") (some f) cdv none builtinsNs

/-- the frame of a pure def. -/
abbrev fctx (w : World) (A : Around) (n : Nat) (h0 : Heap) (env : Env) (X0 : Addr → Prop) (pl : Bool) : Ctx :=
  { w := w, A := A, n := n, h0 := h0, env := env, X0 := X0, V := fun _ => False, Iv := fun _ => True, pl := pl }

theorem bindLC {env : Env} : ∀ (bs : List (Str × Value)) (m cm : Str → Option Value) (x : Str) (v : Value), (bs.map (·.1)).Nodup → (x, v) ∈ bs →
    (env.kindOf x = some .local → bindL env.kindOf bs m x = some v) ∧ (env.kindOf x ≠ some .local → bindC env.kindOf bs cm x = some v)
  | (n, u) :: r, m, cm, x, v, hn, hm => by
    have hn' := List.nodup_cons.mp hn
    have keepL : ∀ (r : List (Str × Value)) (m : Str → Option Value) (x : Str), x ∉ r.map (·.1) → bindL env.kindOf r m x = m x := by
      intro r
      induction r with
      | nil => intro m x _; rfl
      | cons q r ih =>
        intro m x hx
        obtain ⟨n, u⟩ := q
        rw [bindL, ih _ _ fun h => hx (List.mem_cons_of_mem _ h)]
        split
        · exact if_neg fun e => hx (by rw [e]; exact List.mem_cons_self)
        · rfl
    have keepC : ∀ (r : List (Str × Value)) (m : Str → Option Value) (x : Str), x ∉ r.map (·.1) → bindC env.kindOf r m x = m x := by
      intro r
      induction r with
      | nil => intro m x _; rfl
      | cons q r ih =>
        intro m x hx
        obtain ⟨n, u⟩ := q
        rw [bindC, ih _ _ fun h => hx (List.mem_cons_of_mem _ h)]
        split
        · rfl
        · exact if_neg fun e => hx (by rw [e]; exact List.mem_cons_self)
    rcases List.mem_cons.mp hm with e | hm
    · cases e
      refine ⟨fun hk => ?_, fun hk => ?_⟩
      · rw [bindL, keepL _ _ _ hn'.1, if_pos hk]; simp
      · rw [bindC, keepC _ _ _ hn'.1, if_neg hk]; simp
    · rw [bindL, bindC]
      exact bindLC r _ _ x v hn'.2 hm

theorem zip_lookup {Z : Addr → Prop} {h : Heap} : ∀ {names : List Str} {vs : List Value} {ds : List D} {x : Str} {a : AV}, Reps Z h vs ds → (names.zip (ds.map AV.d)).lookup x = some a → ∃ v d, (x, v) ∈ names.zip vs ∧ a = .d d ∧ Rep Z h v d
  | [], _, _, _, _, _, e => by simp at e
  | n :: ns, _, _, x, a, .nil, e => by simp at e
  | n :: ns, _, _, x, a, .cons (v := v) (d := d) y r, e => by
    rw [List.map_cons, List.zip_cons_cons, List.lookup_cons] at e
    cases hb : x == n with
    | true =>
      rw [hb] at e
      cases e
      rw [beq_iff_eq.mp hb]
      exact ⟨v, d, List.mem_cons_self, rfl, y⟩
    | false =>
      rw [hb] at e
      obtain ⟨v', d', h1, h2, h3⟩ := zip_lookup r e
      exact ⟨v', d', List.mem_cons_of_mem _ h1, h2, h3⟩

theorem spec_intro {w : World} {n : Nat} {f : Addr} {ds : List D} {R : D → Prop} {name qual : Str} {params : Arguments} {body : List Stmt} {scope : Scope} {dV kV doc pm cdv ct oc : Value} {an od : Option Addr} {osl : Array (Option Value)} (pl : Bool) (names : List Str)
    (ho : (KK w).lookup f = some ⟨oc, od, .func (fnOf name qual params body scope dV kV doc pm an cdv ct), osl⟩) (hcd : codeIn (KK w) cdv qual = true)
    (hbind : ∀ vals : List Value, vals.length = names.length → bindArgs (fnOf name qual params body scope dV kV doc pm an cdv ct) ⟨vals, []⟩ = pure (names.zip vals))
    (hl : ds.length = names.length) (hnd : names.Nodup)
    (hkind : (names.all fun y => scope.names.lookup y == some .local || (scope.names.lookup y == some .cell && ((cellsFrom 0 scope.names []).lookup y).isSome)) = true)
    (hk : scope.kind = .function) (hco : scope.isCoroutine = false) (hgen : scope.isGenerator = false)
    (h : ∀ (A : Around) (h0 : Heap) (L : Addr) (X0 : Addr → Prop), Ctx.Ok (fctx w A n h0 (fenv qual scope f cdv L) X0 pl) → Bas w h0 → Ex (fctx w A n h0 (fenv qual scope f cdv L) X0 pl) (names.zip (ds.map .d)) [] body (fun _ _ => R .none) R) : Spec w (n + 1) f ds R := by
  intro A s Z vs hh hroom hunits hB hZ hr
  obtain ⟨pp, loose, mean, mg, mb, K, T⟩ := id hB
  have hlen : vs.length = names.length := hr.length.trans hl
  have hcells : ∀ (k : Nat) (l : List (Str × NameKind)) (acc acc' : List (Str × Addr)), (∀ y, (acc.lookup y).isSome = (acc'.lookup y).isSome) → ∀ y m, ((cellsFrom m l acc).lookup y).isSome = ((cellsFrom k l acc').lookup y).isSome := by
    intro k l
    induction l generalizing k with
    | nil => intro acc acc' e y m; exact e y
    | cons q l ih =>
      intro acc acc' e y m
      obtain ⟨nm, kd⟩ := q
      unfold cellsFrom
      split
      · refine ih (k + 1) _ _ (fun y => ?_) y (m + 1)
        rw [List.lookup_cons, List.lookup_cons]
        cases y == nm
        · exact e y
        · rfl
      · exact ih k _ _ e y m
  have hkind' : ∀ x ∈ names.zip vs, scope.names.lookup x.1 = some .local ∨ (scope.names.lookup x.1 = some .cell ∧ ((cellsFrom (s.heap.objs.size + 1) scope.names []).lookup x.1).isSome = true) := by
    rintro ⟨x, v⟩ hx
    have := List.all_eq_true.mp hkind x (List.of_mem_zip hx).1
    rcases Bool.or_eq_true_iff.mp this with q | q
    · exact .inl (beq_iff_eq.mp q)
    · rw [Bool.and_eq_true] at q
      exact .inr ⟨beq_iff_eq.mp q.1, (hcells 0 _ _ _ (fun _ => rfl) x _).trans q.2⟩
  refine wpAny_call (codeAny_call_cells (fd := fnOf name qual params body scope dV kV doc pm an cdv ct) (by first | lia | omega) (K _ _ ho) rfl T.nolimit (codeRec_of K hcd) rfl (hbind vs hlen) rfl hkind' (fun s₁ x => ?_) hco hgen hk)
  show wpAny (model PG w) (A.deeper (fenv qual scope f cdv s.heap.objs.size)) (execs body (fenv qual scope f cdv s.heap.objs.size)) _ _ s₁
  have ok : Ctx.Ok (fctx w (A.deeper (fenv qual scope f cdv s.heap.objs.size)) n s.heap (fenv qual scope f cdv s.heap.objs.size) Z pl) :=
    ⟨hh, by show A.depth + 1 + n < _; omega, by show A.units + 3 + 8 * n + 64 < _; omega, hk, rfl, rfl, fun _ q => q.elim, fun a q => (hZ a q).imp fun _ z => z.1, fun _ _ _ _ _ => trivial⟩
  have keep := x.toInCall.keep
  have S : Sta (fctx w (A.deeper (fenv qual scope f cdv s.heap.objs.size)) n s.heap (fenv qual scope f cdv s.heap.objs.size) Z pl) (fun a => Z a ∨ a = s.heap.objs.size ∨ ∃ y, (cellsFrom (s.heap.objs.size + 1) scope.names []).lookup y = some a) (fun _ => False) (names.zip (ds.map .d)) [] s₁.heap := by
    have hL : ∀ k, (∃ o, s.heap.get? k = some o) → k ≠ s.heap.objs.size := fun k ⟨o, e⟩ => Nat.ne_of_lt (Heap.lt_size e)
    have hC : ∀ y k, (cellsFrom (s.heap.objs.size + 1) scope.names []).lookup y = some k → s.heap.objs.size < k := fun y k e => x.above y k (mem_of_lookup e)
    refine ⟨keep, fun a q => .inl q, ?_, fun a q => q.elim, fun a q => q.elim, trivial, fun a q => q.elim, ⟨_, _, ⟨x.toInCall.ns, .inr (.inl rfl), fun q => q, get_size _, x.cell, fun y k e => ⟨.inr (.inr ⟨y, e⟩), fun q => q, Heap.get?_none_of_le (Nat.le_of_lt (hC y k e)), Nat.ne_of_gt (hC y k e)⟩, fun y z k e1 e2 => name_of_addr x.apart (mem_of_lookup e1) (mem_of_lookup e2)⟩, fun y a e => ?_⟩, fun q hq => (nomatch hq), List.nodup_nil⟩
    · rintro a (q | rfl | ⟨y, e⟩)
      · obtain ⟨o, e, n⟩ := hZ a q; exact ⟨o, keep a o e, n⟩
      · obtain ⟨o, _, _, e, d, _⟩ := x.toInCall.ns; exact ⟨o, e, fun _ _ _ z => by rw [d] at z; cases z⟩
      · obtain ⟨o, e, d⟩ := x.cell y a e; exact ⟨o, e, fun _ _ _ z => by rw [d] at z; cases z⟩
    · obtain ⟨v, d, hm, rfl, hd⟩ := zip_lookup hr e
      have hnd' : ((names.zip vs).map (·.1)).Nodup := by rw [List.map_fst_zip (by first | lia | omega)]; exact hnd
      have key := bindLC (env := fenv qual scope f cdv s.heap.objs.size) (names.zip vs) (fun _ => none) (fun _ => none) y v hnd' hm
      refine ⟨v, ?_, Rep.mono (fun a q z => ?_) (fun a o _ e => keep a o e) hd⟩
      · rcases hkind' _ hm with q | ⟨q, q2⟩
        · have hk1 : (fenv qual scope f cdv s.heap.objs.size).kindOf y = some .local := q
          simp only [look, hk1]
          exact key.1 hk1
        · have hk1 : (fenv qual scope f cdv s.heap.objs.size).kindOf y = some .cell := q
          simp only [look, hk1]
          exact (if_pos q2).trans (key.2 (by rw [hk1]; decide))
      · rcases z with (z | rfl | ⟨y, e⟩) | z
        · exact z
        · exact absurd rfl (hL _ q)
        · obtain ⟨o, e2⟩ := q; exact absurd (Heap.lt_size e2) (Nat.not_lt.mpr (Nat.le_of_lt (hC y a e)))
        · exact z.elim
  refine Wp.monoE ((h _ s.heap _ Z ok hB).run _ _ s₁ S) fun fl s₂ ⟨r, hr2⟩ => ?_
  have hres : Res s s₁ := by obtain ⟨hh1, tk, e⟩ := x.toInCall.same; rw [e]; exact .mk
  cases fl with
  | next =>
    obtain ⟨X', ρ', O', S', l, hq⟩ := hr2
    exact ⟨S'.base, hres.trans r, .none, .none, hq⟩
  | ret v =>
    obtain ⟨h1, _, _, d, h2, h3⟩ := hr2
    exact ⟨h1, hres.trans r, d, Rep.mono (fun _ _ q => .inl q) (fun _ _ _ e => e) h2, h3⟩
  | brk => exact hr2.elim
  | cont => exact hr2.elim
end Mine

namespace Mine
open PySem PySem.W PyProof.Rows PySem.Calls PySem.Spec

section
variable {c : Ctx} (ok : c.Ok) {ρ : Loc} {O : Own}

def Post (c : Ctx) (X W : Addr → Prop) (ρ : Loc) (O : Own) (Q : AV → Prop) (s : Shared) (v : Value) (s' : Shared) : Prop := Aft c X W ρ O s s' ∧ ∃ a, ARep (Av c X) s'.heap v a ∧ Q a

include ok in
theorem ev_bltN {x : Str} {p pos : Pos} {e : Expr} {es : List Expr} {id : String} {Q : AV → Prop} {P : List AV → Prop} (B : Bas c.w c.h0) (hk : c.env.kindOf x = some .globalImplicit) (hf : nsIn (KK c.w) mainGlobals x = some none) (hv : bootBuiltins x = some (.builtin id))
    (h : EvL c ρ O (e :: es) P) (hop : ∀ X W s vs as, Sta c X W ρ O s.heap → AReps (Av c X) s.heap vs as → P as → Wp c.w c.A (call (.builtin id) vs) (Post c X W ρ O Q s) s)
    (he : starEach (e :: es) c.env = (false, eval e c.env) :: starEach es c.env := by rfl) (hp : ∀ pos, (backTo pos (starEach (e :: es) c.env)).any (·.1) = false := by intro _; rfl) (hn : x ≠ "__name__" := by decide +kernel) (hd : (x == ("__debug__" : Str)) = false := by decide +kernel) : Ev c ρ O (.Call (.Name x p) (e :: es) [] pos) Q := .mk fun X W s S => by
  refine wpAny_Call_Name_kw (name_blt ok S B hk hf hv ?_ hn hd)
  have hh := h.run X W s pos S
  have hp' := hp pos
  rw [he] at hh hp' ⊢
  refine callWith_builtin hp' (evalArgs_plain (Wp.mono hh fun vs s₁ ⟨A1, as, has, hP⟩ => ?_))
  show Wp c.w c.A (call (.builtin id) vs) _ s₁
  exact (hop X W s₁ vs as A1.sta has hP).mono fun v s₂ ⟨A2, r⟩ => ⟨A1.trans A2, r⟩

include ok in
theorem ev_typN {x : Str} {p pos : Pos} {e : Expr} {es : List Expr} {id : String} {Q : AV → Prop} {P : List AV → Prop} (B : Bas c.w c.h0) (hk : c.env.kindOf x = some .globalImplicit) (hf : nsIn (KK c.w) mainGlobals x = some none) (hv : bootBuiltins x = some (.type id))
    (h : EvL c ρ O (e :: es) P) (hop : ∀ X W s vs as, Sta c X W ρ O s.heap → AReps (Av c X) s.heap vs as → P as → Wp c.w c.A (call (.type id) vs) (Post c X W ρ O Q s) s)
    (he : starEach (e :: es) c.env = (false, eval e c.env) :: starEach es c.env := by rfl) (hp : ∀ pos, (backTo pos (starEach (e :: es) c.env)).any (·.1) = false := by intro _; rfl) (hn : x ≠ "__name__" := by decide +kernel) (hd : (x == ("__debug__" : Str)) = false := by decide +kernel) : Ev c ρ O (.Call (.Name x p) (e :: es) [] pos) Q := .mk fun X W s S => by
  refine wpAny_Call_Name_kw (name_blt ok S B hk hf hv ?_ hn hd)
  have hh := h.run X W s pos S
  have hp' := hp pos
  rw [he] at hh hp' ⊢
  refine PyProof.Rows.callWith_type hp' (evalArgs_plain (Wp.mono hh fun vs s₁ ⟨A1, as, has, hP⟩ => ?_))
  show Wp c.w c.A (call (.type id) vs) _ s₁
  exact (hop X W s₁ vs as A1.sta has hP).mono fun v s₂ ⟨A2, r⟩ => ⟨A1.trans A2, r⟩

include ok in
theorem ev_abs {p pos : Pos} {e : Expr} {Q : AV → Prop} (B : Bas c.w c.h0) (hk : c.env.kindOf (Str.ofString "abs") = some .globalImplicit) (h : Ev c ρ O e fun a => ∃ x, a = .d (.int x) ∧ Q (.d (.int (x.natAbs : Int))))
    (he : starEach [e] c.env = (false, eval e c.env) :: starEach [] c.env := by rfl) : Ev c ρ O (.Call (.Name (Str.ofString "abs") p) [e] [] pos) Q := by
  refine ev_bltN ok (id := "abs") (P := fun as => ∃ x, as = [.d (.int x)] ∧ Q (.d (.int (x.natAbs : Int)))) B hk (by rfl) (by boot_fast) (evl_cons (h.mono fun a ⟨x, e, q⟩ => evl_nil ⟨x, by rw [e], q⟩) he) ?_ he (fun pos => by rw [he]; rfl)
  rintro X W s vs as S has ⟨x, rfl, q⟩
  cases has with
  | cons y r =>
    cases r; cases y
    refine call_abs_int fun u tk => ⟨.tok S, AV.d _, ?_, q⟩
    have : (if x < 0 then -x else x) = (x.natAbs : Int) := by split <;> omega
    rw [this]
    exact Rep.int _ _

/-- how long a thing is that len is asked of. -/
def LenOf (O : Own) (a : AV) (n : Nat) : Prop := (∃ ds, (a = .d (.lst ds) ∨ a = .d (.tup ds)) ∧ ds.length = n) ∨ ∃ p as, a = .p p ∧ (p, as) ∈ O ∧ as.length = n
include ok in
theorem ev_len {p pos : Pos} {e : Expr} {Q : AV → Prop} (B : Bas c.w c.h0) (hk : c.env.kindOf (Str.ofString "len") = some .globalImplicit) (h : Ev c ρ O e fun a => ∃ n, LenOf O a n ∧ n < 2 ^ 62 ∧ Q (.d (.int n)))
    (he : starEach [e] c.env = (false, eval e c.env) :: starEach [] c.env := by rfl) : Ev c ρ O (.Call (.Name (Str.ofString "len") p) [e] [] pos) Q := by
  refine ev_bltN ok (id := "len") (P := fun as => ∃ a n, as = [a] ∧ LenOf O a n ∧ n < 2 ^ 62 ∧ Q (.d (.int n))) B hk (by rfl) (by boot_fast) (evl_cons (h.mono fun a ⟨n, h1, h2, q⟩ => evl_nil ⟨a, n, rfl, h1, h2, q⟩) he) ?_ he (fun pos => by rw [he]; rfl)
  rintro X W s vs as S has ⟨a, n, rfl, hl, hlt, q⟩
  cases has with
  | cons y r =>
    cases r
    rcases hl with ⟨ds, rfl | rfl, e⟩ | ⟨p, as, rfl, hm, e⟩
    · cases y with
      | lst nx x r =>
        rename_i us
        have e2 : us.toArray.size = n := by rw [← e, ← r.length]; simp
        refine len_list x (by rw [e2]; omega) ⟨.tok S, AV.d _, ?_, q⟩
        rw [e2]; exact Rep.int _ _
    · cases y with
      | tup nx x r =>
        rename_i us
        have e2 : us.toArray.size = n := by rw [← e, ← r.length]; simp
        refine len_tuple x (by rw [e2]; omega) ⟨.tok S, AV.d _, ?_, q⟩
        rw [e2]; exact Rep.int _ _
    · cases y
      obtain ⟨_, _, _, _, _, us, x, _, r⟩ := S.own _ hm
      have e2 : us.toArray.size = n := by rw [← e, ← r.length]; simp
      refine len_list x (by rw [e2]; omega) ⟨.tok S, AV.d _, ?_, q⟩
      rw [e2]; exact Rep.int _ _
end
end Mine

namespace Mine
open PySem PySem.W PyProof.Rows PySem.Calls PySem.Spec

def Fz (c : Ctx) (X wr : Addr → Prop) (hs : Heap) (a : Addr) : Prop := (∃ o, hs.get? a = some o) ∧ ¬ X a ∧ ¬ c.V a ∧ ¬ wr a
/-- an iterator that hands out the given items, one by one. -/
structure Walk (c : Ctx) (X : Addr → Prop) (hs : Heap) (tgt : Expr) (it : Value) (items : List D) (wr : Addr → Prop) (St : Nat → Heap → Prop) : Prop where
  live : ∀ i h, St i h → ∀ a, wr a → ∃ o, h.get? a = some o ∧ NotCode o
  frame : ∀ i h h', St i h → (∀ a o, (wr a ∨ Fz c X wr hs a) → h.get? a = some o → h'.get? a = some o) → St i h'
  step : ∀ i d s, items[i]? = some d → St i s.heap → Wp c.w c.A (pyNext it) (fun r s1 => ∃ v, r = some v ∧ Wp c.w c.A (letOwnedTupleGo tgt it v) (fun _ s2 => Res s s2 ∧ St (i + 1) s2.heap ∧ (∀ a o, ¬ wr a → s.heap.get? a = some o → s2.heap.get? a = some o) ∧
    ∀ Z : Addr → Prop, (∀ a, Fz c X wr hs a → ¬ Z a) → (∀ a, Z a → ∃ o, s.heap.get? a = some o) → (∀ a o, Fz c X wr hs a → hs.get? a = some o → s2.heap.get? a = some o) → Rep Z s2.heap v d) s1) s
  done : ∀ s, St items.length s.heap → Wp c.w c.A (pyNext it) (fun r s1 => r = none ∧ Res s s1 ∧ ∀ a o, ¬ wr a → s.heap.get? a = some o → s1.heap.get? a = some o) s
  self : ∀ i s (Q : Value → Shared → Prop), St i s.heap → Q it s → Wp c.w c.A (pyIter it) Q s

structure EvIt (c : Ctx) (ρ : Loc) (O : Own) (tgt iter : Expr) (Q : List D → Prop) : Prop where
  run : ∀ X W s, Sta c X W ρ O s.heap → Wp c.w c.A (eval iter c.env) (fun x s1 => Wp c.w c.A (pyIter x) (fun it s2 => Aft c X W ρ O s s2 ∧ ∃ items wr St, Walk c X s2.heap tgt it items wr St ∧ St 0 s2.heap ∧ (∀ a, wr a → s.heap.get? a = none) ∧ Q items) s1) s

section
variable {c : Ctx} (ok : c.Ok) {ρ : Loc} {O : Own}

include ok in
theorem Sta.wrk {X W : Addr → Prop} {h h' : Heap} (S : Sta c X W ρ O h) (k : ∀ a o, ¬ W a → h.get? a = some o → h'.get? a = some o) (l : ∀ a, W a → ∃ o, h'.get? a = some o ∧ NotCode o) : Sta c X W ρ O h' := by
  obtain ⟨m, cm, F, R⟩ := S.fr
  have kx : ∀ a o, ¬ X a → h.get? a = some o → h'.get? a = some o := fun a o n e => k a o (fun q => n (S.wx a q).1) e
  have kz : ∀ a o, ¬ Av c X a → h.get? a = some o → h'.get? a = some o := fun a o n e => kx a o (fun q => n (.inl q)) e
  refine ⟨fun a o e => k a o (fun q => by rw [(S.wx a q).2] at e; cases e) (S.base a o e), S.amb, fun a q => ?_, fun a q => ?_, S.vx, ok.ivm h h' (fun a o v e => kx a o (S.vx a v) e) (fun a o n e => kx a o (S.ncX n e) e) S.inv, S.wx,
    ⟨m, cm, ⟨?_, F.lX, F.lW, F.lF, fun x q e => ?_, F.cX, F.apart⟩, fun x a e => ?_⟩, fun q hq => ?_, S.nd⟩
  · by_cases hw : W a
    · exact l a hw
    · obtain ⟨o, e, n⟩ := S.bn a q; exact ⟨o, k a o hw e, n⟩
  · obtain ⟨o, e, n⟩ := S.vn a q; exact ⟨o, kx a o (S.vx a q) e, n⟩
  · obtain ⟨o, es, ep, e, r⟩ := F.ns; exact ⟨o, es, ep, k _ _ F.lW e, r⟩
  · obtain ⟨o, e1, e2⟩ := F.cell x q e; exact ⟨o, k _ _ (F.cX x q e).2.1 e1, e2⟩
  · obtain ⟨v, h1, h2⟩ := R x a e; exact ⟨v, h1, h2.mono (fun _ _ q => q) kz⟩
  · obtain ⟨h1, h2, h3, h4, h5, vs, h6, h8, h7⟩ := S.own q hq
    exact ⟨h1, h2, h3, h4, h5, vs, h6.at fun o e => k _ o h2 e, fun p => by obtain ⟨o, n, e, r⟩ := h8 p; exact ⟨o, n, k _ _ h2 e, r⟩, h7.mono (fun _ _ q => q) kz⟩

include ok in
/-- fresh objects are laid apart. -/
theorem Sta.res {X W wr : Addr → Prop} {h : Heap} (S : Sta c X W ρ O h) (h' : Heap) (k : Kp c.V h h') (S' : Sta c X W ρ O h') (f : ∀ a, wr a → h.get? a = none) (l : ∀ a, wr a → ∃ o, h'.get? a = some o ∧ NotCode o) : Sta c (fun a => X a ∨ wr a) (fun a => W a ∨ wr a) ρ O h' := by
  obtain ⟨m, cm, F, R⟩ := S.fr
  obtain ⟨m', cm', F', R'⟩ := S'.fr
  have ne : ∀ {a b : Addr} {o : Obj}, h.get? a = some o → wr b → a ≠ b := fun e q z => by rw [z, f _ q] at e; cases e
  have up : ∀ {v : Value} {a : AV}, ARep (Av c X) h v a → ARep (Av c fun a => X a ∨ wr a) h' v a := fun x => x.mono (fun a ⟨o, e⟩ q => by
    rcases q with (q | q) | q
    · exact .inl q
    · exact absurd rfl (ne e q)
    · exact .inr q) fun a o n e => k a o (fun q => n (.inr q)) e
  have ups : ∀ {v : List Value} {a : List AV}, AReps (Av c X) h v a → AReps (Av c fun a => X a ∨ wr a) h' v a := fun x => x.mono (fun a ⟨o, e⟩ q => by
    rcases q with (q | q) | q
    · exact .inl q
    · exact absurd rfl (ne e q)
    · exact .inr q) fun a o n e => k a o (fun q => n (.inr q)) e
  have nv : ∀ a o, h.get? a = some o → X a → h'.get? a = some o := fun a o e x => k a o (fun q => S.vx a q x) e
  refine ⟨S'.base, fun a q => .inl (S.amb a q), fun a q => ?_, S'.vn, fun a v q => ?_, S'.inv, fun a q => ?_,
    ⟨m, cm, ⟨?_, .inl F.lX, fun q => ?_, F.lF, fun x q e => ?_, fun x q e => ?_, F.apart⟩, fun x a e => ?_⟩, fun q hq => ?_, S.nd⟩
  · rcases q with q | q
    · exact S'.bn a q
    · exact l a q
  · rcases q with q | q
    · exact S.vx a v q
    · obtain ⟨o, e⟩ := S.vb a v; exact absurd rfl (ne e q)
  · rcases q with q | q
    · exact ⟨.inl (S.wx a q).1, (S.wx a q).2⟩
    · refine ⟨.inr q, ?_⟩
      cases e : c.h0.get? a with
      | none => rfl
      | some o => exact absurd rfl (ne (S.base a o e) q)
  · obtain ⟨o, es, ep, e, r⟩ := F.ns; exact ⟨o, es, ep, nv _ _ e F.lX, r⟩
  · rcases q with q | q
    · exact F.lW q
    · obtain ⟨o, es, ep, e, r⟩ := F.ns; exact absurd rfl (ne e q)
  · obtain ⟨o, e1, e2⟩ := F.cell x q e; exact ⟨o, nv _ _ e1 (F.cX x q e).1, e2⟩
  · obtain ⟨g1, g2, g3, g4⟩ := F.cX x q e
    refine ⟨.inl g1, fun z => ?_, g3, g4⟩
    rcases z with z | z
    · exact g2 z
    · obtain ⟨o, e1, e2⟩ := F.cell x q e; exact absurd rfl (ne e1 z)
  · obtain ⟨v, h1, h2⟩ := R x a e; exact ⟨v, h1, up h2⟩
  · obtain ⟨h1, h2, h3, h4, h5, vs, h6, h8, h7⟩ := S.own q hq
    refine ⟨.inl h1, fun z => ?_, h3, h4, h5, vs, h6.at fun o e => nv _ o e h1, fun p => by obtain ⟨o, n, e, r⟩ := h8 p; exact ⟨o, n, nv _ _ e h1, r⟩, ups h7⟩
    rcases z with z | z
    · exact h2 z
    · obtain ⟨o, e, _⟩ := h6; exact absurd rfl (ne e z)

include ok in
/-- what was laid apart is let go. -/
theorem Sta.let {X W wr : Addr → Prop} {h h' : Heap} (S : Sta c X (fun a => W a ∨ wr a) ρ O h) (hw : ∀ a, W a → ¬ wr a) (h0 : ∀ a, c.X0 a → ¬ wr a) (k : ∀ a o, ¬ wr a → h.get? a = some o → h'.get? a = some o) : Sta c (fun a => X a ∧ ¬ wr a) W ρ O h' := by
  obtain ⟨m, cm, F, R⟩ := S.fr
  have kz : ∀ a o, ¬ Av c X a → h.get? a = some o → h'.get? a = some o := fun a o n e => k a o (fun q => n (.inl (S.wx a (.inr q)).1)) e
  have hz : ∀ a, (∃ o, h.get? a = some o) → Av c (fun a => X a ∧ ¬ wr a) a → Av c X a := fun a _ q => q.imp And.left id
  refine ⟨fun a o e => k a o (fun q => by rw [(S.wx a (.inr q)).2] at e; cases e) (S.base a o e), fun a q => ⟨S.amb a q, h0 a q⟩, fun a q => ?_, fun a q => ?_, fun a v q => S.vx a v q.1, ok.ivm h h' (fun a o v e => k a o (fun q => S.vx a v (S.wx a (.inr q)).1) e) (fun a o n e => k a o (fun q => S.ncX n e (S.wx a (.inr q)).1) e) S.inv, fun a q => ⟨⟨(S.wx a (.inl q)).1, hw a q⟩, (S.wx a (.inl q)).2⟩,
    ⟨m, cm, ⟨?_, ⟨F.lX, fun q => F.lW (.inr q)⟩, fun q => F.lW (.inl q), F.lF, fun x q e => ?_, fun x q e => ?_, F.apart⟩, fun x a e => ?_⟩, fun q hq => ?_, S.nd⟩
  · obtain ⟨o, e, n⟩ := S.bn a q.1; exact ⟨o, k a o q.2 e, n⟩
  · obtain ⟨o, e, n⟩ := S.vn a q; exact ⟨o, k a o (fun z => S.vx a q (S.wx a (.inr z)).1) e, n⟩
  · obtain ⟨o, es, ep, e, r⟩ := F.ns; exact ⟨o, es, ep, k _ _ (fun q => F.lW (.inr q)) e, r⟩
  · obtain ⟨o, e1, e2⟩ := F.cell x q e; exact ⟨o, k _ _ (fun z => (F.cX x q e).2.1 (.inr z)) e1, e2⟩
  · obtain ⟨g1, g2, g3, g4⟩ := F.cX x q e
    exact ⟨⟨g1, fun z => g2 (.inr z)⟩, fun z => g2 (.inl z), g3, g4⟩
  · obtain ⟨v, h1, h2⟩ := R x a e; exact ⟨v, h1, h2.mono hz kz⟩
  · obtain ⟨h1, h2, h3, h4, h5, vs, h6, h8, h7⟩ := S.own q hq
    exact ⟨⟨h1, fun z => h2 (.inr z)⟩, fun z => h2 (.inl z), h3, h4, h5, vs, h6.at fun o e => k _ o (fun z => h2 (.inr z)) e, fun p => by obtain ⟨o, n, e, r⟩ := h8 p; exact ⟨o, n, k _ _ (fun z => h2 (.inr z)) e, r⟩, h7.mono hz kz⟩

include ok in
theorem ex1_for {tgt iter : Expr} {body : List Stmt} {pos : Pos} {Qn : Loc → Own → Prop} {Qr : D → Prop} 
    (h : EvIt c ρ O tgt iter fun items => ∃ I : Nat → Loc → Own → Prop, I 0 ρ O ∧ (∀ i d ρ' O', items[i]? = some d → I i ρ' O' → Asg c ρ' O' tgt (.d d) fun ρ'' O'' => Ex c ρ'' O'' body (I (i + 1)) Qr) ∧ ∀ ρ' O', I items.length ρ' O' → Qn ρ' O')
    (hs : ∀ x, foldedSetIterable iter c.env x = pure x := by intro _; rfl) : Ex1 c ρ O (.For tgt iter body [] pos) Qn Qr := .mk fun X W s S => by
  refine wpAny_For ((h.run X W s S).mono fun x s₁ h₁ => Wp.mono h₁ fun it s₂ ⟨A2, items, wr, St, Wk, hst, hfr, I, i0, turn, fin⟩ => ?_) hs
  have S2 := Sta.res (wr := wr) ok S s₂.heap A2.kp A2.sta hfr (Wk.live 0 _ hst)
  have hwr : ∀ a o, s.heap.get? a = some o → ¬ wr a := fun a o e q => by rw [hfr a q] at e; cases e
  refine codeAny_forLoop_any (fun k s' => ∃ i X' ρ' O', k = items.length - i + 1 ∧ i ≤ items.length ∧ Sta c X' (fun a => W a ∨ wr a) ρ' O' s'.heap ∧ Rel c.V (fun a => X a ∨ wr a) W s₂.heap X' s'.heap ∧ Res s s' ∧ St i s'.heap ∧ I i ρ' O') ?_ (items.length + 1)
    ⟨0, _, ρ, O, rfl, Nat.zero_le _, S2, .refl, A2.res, hst, i0⟩
  have hWw : ∀ a, W a → ¬ wr a := fun a q => by obtain ⟨o, e⟩ := S.bnd a (S.wx a q).1; exact hwr a o e
  rintro k s' ⟨i, X', ρ', O', rfl, hi, S', R', r', hst', hI'⟩
  by_cases hlt : i < items.length
  · have hd : items[i]? = some items[i] := List.getElem?_eq_getElem hlt
    refine Wp.monoE (Wk.step i _ s' hd hst') fun r s₃ ⟨v, e, hgo⟩ => ?_
    subst e
    refine Wp.monoE hgo fun _ s₄ ⟨r4, hst4, k4, rep4⟩ => ?_
    have S4 := S'.wrk ok (fun a o n e => k4 a o (fun q => n (.inr q)) e) (fun a q => by
      rcases q with q | q
      · obtain ⟨o, e, n⟩ := S'.bn a (S'.wx a (.inl q)).1
        exact ⟨o, k4 a o (hWw a q) e, n⟩
      · exact Wk.live _ _ hst4 a q)
    have old : ∀ a o, Fz c X wr s₂.heap a → s₂.heap.get? a = some o → s₄.heap.get? a = some o := fun a o f e => k4 a o f.2.2.2 (R'.off (fun z => z.elim f.2.1 f.2.2.2) f.2.2.1 e)
    have rep : ARep (Av c X') s₄.heap v (.d items[i]) := by
      refine rep4 _ (fun a f q => ?_) (fun a q => ?_) old
      · rcases q with q | q
        · exact (R'.2 a f.1 f.2.2.1 q).elim f.2.1 f.2.2.2
        · exact f.2.2.1 q
      · rcases q with q | q
        · exact S'.bnd a q
        · exact S'.vb a q
    have R4 : Rel c.V (fun a => X a ∨ wr a) W s₂.heap X' s₄.heap := ⟨fun a o n v e => k4 a o (fun z => hWw a (n (.inr z)) z) (R'.1 a o n v e), R'.2⟩
    refine Wp.monoE ((turn i _ ρ' O' hd hI').run X' _ s₄ v S4 rep) fun _ s₅ ⟨r5, ρ5, O5, S5, R5, h5⟩ => ?_
    refine Wp.monoE (h5.run X' _ s₅ S5) fun f s₆ ⟨r6, h6⟩ => ?_
    have res6 := ((r'.trans r4).trans r5).trans r6
    cases f with
    | next =>
      obtain ⟨X6, ρ6, O6, S6, R6, hI6⟩ := h6
      have R56 := R5.trans R6
      refine ⟨items.length - (i + 1) + 1, zdn hlt, i + 1, X6, ρ6, O6, rfl, hlt, S6, R4.trans (R56.less fun a q => .inl q), res6, ?_, hI6⟩
      refine Wk.frame _ _ _ hst4 fun a o q e => ?_
      rcases q with q | q
      · exact R56.1 a o (fun _ => .inr q) (fun z => S4.vx a z (S4.wx a (.inr q)).1) e
      · refine R56.off (fun z => ?_) q.2.2.1 e
        exact (R'.2 a q.1 q.2.2.1 z).elim q.2.1 q.2.2.2
    | ret v => exact ⟨res6, h6⟩
    | brk => exact h6.elim
    | cont => exact h6.elim
  · have hin : i = items.length := zeq hi hlt
    subst hin
    refine Wp.monoE (Wk.done s' hst') fun r s₃ ⟨e, r3, k3⟩ => ?_
    subst e
    have S3 := Sta.let ok S' hWw (fun a q => by obtain ⟨o, e⟩ := S.bnd a (S.amb a q); exact hwr a o e) k3
    refine wpAny_execs_nil ⟨r'.trans r3, _, ρ', O', S3, ⟨fun a o n v e => k3 a o (hwr a o e) (R'.1 a o (fun z => z.elim n fun z => absurd z (hwr a o e)) v (A2.kp a o v e)), fun a ⟨o, e⟩ v q => (R'.2 a ⟨o, A2.kp a o v e⟩ v q.1).elim id fun z => absurd z (hwr a o e)⟩, fin _ _ hI'⟩
end
end Mine

namespace Mine
open PySem PySem.W PyProof.Rows PySem.Calls PySem.Spec

theorem Fz.rep {c : Ctx} {X wr Z : Addr → Prop} {h hs h' : Heap} (e : Kp c.V h hs) (f : ∀ a, wr a → h.get? a = none) (z : ∀ a, Fz c X wr hs a → ¬ Z a) (k : ∀ a o, Fz c X wr hs a → hs.get? a = some o → h'.get? a = some o) {v : Value} {d : D} (r : Rep (Av c X) h v d) : Rep Z h' v d := by
  have fz : ∀ a o, ¬ Av c X a → h.get? a = some o → Fz c X wr hs a := fun a o n q => ⟨⟨o, e a o (fun z => n (.inr z)) q⟩, fun z => n (.inl z), fun z => n (.inr z), fun w => by rw [f a w] at q; cases q⟩
  refine r.mono (fun a ⟨o, q⟩ hz => ?_) fun a o n q => k a o (fz a o n q) (e a o (fun z => n (.inr z)) q)
  cases Classical.em (Av c X a) with
  | inl h => exact h
  | inr h => exact absurd hz (z a (fz a o h q))

section
variable {c : Ctx} (ok : c.Ok) {ρ : Loc} {O : Own}

def TgtOk (t : Expr) : Prop := (∃ x p, t = .Name x p) ∨ ∃ es k p, t = .Tuple es k p

theorem letgo_list {tgt : Expr} (ht : TgtOk tgt) {s : Shared} {I l : Addr} {i : Nat} {v : Value} {Q : Unit → Shared → Prop} (hit : s.heap.IsListIter I l i) (h : Q () s) : Wp c.w c.A (letOwnedTupleGo tgt (.ref I) v) Q s := by
  rcases ht with ⟨x, p, rfl⟩ | ⟨es, k, p, rfl⟩
  · exact wpAny_pure h
  · cases v with
    | ref a => exact wpAny_letOwnedTupleGo_listiter hit h
    | _ => exact wpAny_pure h

include ok in
theorem it_list {tgt iter : Expr} {Q : List D → Prop} (ht : TgtOk tgt) (h : Ev c ρ O iter fun a => ∃ ds, a = .d (.lst ds) ∧ Q ds) : EvIt c ρ O tgt iter Q := .mk fun X W s S => by
  refine (h.run X W s S).mono fun x s₁ ⟨A1, a, ha, ds, e, hq⟩ => ?_
  subst e
  cases ha with
  | lst n hl r =>
    rename_i t vs _
    have hlt : t < s₁.heap.objs.size := by obtain ⟨o, e, _⟩ := hl; exact Heap.lt_size e
    have hne : t ≠ s₁.heap.objs.size := Nat.ne_of_lt hlt
    refine wpAny_pyIter_list hl ?_
    have hw : ∀ a, a = s₁.heap.objs.size → s₁.heap.get? a = none := fun a e => by rw [e]; exact get_size _
    refine ⟨A1.trans (.ext ok A1.sta .push), ds, (fun a => a = s₁.heap.objs.size), (fun i h => h.IsListIter s₁.heap.objs.size t i ∧ h.IsList t vs.toArray), ⟨?_, ?_, ?_, ?_, ?_⟩, ⟨⟨_, Heap.get?_push_size _ rfl, rfl, rfl⟩, hl.push _⟩, ?_, hq⟩
    · rintro i h ⟨⟨o, e, _, d⟩, _⟩ a rfl
      exact ⟨o, e, fun _ _ _ z y => by rw [d] at z; cases z; cases y⟩
    · rintro i h h' ⟨h1, h2⟩ k
      refine ⟨h1.at fun o e => k _ o (.inl rfl) e, h2.at fun o e => k t o (.inr ⟨?_, fun z => n (.inl z), fun z => n (.inr z), hne⟩) e⟩
      obtain ⟨o, e, _⟩ := hl
      exact ⟨o, Heap.get?_push_of_some _ e⟩
    · rintro i d s' hd ⟨h1, h2⟩
      obtain ⟨v, hv, hr⟩ := r.get hd
      refine wpAny_pyNext_list_item h1 h2 (x := v) (by simpa using hv) fun h' h3 hs' => ⟨v, rfl, ?_⟩
      refine letgo_list ht h3 ⟨.mk, ⟨h3, h2.extBut hs'.extBut hne⟩, fun a o na e => hs'.extBut a o na e, fun Z z1 z2 z3 => ?_⟩
      exact Fz.rep (Ext.push.kp) hw z1 z3 hr
    · rintro s' ⟨h1, h2⟩
      exact wpAny_pyNext_list_end ok.hd h1 h2 (by simp [r.length]) fun h' he => ⟨rfl, .mk, fun a o na e => he a o na e⟩
    · rintro i s' Q ⟨h1, _⟩ q
      exact wpAny_pyIter_listiter h1 q
    · rintro a rfl
      cases e : s.heap.get? s₁.heap.objs.size with
      | none => rfl
      | some o =>
        cases Classical.em (c.V s₁.heap.objs.size) with
        | inl v => obtain ⟨o, e⟩ := A1.sta.vb _ v; rw [get_size] at e; cases e
        | inr v => have := A1.kp _ o v e; rw [get_size] at this; cases this

/-- the ints of a range by ones. -/
def rng (a b : Int) : List D := (List.range (b - a).toNat).map fun (i : Nat) => D.int (a + (i : Int))
theorem rng_get {a b : Int} {i : Nat} {d : D} (h : (rng a b)[i]? = some d) : d = .int (a + (i : Int)) ∧ i < (b - a).toNat := by
  unfold rng at h
  rw [List.getElem?_map, Option.map_eq_some_iff] at h
  obtain ⟨j, h1, h2⟩ := h
  have hlt : i < (b - a).toNat := by
    have := (List.getElem?_eq_some_iff.mp h1).1
    simpa using this
  rw [List.getElem?_range hlt] at h1
  cases h1
  exact ⟨h2.symm, hlt⟩
theorem rng_length {a b : Int} : (rng a b).length = (b - a).toNat := by simp [rng]

include ok in
theorem range_walk {x : Str} {p : Pos} {X W : Addr → Prop} {s s₁ : Shared} {r : Addr} {a b : Int} {t u v : Tok} (A1 : Aft c X W ρ O s s₁) (hr : IsRange s₁.heap r a b 1 t u v) (ha : -(2 ^ 62) ≤ a) (ha' : a < 2 ^ 62) (hb : -(2 ^ 62) ≤ b) (hb' : b < 2 ^ 62) {Q : List D → Prop} (hq : Q (rng a b)) :
    Wp c.w c.A (pyIter (.ref r)) (fun it s2 => Aft c X W ρ O s s2 ∧ ∃ items wr St, Walk c X s2.heap (.Name x p) it items wr St ∧ St 0 s2.heap ∧ (∀ a, wr a → s.heap.get? a = none) ∧ Q items) s₁ := by
  refine wpAny_pyIter_range hr (small_one ha ha' hb hb') ?_
  have hsz : Builtin.Range.rangeSize a b 1 = (((b - a).toNat : Nat) : Int) := by rw [rangeSize_one]; split <;> omega
  refine ⟨A1.trans (.ext ok A1.sta .push), rng a b, (fun a => a = s₁.heap.objs.size), (fun i h => IsRangeIter h s₁.heap.objs.size (a + (i : Nat) * 1) ((((b - a).toNat : Nat) : Int) - (i : Nat)) 1), ⟨?_, ?_, ?_, ?_, ?_⟩, ?_, ?_, hq⟩
  · rintro i h e a rfl
    exact ⟨_, e, fun _ _ _ z y => by cases z; cases y⟩
  · rintro i h h' h1 k
    exact k _ _ (.inl rfl) h1
  · rintro i d s' hd h1
    obtain ⟨rfl, hlt⟩ := rng_get hd
    refine wpAny_pyNext_range_item h1 (by first | lia | omega) fun h' h2 hs => ⟨_, rfl, ?_⟩
    refine wpAny_pure ⟨.mk, ?_, fun a o na e => hs.extBut a o na e, fun Z _ _ _ => ?_⟩
    · have e1 : a + ((i + 1 : Nat) : Int) * 1 = a + (i : Int) * 1 + 1 := by first | lia | omega
      have e2 : (((b - a).toNat : Nat) : Int) - ((i + 1 : Nat) : Int) = (((b - a).toNat : Nat) : Int) - (i : Int) - 1 := by first | lia | omega
      show IsRangeIter h' _ _ _ _
      rw [e1, e2]; exact h2
    · have e1 : a + (i : Int) * 1 = a + (i : Int) := by first | lia | omega
      rw [e1]; exact .int _ _
  · rintro s' h1
    refine wpAny_pyNext_range_end ok.hd h1 (by rw [rng_length]; omega) fun h' he => ⟨rfl, .mk, fun a o na e => he a o na e⟩
  · intro i s' Q h1 q
    exact wpAny_pyIter_rangeiter h1 q
  · show IsRangeIter _ _ _ _ _
    rw [hsz]
    have e1 : a + ((0 : Nat) : Int) * 1 = a := by first | lia | omega
    have e2 : (((b - a).toNat : Nat) : Int) - ((0 : Nat) : Int) = (((b - a).toNat : Nat) : Int) := by first | lia | omega
    rw [e1, e2]
    exact Heap.get?_push_size _ rfl
  · rintro a rfl
    cases e : s.heap.get? s₁.heap.objs.size with
    | none => rfl
    | some o =>
      cases Classical.em (c.V s₁.heap.objs.size) with
      | inl v => obtain ⟨o, e⟩ := A1.sta.vb _ v; rw [get_size] at e; cases e
      | inr v => have := A1.kp _ o v e; rw [get_size] at this; cases this

include ok in
theorem it_range1 {x : Str} {p p2 pos : Pos} {e : Expr} {Q : List D → Prop} (B : Bas c.w c.h0) (hk : c.env.kindOf (Str.ofString "range") = some .globalImplicit) (h : Ev c ρ O e fun a => ∃ n, a = .d (.int n) ∧ -(2 ^ 62) ≤ n ∧ n < 2 ^ 62 ∧ Q (rng 0 n))
    (he : starEach [e] c.env = (false, eval e c.env) :: starEach [] c.env := by rfl) : EvIt c ρ O (.Name x p2) (.Call (.Name (Str.ofString "range") p) [e] [] pos) Q := .mk fun X W s S => by
  refine wpAny_Call_Name_kw (name_blt ok S B hk (v := .type "range") (by rfl) (by boot_fast) ?_)
  have hh := (evl_cons (Q := fun as => ∃ n, as = [.d (.int n)] ∧ -(2 ^ 62) ≤ n ∧ n < 2 ^ 62 ∧ Q (rng 0 n)) (h.mono fun a ⟨n, e, r⟩ => evl_nil ⟨n, by rw [e], r⟩) he).run X W s pos S
  rw [he] at hh ⊢
  refine PyProof.Rows.callWith_type rfl (evalArgs_plain (Wp.mono hh fun vs s₁ ⟨A1, as, has, n, e, h1, h2, q⟩ => ?_))
  subst e
  cases has with
  | cons y r =>
    cases r; cases y
    refine call_range_1 ?_
    refine range_walk ok (X := X) (W := W) (ρ := ρ) (O := O) (s := s) (s₁ := { s₁ with heap := s₁.heap.push _, toks := s₁.toks + 1 + 1 }) (A1.trans (.ext ok A1.sta .push)) (IsRange.new ..) (by first | lia | omega) (by first | lia | omega) h1 h2 q

include ok in
theorem it_range2 {x : Str} {p p2 pos : Pos} {e1 e2 : Expr} {Q : List D → Prop} (B : Bas c.w c.h0) (hk : c.env.kindOf (Str.ofString "range") = some .globalImplicit)
    (h : Ev c ρ O e1 fun a => ∃ m, a = .d (.int m) ∧ -(2 ^ 62) ≤ m ∧ m < 2 ^ 62 ∧ Ev c ρ O e2 fun a => ∃ n, a = .d (.int n) ∧ -(2 ^ 62) ≤ n ∧ n < 2 ^ 62 ∧ Q (rng m n))
    (he : starEach [e1, e2] c.env = (false, eval e1 c.env) :: starEach [e2] c.env := by rfl) (he2 : starEach [e2] c.env = (false, eval e2 c.env) :: starEach [] c.env := by rfl) : EvIt c ρ O (.Name x p2) (.Call (.Name (Str.ofString "range") p) [e1, e2] [] pos) Q := .mk fun X W s S => by
  refine wpAny_Call_Name_kw (name_blt ok S B hk (v := .type "range") (by rfl) (by boot_fast) ?_)
  have hh := (evl_cons (Q := fun as => ∃ m n, as = [.d (.int m), .d (.int n)] ∧ -(2 ^ 62) ≤ m ∧ m < 2 ^ 62 ∧ -(2 ^ 62) ≤ n ∧ n < 2 ^ 62 ∧ Q (rng m n)) (h.mono fun a ⟨m, e, a1, a2, r⟩ => evl_cons (r.mono fun b ⟨n, e', a3, a4, r⟩ => evl_nil ⟨m, n, by rw [e, e'], a1, a2, a3, a4, r⟩) he2) he).run X W s pos S
  rw [he, he2] at hh ⊢
  refine PyProof.Rows.callWith_type rfl (evalArgs_plain (Wp.mono hh fun vs s₁ ⟨A1, as, has, m, n, e, h1, h2, h3, h4, q⟩ => ?_))
  subst e
  cases has with
  | cons y r =>
    cases y
    cases r with
    | cons y r =>
      cases r; cases y
      refine call_range_2 ?_
      refine range_walk ok (X := X) (W := W) (ρ := ρ) (O := O) (s := s) (s₁ := { s₁ with heap := s₁.heap.push _, toks := s₁.toks + 1 }) (A1.trans (.ext ok A1.sta .push)) (IsRange.new ..) h1 h2 h3 h4 q
end
end Mine

namespace Mine
open PySem PySem.W PyProof.Rows PySem.Calls PySem.Spec

/-! ### the frame of a comprehension -/
def clos (env : Env) (names : List (Str × NameKind)) : List (Str × Addr) :=
  (names.filterMap fun q => if q.2 == .free then (env.cells.lookup q.1).map fun k => (q.1, k) else none).reverse
def ClosOk (env : Env) (names : List (Str × NameKind)) : Prop := ∀ x, (x, NameKind.free) ∈ names → (env.kindOf x = some .cell ∨ env.kindOf x = some .free) ∧ (env.cells.lookup x).isSome = true

theorem closureFor_clos {env : Env} {scope : Scope} (h : ClosOk env scope.names) : closureFor scope env = pure (clos env scope.names) := by
  have key : ∀ (f : Str × NameKind → List (Str × Addr) → Sem (ForInStep (List (Str × Addr)))) (hf : ∀ x k cs, f (x, k) cs = if (k == NameKind.free) = true then (do let a ← cellOf env x; pure (ForInStep.yield ((x, a) :: cs))) else pure (ForInStep.yield cs))
      (names : List (Str × NameKind)) (cs : List (Str × Addr)), (∀ x, (x, NameKind.free) ∈ names → (env.cells.lookup x).isSome = true) →
      forIn names cs f = (pure ((names.filterMap fun q => if q.2 == .free then (env.cells.lookup q.1).map fun k => (q.1, k) else none).reverse ++ cs) : Sem _) := by
    intro f hf names
    induction names with
    | nil => intro cs _; rfl
    | cons q r ih =>
      intro cs hq
      obtain ⟨x, k⟩ := q
      rw [List.forIn_cons, hf]
      by_cases hk : (k == NameKind.free) = true
      · have hk' : k = .free := beq_iff_eq.mp hk
        subst hk'
        obtain ⟨a, ha⟩ := Option.isSome_iff_exists.mp (hq x List.mem_cons_self)
        have hc : cellOf env x = pure a := by unfold cellOf; rw [ha]
        rw [if_pos hk, hc]
        simp only [pure_bind]
        rw [ih _ fun y hy => hq y (List.mem_cons_of_mem _ hy)]
        simp [List.filterMap_cons, ha]
      · rw [if_neg hk]
        simp only [pure_bind]
        rw [ih _ fun y hy => hq y (List.mem_cons_of_mem _ hy)]
        have hk' : ¬ k = NameKind.free := fun e => hk (by rw [e]; rfl)
        simp [List.filterMap_cons, hk']
  simp only [closureFor]
  rw [key _ (fun x k cs => by cases hkc : k == NameKind.free <;> simp [hkc]) scope.names [] fun x hx => (h x hx).2]
  rw [List.append_nil]
  rfl

theorem clos_mem {env : Env} {names : List (Str × NameKind)} {x : Str} {k : Addr} (h : (clos env names).lookup x = some k) : env.cells.lookup x = some k := by
  have := mem_of_lookup h
  unfold clos at this
  rw [List.mem_reverse, List.mem_filterMap] at this
  obtain ⟨⟨y, kd⟩, _, e⟩ := this
  split at e
  · rw [Option.map_eq_some_iff] at e
    obtain ⟨a, h1, h2⟩ := e
    cases h2
    exact h1
  · cases e
theorem lookup_of_mem {α : Type} : ∀ {l : List (Str × α)} {x : Str} {k : α}, (x, k) ∈ l → (l.lookup x).isSome = true
  | (y, b) :: r, x, k, h => by
    rw [List.lookup_cons]
    cases hb : x == y with
    | true => rfl
    | false =>
      rcases List.mem_cons.mp h with e | h
      · cases e; simp at hb
      · exact lookup_of_mem h
theorem clos_free {env : Env} {names : List (Str × NameKind)} (h : ClosOk env names) {x : Str} (hx : (x, NameKind.free) ∈ names) : (clos env names).lookup x = env.cells.lookup x := by
  obtain ⟨k, hk⟩ := Option.isSome_iff_exists.mp (h x hx).2
  have : (x, k) ∈ clos env names := by
    unfold clos
    rw [List.mem_reverse, List.mem_filterMap]
    exact ⟨_, hx, by simp [hk]⟩
  obtain ⟨k', hk'⟩ := Option.isSome_iff_exists.mp (lookup_of_mem this)
  rw [hk', hk, ← clos_mem hk', hk]

/-- where the cells of a block's own stand. -/
theorem cells_own : ∀ (names : List (Str × NameKind)) (h : Heap) (acc : List (Str × Addr)) (hk : ∀ x k, acc.lookup x = some k → k < h.objs.size) (hi : ∀ x y k, acc.lookup x = some k → acc.lookup y = some k → x = y),
    (∀ x k, (cellsFrom h.objs.size names acc).lookup x = some k → ((x, NameKind.cell) ∈ names ∧ h.objs.size ≤ k ∧ (pushCells h names).IsCell k none) ∨ ((x, NameKind.cell) ∉ names ∧ acc.lookup x = some k)) ∧
    (∀ x y k, (cellsFrom h.objs.size names acc).lookup x = some k → (cellsFrom h.objs.size names acc).lookup y = some k → x = y)
  | [], h, acc, hk, hi => ⟨fun x k e => .inr ⟨by simp, e⟩, hi⟩
  | (n, kd) :: r, h, acc, hk, hi => by
    unfold cellsFrom pushCells
    by_cases hc : (kd == NameKind.cell) = true
    · rw [if_pos hc, if_pos hc]
      have hc' : kd = .cell := beq_iff_eq.mp hc
      subst hc'
      have key := cells_own r (h.push { cls := .type "cell", data := .cell none }) ((n, h.objs.size) :: acc) (fun x k e => by
          rw [Heap.size_push]
          rw [List.lookup_cons] at e
          cases hb : x == n with
          | true => rw [hb] at e; cases e; exact Nat.lt_succ_self _
          | false => rw [hb] at e; exact Nat.lt_succ_of_lt (hk x k e)) (fun x y k e1 e2 => by
          rw [List.lookup_cons] at e1 e2
          cases hb : x == n with
          | true =>
            rw [hb] at e1; cases e1
            cases hb2 : y == n with
            | true => rw [beq_iff_eq.mp hb, beq_iff_eq.mp hb2]
            | false => rw [hb2] at e2; exact absurd (hk y _ e2) (Nat.lt_irrefl _)
          | false =>
            rw [hb] at e1
            cases hb2 : y == n with
            | true => rw [hb2] at e2; cases e2; exact absurd (hk x _ e1) (Nat.lt_irrefl _)
            | false => rw [hb2] at e2; exact hi x y k e1 e2)
      rw [Heap.size_push] at key
      refine ⟨fun x k e => ?_, key.2⟩
      rcases key.1 x k e with ⟨h1, h2, h3⟩ | ⟨h1, h2⟩
      · exact .inl ⟨List.mem_cons_of_mem _ h1, Nat.le_of_succ_le h2, h3⟩
      · rw [List.lookup_cons] at h2
        cases hb : x == n with
        | true =>
          rw [hb] at h2; cases h2
          refine .inl ⟨by rw [beq_iff_eq.mp hb]; exact List.mem_cons_self, Nat.le_refl _, ?_⟩
          exact ⟨_, pushCells_keeps _ _ _ _ (Heap.get?_push_size _ rfl), rfl⟩
        | false =>
          rw [hb] at h2
          refine .inr ⟨fun z => ?_, h2⟩
          rcases List.mem_cons.mp z with z | z
          · cases z; simp at hb
          · exact h1 z
    · rw [if_neg hc, if_neg hc]
      have key := cells_own r h acc hk hi
      refine ⟨fun x k e => ?_, key.2⟩
      rcases key.1 x k e with ⟨h1, h2, h3⟩ | ⟨h1, h2⟩
      · exact .inl ⟨List.mem_cons_of_mem _ h1, h2, h3⟩
      · refine .inr ⟨fun z => ?_, h2⟩
        rcases List.mem_cons.mp z with z | z
        · cases z; exact hc rfl
        · exact h1 z

theorem newBlockEnv {w : World} {A : Around} {scope : Scope} {globals : Addr} {cl : List (Str × Addr)} {qual : Str} {env : Env} {s : Shared} {Q : Env → Shared → Prop}
    (h : Q (newEnv scope s.heap.objs.size globals (cellsFrom (s.heap.objs.size + 1) scope.names cl) qual none .none (some env) builtinsNs) { s with heap := pushCells (s.heap.push { cls := .type "dict", data := .dict #[] }) scope.names }) :
    Wp w A (newFunctionEnv scope globals cl [] qual none .none (some env)) Q s := by
  simp only [newFunctionEnv, Option.isSome_some, if_true]
  refine wpAny_bind (wpAny_alloc ?_)
  refine wpAny_bind (wpAny_layCells _ (fun name kind cells => by cases hkc : kind == NameKind.cell <;> simp [hkc]) _ _ _ _ ?_)
  rw [show ({ s with heap := s.heap.push { cls := .type "dict", data := .dict #[] } } : Shared).heap.objs.size = s.heap.objs.size + 1 from Heap.size_push ..]
  refine wpAny_bind ?_
  rw [List.forIn_nil]
  exact wpAny_pure (wpAny_pure h)

/-- the environment of a comprehension's block, laid at C. -/
abbrev cenv (scope : Scope) (env : Env) (C : Addr) : Env :=
  { newEnv scope C env.globals (cellsFrom (C + 1) scope.names (clos env scope.names)) env.qual none .none (some env) builtinsNs with scope := relabel scope env }
abbrev Ctx.blk (c : Ctx) (scope : Scope) (C : Addr) : Ctx := { c with env := cenv scope c.env C }

/-- the names of the frame that a block sees. -/
abbrev seen (scope : Scope) (ρ : Loc) : Loc := ρ.filter fun q => scope.names.lookup q.1 == some .free

theorem lookup_filter {ρ : Loc} {f : Str → Bool} {x : Str} {a : AV} : (ρ.filter fun q => f q.1).lookup x = some a → f x = true ∧ ρ.lookup x = some a := by
  induction ρ with
  | nil => intro e; cases e
  | cons q r ih =>
    obtain ⟨y, b⟩ := q
    intro e
    rw [List.filter_cons] at e
    by_cases hf : f y = true
    · rw [if_pos hf, List.lookup_cons] at e
      rw [List.lookup_cons]
      cases hb : x == y with
      | true => rw [hb] at e; exact ⟨by rw [beq_iff_eq.mp hb]; exact hf, e⟩
      | false => rw [hb] at e; exact ih e
    · rw [if_neg hf] at e
      obtain ⟨h1, h2⟩ := ih e
      refine ⟨h1, ?_⟩
      rw [List.lookup_cons]
      cases hb : x == y with
      | true => rw [beq_iff_eq.mp hb] at h1; exact absurd h1 hf
      | false => exact h2
theorem lookup_relabel_free {env : Env} : ∀ {names : List (Str × NameKind)} {x : Str}, names.lookup x = some .free →
    (names.map fun (n, k) => if (k == NameKind.free && env.scope.kind == .function && env.kindOf n == some .cell) then (n, NameKind.cell) else (n, k)).lookup x = some .free ∨ (names.map fun (n, k) => if (k == NameKind.free && env.scope.kind == .function && env.kindOf n == some .cell) then (n, NameKind.cell) else (n, k)).lookup x = some .cell
  | [], _, h => by simp at h
  | (n, k) :: r, x, h => by
    have ih := @lookup_relabel_free env r x
    rw [List.map_cons]
    cases hx : x == n with
    | true =>
      simp only [List.lookup_cons, hx] at h
      cases h
      dsimp only
      split
      · right; simp [List.lookup_cons, hx]
      · left; simp [List.lookup_cons, hx]
    | false =>
      simp only [List.lookup_cons, hx] at h
      dsimp only
      split
      · simp only [List.lookup_cons, hx]; exact ih h
      · simp only [List.lookup_cons, hx]; exact ih h

section
variable {c : Ctx} (ok : c.Ok) {ρ : Loc} {O : Own}

theorem Aft.fresh {X W : Addr → Prop} {s s' : Shared} (A : Aft c X W ρ O s s') {a : Addr} (e : s'.heap.get? a = none) : s.heap.get? a = none := by
  cases h : s.heap.get? a with
  | none => rfl
  | some o =>
    cases Classical.em (c.V a) with
    | inl v => obtain ⟨o', e'⟩ := A.sta.vb _ v; rw [e] at e'; cases e'
    | inr v => have := A.kp _ o v h; rw [e] at this; cases this

include ok in
theorem Sta.kp {X W : Addr → Prop} {h h' : Heap} (S : Sta c X W ρ O h) (k : Kp c.V h h') (v : ∀ a, c.V a → ∃ o, h'.get? a = some o ∧ NotCode o) (i : c.Iv h') : Sta c X W ρ O h' where
  base := fun a o e => k a o (fun z => by rw [ok.v0 a z] at e; cases e) (S.base a o e)
  amb := S.amb
  bn := fun a x => let ⟨o, q, n⟩ := S.bn a x; ⟨o, k a o (fun z => S.vx a z x) q, n⟩
  vn := v
  vx := S.vx
  inv := i
  wx := S.wx
  fr := by
    obtain ⟨m, cm, F, R⟩ := S.fr
    have kx : ∀ a o, X a → h.get? a = some o → h'.get? a = some o := fun a o x e => k a o (fun z => S.vx a z x) e
    refine ⟨m, cm, ⟨by obtain ⟨o, es, ep, e, r⟩ := F.ns; exact ⟨o, es, ep, kx _ _ F.lX e, r⟩, F.lX, F.lW, F.lF, fun x q e => by obtain ⟨o, e1, e2⟩ := F.cell x q e; exact ⟨o, kx _ _ (F.cX x q e).1 e1, e2⟩, F.cX, F.apart⟩, fun x a q => ?_⟩
    obtain ⟨v, h1, h2⟩ := R x a q
    exact ⟨v, h1, h2.kp k⟩
  own := fun q hq => by
    obtain ⟨x, w, f, l, cl, vs, h1, h3, h2⟩ := S.own q hq
    have kx : ∀ o, h.get? q.1 = some o → h'.get? q.1 = some o := fun o e => k _ o (fun z => S.vx _ z x) e
    exact ⟨x, w, f, l, cl, vs, h1.at kx, fun p => by obtain ⟨o, n, e, r⟩ := h3 p; exact ⟨o, n, kx _ e, r⟩, h2.kp k⟩
  nd := S.nd

/-- a turn of a comprehension's loop: iterator, target, tests, element. -/
theorem comp_loop {w : World} {A : Around} {R : Result → Shared → Prop} {elt target iter : Expr} {ifs : List Expr} {scope : Scope} {pos : Pos} {it acc : Value} {env : Env} (I : Nat → Shared → Prop)
    (turn : ∀ n s, I n s → Wp w A (pyNext it) (fun r s₁ => match r with
      | none => R (.ok .next) s₁
      | some v => Wp w A (letOwnedTupleGo target it v) (fun _ s₁' => Wp w A (assign target env v) (fun _ s₂ =>
          Wp w A (forIn ifs true fun c r => if r = true then do let ok ← isTrue c env (eval c env); pure (ForInStep.yield ok) else pure (ForInStep.yield r)) (fun ok s₃ =>
            if ok = true then Wp w A (eval elt env) (fun x s₄ => Wp w A (call (.builtin "list.append") [acc, x]) (fun _ s₅ => ∃ m, m < n ∧ I m s₅) s₄) s₃
            else ∃ m, m < n ∧ I m s₃) s₂) s₁') s₁) s)
    (n : Nat) {s : Shared} (h : I n s) : codeAny (model PG w) A (.compLoop (.ListComp elt [⟨target, iter, ifs, 0⟩] scope pos) 0 it acc env) R s := by
  refine codeAny_loop rfl I (fun n s hI => ?_) n h
  show wpAny _ A ((compTurn (.ListComp elt [⟨target, iter, ifs, 0⟩] scope pos) 0 it acc env).onRaise (fun x => do noteFrame x env; theTreesLotGoes x)) _ _ s
  refine wpAny_noted ?_
  rw [compTurn_list]
  refine lift (wpAny_bind (wpAny_standAt (wpAny_bind ((turn n s hI).mono fun r s₁ h₁ => ?_))))
  cases r with
  | none => exact wpAny_pure h₁
  | some v =>
    refine wpAny_bind (Wp.mono h₁ fun _ s₁' h₁' => ?_)
    refine wpAny_bind (Wp.mono h₁' fun _ s₂ h₂ => wpAny_bind (Wp.mono h₂ fun ok s₃ h₃ => ?_))
    cases ok with
    | false => exact wpAny_pure ⟨rfl, h₃⟩
    | true => exact wpAny_bind (wpAny_bind (Wp.mono h₃ fun x s₄ h₄ => wpAny_bind (Wp.mono h₄ fun _ s₅ h₅ => wpAny_pure (wpAny_pure ⟨rfl, h₅⟩))))

/-- the tests of a clause. -/
structure Tests (c : Ctx) (ρ : Loc) (O : Own) (ifs : List Expr) (Q : Bool → Prop) : Prop where
  run : ∀ X W s, Sta c X W ρ O s.heap → Wp c.w c.A (forIn ifs true fun e r => if r = true then do let ok ← isTrue e c.env (eval e c.env); pure (ForInStep.yield ok) else pure (ForInStep.yield r)) (fun b s' => Aft c X W ρ O s s' ∧ Q b) s
theorem tests_nil {Q : Bool → Prop} (h : Q true) : Tests c ρ O [] Q := ⟨fun X W s S => wpAny_tests_nil ⟨.refl S, h⟩⟩
theorem tests_one {e : Expr} {Q : Bool → Prop} (h : Tr c ρ O e Q) : Tests c ρ O [e] Q := ⟨fun X W s S => wpAny_tests_one (h.run X W s S)⟩
end
end Mine

namespace Mine
open PySem PySem.W PyProof.Rows PySem.Calls PySem.Spec

section
variable {c : Ctx} (ok : c.Ok) {ρ : Loc} {O : Own}

/-- an expression that makes a new list. -/
structure EvF (c : Ctx) (ρ : Loc) (O : Own) (e : Expr) (Q : List AV → Prop) : Prop where
  run : ∀ X W s, Sta c X W ρ O s.heap → Wp c.w c.A (eval e c.env) (fun v s' => Aft c X W ρ O s s' ∧ ∃ (l : Addr) (vs : List Value) (as : List AV), v = .ref l ∧ s.heap.get? l = none ∧ PlainL s'.heap l vs.toArray ∧ AReps (fun a => Av c X a ∨ a = l) s'.heap vs as ∧ Q as) s

theorem EvF.mono {e : Expr} {Q Q' : List AV → Prop} (x : EvF c ρ O e Q) (k : ∀ a, Q a → Q' a) : EvF c ρ O e Q' :=
  ⟨fun X W s S => (x.run X W s S).mono fun _ _ ⟨h1, l, vs, as, h2, h3, h4, h5, h6⟩ => ⟨h1, l, vs, as, h2, h3, h4, h5, k _ h6⟩⟩

theorem ev_of_fresh {e : Expr} {Q : AV → Prop} (h : EvF c ρ O e fun as => ∃ ds : List D, as = ds.map .d ∧ Q (.d (.lst ds))) : Ev c ρ O e Q := .mk fun X W s S => by
  refine (h.run X W s S).mono fun v s₁ ⟨A1, l, vs, as, e, hl, hp, hr, ds, e2, hq⟩ => ?_
  subst e; subst e2
  refine ⟨A1, AV.d _, Rep.lst (vs := vs) (fun q => ?_) hp.isList (Reps.mono (fun _ _ q => .inl q) (fun _ _ _ e => e) hr.toReps), hq⟩
  rcases q with q | q
  · obtain ⟨o, e⟩ := S.bnd _ q; rw [hl] at e; cases e
  · obtain ⟨o, e⟩ := S.vb _ q; rw [hl] at e; cases e

include ok in
theorem blkOk {scope : Scope} {C : Addr} (hk : scope.kind = .function) : (c.blk scope C).Ok :=
  ⟨ok.hd, ok.room, ok.units, hk, ok.glob, ok.blt, ok.v0, ok.x0, ok.ivm⟩

include ok in
theorem blk_sta {X W F W' : Addr → Prop} {scope : Scope} {C : Addr} {h h' : Heap} (S : Sta c X W ρ O h) (hcl : ClosOk c.env scope.names) (hk : scope.kind = .function)
    (k : Kp c.V h h') (v : ∀ a, c.V a → ∃ o, h'.get? a = some o ∧ NotCode o) (i : c.Iv h')
    (f : ∀ a, F a → h.get? a = none) (l : ∀ a, F a → ∃ o, h'.get? a = some o ∧ NotCode o) (hC : F C) (w1 : ∀ a, W' a → W a ∨ F a) (w2 : ¬ W' C)
    (ns : ∃ m, h'.Ns C m)
    (own : ∀ x a, (cellsFrom (C + 1) scope.names (clos c.env scope.names)).lookup x = some a → ((x, NameKind.cell) ∈ scope.names ∧ F a ∧ ¬ W' a ∧ a ≠ C ∧ ∃ v, h'.IsCell a v) ∨ ((x, NameKind.cell) ∉ scope.names ∧ (clos c.env scope.names).lookup x = some a))
    (inj : ∀ x y a, (cellsFrom (C + 1) scope.names (clos c.env scope.names)).lookup x = some a → (cellsFrom (C + 1) scope.names (clos c.env scope.names)).lookup y = some a → x = y)
    (hfc : ∀ x, (x, NameKind.free) ∈ scope.names → (x, NameKind.cell) ∉ scope.names)
    (hcc : ∀ x, (x, NameKind.free) ∈ scope.names → ((cellsFrom (C + 1) scope.names (clos c.env scope.names)).lookup x).isSome = true) :
    Sta (c.blk scope C) (fun a => X a ∨ F a) W' (seen scope ρ) O h' := by
  have S1 := Sta.res (wr := F) ok S h' k (S.kp ok k v i) f l
  obtain ⟨m0, cm0, F0, R0⟩ := S1.fr
  obtain ⟨m, hns⟩ := ns
  have ne : ∀ {a b : Addr}, (∃ o, h.get? a = some o) → F b → a ≠ b := fun ⟨o, e⟩ q z => by rw [z, f _ q] at e; cases e
  have fh0 : ∀ a, F a → c.h0.get? a = none := fun a q => by
    cases e : c.h0.get? a with
    | none => rfl
    | some o => exact absurd rfl (ne ⟨o, S.base a o e⟩ q)
  obtain ⟨mS, cmS, FS, _⟩ := S.fr
  have oldcell : ∀ x a, c.env.cells.lookup x = some a → ∃ o, h.get? a = some o := fun x a e => by obtain ⟨o, e1, _⟩ := FS.cell x a e; exact ⟨o, e1⟩
  have w3 : ∀ a, (∃ o, h.get? a = some o) → ¬ W a → ¬ W' a := fun a e n q => (w1 a q).elim n fun z => ne e z rfl
  refine ⟨S1.base, S1.amb, S1.bn, S1.vn, S1.vx, S1.inv, fun a q => ?_, ⟨m, fun x => open Classical in if (x, NameKind.cell) ∈ scope.names then (if hx : ∃ v a, (cellsFrom (C + 1) scope.names (clos c.env scope.names)).lookup x = some a ∧ h'.IsCell a v then Classical.choose hx else none) else cm0 x,
    ⟨hns, .inr hC, w2, fh0 C hC, fun x a e => ?_, fun x a e => ?_, inj⟩, fun x a e => ?_⟩, fun q hq => ?_, S1.nd⟩
  · rcases w1 a q with z | z
    · exact ⟨.inl (S.wx a z).1, (S.wx a z).2⟩
    · exact ⟨.inr z, fh0 a z⟩
  · rcases own x a e with ⟨h1, h2, h3, h4, v, h5⟩ | ⟨h1, h2⟩
    · rw [if_pos h1]
      have hx : ∃ v a, (cellsFrom (C + 1) scope.names (clos c.env scope.names)).lookup x = some a ∧ h'.IsCell a v := ⟨v, a, e, h5⟩
      rw [dif_pos hx]
      obtain ⟨a', ha', hc'⟩ := Classical.choose_spec hx
      have := Option.some.inj (e.symm.trans ha'); subst this
      exact hc'
    · rw [if_neg h1]
      exact F0.cell x a (clos_mem h2)
  · rcases own x a e with ⟨h1, h2, h3, h4, v, h5⟩ | ⟨h1, h2⟩
    · exact ⟨.inr h2, h3, fh0 a h2, h4⟩
    · have h2 := clos_mem h2
      obtain ⟨g1, g2, g3, g4⟩ := FS.cX x a h2
      exact ⟨.inl g1, w3 a (oldcell x a h2) g2, g3, fun z => ne (oldcell x a h2) hC z⟩
  · obtain ⟨h1, h2⟩ := lookup_filter (f := fun x => scope.names.lookup x == some .free) e
    have h1 : scope.names.lookup x = some .free := beq_iff_eq.mp h1
    have hm := mem_of_lookup h1
    obtain ⟨v, h3, h4⟩ := R0 x a h2
    obtain ⟨hkind, hsome⟩ := hcl x hm
    refine ⟨v, ?_, h4⟩
    have e1 : cm0 x = some v := by
      unfold look at h3
      rcases hkind with hkind | hkind <;> rw [hkind] at h3 <;> simpa [hsome] using h3
    have e2 := hcc x hm
    have e3 := hfc x hm
    rcases lookup_relabel_free (env := c.env) h1 with q | q
    · have q' : (cenv scope c.env C).kindOf x = some .free := q
      simp only [look, q']
      exact (if_pos e2).trans ((if_neg e3).trans e1)
    · have q' : (cenv scope c.env C).kindOf x = some .cell := q
      simp only [look, q']
      exact (if_pos e2).trans ((if_neg e3).trans e1)
  · obtain ⟨h1, h2, h3, h4, h5, vs, h6, h8, h7⟩ := S1.own q hq
    have hold : ∃ o, h.get? q.1 = some o := by obtain ⟨_, _, _, _, _, us, ⟨o, e, _⟩, _⟩ := S.own q hq; exact ⟨o, e⟩
    refine ⟨h1, fun z => ?_, h3, ne hold hC, fun x k e z => ?_, vs, h6, h8, h7⟩
    · rcases w1 _ z with z | z
      · exact h2 (.inl z)
      · exact h2 (.inr z)
    · rcases own x k e with ⟨g1, g2, g3, g4, v, g5⟩ | ⟨g1, g2⟩
      · exact ne hold g2 z.symm
      · exact h5 x k (clos_mem g2) z

/-- the names of a block are in order. -/
def ScopeOk (names : List (Str × NameKind)) : Bool :=
  (names.all fun q => q.2 != .local || names.lookup q.1 == some .local) && names.all fun q => q.2 != .free || !(names.contains (q.1, NameKind.cell))

/-- a target of names alone, and what its store writes. -/
structure AsgB (c : Ctx) (ρ : Loc) (O : Own) (t : Expr) (a : AV) (ns : List Str) (ρ' : Loc) : Prop where
  run : ∀ X W s v, Sta c X W ρ O s.heap → ARep (Av c X) s.heap v a → Wp c.w c.A (assign t c.env v) (fun _ s' => Res s s' ∧ Sta c X W ρ' O s'.heap ∧ ∀ b o, b ≠ c.env.locals → (∀ x ∈ ns, c.env.cells.lookup x ≠ some b) → s.heap.get? b = some o → s'.heap.get? b = some o) s
include ok in
theorem asgb_name {x : Str} {pos : Pos} {a : AV} (hx : MayStore c.env x = true) : AsgB c ρ O (.Name x pos) a [x] ((x, a) :: ρ) := .mk fun X W s v S hv =>
  wpAny_assign_Name ((store_name ok S hx hv).mono fun _ s' ⟨r, S', _, l⟩ => ⟨r, S', fun b o n1 n2 e => l b o n1 (n2 x List.mem_cons_self) e⟩)
inductive NameTs : List Expr → List Str → Prop
  | nil : NameTs [] []
  | cons {x : Str} {p : Pos} {ts : List Expr} {ns : List Str} : NameTs ts ns → NameTs (.Name x p :: ts) (x :: ns)
def bindAll : List Str → List D → Loc → Loc
  | n :: ns, d :: ds, ρ => bindAll ns ds ((n, .d d) :: ρ)
  | _, _, ρ => ρ
include ok in
theorem asgb_list {ts : List Expr} {ns : List Str} (ht : NameTs ts ns) : ∀ {ds : List D} {ρ : Loc} (hx : ns.all (MayStore c.env) = true) (hl : ns.length = ds.length) {X W : Addr → Prop} {s : Shared} {vs : List Value} (S : Sta c X W ρ O s.heap) (hv : Reps (Av c X) s.heap vs ds),
    Wp c.w c.A (assignInOrder (ts.map fun t => assign t c.env) vs) (fun _ s' => Res s s' ∧ Sta c X W (bindAll ns ds ρ) O s'.heap ∧ ∀ b o, b ≠ c.env.locals → (∀ x ∈ ns, c.env.cells.lookup x ≠ some b) → s.heap.get? b = some o → s'.heap.get? b = some o) s := by
  induction ht with
  | nil =>
    intro ds ρ hx hl X W s vs S hv
    cases ds with
    | nil => cases hv; exact assignInOrder_nil ⟨.refl, S, fun _ _ _ _ e => e⟩
    | cons _ _ => cases hl
  | cons _ ih =>
    intro ds ρ hx hl X W s vs S hv
    rw [List.all_cons, Bool.and_eq_true] at hx
    cases hv with
    | nil => cases hl
    | cons x r =>
      rename_i y p ts ns _ _ _ d ds
      refine assignInOrder_cons (wpAny_assign_Name ((store_name ok S hx.1 (a := .d d) x).mono fun _ s₁ ⟨r1, S1, l1, k1⟩ => ?_))
      refine (ih hx.2 (by simpa using hl) S1 (r.mono (fun _ _ q => q) fun a o n e => l1.off (fun q => n (.inl q)) (fun q => n (.inr q)) e)).mono fun _ s₂ ⟨r2, S2, k2⟩ => ?_
      exact ⟨r1.trans r2, S2, fun b o n1 n2 e => k2 b o n1 (fun x hx => n2 x (List.mem_cons_of_mem _ hx)) (k1 b o n1 (n2 _ List.mem_cons_self) e)⟩
include ok in
theorem asgb_tup {ts : List Expr} {k : Nat} {pos : Pos} {ds : List D} {ns : List Str} (ht : NameTs ts ns) (hx : ns.all (MayStore c.env) = true) (hl : ns.length = ds.length)
    (he : assignEach ts c.env = ts.map fun t => (false, assign t c.env)) : AsgB c ρ O (.Tuple ts k pos) (.d (.tup ds)) ns (bindAll ns ds ρ) := .mk fun X W s v S hv => by
  have htl : ts.length = ns.length := by
    clear hx hl he
    induction ht with
    | nil => rfl
    | cons _ ih => simp [ih]
  cases hv with
  | tup n x r =>
    refine assign_Tuple_tuple ok.hd x (by rw [he]; simp [htl, hl, r.length]) (by rw [he]; simp [List.findIdx?_eq_none_iff]) fun h' e => ?_
    have e' : Ext s.heap h' := fun b o q => e b o (Nat.ne_of_lt (Heap.lt_size q)) q
    rw [he]
    have hm : ((ts.map fun t => (false, assign t c.env)).map (·.2)) = ts.map fun t => assign t c.env := by simp
    rw [hm]
    refine Wp.mono (asgb_list ok ht (s := { s with heap := h' }) hx hl (S.ext ok e') (r.mono (Z' := Av c X) (fun _ _ q => q) fun a o _ q => e' a o q)) fun _ s₁ ⟨r1, S', k1⟩ => ⟨Res.trans .mk r1, S', fun b o n1 n2 q => k1 b o n1 n2 (e' b o q)⟩

/-- an element of a display: data, and a new list if `fr`. -/
structure EvX (c : Ctx) (ρ : Loc) (O : Own) (e : Expr) (fr : Bool) (Q : D → Prop) : Prop where
  run : ∀ X W s, Sta c X W ρ O s.heap → Wp c.w c.A (eval e c.env) (fun v s' => Aft c X W ρ O s s' ∧ ∃ d, Rep (Av c X) s'.heap v d ∧ (fr = true → ∃ l, v = .ref l ∧ s.heap.get? l = none) ∧ Q d) s
theorem evx_ev {e : Expr} {Q : D → Prop} (h : Ev c ρ O e fun a => ∃ d, a = .d d ∧ Q d) : EvX c ρ O e false Q :=
  ⟨fun X W s S => (h.run X W s S).mono fun v s₁ ⟨A1, a, ha, d, e, hq⟩ => ⟨A1, d, by rw [e] at ha; exact ha, (fun z => nomatch z), hq⟩⟩
theorem evx_evf {e : Expr} {Q : D → Prop} (h : EvF c ρ O e fun as => ∃ ds : List D, as = ds.map .d ∧ Q (.lst ds)) : EvX c ρ O e true Q := .mk fun X W s S => by
  refine (h.run X W s S).mono fun v s₁ ⟨A1, l, vs, as, e, hl, hp, hr, ds, e2, hq⟩ => ?_
  subst e; subst e2
  refine ⟨A1, _, Rep.lst (vs := vs) (fun q => ?_) hp.isList (Reps.mono (fun _ _ q => .inl q) (fun _ _ _ e => e) hr.toReps), fun _ => ⟨l, rfl, hl⟩, hq⟩
  rcases q with q | q
  · obtain ⟨o, e⟩ := S.bnd _ q; rw [hl] at e; cases e
  · obtain ⟨o, e⟩ := S.vb _ q; rw [hl] at e; cases e

/-- new lists, each its own. -/
def NewRefs (h : Heap) (fr : Bool) (vs : List Value) : Prop := fr = true → vs.Nodup ∧ ∀ v ∈ vs, ∃ a, v = .ref a ∧ h.get? a = none

include ok in
theorem comp_core {tgt iter elt : Expr} {ifs : List Expr} {scope : Scope} {pos pos2 : Pos} {use : Option (Value → Sem Unit)} {P : List D → Prop} {Q : Value → Shared → Prop} (fr : Bool) (ns : List Str) (hcl : ClosOk c.env scope.names) (hk : scope.kind = .function) (hsc : ScopeOk scope.names = true)
    (hns : (ns.all fun x => !(scope.names.contains (x, NameKind.free))) = true)
    (h : EvIt c ρ O tgt iter fun items => ∃ J : Nat → List D → Prop, J 0 [] ∧ (∀ C i d ys, (c.blk scope C).Ok → items[i]? = some d → J i ys → ∃ ρ', AsgB (c.blk scope C) (seen scope ρ) O tgt (.d d) ns ρ' ∧ Tests (c.blk scope C) ρ' O ifs fun b =>
      if b then EvX (c.blk scope C) ρ' O elt fr fun y => J (i + 1) (ys ++ [y]) else J (i + 1) ys) ∧ (∀ i ys, J i ys → ys.length ≤ sizeLine) ∧ ∀ ys, J items.length ys → P ys)
    (hs : ∀ x, foldedSetIterable iter c.env x = pure x) {X W : Addr → Prop} {s : Shared} (S : Sta c X W ρ O s.heap)
    (hend : ∀ s' T C vs ds, Aft c X W ρ O s s' → s.heap.get? T = none → s.heap.get? C = none → T ≠ C → (∃ m, s'.heap.Ns C m) → PlainL s'.heap T vs.toArray → Reps (fun a => Av c X a ∨ a = T ∨ a = C) s'.heap vs ds → NewRefs s.heap fr vs → P ds → compPost (model PG c.w) c.A NoE use Q (.ref T) C (.ok .next) s') :
    Wp c.w c.A (comprehension (.ListComp elt [⟨tgt, iter, ifs, 0⟩] scope pos) scope c.env pos2 (newList []) false (eval iter c.env) use) Q s := by
  rw [ScopeOk, Bool.and_eq_true, List.all_eq_true, List.all_eq_true] at hsc
  have hnames : ∀ x ∈ scope.names, x.2 = .local → scope.names.lookup x.1 = some .local := fun x hx hl => by
    have := hsc.1 x hx
    rw [hl] at this
    simpa using this
  have hfc : ∀ x, (x, NameKind.free) ∈ scope.names → (x, NameKind.cell) ∉ scope.names := fun x hx hc => by
    have := hsc.2 _ hx
    simp [hc] at this
  refine wpAny_comprehension_free (use := use) rfl hs (closureFor_clos hcl) hk hnames ?_
  show Wp c.w c.A (eval iter c.env) _ s
  refine (h.run X W s S).mono fun x s₁ h₁ => Wp.mono h₁ fun it s₂ ⟨A2, items, wr, St, Wk, hst, hfr, J, j0, turn, hsz, fin⟩ => ?_
  refine wpAny_newObj_type (newBlockEnv ?_)
  obtain ⟨mS, cmS, FS, RS⟩ := S.fr
  have f2 : ∀ a, s₂.heap.get? a = none → s.heap.get? a = none := fun a e => A2.fresh e
  generalize hH2 : s₂.heap.push { cls := .type "list", data := .seq ([] : List Value).toArray } = H2
  have sz2 : H2.objs.size = s₂.heap.objs.size + 1 := by rw [← hH2, Heap.size_push]
  have e23 : Ext s₂.heap H2 := hH2 ▸ .push
  generalize hH3 : H2.push { cls := .type "dict", data := .dict #[] } = H3
  have sz3 : H3.objs.size = H2.objs.size + 1 := by rw [← hH3, Heap.size_push]
  have e3 : Ext H2 H3 := hH3 ▸ .push
  have e4 : Ext H3 (pushCells H3 scope.names) := pushCells_keeps scope.names H3
  generalize hD : s₂.heap.objs.size = T at *
  generalize hC : H2.objs.size = C at *
  have hlow : ∀ a o, s₂.heap.get? a = some o → @LT.lt Nat _ a T := fun a o e => hD ▸ Heap.lt_size e
  have hclos : ∀ x k, (clos c.env scope.names).lookup x = some k → ∃ o, s₂.heap.get? k = some o := fun x k e => by
    have e := clos_mem e
    obtain ⟨o, e1, _⟩ := FS.cell x k e
    exact ⟨o, A2.kp k o (fun z => S.vx k z (FS.cX x k e).1) e1⟩
  have key := cells_own scope.names H3 (clos c.env scope.names) (fun x k e => by
      obtain ⟨o, e⟩ := hclos x k e
      have : @LT.lt Nat _ k T := hlow k o e
      show @LT.lt Nat _ k H3.objs.size
      omega) (fun x y k e1 e2 => FS.apart x y k (clos_mem e1) (clos_mem e2))
  rw [sz3] at key
  have nsC : ∃ m, (pushCells H3 scope.names).Ns C m := by
    obtain ⟨m, hm⟩ : ∃ m, H3.Ns C m := by rw [← hH3, ← hC]; exact ⟨_, Heap.Ns.new H2 _⟩
    exact ⟨m, hm.keeps e4⟩
  have accD : PlainL (pushCells H3 scope.names) T ([] : List Value).toArray := by
    refine PlainL.keeps (h := H2) ?_ fun b o e => e4 _ _ (e3 _ _ e)
    rw [← hH2, ← hD]
    exact ⟨_, 0, Heap.get?_push_size _ rfl, rfl, rfl, rfl⟩
  let own : Addr → Prop := fun a => ∃ x, (x, NameKind.cell) ∈ scope.names ∧ (cellsFrom (C + 1) scope.names (clos c.env scope.names)).lookup x = some a
  have ownlt : ∀ a, own a → @LT.lt Nat _ C a := fun a ⟨x, hx, e⟩ => by
    rcases key.1 x a e with ⟨_, h2, _⟩ | ⟨h1, _⟩
    · have h2 : @LE.le Nat _ (C + 1) a := h2
      omega
    · exact absurd hx h1
  let F : Addr → Prop := fun a => a = T ∨ a = C ∨ own a ∨ wr a
  have fF : ∀ a, F a → s.heap.get? a = none := fun a q => by
    have big : ∀ a, @LE.le Nat _ T a → s.heap.get? a = none := fun a q => f2 a (Heap.get?_none_of_le (hD ▸ q))
    rcases q with rfl | rfl | q | q
    · exact big _ (Nat.le_refl _)
    · exact big _ (by first | lia | omega)
    · exact big _ (by have := ownlt a q; omega)
    · exact hfr a q
  let W' : Addr → Prop := fun a => W a ∨ a = T ∨ wr a
  have hWS : ∀ a, W a → ∃ o, s.heap.get? a = some o := fun a q => S.bnd a (S.wx a q).1
  have wrlt : ∀ a, wr a → @LT.lt Nat _ a T := fun a q => by obtain ⟨o, e, _⟩ := Wk.live 0 _ hst a q; exact hlow a o e
  have nW' : ∀ a, @LT.lt Nat _ T a → ¬ W' a := fun a q z => by
    rcases z with z | z | z
    · obtain ⟨o, e⟩ := hWS a z
      have := fF a
      have h2 : s.heap.get? a = none := f2 a (Heap.get?_none_of_le (by first | lia | omega))
      rw [e] at h2; cases h2
    · exact absurd z (Nat.ne_of_gt q)
    · exact absurd (wrlt a z) (Nat.lt_asymm q)
  have hcc : ∀ x, (x, NameKind.free) ∈ scope.names → ((cellsFrom (C + 1) scope.names (clos c.env scope.names)).lookup x).isSome = true := fun x hx => by
    have hc := (hcl x hx).2
    rw [← clos_free hcl hx] at hc
    have mono : ∀ (names : List (Str × NameKind)) (n : Nat) (acc : List (Str × Addr)), (acc.lookup x).isSome = true → ((cellsFrom n names acc).lookup x).isSome = true := by
      intro names
      induction names with
      | nil => intro n acc h; exact h
      | cons q r ih =>
        intro n acc h
        obtain ⟨y, kd⟩ := q
        unfold cellsFrom
        split
        · refine ih _ _ ?_
          rw [List.lookup_cons]
          cases x == y
          · exact h
          · rfl
        · exact ih _ _ h
    exact mono _ _ _ hc
  have okb := blkOk (scope := scope) (C := C) ok hk
  have k24 : Ext s₂.heap (pushCells H3 scope.names) := (e23.trans e3).trans e4
  have hTC : @LT.lt Nat _ T C := by rw [sz2]; exact Nat.lt_succ_self _
  have okb := blkOk (scope := scope) (C := C) ok hk
  have mk : ∀ h', Kp c.V s.heap h' → (∀ a, c.V a → ∃ o, h'.get? a = some o ∧ NotCode o) → c.Iv h' → (∀ a, F a → ∃ o, h'.get? a = some o ∧ NotCode o) → (∃ m, h'.Ns C m) → (∀ a, own a → ∃ v, h'.IsCell a v) →
      Sta (c.blk scope C) (fun a => X a ∨ F a) W' (seen scope ρ) O h' := fun h' k v i l ns ow => by
    refine blk_sta ok S hcl hk k v i fF l (.inr (.inl rfl)) (fun a q => ?_) (nW' C hTC) ns (fun x a e => ?_) key.2 hfc hcc
    · rcases q with q | q | q
      · exact .inl q
      · exact .inr (.inl q)
      · exact .inr (.inr (.inr (.inr q)))
    · rcases key.1 x a e with ⟨h1, h2, _⟩ | ⟨h1, h2⟩
      · have h3 : own a := ⟨x, h1, e⟩
        have h4 := ownlt a h3
        exact .inl ⟨h1, .inr (.inr (.inl h3)), nW' a (Nat.lt_trans hTC h4), Nat.ne_of_gt h4, ow a h3⟩
      · exact .inr ⟨h1, h2⟩
  have back : ∀ X' ρ' O' h', Sta (c.blk scope C) X' W' ρ' O' h' → ∀ a, own a → ∃ v, h'.IsCell a v := fun X' ρ' O' h' Sb a ⟨x, _, e⟩ => by
    obtain ⟨m, cm, Fr, _⟩ := Sb.fr
    exact ⟨_, Fr.cell x a e⟩
  have backC : ∀ X' ρ' O' h', Sta (c.blk scope C) X' W' ρ' O' h' → ∃ m, h'.Ns C m := fun X' ρ' O' h' Sb => by
    obtain ⟨m, cm, Fr, _⟩ := Sb.fr
    exact ⟨m, Fr.ns⟩
  have fzF : ∀ a, Fz c X wr s₂.heap a → ¬ F a := fun a f q => by
    obtain ⟨o, e⟩ := f.1
    have hl := hlow a o e
    rcases q with q | q | q | q
    · exact absurd q (Nat.ne_of_lt hl)
    · exact absurd q (Nat.ne_of_lt (Nat.lt_trans hl hTC))
    · exact absurd (ownlt a q) (Nat.lt_asymm (Nat.lt_trans hl hTC))
    · exact f.2.2.2 q
  have fresh_nF : ∀ a o, s.heap.get? a = some o → ¬ F a := fun a o e q => by rw [fF a q] at e; cases e
  have nsfree : ∀ x ∈ ns, ∀ a, (cellsFrom (C + 1) scope.names (clos c.env scope.names)).lookup x = some a → own a := fun x hx a e => by
    rcases key.1 x a e with ⟨h1, _, _⟩ | ⟨h1, h2⟩
    · exact ⟨x, h1, e⟩
    · exfalso
      have h3 := List.all_eq_true.mp hns x hx
      have h4 := mem_of_lookup h2
      unfold clos at h4
      rw [List.mem_reverse, List.mem_filterMap] at h4
      obtain ⟨⟨y, kd⟩, hy, e4⟩ := h4
      split at e4
      · rename_i hkd
        rw [Option.map_eq_some_iff] at e4
        obtain ⟨a', _, h6⟩ := e4
        cases h6
        have hkd' : kd = .free := beq_iff_eq.mp hkd
        subst hkd'
        simp [hy] at h3
      · cases e4
  have loop : ∀ s₃ : Shared, s₃ = { s₂ with heap := pushCells H3 scope.names } → codeAny (model PG c.w) c.A (.compLoop (.ListComp elt [⟨tgt, iter, ifs, 0⟩] scope pos) 0 it (.ref T) (cenv scope c.env C))
      (compPost (model PG c.w) c.A NoE use Q (.ref T) C) s₃ := by
    rintro s₃ rfl
    refine comp_loop (fun n s' => ∃ i vs ds, n = items.length - i + 1 ∧ i ≤ items.length ∧ Res s s' ∧ Kp c.V s.heap s'.heap ∧ (∀ a, c.V a → ∃ o, s'.heap.get? a = some o ∧ NotCode o) ∧ c.Iv s'.heap ∧ St i s'.heap ∧ (∀ a, F a → ∃ o, s'.heap.get? a = some o ∧ NotCode o) ∧
      (∃ m, s'.heap.Ns C m) ∧ (∀ a, own a → ∃ v, s'.heap.IsCell a v) ∧ PlainL s'.heap T vs.toArray ∧ Reps (Av c fun a => X a ∨ F a) s'.heap vs ds ∧ J i ds ∧ NewRefs s.heap fr vs ∧ ∀ a o, Fz c X wr s₂.heap a → s₂.heap.get? a = some o → s'.heap.get? a = some o) ?_ (items.length + 1)
      ⟨0, [], [], rfl, Nat.zero_le _, A2.res.trans .mk, A2.kp.trans k24.kp, fun a q => by obtain ⟨o, e, n⟩ := A2.sta.vn a q; exact ⟨o, k24 a o e, n⟩, ok.ivm _ _ (fun a o _ e => k24 a o e) (fun a o _ e => k24 a o e) A2.sta.inv, Wk.frame 0 _ _ hst fun a o _ e => k24 a o e, ?_, nsC, ?_, accD, .nil, j0, fun _ => ⟨List.nodup_nil, fun v q => nomatch q⟩, fun a o _ e => k24 a o e⟩
    · rintro n s' ⟨i, vs, ds, rfl, hi, res, kp, vb, iv, st, fx, nC, ow, pl, rp, jj, nr, fz⟩
      have S' := mk _ kp vb iv fx nC ow
      by_cases hlt : i < items.length
      · have hd : items[i]? = some items[i] := List.getElem?_eq_getElem hlt
        refine (Wk.step i _ s' hd st).mono fun r s₃ ⟨v, e, hgo⟩ => ?_
        subst e
        refine hgo.mono fun _ s₄ ⟨r4, st4, k4, rep4⟩ => ?_
        have k4' : ∀ a o, ¬ W' a → s'.heap.get? a = some o → s₄.heap.get? a = some o := fun a o n e => k4 a o (fun q => n (.inr (.inr q))) e
        have nwT : ¬ wr T := fun q => Nat.lt_irrefl _ (wrlt T q)
        have S4 : Sta (c.blk scope C) (fun a => X a ∨ F a) W' (seen scope ρ) O s₄.heap := S'.wrk okb k4' fun a q => by
          by_cases hw : wr a
          · exact Wk.live _ _ st4 a hw
          · obtain ⟨o, e, n⟩ := S'.bn a (S'.wx a q).1
            exact ⟨o, k4 a o hw e, n⟩
        have fz4 : ∀ a o, Fz c X wr s₂.heap a → s₂.heap.get? a = some o → s₄.heap.get? a = some o := fun a o f e => k4 a o f.2.2.2 (fz a o f e)
        have rv : ARep (Av c fun a => X a ∨ F a) s₄.heap v (.d items[i]) := by
          refine rep4 _ (fun a f q => ?_) (fun a q => ?_) fz4
          · rcases q with (q | q) | q
            · exact f.2.1 q
            · exact fzF a f q
            · exact f.2.2.1 q
          · rcases q with q | q
            · exact S'.bnd a q
            · exact S'.vb a q
        have kp4 : Kp c.V s.heap s₄.heap := fun a o n e => k4 a o (fun q => fresh_nF a o e (.inr (.inr (.inr q)))) (kp a o n e)
        have pl4 : PlainL s₄.heap T vs.toArray := by obtain ⟨o, n, e, r⟩ := pl; exact ⟨o, n, k4 _ _ nwT e, r⟩
        have rp4 : Reps (Av c fun a => X a ∨ F a) s₄.heap vs ds := rp.mono (fun _ _ q => q) fun a o n e => k4 a o (fun q => n (.inl (.inr (.inr (.inr (.inr q)))))) e
        obtain ⟨ρ', ag, ts⟩ := turn C i _ ds okb hd jj
        refine (ag.run _ W' s₄ v S4 rv).mono fun _ s₅ ⟨r5, S5, k5⟩ => ?_
        have k5' : ∀ a o, (a ≠ C ∧ ¬ own a) → s₄.heap.get? a = some o → s₅.heap.get? a = some o := fun a o n e => k5 a o n.1 (fun x hx q => n.2 (nsfree x hx a q)) e
        have nTC : T ≠ C ∧ ¬ own T := ⟨Nat.ne_of_lt hTC, fun q => Nat.lt_asymm hTC (ownlt T q)⟩
        have kp5 : Kp c.V s.heap s₅.heap := fun a o n e => k5' a o ⟨fun q => fresh_nF a o e (.inr (.inl q)), fun q => fresh_nF a o e (.inr (.inr (.inl q)))⟩ (kp4 a o n e)
        have pl5 : PlainL s₅.heap T vs.toArray := by obtain ⟨o, n, e, r⟩ := pl4; exact ⟨o, n, k5' _ _ nTC e, r⟩
        have rp5 : Reps (Av c fun a => X a ∨ F a) s₅.heap vs ds := rp4.mono (fun _ _ q => q) fun a o n e => k5' a o ⟨fun q => n (.inl (.inr (.inr (.inl q)))), fun q => n (.inl (.inr (.inr (.inr (.inl q)))))⟩ e
        have fz5 : ∀ a o, Fz c X wr s₂.heap a → s₂.heap.get? a = some o → s₅.heap.get? a = some o := fun a o f e => k5' a o ⟨fun q => fzF a f (.inr (.inl q)), fun q => fzF a f (.inr (.inr (.inl q)))⟩ (fz4 a o f e)
        have st5 : St (i + 1) s₅.heap := Wk.frame _ _ _ st4 fun a o q e => by
          refine k5' a o ⟨fun z => ?_, fun z => ?_⟩ e
          · rcases q with q | q
            · exact absurd z (Nat.ne_of_lt (Nat.lt_trans (wrlt a q) hTC))
            · exact fzF a q (.inr (.inl z))
          · rcases q with q | q
            · exact Nat.lt_asymm (Nat.lt_trans (wrlt a q) hTC) (ownlt a z)
            · exact fzF a q (.inr (.inr (.inl z)))
        have keep : ∀ {s₆ : Shared}, Aft (c.blk scope C) (fun a => X a ∨ F a) W' ρ' O s₅ s₆ → St (i + 1) s₆.heap ∧ Kp c.V s.heap s₆.heap ∧ PlainL s₆.heap T vs.toArray ∧ Reps (Av c fun a => X a ∨ F a) s₆.heap vs ds ∧ ∀ a o, Fz c X wr s₂.heap a → s₂.heap.get? a = some o → s₆.heap.get? a = some o := fun {s₆} A6 => by
          have k6 : Kp c.V s₅.heap s₆.heap := A6.kp
          have xv : ∀ a, F a → ¬ c.V a := fun a q v => S4.vx a v (.inr q)
          refine ⟨Wk.frame _ _ _ st5 fun a o q e => k6 a o (fun v => ?_) e, kp5.trans k6, ?_, rp5.mono (fun _ _ q => q) fun a o n e => k6 a o (fun q => n (.inr q)) e, fun a o f e => k6 a o f.2.2.1 (fz5 a o f e)⟩
          · rcases q with q | q
            · exact xv a (.inr (.inr (.inr q))) v
            · exact q.2.2.1 v
          · obtain ⟨o, n, e, r⟩ := pl5
            exact ⟨o, n, k6 _ _ (xv T (.inl rfl)) e, r⟩
        refine (ts.run _ W' s₅ S5).mono fun b s₆ ⟨A6, h6⟩ => ?_
        have r6 := ((res.trans r4).trans r5).trans A6.res
        cases b with
        | false =>
          obtain ⟨g1, g2, g3, g4, g5⟩ := keep A6
          exact ⟨items.length - (i + 1) + 1, zdn hlt, i + 1, vs, ds, rfl, hlt, r6, g2, A6.sta.vn, A6.sta.inv, g1, fun a q => A6.sta.bn a (.inr q), backC _ _ _ _ A6.sta, back _ _ _ _ A6.sta, g3, g4, h6, nr, g5⟩
        | true =>
          refine (h6.run _ W' s₆ A6.sta).mono fun y s₇ ⟨A7, d7, ra, fr7, jn⟩ => ?_
          obtain ⟨g1, g2, g3, g4, g5⟩ := keep (A6.trans A7)
          refine list_append_plainL g3 (fun h' p' hs' => ?_) (by have := hsz _ _ jj; rw [← g4.length] at this; simpa using this)
          have kk : ∀ a o, a ≠ T → s₇.heap.get? a = some o → h'.get? a = some o := fun a o n e => (hs'.2 a n).trans e
          have notT : ∀ a o, s.heap.get? a = some o → a ≠ T := fun a o e z => fresh_nF a o e (.inl z)
          have kx : ∀ a o, ¬ Av c (fun a => X a ∨ F a) a → s₇.heap.get? a = some o → h'.get? a = some o := fun a o n e => kk a o (fun z => n (.inl (.inr (.inl z)))) e
          refine ⟨items.length - (i + 1) + 1, zdn hlt, i + 1, vs ++ [y], ds ++ [d7], rfl, hlt, (r6.trans A7.res).trans .mk, fun a o n e => kk a o (notT a o e) (g2 a o n e), fun a q => ?_, ok.ivm _ _ (fun a o v e => kk a o (fun z => A7.sta.vx a v (.inr (.inl z))) e) (fun a o n e => kk a o (fun z => A7.sta.ncX n e (.inr (.inl z))) e) A7.sta.inv, ?_, fun a q => ?_, ?_, fun a q => ?_, by simpa using p', (g4.mono (fun _ _ q => q) kx).append (.cons (Rep.mono (fun _ _ q => q) kx ra) .nil), jn, ?_, fun a o f e => kk a o (fun z => fzF a f (.inl z)) (g5 a o f e)⟩
          · obtain ⟨o, e, n⟩ := A7.sta.vn a q
            exact ⟨o, kk a o (fun z => A7.sta.vx a q (.inr (.inl z))) e, n⟩
          · refine Wk.frame _ _ _ g1 fun a o q e => kk a o (fun z => ?_) e
            rcases q with q | q
            · exact nwT (z ▸ q)
            · exact fzF a q (.inl z)
          · by_cases hT : a = T
            · subst hT; obtain ⟨o, _, e, _, _, d⟩ := p'; exact ⟨o, e, fun _ _ _ z => by rw [d] at z; cases z⟩
            · obtain ⟨o, e, n⟩ := A7.sta.bn a (.inr q); exact ⟨o, kk a o hT e, n⟩
          · obtain ⟨m, hm⟩ := backC _ _ _ _ A7.sta
            exact ⟨m, hm.sameBut hs' nTC.1.symm⟩
          · obtain ⟨v, hv⟩ := back _ _ _ _ A7.sta a q
            exact ⟨v, hv.sameBut hs' fun z => nTC.2 (z ▸ q)⟩
          · intro hfr
            obtain ⟨n1, n2⟩ := nr hfr
            obtain ⟨l, rfl, hl⟩ := fr7 hfr
            have hls : s.heap.get? l = none := by
              cases e : s.heap.get? l with
              | none => rfl
              | some o =>
                exfalso
                obtain ⟨_, kp6, _⟩ := keep A6
                by_cases hv : c.V l
                · obtain ⟨o', e'⟩ := A6.sta.vb l hv; rw [hl] at e'; cases e'
                · have := kp6 l o hv e; rw [hl] at this; cases this
            refine ⟨?_, fun v hv => ?_⟩
            · rw [List.nodup_append]
              refine ⟨n1, by simp, fun a ha b hb z => ?_⟩
              rw [List.mem_singleton] at hb
              subst hb; subst z
              obtain ⟨_, _, _, g4', _⟩ := keep A6
              have : ∃ o, s₆.heap.get? l = some o := by
                have key : ∀ {us : List Value} {es : List D}, Reps (Av c fun a => X a ∨ F a) s₆.heap us es → Value.ref l ∈ us → ∃ o, s₆.heap.get? l = some o := by
                  intro us
                  induction us with
                  | nil => intro es _ h; cases h
                  | cons u us ih =>
                    intro es r h
                    cases r with
                    | cons x r =>
                      rcases List.mem_cons.mp h with h | h
                      · subst h
                        cases x with
                        | tup _ x _ => obtain ⟨o, e, _⟩ := x; exact ⟨o, e⟩
                        | lst _ x _ => obtain ⟨o, e, _⟩ := x; exact ⟨o, e⟩
                        | fn x => obtain ⟨o, _, _, _, _, _, _, e, _⟩ := x; exact ⟨o, e⟩
                      · exact ih r h
                exact key g4' ha
              obtain ⟨o, e⟩ := this
              rw [hl] at e; cases e
            · rcases List.mem_append.mp hv with hv | hv
              · exact n2 v hv
              · rw [List.mem_singleton] at hv; exact ⟨l, hv, hls⟩
      · have hin : i = items.length := zeq hi hlt
        subst hin
        refine (Wk.done s' st).mono fun r s₃ ⟨e, r3, k3⟩ => ?_
        subst e
        have kp3 : Kp c.V s.heap s₃.heap := fun a o n e => k3 a o (fun q => fresh_nF a o e (.inr (.inr (.inr q)))) (kp a o n e)
        have vb3 : ∀ a, c.V a → ∃ o, s₃.heap.get? a = some o ∧ NotCode o := fun a q => by
          obtain ⟨o, e, n⟩ := vb a q
          exact ⟨o, k3 a o (fun z => S'.vx a q (.inr (.inr (.inr (.inr z))))) e, n⟩
        have iv3 : c.Iv s₃.heap := ok.ivm _ _ (fun a o v e => k3 a o (fun z => S'.vx a v (.inr (.inr (.inr (.inr z))))) e) (fun a o n e => k3 a o (fun z => S'.ncX n e (.inr (.inr (.inr (.inr z))))) e) iv
        refine hend s₃ T C vs ds ⟨S.kp ok kp3 vb3 iv3, kp3, res.trans r3⟩ (fF T (.inl rfl)) (fF C (.inr (.inl rfl))) (Nat.ne_of_lt hTC) ?_ ?_ ?_ nr (fin _ jj)
        · obtain ⟨m, o, es, ep, e, r⟩ := nC
          exact ⟨m, o, es, ep, k3 _ _ (fun q => Nat.lt_asymm (wrlt C q) hTC) e, r⟩
        · obtain ⟨o, n, e, r⟩ := pl
          exact ⟨o, n, k3 _ _ (fun q => Nat.lt_irrefl _ (wrlt T q)) e, r⟩
        · refine rp.mono (fun a _ q => ?_) fun a o n e => k3 a o (fun q => n (.inl (.inr (.inr (.inr (.inr q)))))) e
          rcases q with (q | q) | q | q
          · exact .inl (.inl q)
          · exact .inr q
          · exact .inl (.inr (.inl q))
          · exact .inl (.inr (.inr (.inl q)))
    · rintro a (q | q | q | q)
      · subst q; obtain ⟨o, _, e, _, _, d⟩ := accD; exact ⟨o, e, fun _ _ _ z => by rw [d] at z; cases z⟩
      · subst q; obtain ⟨m, o, _, _, e, d, _⟩ := nsC; exact ⟨o, e, fun _ _ _ z => by rw [d] at z; cases z⟩
      · obtain ⟨x, hx, e⟩ := q
        rcases key.1 x a e with ⟨_, _, o, e2, d⟩ | ⟨h1, _⟩
        · exact ⟨o, e2, fun _ _ _ z => by rw [d] at z; cases z⟩
        · exact absurd hx h1
      · obtain ⟨o, e, n⟩ := Wk.live 0 _ hst a q; exact ⟨o, k24 a o e, n⟩
    · rintro a ⟨x, hx, e⟩
      rcases key.1 x a e with ⟨_, _, h3⟩ | ⟨h1, _⟩
      · exact ⟨_, h3⟩
      · exact absurd hx h1
  have fin2 := loop _ rfl
  show codeAny (model PG c.w) c.A (.compStart (.ListComp elt [⟨tgt, iter, ifs, 0⟩] scope pos) 0 it (.ref T) (cenv scope c.env C)) _ { s₂ with heap := pushCells H3 scope.names }
  refine codeAny_compStart_list fin2 ?_
  exact lift (Wk.self 0 { s₂ with heap := pushCells H3 scope.names } _ (Wk.frame 0 _ _ hst fun a o _ e => k24 a o e) fin2)
end
end Mine

namespace Mine
open PySem PySem.W PyProof.Rows PySem.Calls PySem.Spec

section
variable {c : Ctx} (ok : c.Ok) {ρ : Loc} {O : Own}

include ok in
theorem evf_comp {tgt iter elt : Expr} {ifs : List Expr} {scope : Scope} {pos : Pos} {Q : List AV → Prop} (fr : Bool) (ns : List Str) (hcl : ClosOk c.env scope.names) (hk : scope.kind = .function) (hsc : ScopeOk scope.names = true)
    (hns : (ns.all fun x => !(scope.names.contains (x, NameKind.free))) = true)
    (h : EvIt c ρ O tgt iter fun items => ∃ J : Nat → List D → Prop, J 0 [] ∧ (∀ C i d ys, (c.blk scope C).Ok → items[i]? = some d → J i ys → ∃ ρ', AsgB (c.blk scope C) (seen scope ρ) O tgt (.d d) ns ρ' ∧ Tests (c.blk scope C) ρ' O ifs fun b =>
      if b then EvX (c.blk scope C) ρ' O elt fr fun y => J (i + 1) (ys ++ [y]) else J (i + 1) ys) ∧ (∀ i ys, J i ys → ys.length ≤ sizeLine) ∧ ∀ ys, J items.length ys → Q (ys.map .d))
    (hs : ∀ x, foldedSetIterable iter c.env x = pure x := by intro _; rfl) : EvF c ρ O (.ListComp elt [⟨tgt, iter, ifs, 0⟩] scope pos) Q := .mk fun X W s S => by
  rw [eval_ListComp]
  refine comp_core (use := none) (P := fun ys => Q (ys.map .d)) ok fr ns hcl hk hsc hns h hs S fun s' T C vs ds A fT fC hTC nC pl rp _ hq => ⟨_, nC.choose_spec, fun h' hs' => ?_⟩
  have k2 : ∀ a o, a ≠ C → s'.heap.get? a = some o → h'.get? a = some o := fun a o n e => (hs'.2 a n).trans e
  have hsome : ∀ a o, s.heap.get? a = some o → a ≠ C := fun a o e z => by rw [z, fC] at e; cases e
  have vC : ¬ c.V C := fun v => by obtain ⟨o, e⟩ := S.vb C v; rw [fC] at e; cases e
  have kp : Kp c.V s.heap h' := fun a o n e => k2 a o (hsome a o e) (A.kp a o n e)
  refine ⟨⟨S.kp ok kp (fun a v => ?_) (ok.ivm _ _ (fun a o v e => k2 a o (fun z => vC (z ▸ v)) e) (fun a o n e => k2 a o (fun z => by obtain ⟨m, oC, _, _, eC, dC, _⟩ := nC; rw [z, eC] at e; cases e; exact n fun _ _ _ z => by rw [dC] at z; cases z) e) A.sta.inv), kp, A.res.trans .mk⟩, T, vs, _, rfl, fT, ?_, ?_, hq⟩
  · obtain ⟨o, e, n⟩ := A.sta.vn a v
    exact ⟨o, k2 a o (fun z => vC (z ▸ v)) e, n⟩
  · obtain ⟨o, n, e, r⟩ := pl
    exact ⟨o, n, k2 _ _ hTC e, r⟩
  · refine AReps.ofReps (rp.mono (fun a _ q => ?_) fun a o n e => k2 a o (fun z => n (.inr (.inr z))) e)
    rcases q with q | q
    · exact .inl q
    · exact .inr (.inl q)

theorem Sta.lessW {X W W' : Addr → Prop} {h : Heap} (S : Sta c X W ρ O h) (k : ∀ a, W' a → W a) : Sta c X W' ρ O h where
  base := S.base
  amb := S.amb
  bn := S.bn
  vn := S.vn
  vx := S.vx
  inv := S.inv
  wx := fun a q => S.wx a (k a q)
  fr := by
    obtain ⟨m, cm, F, R⟩ := S.fr
    exact ⟨m, cm, ⟨F.ns, F.lX, fun q => F.lW (k _ q), F.lF, F.cell, fun x q e => ⟨(F.cX x q e).1, fun z => (F.cX x q e).2.1 (k _ z), (F.cX x q e).2.2⟩, F.apart⟩, R⟩
  own := fun q hq => by
    obtain ⟨x, w, h1, h2, h3, r⟩ := S.own q hq
    exact ⟨x, fun z => w (k _ z), h1, h2, h3, r⟩
  nd := S.nd

/-- the own lists may be let out of sight. -/
theorem Sta.lessO {X W : Addr → Prop} {h : Heap} {O' : Own} (S : Sta c X W ρ O h) (k : O'.Sublist O) : Sta c X W ρ O' h where
  base := S.base
  amb := S.amb
  bn := S.bn
  vn := S.vn
  vx := S.vx
  inv := S.inv
  wx := S.wx
  fr := S.fr
  own := fun q hq => S.own q (k.subset hq)
  nd := S.nd.sublist (k.map _)

include ok in
/-- a new list becomes the frame's own. -/
theorem Sta.owned {X W wr : Addr → Prop} {h h' : Heap} {T : Addr} {vs : List Value} {as : List AV} (S : Sta c X W ρ O h) (S' : Sta c X W ρ O h') (k : Kp c.V h h') (hT : wr T) (f : ∀ a, wr a → h.get? a = none) (l : ∀ a, wr a → ∃ o, h'.get? a = some o ∧ NotCode o) (pl : PlainL h' T vs.toArray) (r : AReps (fun a => Av c X a ∨ wr a) h' vs as) :
    Sta c (fun a => X a ∨ wr a) W ρ ((T, as) :: O) h' := by
  have S2 := (Sta.res (wr := wr) ok S h' k S' f l).lessW (W' := W) fun a q => .inl q
  have ne : ∀ a, (∃ o, h.get? a = some o) → a ≠ T := fun a ⟨o, e⟩ z => by rw [z, f T hT] at e; cases e
  obtain ⟨m, cm, F, _⟩ := S.fr
  refine ⟨S2.base, S2.amb, S2.bn, S2.vn, S2.vx, S2.inv, S2.wx, S2.fr, fun q hq => ?_, ?_⟩
  · rcases List.mem_cons.mp hq with rfl | hq
    · refine ⟨.inr hT, fun q => ?_, ?_, fun z => ?_, fun x k e z => ?_, vs, pl.isList, fun _ => pl, r.mono (fun a _ q => ?_) fun a o n e => e⟩
      · exact ne _ (S.bnd _ (S.wx _ q).1) rfl
      · cases e : c.h0.get? T with
        | none => rfl
        | some o => exact absurd rfl (ne _ ⟨o, S.base _ o e⟩)
      · obtain ⟨o, _, _, e, _⟩ := F.ns
        exact ne _ ⟨o, e⟩ z.symm
      · obtain ⟨o, e2, _⟩ := F.cell x k e
        exact ne _ ⟨o, e2⟩ z
      · rcases q with (q | q) | q
        · exact .inl (.inl q)
        · exact .inr q
        · exact .inl (.inr q)
    · exact S2.own q hq
  · rw [List.map_cons, List.nodup_cons]
    refine ⟨fun z => ?_, S.nd⟩
    obtain ⟨q, hq, e⟩ := List.mem_map.mp z
    obtain ⟨_, _, _, _, _, us, ⟨o, e2, _⟩, _⟩ := S.own q hq
    exact ne _ ⟨o, e2⟩ e

theorem Rel.grow {V X W wr : Addr → Prop} {h h' : Heap} (k : Kp V h h') (f : ∀ a, wr a → h.get? a = none) : Rel V X W h (fun a => X a ∨ wr a) h' :=
  ⟨fun a o _ n e => k a o n e, fun a ⟨o, e⟩ n q => q.elim id fun q => by rw [f a q] at e; cases e⟩

include ok in
/-- a name is bound to a new list, which is the frame's own from then on. -/
theorem ex1_own {x : Str} {p pos : Pos} {e : Expr} {Qn : Loc → Own → Prop} {Qr : D → Prop} (hx : MayStore c.env x = true) (h : EvF c ρ O e fun as => ∀ T, T ∉ O.map (·.1) → Qn ((x, .p T) :: ρ) ((T, as) :: O))
    (hs : swapsWithSole [.Name x p] e pos.line c.env = pure false := by rfl) (hw : swappedStores [.Name x p] e c.env = pure none := by rfl) (he : (assignEach [.Name x p] c.env).map (·.2) = [assign (.Name x p) c.env] := by rfl) : Ex1 c ρ O (.Assign [.Name x p] e pos) Qn Qr := .mk fun X W s S => by
  refine wpAny_Assign_stores ((h.run X W s S).mono fun v s₁ ⟨A1, T, vs, as, e, fT, pl, r, hq⟩ => ?_) hs hw
  subst e
  rw [he]
  have fr : ∀ a, a = T → s.heap.get? a = none := fun a e => e ▸ fT
  have S1 := Sta.owned (wr := fun a => a = T) ok S A1.sta A1.kp rfl fr (fun a e => by subst e; obtain ⟨o, _, e, _, _, d⟩ := pl; exact ⟨o, e, fun _ _ _ z => by rw [d] at z; cases z⟩) pl r
  refine wpAny_assign_Name ((store_name ok S1 hx (a := .p T) rfl).mono fun _ s₂ ⟨r2, S2, l2, _⟩ => ?_)
  exact ⟨A1.res.trans r2, _, _, _, S2, Rel.trans (Rel.grow A1.kp fr) l2, hq T (List.nodup_cons.mp S1.nd).1⟩

/-- an object of the frame's own memory, that no name leads to, is laid apart. -/
theorem Sta.moreW {X W : Addr → Prop} {h : Heap} {a : Addr} (S : Sta c X W ρ O h) (xa : X a) (fa : c.h0.get? a = none) (hl : a ≠ c.env.locals) (hc : ∀ x k, c.env.cells.lookup x = some k → k ≠ a) (ho : ∀ q ∈ O, q.1 ≠ a) :
    Sta c X (fun b => W b ∨ b = a) ρ O h := by
  obtain ⟨m, cm, F, R⟩ := S.fr
  refine ⟨S.base, S.amb, S.bn, S.vn, S.vx, S.inv, fun b q => ?_, ⟨m, cm, ⟨F.ns, F.lX, fun q => q.elim F.lW hl.symm, F.lF, F.cell, fun x k e => ⟨(F.cX x k e).1, fun z => z.elim (F.cX x k e).2.1 (hc x k e), (F.cX x k e).2.2⟩, F.apart⟩, R⟩, fun q hq => ?_, S.nd⟩
  · rcases q with q | rfl
    · exact S.wx b q
    · exact ⟨xa, fa⟩
  · obtain ⟨g1, g2, g3, g4, g5, g6⟩ := S.own q hq
    exact ⟨g1, fun z => z.elim g2 (ho q hq), g3, g4, g5, g6⟩

def CompTurn (c : Ctx) (ρ : Loc) (O : Own) (tgt elt : Expr) (ifs : List Expr) (scope : Scope) (fr : Bool) (ns : List Str) (P : List D → Prop) (items : List D) : Prop :=
  ∃ J : Nat → List D → Prop, J 0 [] ∧ (∀ C i d ys, (c.blk scope C).Ok → items[i]? = some d → J i ys → ∃ ρ', AsgB (c.blk scope C) (seen scope ρ) O tgt (.d d) ns ρ' ∧ Tests (c.blk scope C) ρ' O ifs fun b =>
      if b then EvX (c.blk scope C) ρ' O elt fr fun y => J (i + 1) (ys ++ [y]) else J (i + 1) ys) ∧ (∀ i ys, J i ys → ys.length ≤ sizeLine) ∧ ∀ ys, J items.length ys → P ys

include ok in
theorem ex1_compG {x : Str} {p pos spos : Pos} {tgt iter elt : Expr} {ifs : List Expr} {scope : Scope} {Qn : Loc → Own → Prop} {Qr : D → Prop} {P : List D → Prop} (fr : Bool) (ns : List Str) (hx : MayStore c.env x = true) (hcl : ClosOk c.env scope.names) (hk : scope.kind = .function) (hsc : ScopeOk scope.names = true)
    (hns : (ns.all fun x => !(scope.names.contains (x, NameKind.free))) = true)
    (h : EvIt c ρ O tgt iter (CompTurn c ρ O tgt elt ifs scope fr ns P))
    (fin : ∀ X W s s' T C vs ds, Sta c X W ρ O s.heap → Aft c X W ρ O s s' → s.heap.get? T = none → s.heap.get? C = none → T ≠ C → (∃ o, s'.heap.get? C = some o ∧ NotCode o) → (∀ q ∈ O, q.1 ≠ C) → PlainL s'.heap T vs.toArray → Reps (fun a => Av c X a ∨ a = T ∨ a = C) s'.heap vs ds → NewRefs s.heap fr vs → P ds →
      ∃ (X' : Addr → Prop) (O' : Own) (a : AV), Sta c X' W ρ O' s'.heap ∧ Rel c.V X W s.heap X' s'.heap ∧ X' C ∧ (∀ q ∈ O', q.1 ≠ C) ∧ ARep (Av c X') s'.heap (.ref T) a ∧ Qn ((x, a) :: ρ) O')
    (hsw : swapsWith (.ListComp elt [⟨tgt, iter, ifs, 0⟩] scope pos) (some (.Name x p)) spos.line c.env = pure true := by rfl)
    (hs : ∀ x, foldedSetIterable iter c.env x = pure x := by intro _; rfl) : Ex1 c ρ O (.Assign [.Name x p] (.ListComp elt [⟨tgt, iter, ifs, 0⟩] scope pos) spos) Qn Qr := .mk fun X W s S => by
  rw [exec_Assign_Name_used _ _ _ _ hsw]
  refine wpAny_bind (wpAny_standAt (wpAny_bind ?_))
  show Wp c.w c.A (do let _ ← comprehension (.ListComp elt [⟨tgt, iter, ifs, 0⟩] scope pos) scope c.env _ (newList []) false (eval iter c.env) (some (assign (.Name x p) c.env))) _ s
  refine wpAny_bind (Wp.mono (comp_core (use := some (assign (.Name x p) c.env)) (Q := fun _ s' => ExP c W Qn Qr X s .next s') ok fr ns hcl hk hsc hns h hs S fun s' T C vs ds A fT fC hTC nC pl rp nr hq => ?_) fun _ s' hq => wpAny_pure (wpAny_pure hq))
  show Wp c.w c.A (assign (.Name x p) c.env (.ref T)) _ s'
  obtain ⟨mS, cmS, FS, _⟩ := S.fr
  have ne : ∀ a, (∃ o, s.heap.get? a = some o) → a ≠ C := fun a ⟨o, e⟩ z => by rw [z, fC] at e; cases e
  have nh0 : c.h0.get? C = none := by
    cases e : c.h0.get? C with
    | none => rfl
    | some o => exact absurd rfl (ne _ ⟨o, S.base _ o e⟩)
  have nL : C ≠ c.env.locals := fun z => by obtain ⟨o, _, _, e, _⟩ := FS.ns; exact ne _ ⟨o, e⟩ z.symm
  have nW : ¬ W C := fun z => ne _ (S.bnd _ (S.wx _ z).1) rfl
  have nK : ∀ x k, c.env.cells.lookup x = some k → k ≠ C := fun x k e => by obtain ⟨o, e2, _⟩ := FS.cell x k e; exact ne _ ⟨o, e2⟩
  have nO : ∀ q ∈ O, q.1 ≠ C := fun q hq => by obtain ⟨_, _, _, _, _, us, ⟨o, e2, _⟩, _⟩ := S.own q hq; exact ne _ ⟨o, e2⟩
  have hC' : ∃ o, s'.heap.get? C = some o ∧ NotCode o := by obtain ⟨m, o, _, _, e, d, _⟩ := nC; exact ⟨o, e, fun _ _ _ z => by rw [d] at z; cases z⟩
  -- from a store on
  have go : ∀ (X' : Addr → Prop) (O' : Own) (a : AV), Sta c X' W ρ O' s'.heap → Rel c.V X W s.heap X' s'.heap → X' C → (∀ q ∈ O', q.1 ≠ C) → ARep (Av c X') s'.heap (.ref T) a → Qn ((x, a) :: ρ) O' →
      Wp c.w c.A (assign (.Name x p) c.env (.ref T)) (fun _ s'' => ∃ m, s''.heap.Ns C m ∧ ∀ h', Heap.SameBut C s''.heap h' → ExP c W Qn Qr X s .next { s'' with heap := h' }) s' := fun X' O' a S1 l1 xC hO hv hq => by
    refine wpAny_assign_Name ((store_name ok S1 hx hv).mono fun _ s₂ ⟨r2, S2, l2, k2⟩ => ?_)
    obtain ⟨m, o, es, ep, e, r⟩ := nC
    have hn2 : s₂.heap.Ns C m := ⟨o, es, ep, k2 C o nL (fun z => nK _ _ z rfl) e, r⟩
    refine ⟨m, hn2, fun h' hs' => ?_⟩
    have l12 := l1.trans l2
    have S3 := Sta.let (wr := fun a => a = C) ok (S2.moreW xC nh0 nL nK hO) (fun a q z => nW (z ▸ q)) (fun a q z => ne a (by obtain ⟨o, e⟩ := S.bnd a (S.amb a q); exact ⟨o, e⟩) z) fun a o n e => (hs'.2 a n).trans e
    exact ⟨(A.res.trans r2).trans .mk, _, _, _, S3, ⟨fun a o n v e => (hs'.2 a (ne a ⟨o, e⟩)).trans (l12.1 a o n v e), fun a e v q => l12.2 a e v q.1⟩, hq⟩
  obtain ⟨X', O', a, S1, l1, xC, hO, hv, hq'⟩ := fin X W s s' T C vs ds S A fT fC hTC hC' nO pl rp nr hq
  exact go X' O' a S1 l1 xC hO hv hq'

include ok in
theorem ex1_comp {x : Str} {p pos spos : Pos} {tgt iter elt : Expr} {ifs : List Expr} {scope : Scope} {Qn : Loc → Own → Prop} {Qr : D → Prop} (own fr : Bool) (ns : List Str) (hx : MayStore c.env x = true) (hcl : ClosOk c.env scope.names) (hk : scope.kind = .function) (hsc : ScopeOk scope.names = true)
    (hns : (ns.all fun x => !(scope.names.contains (x, NameKind.free))) = true)
    (h : EvIt c ρ O tgt iter (CompTurn c ρ O tgt elt ifs scope fr ns fun ys => if own then ∀ T, Qn ((x, .p T) :: ρ) ((T, ys.map .d) :: O) else Qn ((x, .d (.lst ys)) :: ρ) O))
    (hsw : swapsWith (.ListComp elt [⟨tgt, iter, ifs, 0⟩] scope pos) (some (.Name x p)) spos.line c.env = pure true := by rfl)
    (hs : ∀ x, foldedSetIterable iter c.env x = pure x := by intro _; rfl) : Ex1 c ρ O (.Assign [.Name x p] (.ListComp elt [⟨tgt, iter, ifs, 0⟩] scope pos) spos) Qn Qr := by
  refine ex1_compG ok fr ns hx hcl hk hsc hns h ?_ hsw hs
  intro X W s s' T C vs ds S A fT fC hTC hC' nO pl rp nr hq
  have hT' : ∃ o, s'.heap.get? T = some o ∧ NotCode o := by obtain ⟨o, _, e, _, _, d⟩ := pl; exact ⟨o, e, fun _ _ _ z => by rw [d] at z; cases z⟩
  cases own with
  | true =>
    have f : ∀ a, (a = T ∨ a = C) → s.heap.get? a = none := fun a q => by rcases q with rfl | rfl <;> assumption
    have S1 := Sta.owned (wr := fun a => a = T ∨ a = C) ok S A.sta A.kp (.inl rfl) f (fun a q => by rcases q with rfl | rfl <;> assumption) pl (AReps.ofReps rp)
    refine ⟨_, _, .p T, S1, Rel.grow A.kp f, .inr (.inr rfl), fun q hq => ?_, rfl, hq T⟩
    rcases List.mem_cons.mp hq with rfl | hq
    · exact hTC
    · exact nO q hq
  | false =>
    have f : ∀ a, a = C → s.heap.get? a = none := fun a q => q ▸ fC
    have S1 := (Sta.res (wr := fun a => a = C) ok S s'.heap A.kp A.sta f (fun a q => q ▸ hC')).lessW (W' := W) fun a q => .inl q
    refine ⟨_, _, .d (.lst ds), S1, Rel.grow A.kp f, .inr rfl, nO, .lst (vs := vs) (fun q => ?_) pl.isList (rp.mono (fun a _ q => ?_) fun _ _ _ e => e), hq⟩
    · rcases q with (q | q) | q
      · obtain ⟨o, e⟩ := S.bnd _ q; rw [fT] at e; cases e
      · exact hTC q
      · obtain ⟨o, e⟩ := S.vb _ q; rw [fT] at e; cases e
    · rcases q with (q | q) | q
      · exact .inl (.inl q)
      · exact .inr (.inr q)
      · exact .inl (.inr q)

/-- a row of whole numbers. -/
abbrev rowD (r : List Int) : D := .lst (r.map .int)
abbrev rowA (r : List Int) : List AV := r.map fun n => .d (.int n)

theorem rows_flat {Z Z' : Addr → Prop} {h : Heap} : ∀ {vs : List Value} {r : List Int}, Reps Z h vs (r.map .int) → AReps Z' h vs (rowA r)
  | _, [], .nil => .nil
  | _, n :: ns, .cons x r => by cases x; exact .cons (Rep.int _ _) (rows_flat r)

theorem rows_split {Z : Addr → Prop} {h : Heap} : ∀ {vs : List Value} {rows : List (List Int)}, Reps Z h vs (rows.map rowD) → (∀ v ∈ vs, ∃ a, v = Value.ref a) →
    ∃ rs : List Addr, vs = rs.map .ref ∧ rs.length = rows.length ∧ ∀ q ∈ rs.zip (rows.map rowA), ∃ us : List Value, h.IsList q.1 us.toArray ∧ ∀ Z', AReps Z' h us q.2
  | _, [], .nil, _ => ⟨[], rfl, rfl, fun q hq => nomatch hq⟩
  | _, r :: rows, .cons x rr, hv => by
    obtain ⟨rs, e1, e2, e3⟩ := rows_split rr fun v h => hv v (List.mem_cons_of_mem _ h)
    cases x with
    | lst n hl r2 =>
      refine ⟨_ :: rs, by rw [e1]; rfl, by simp [e2], fun q hq => ?_⟩
      rcases List.mem_cons.mp hq with rfl | hq
      · exact ⟨_, hl, fun Z' => rows_flat r2⟩
      · exact e3 q hq

include ok in
/-- a name is bound to a new list of new rows. -/
theorem ex1_rows {x : Str} {p pos spos : Pos} {tgt iter elt : Expr} {ifs : List Expr} {scope : Scope} {Qn : Loc → Own → Prop} {Qr : D → Prop} (hpl : c.pl = false) (ns : List Str) (hx : MayStore c.env x = true) (hcl : ClosOk c.env scope.names) (hk : scope.kind = .function) (hsc : ScopeOk scope.names = true)
    (hns : (ns.all fun x => !(scope.names.contains (x, NameKind.free))) = true)
    (h : EvIt c ρ O tgt iter (CompTurn c ρ O tgt elt ifs scope true ns fun ys => ∃ rows : List (List Int), ys = rows.map rowD ∧ ∀ (T : Addr) (rs : List Addr), rs.length = rows.length → (T :: rs).Nodup → Qn ((x, .p T) :: ρ) ((T, rs.map .p) :: (rs.zip (rows.map rowA) ++ O))))
    (hsw : swapsWith (.ListComp elt [⟨tgt, iter, ifs, 0⟩] scope pos) (some (.Name x p)) spos.line c.env = pure true := by rfl)
    (hs : ∀ x, foldedSetIterable iter c.env x = pure x := by intro _; rfl) : Ex1 c ρ O (.Assign [.Name x p] (.ListComp elt [⟨tgt, iter, ifs, 0⟩] scope pos) spos) Qn Qr := by
  refine ex1_compG ok true ns hx hcl hk hsc hns h ?_ hsw hs
  intro X W s s' T C vs ds S A fT fC hTC hC' nO pl rp nr hq
  obtain ⟨rows, rfl, hq⟩ := hq
  obtain ⟨nd, nr⟩ := nr rfl
  obtain ⟨rs, rfl, hlen, hrs⟩ := rows_split rp fun v hv => by obtain ⟨a, e, _⟩ := nr v hv; exact ⟨a, e⟩
  have fresh : ∀ r ∈ rs, s.heap.get? r = none := fun r hr => by obtain ⟨a, e, f⟩ := nr _ (List.mem_map.mpr ⟨r, hr, rfl⟩); cases e; exact f
  have nd' : rs.Nodup := by
    have : ∀ {l : List Addr}, (l.map Value.ref).Nodup → l.Nodup := fun {l} h => by
      induction l with
      | nil => exact List.nodup_nil
      | cons a l ih =>
        rw [List.map_cons, List.nodup_cons] at h
        exact List.nodup_cons.mpr ⟨fun z => h.1 (List.mem_map.mpr ⟨a, z, rfl⟩), ih h.2⟩
    exact this nd
  have off : ∀ r ∈ rs, r ≠ T ∧ r ≠ C := fun r hr => by
    have key : ∀ {vs : List Value} {ds : List D}, Reps (fun a => Av c X a ∨ a = T ∨ a = C) s'.heap vs ds → Value.ref r ∈ vs → (∃ z, z ∈ ds) → ¬ (Av c X r ∨ r = T ∨ r = C) := by
      intro vs
      induction vs with
      | nil => intro ds _ h; cases h
      | cons u us ih =>
        intro ds rr h hz
        cases rr with
        | cons x rr =>
          rcases List.mem_cons.mp h with h | h
          · subst h
            cases x with
            | tup n _ _ => exact n
            | lst n _ _ => exact n
            | fn x => obtain ⟨o, _, _, _, _, _, n, _⟩ := x; exact n
          · rename_i d ds
            cases rr with
            | nil => cases h
            | cons y rr' => exact ih (.cons y rr') h ⟨_, List.mem_cons_self⟩
    have hmem : Value.ref r ∈ rs.map Value.ref := List.mem_map.mpr ⟨r, hr, rfl⟩
    have := key rp hmem (by
      cases rows with
      | nil => cases rs with
        | nil => cases hr
        | cons _ _ => cases hlen
      | cons a b => exact ⟨_, List.mem_cons_self⟩)
    exact ⟨fun z => this (.inr (.inl z)), fun z => this (.inr (.inr z))⟩
  have hT' : ∃ o, s'.heap.get? T = some o ∧ NotCode o := by obtain ⟨o, _, e, _, _, d⟩ := pl; exact ⟨o, e, fun _ _ _ z => by rw [d] at z; cases z⟩
  have hR' : ∀ r ∈ rs, ∃ o, s'.heap.get? r = some o ∧ NotCode o := fun r hr => by
    obtain ⟨i, hi, rfl⟩ := List.mem_iff_getElem.mp hr
    have hi2 : i < (rows.map rowA).length := by simpa [← hlen] using hi
    have hm : (rs[i], (rows.map rowA)[i]) ∈ rs.zip (rows.map rowA) := by
      rw [List.mem_iff_getElem]
      exact ⟨i, by simp only [List.length_zip]; omega, by simp⟩
    obtain ⟨us, ⟨o, e, _, _, d⟩, _⟩ := hrs _ hm
    exact ⟨o, e, fun _ _ _ z => by rw [d] at z; cases z⟩
  let wr : Addr → Prop := fun a => a = T ∨ a = C ∨ a ∈ rs
  have f : ∀ a, wr a → s.heap.get? a = none := fun a q => by
    rcases q with rfl | rfl | q
    · exact fT
    · exact fC
    · exact fresh a q
  have l : ∀ a, wr a → ∃ o, s'.heap.get? a = some o ∧ NotCode o := fun a q => by
    rcases q with rfl | rfl | q
    · exact hT'
    · exact hC'
    · exact hR' a q
  have ars : AReps (fun a => Av c X a ∨ wr a) s'.heap (rs.map .ref) (rs.map .p) := by
    have : ∀ (l : List Addr), AReps (fun a => Av c X a ∨ wr a) s'.heap (l.map .ref) (l.map .p) := fun l => by
      induction l with
      | nil => exact .nil
      | cons a l ih => exact .cons rfl ih
    exact this rs
  have S1 := Sta.owned (wr := wr) ok S A.sta A.kp (.inl rfl) f l pl ars
  obtain ⟨m, cm, FS, _⟩ := S.fr
  have ne : ∀ a, (∃ o, s.heap.get? a = some o) → ¬ wr a := fun a ⟨o, e⟩ z => by rw [f a z] at e; cases e
  refine ⟨_, (T, rs.map .p) :: (rs.zip (rows.map rowA) ++ O), .p T, ⟨S1.base, S1.amb, S1.bn, S1.vn, S1.vx, S1.inv, S1.wx, S1.fr, fun q hq => ?_, ?_⟩, Rel.grow A.kp f, .inr (.inr (.inl rfl)), fun q hq => ?_, rfl, hq T rs hlen (List.nodup_cons.mpr ⟨fun z => (off T z).1 rfl, nd'⟩)⟩
  · rcases List.mem_cons.mp hq with rfl | hq
    · exact S1.own _ List.mem_cons_self
    · rcases List.mem_append.mp hq with hq | hq
      · have hr : q.1 ∈ rs := (List.of_mem_zip hq).1
        obtain ⟨us, g1, g2⟩ := hrs q hq
        refine ⟨.inr (.inr (.inr hr)), fun z => ne _ (S.bnd _ (S.wx _ z).1) (.inr (.inr hr)), ?_, fun z => ?_, fun x k e z => ?_, us, g1, fun z => absurd (hpl.symm.trans z) (by decide), g2 _⟩
        · cases e : c.h0.get? q.1 with
          | none => rfl
          | some o => exact absurd (.inr (.inr hr)) (ne _ ⟨o, S.base _ o e⟩)
        · obtain ⟨o, _, _, e, _⟩ := FS.ns
          exact ne _ ⟨o, z ▸ e⟩ (.inr (.inr hr))
        · obtain ⟨o, e2, _⟩ := FS.cell x k e
          exact ne _ ⟨o, z ▸ e2⟩ (.inr (.inr hr))
      · exact S1.own _ (List.mem_cons_of_mem _ hq)
  · have nO : ∀ q ∈ O, ¬ wr q.1 := fun q hq => by obtain ⟨_, _, _, _, _, us, ⟨o, e2, _⟩, _⟩ := S.own q hq; exact ne _ ⟨o, e2⟩
    rw [List.map_cons, List.nodup_cons, List.map_append, List.nodup_append]
    have e1 : (rs.zip (rows.map rowA)).map (·.1) = rs := by rw [List.map_fst_zip (by simp [hlen])]
    rw [e1]
    refine ⟨fun z => ?_, nd', S.nd, fun a ha b hb z => ?_⟩
    · rcases List.mem_append.mp z with z | z
      · exact (off T z).1 rfl
      · obtain ⟨q, hq, e⟩ := List.mem_map.mp z
        exact nO q hq (.inl e)
    · obtain ⟨q, hq, e⟩ := List.mem_map.mp hb
      exact nO q hq (.inr (.inr (by rw [e, ← z]; exact ha)))
  · rcases List.mem_cons.mp hq with rfl | hq
    · exact hTC
    · rcases List.mem_append.mp hq with hq | hq
      · exact (off _ (List.of_mem_zip hq).1).2
      · exact nO q hq
end
end Mine

namespace Mine
open PySem PySem.W PyProof.Rows PySem.Calls PySem.Spec

def pairUp : List D → List D → List D := List.zipWith fun a b => D.tup [a, b]
def numbered : Nat → List D → List D
  | _, [] => []
  | n, d :: ds => .tup [.int n, d] :: numbered (n + 1) ds
theorem numbered_get {n : Nat} : ∀ {ds : List D} {i : Nat} {d : D}, (numbered n ds)[i]? = some d → ∃ x, ds[i]? = some x ∧ d = .tup [.int ((n + i : Nat) : Int), x]
  | [], i, d, e => by cases e
  | x :: ds, 0, d, e => by cases e; exact ⟨x, rfl, rfl⟩
  | x :: ds, i + 1, d, e => by
    obtain ⟨y, h1, h2⟩ := numbered_get (n := n + 1) (ds := ds) (i := i) e
    exact ⟨y, h1, by rw [h2]; congr 3; omega⟩
theorem numbered_length {n : Nat} : ∀ {ds : List D}, (numbered n ds).length = ds.length
  | [] => rfl
  | x :: ds => by rw [numbered, List.length_cons, List.length_cons, numbered_length]

section
variable {c : Ctx} (ok : c.Ok) {ρ : Loc} {O : Own}

include ok in
theorem it_zip {es : List Expr} {k : Nat} {tp p pos : Pos} {e1 e2 : Expr} {Q : List D → Prop} (B : Bas c.w c.h0) (hk : c.env.kindOf (Str.ofString "zip") = some .globalImplicit)
    (h : Ev c ρ O e1 fun a => ∃ xs, a = .d (.lst xs) ∧ Ev c ρ O e2 fun b => ∃ ys, b = .d (.lst ys) ∧ Q (pairUp xs ys))
    (he : starEach [e1, e2] c.env = (false, eval e1 c.env) :: starEach [e2] c.env := by rfl) (he2 : starEach [e2] c.env = (false, eval e2 c.env) :: starEach [] c.env := by rfl) : EvIt c ρ O (.Tuple es k tp) (.Call (.Name (Str.ofString "zip") p) [e1, e2] [] pos) Q := .mk fun X W s S => by
  refine wpAny_Call_Name_kw (name_blt ok S B hk (v := .type "zip") (by rfl) (by boot_fast) ?_)
  have hh := (evl_cons (Q := fun as => ∃ xs ys, as = [.d (.lst xs), .d (.lst ys)] ∧ Q (pairUp xs ys)) (h.mono fun a ⟨m, e, r⟩ => evl_cons (r.mono fun b ⟨n, e', r⟩ => evl_nil ⟨m, n, by rw [e, e'], r⟩) he2) he).run X W s pos S
  rw [he, he2] at hh ⊢
  refine PyProof.Rows.callWith_type rfl (evalArgs_plain (Wp.mono hh fun vs s₁ ⟨A1, as, has, xs, ys, e, q⟩ => ?_))
  subst e
  cases has with
  | cons u r =>
    cases r with
    | cons v r =>
      cases r
      cases u with
      | lst n1 hl1 r1 =>
        rename_i l1 us _
        cases v with
        | lst n2 hl2 r2 =>
          rename_i l2 ws _
          show Wp c.w c.A (call (.type "zip") [.ref l1, .ref l2]) _ s₁
          generalize hn : s₁.heap.objs.size = N
          have lt1 : @LT.lt Nat _ l1 N := by obtain ⟨o, e, _⟩ := hl1; exact hn ▸ Heap.lt_size e
          have lt2 : @LT.lt Nat _ l2 N := by obtain ⟨o, e, _⟩ := hl2; exact hn ▸ Heap.lt_size e
          refine call_zip_2 hl1 hl2 fun h' a1 a2 a3 a4 a5 a6 ex => ?_
          rw [hn] at a1 a2 a3 a4 a5 a6 ⊢
          refine wpAny_pyIter_zip a1 ?_
          have ex' : Ext s₁.heap h' := ex
          have apart : ZipApart (N + 4) (N + 2) (N + 3) N (N + 1) l1 l2 := by
            constructor <;> first | exact nadd (by decide) | exact nadd0 (by decide) | exact (nadd0 (by decide)).symm | exact Nat.ne_of_lt lt1 | exact Nat.ne_of_lt lt2 | exact Nat.ne_of_gt lt1 | exact Nat.ne_of_gt lt2 | exact Nat.ne_of_gt (Nat.lt_add_right _ lt1) | exact Nat.ne_of_gt (Nat.lt_add_right _ lt2) | (intro z; have z : @Eq Nat _ _ := z; omega)
          have f1 : ∀ a, @LE.le Nat _ N a → s₁.heap.get? a = none := fun a q => Heap.get?_none_of_le (hn ▸ q)
          let wr : Addr → Prop := fun a => a = N ∨ a = N + 1 ∨ a = N + 2 ∨ a = N + 3 ∨ a = N + 4
          have hw : ∀ a, wr a → s₁.heap.get? a = none := fun a q => f1 a (by
            rcases q with q | rfl | rfl | rfl | rfl
            · exact Nat.le_of_eq q.symm
            · exact Nat.le_add_right N 1
            · exact Nat.le_add_right N 2
            · exact Nat.le_add_right N 3
            · exact Nat.le_add_right N 4)
          have nw : ∀ a, @LT.lt Nat _ a N → ¬ wr a := fun a l q => by
            rcases q with q | rfl | rfl | rfl | rfl
            · exact Nat.ne_of_lt l q
            · exact absurd l (Nat.not_lt.mpr (Nat.le_add_right N 1))
            · exact absurd l (Nat.not_lt.mpr (Nat.le_add_right N 2))
            · exact absurd l (Nat.not_lt.mpr (Nat.le_add_right N 3))
            · exact absurd l (Nat.not_lt.mpr (Nat.le_add_right N 4))
          have kept4 : ∀ {h1 h2 : Heap}, (∀ c o, c ≠ N + 4 → c ≠ N + 3 → c ≠ N → c ≠ N + 1 → h1.get? c = some o → h2.get? c = some o) → ∀ a o, ¬ wr a → h1.get? a = some o → h2.get? a = some o := fun k a o n e =>
            k a o (fun z => n (.inr (.inr (.inr (.inr z))))) (fun z => n (.inr (.inr (.inr (.inl z))))) (fun z => n (.inl z)) (fun z => n (.inr (.inl z))) e
          have fz : ∀ l, (∃ o, s₁.heap.get? l = some o) → ¬ Av c X l → Fz c X wr h' l := fun l ⟨o, e⟩ n => ⟨⟨o, ex' l o e⟩, fun z => n (.inl z), fun z => n (.inr z), fun z => by rw [hw l z] at e; cases e⟩
          have fz1 : Fz c X wr h' l1 := fz l1 (by obtain ⟨o, e, _⟩ := hl1; exact ⟨o, e⟩) n1
          have fz2 : Fz c X wr h' l2 := fz l2 (by obtain ⟨o, e, _⟩ := hl2; exact ⟨o, e⟩) n2
          refine ⟨A1.trans (.ext ok A1.sta ex'), pairUp xs ys, wr, (fun i h => IsZip h (N + 4) (N + 2) (N + 3) .none ∧ IsPair h (N + 2) (.ref N) (.ref (N + 1)) ∧ (∃ a b, IsPair h (N + 3) a b) ∧ h.IsListIter N l1 i ∧ h.IsListIter (N + 1) l2 i ∧ h.IsList l1 us.toArray ∧ h.IsList l2 ws.toArray),
            ⟨?_, ?_, ?_, ?_, ?_⟩, ⟨a1, a2, ⟨_, _, a3⟩, a4, a5, hl1.at fun o e => ex' _ o e, hl2.at fun o e => ex' _ o e⟩, fun a q => A1.fresh (hw a q), q⟩
          · rintro i h ⟨b1, b2, ⟨_, _, b3⟩, b4, b5, _⟩ a q
            rcases q with rfl | rfl | rfl | rfl | rfl
            · obtain ⟨o, e, _, d⟩ := b4; exact ⟨o, e, fun _ _ _ z y => by rw [d] at z; cases z; cases y⟩
            · obtain ⟨o, e, _, d⟩ := b5; exact ⟨o, e, fun _ _ _ z y => by rw [d] at z; cases z; cases y⟩
            · exact ⟨_, b2, fun _ _ _ z y => by cases z⟩
            · exact ⟨_, b3, fun _ _ _ z y => by cases z⟩
            · exact ⟨_, b1, fun _ _ _ z y => by cases z; cases y⟩
          · rintro i h h2 ⟨b1, b2, ⟨x, y, b3⟩, b4, b5, b6, b7⟩ k
            exact ⟨k _ _ (.inl (.inr (.inr (.inr (.inr rfl))))) b1, k _ _ (.inl (.inr (.inr (.inl rfl)))) b2, ⟨x, y, k _ _ (.inl (.inr (.inr (.inr (.inl rfl))))) b3⟩, b4.at fun o e => k _ o (.inl (.inl rfl)) e, b5.at fun o e => k _ o (.inl (.inr (.inl rfl))) e,
              b6.at fun o e => k _ o (.inr fz1) e, b7.at fun o e => k _ o (.inr fz2) e⟩
          · rintro i d s' hd ⟨b1, b2, ⟨x, y, b3⟩, b4, b5, b6, b7⟩
            unfold pairUp at hd
            rw [List.getElem?_zipWith] at hd
            cases e1 : xs[i]? with
            | none => rw [e1] at hd; cases ys[i]? <;> cases hd
            | some dx =>
              cases e2 : ys[i]? with
              | none => rw [e1, e2] at hd; cases hd
              | some dy =>
                rw [e1, e2] at hd
                cases hd
                obtain ⟨v1, hv1, hr1⟩ := r1.get e1
                obtain ⟨v2, hv2, hr2⟩ := r2.get e2
                refine wpAny_pyNext_zip_item apart b1 b2 b3 b4 b5 b6 b7 (by simpa using hv1) (by simpa using hv2) fun h3 c1 c2 c3 c4 c5 c6 kk => ⟨_, rfl, ?_⟩
                refine wpAny_letOwnedTupleGo_zip c1 fun h4 d1 hs => ?_
                have ne : ∀ a, @LT.lt Nat _ a (N + 4) → a ≠ N + 4 := fun a q z => absurd z (Nat.ne_of_lt q)
                have sz : @LT.lt Nat _ (N + 4) s'.heap.objs.size := Heap.lt_size b1
                have k4 : ∀ a o, ¬ wr a → s'.heap.get? a = some o → h4.get? a = some o := fun a o n e => (hs.2 a fun z => n (.inr (.inr (.inr (.inr z))))).trans (kept4 kk a o n e)
                have c5' : IsPair h4 s'.heap.objs.size v1 v2 := (hs.2 _ fun z => absurd z (Nat.ne_of_gt sz)).trans c5
                refine ⟨.mk, ⟨d1, (hs.2 _ (ne _ (Nat.add_lt_add_left (by decide : 2 < 4) N))).trans (kk _ _ (by first | exact nadd (by decide) | exact nadd0 (by decide) | (intro z; have z : @Eq Nat _ _ := z; omega)) (by first | exact nadd (by decide) | exact nadd0 (by decide) | (intro z; have z : @Eq Nat _ _ := z; omega)) (by first | exact nadd (by decide) | exact nadd0 (by decide) | (intro z; have z : @Eq Nat _ _ := z; omega)) (by first | exact nadd (by decide) | exact nadd0 (by decide) | (intro z; have z : @Eq Nat _ _ := z; omega)) b2), ⟨_, _, (hs.2 _ (ne _ (Nat.add_lt_add_left (by decide : 3 < 4) N))).trans c2⟩,
                  c3.at fun o e => (hs.2 _ (ne _ (Nat.lt_add_of_pos_right (by decide : 0 < 4)))).trans e, c4.at fun o e => (hs.2 _ (ne _ (Nat.add_lt_add_left (by decide : 1 < 4) N))).trans e, b6.at fun o e => k4 _ o (nw _ lt1) e, b7.at fun o e => k4 _ o (nw _ lt2) e⟩, k4, fun Z z1 z2 z3 => ?_⟩
                refine .tup (fun z => ?_) (vs := [v1, v2]) ⟨_, c5', rfl, _, rfl⟩ (.cons (Fz.rep (Ext.kp ex') hw z1 z3 hr1) (.cons (Fz.rep (Ext.kp ex') hw z1 z3 hr2) .nil))
                obtain ⟨o, e⟩ := z2 _ z
                rw [get_size] at e; cases e
          · rintro s' ⟨b1, b2, ⟨x, y, b3⟩, b4, b5, b6, b7⟩
            refine wpAny_pyNext_zip_end ok.hd apart b1 b2 b3 b4 b5 b6 b7 ?_ fun h3 kk => ⟨rfl, .mk, kept4 kk⟩
            have l1 := r1.length
            have l2 := r2.length
            have : (pairUp xs ys).length = min xs.length ys.length := by simp [pairUp]
            rw [this]
            rcases Nat.le_total xs.length ys.length with q | q
            · left; rw [Nat.min_eq_left q]; simp [l1]
            · right; rw [Nat.min_eq_right q]; simp [l2]
          · rintro i s' Q ⟨b1, _⟩ q
            exact wpAny_pyIter_zip b1 q

include ok in
theorem it_enum {es : List Expr} {k : Nat} {tp p pos : Pos} {e1 : Expr} {Q : List D → Prop} (B : Bas c.w c.h0) (hk : c.env.kindOf (Str.ofString "enumerate") = some .globalImplicit)
    (h : Ev c ρ O e1 fun a => ∃ xs, a = .d (.lst xs) ∧ Q (numbered 0 xs))
    (he : starEach [e1] c.env = (false, eval e1 c.env) :: starEach [] c.env := by rfl) : EvIt c ρ O (.Tuple es k tp) (.Call (.Name (Str.ofString "enumerate") p) [e1] [] pos) Q := .mk fun X W s S => by
  refine wpAny_Call_Name_kw (name_blt ok S B hk (v := .type "enumerate") (by rfl) (by boot_fast) ?_)
  have hh := (evl_cons (Q := fun as => ∃ xs, as = [.d (.lst xs)] ∧ Q (numbered 0 xs)) (h.mono fun a ⟨m, e, r⟩ => evl_nil ⟨m, by rw [e], r⟩) he).run X W s pos S
  rw [he] at hh ⊢
  refine PyProof.Rows.callWith_type rfl (evalArgs_plain (Wp.mono hh fun vs s₁ ⟨A1, as, has, xs, e, q⟩ => ?_))
  subst e
  cases has with
  | cons u r =>
    cases r
    cases u with
    | lst n1 hl1 r1 =>
      rename_i l1 us _
      show Wp c.w c.A (call (.type "enumerate") [.ref l1]) _ s₁
      generalize hn : s₁.heap.objs.size = N
      have lt1 : @LT.lt Nat _ l1 N := by obtain ⟨o, e, _⟩ := hl1; exact hn ▸ Heap.lt_size e
      refine call_enumerate_list hl1 fun h' a1 a2 a3 ex => ?_
      rw [hn] at a1 a2 a3 ⊢
      refine wpAny_pyIter_enum a1 ?_
      have ex' : Ext s₁.heap h' := ex
      have f1 : ∀ a, @LE.le Nat _ N a → s₁.heap.get? a = none := fun a q => Heap.get?_none_of_le (hn ▸ q)
      let wr : Addr → Prop := fun a => a = N ∨ a = N + 1
      have hw : ∀ a, wr a → s₁.heap.get? a = none := fun a q => f1 a (by
        rcases q with q | rfl
        · exact Nat.le_of_eq q.symm
        · exact Nat.le_add_right N 1)
      have nw : ∀ a, @LT.lt Nat _ a N → ¬ wr a := fun a l q => by
        rcases q with q | rfl
        · exact Nat.ne_of_lt l q
        · exact absurd l (Nat.not_lt.mpr (Nat.le_add_right N 1))
      have ne01 : (N + 1 : Addr) ≠ N := nadd0 (by decide)
      have kept2 : ∀ {h1 h2 : Heap}, (∀ c o, c ≠ N + 1 → c ≠ N → h1.get? c = some o → h2.get? c = some o) → ∀ a o, ¬ wr a → h1.get? a = some o → h2.get? a = some o := fun k a o n e =>
        k a o (fun z => n (.inr z)) (fun z => n (.inl z)) e
      have fz1 : Fz c X wr h' l1 := by
        obtain ⟨o, e, _⟩ := hl1
        exact ⟨⟨o, ex' l1 o e⟩, fun z => n1 (.inl z), fun z => n1 (.inr z), fun z => by rw [hw l1 z] at e; cases e⟩
      refine ⟨A1.trans (.ext ok A1.sta ex'), numbered 0 xs, wr, (fun i h => (∃ old, IsEnum h (N + 1) N i old) ∧ h.IsListIter N l1 i ∧ h.IsList l1 us.toArray),
        ⟨?_, ?_, ?_, ?_, ?_⟩, ⟨⟨_, a1⟩, a2, hl1.at fun o e => ex' _ o e⟩, fun a q => A1.fresh (hw a q), q⟩
      · rintro i h ⟨⟨_, b1⟩, b4, _⟩ a q
        rcases q with rfl | rfl
        · obtain ⟨o, e, _, d⟩ := b4; exact ⟨o, e, fun _ _ _ z y => by rw [d] at z; cases z; cases y⟩
        · exact ⟨_, b1, fun _ _ _ z y => by cases z; cases y⟩
      · rintro i h h2 ⟨⟨x, b1⟩, b4, b6⟩ k
        exact ⟨⟨x, k _ _ (.inl (.inr rfl)) b1⟩, b4.at fun o e => k _ o (.inl (.inl rfl)) e, b6.at fun o e => k _ o (.inr fz1) e⟩
      · rintro i d s' hd ⟨⟨x, b1⟩, b4, b6⟩
        obtain ⟨dx, e1, rfl⟩ := numbered_get hd
        obtain ⟨v1, hv1, hr1⟩ := r1.get e1
        refine wpAny_pyNext_enum_item b1 b4 b6 (by simpa using hv1) ne01 fun h3 c1 c3 c5 c6 kk => ⟨_, rfl, ?_⟩
        refine wpAny_letOwnedTupleGo_enum c1 fun h4 d1 hs => ?_
        have sz : @LT.lt Nat _ (N + 1) s'.heap.objs.size := Heap.lt_size b1
        have k4 : ∀ a o, ¬ wr a → s'.heap.get? a = some o → h4.get? a = some o := fun a o n e => (hs.2 a fun z => n (.inr z)).trans (kept2 kk a o n e)
        have c5' := (hs.2 _ fun z => absurd z (Nat.ne_of_gt sz)).trans c5
        refine ⟨.mk, ⟨⟨_, by simpa using d1⟩, c3.at fun o e => (hs.2 _ ne01.symm).trans e, b6.at fun o e => k4 _ o (nw _ lt1) e⟩, k4, fun Z z1 z2 z3 => ?_⟩
        rw [Nat.zero_add]
        refine .tup (fun z => ?_) (vs := [.int i s'.toks, v1]) ⟨_, c5', rfl, _, rfl⟩ (.cons (.int _ _) (.cons (Fz.rep (Ext.kp ex') hw z1 z3 hr1) .nil))
        obtain ⟨o, e⟩ := z2 _ z
        rw [get_size] at e; cases e
      · rintro s' ⟨⟨x, b1⟩, b4, b6⟩
        refine wpAny_pyNext_enum_end ok.hd b1 b4 b6 (by simp [numbered_length, r1.length]) fun h3 kk => ⟨rfl, .mk, fun a o n e => kk a o (fun z => n (.inl z)) e⟩
      · rintro i s' Q ⟨⟨x, b1⟩, _⟩ q
        exact wpAny_pyIter_enum b1 q
end
end Mine

namespace Mine
open PySem PySem.W PyProof.Rows PySem.Calls PySem.Spec

section
variable {c : Ctx} (ok : c.Ok) {ρ : Loc} {O : Own}

theorem Rep.int_inv {Z : Addr → Prop} {h : Heap} {v : Value} {i : Int} (x : Rep Z h v (.int i)) : ∃ t, v = .int i t := by
  cases x with
  | int _ t => exact ⟨t, rfl⟩
theorem Rep.lst_inv {Z : Addr → Prop} {h : Heap} {v : Value} {ds : List D} (x : Rep Z h v (.lst ds)) : ∃ a vs, v = .ref a ∧ ¬ Z a ∧ h.IsList a vs.toArray ∧ Reps Z h vs ds := by
  cases x with
  | lst n hl r => exact ⟨_, _, rfl, n, hl, r⟩

include ok in
theorem ev_intb {p pos : Pos} {e : Expr} {Q : AV → Prop} (B : Bas c.w c.h0) (hk : c.env.kindOf (Str.ofString "int") = some .globalImplicit) (h : Ev c ρ O e fun a => ∃ b : Bool, a = .d (.bool b) ∧ Q (.d (.int (if b then 1 else 0))))
    (he : starEach [e] c.env = (false, eval e c.env) :: starEach [] c.env := by rfl) : Ev c ρ O (.Call (.Name (Str.ofString "int") p) [e] [] pos) Q := by
  refine ev_typN ok (id := "int") (P := fun as => ∃ b : Bool, as = [.d (.bool b)] ∧ Q (.d (.int (if b then 1 else 0)))) B hk (by rfl) (by boot_fast) (evl_cons (h.mono fun a ⟨x, e, q⟩ => evl_nil ⟨x, by rw [e], q⟩) he) ?_ he (fun pos => by rw [he]; rfl)
  rintro X W s vs as S has ⟨b, rfl, q⟩
  cases has with
  | cons y r =>
    cases r; cases y
    exact call_int_bool ⟨.tok S, AV.d _, Rep.int _ _, q⟩

theorem ints_of {Z : Addr → Prop} {h : Heap} : ∀ {vs : List Value} {ns : List Int}, Reps Z h vs (ns.map .int) → IntsAre vs ns
  | _, [], .nil => .nil
  | _, n :: ns, .cons x r => by cases x; exact .cons _ _ (ints_of r)

include ok in
theorem ev_sum {p pos : Pos} {e : Expr} {Q : AV → Prop} (B : Bas c.w c.h0) (hk : c.env.kindOf (Str.ofString "sum") = some .globalImplicit) (h : Ev c ρ O e fun a => ∃ ns : List Int, a = .d (.lst (ns.map .int)) ∧ Q (.d (.int ns.sum)))
    (he : starEach [e] c.env = (false, eval e c.env) :: starEach [] c.env := by rfl) : Ev c ρ O (.Call (.Name (Str.ofString "sum") p) [e] [] pos) Q := by
  refine ev_bltN ok (id := "sum") (P := fun as => ∃ ns : List Int, as = [.d (.lst (ns.map .int))] ∧ Q (.d (.int ns.sum))) B hk (by rfl) (by boot_fast) (evl_cons (h.mono fun a ⟨x, e, q⟩ => evl_nil ⟨x, by rw [e], q⟩) he) ?_ he (fun pos => by rw [he]; rfl)
  rintro X W s vs as S has ⟨ns, rfl, q⟩
  cases has with
  | cons y r =>
    cases r
    obtain ⟨l, us, rfl, n, hl, r⟩ := Rep.lst_inv y
    · skip
      have hi := ints_of r
      obtain ⟨xs, hx⟩ := hi.allInts.items
      refine sum_intListG (xs := xs) ok.hd (hx ▸ hl) fun h' tk t' hk => ?_
      have hnum : xs.toList.map (·.1) = ns := by rw [← nums_intItems, ← hx]; exact hi.numsOf
      rw [preSum_eq, List.take_of_length_le (by simp), hnum]
      exact ⟨.ext ok S hk, AV.d _, Rep.int _ _, q⟩

include ok in
theorem ev_isint {x : Str} {id : String} {p p2 pos : Pos} {e : Expr} {i : Int} {Q : AV → Prop} (B : Bas c.w c.h0) (hk : c.env.kindOf (Str.ofString "isinstance") = some .globalImplicit) (hk2 : c.env.kindOf x = some .globalImplicit) (e2 : nsIn (KK c.w) mainGlobals x = some none) (hv : bootBuiltins x = some (.type id))
    (hid : id = "str" ∨ id = "tuple") (h : Ev c ρ O e fun a => a = .d (.int i) ∧ Q (.d (.bool false)))
    (he : starEach [e, .Name x p2] c.env = (false, eval e c.env) :: (false, eval (.Name x p2) c.env) :: starEach [] c.env := by rfl) (hn : x ≠ "__name__" := by decide +kernel) (hd : (x == ("__debug__" : Str)) = false := by decide +kernel) :
    Ev c ρ O (.Call (.Name (Str.ofString "isinstance") p) [e, .Name x p2] [] pos) Q := .mk fun X W s S => by
  refine wpAny_Call_Name_kw (name_blt ok S B hk (v := .builtin "isinstance") (by rfl) (by boot_fast) ?_)
  have he2 : starEach [.Name x p2] c.env = (false, eval (.Name x p2) c.env) :: starEach [] c.env := rfl
  have hA : Wp c.w c.A (spliced (backTo pos (starEach [e, .Name x p2] c.env))) (fun vs s' => Aft c X W ρ O s s' ∧ ∃ t, vs = [.int i t, .type id] ∧ Q (.d (.bool false))) s := by
    refine wpAny_items_cons ((h.run X W s S).mono fun v s₁ ⟨A1, a, ha, e1, hq⟩ => ?_) he
    subst e1; cases ha
    refine wpAny_items_cons (name_blt ok A1.sta B hk2 e2 hv (wpAny_items_nil ?_) hn hd) rfl
    exact ⟨A1, _, rfl, hq⟩
  rw [he] at hA ⊢
  refine callWith_builtin rfl (evalArgs_plain (Wp.mono hA fun vs s₁ ⟨A1, t, e1, hq⟩ => ?_))
  subst e1
  show Wp c.w c.A (call (.builtin "isinstance") [.int i t, .type id]) _ s₁
  rcases hid with rfl | rfl
  · exact IsiPair.int_str ⟨A1.trans (.tok A1.sta), AV.d _, Rep.bool _, hq⟩
  · exact IsiPair.int_tuple ⟨A1.trans (.tok A1.sta), AV.d _, Rep.bool _, hq⟩

include ok in
/-- a new list out of a list's items. -/
theorem evf_listOf {p pos : Pos} {e : Expr} {Q : List AV → Prop} (B : Bas c.w c.h0) (hk : c.env.kindOf (Str.ofString "list") = some .globalImplicit) (h : Ev c ρ O e fun a => ∃ ds, a = .d (.lst ds) ∧ ds.length ≤ sizeLine ∧ Q (ds.map .d))
    (he : starEach [e] c.env = (false, eval e c.env) :: starEach [] c.env := by rfl) : EvF c ρ O (.Call (.Name (Str.ofString "list") p) [e] [] pos) Q := .mk fun X W s S => by
  refine wpAny_Call_Name_kw (name_blt ok S B hk (v := .type "list") (by rfl) (by boot_fast) ?_)
  have hh := (evl_cons (Q := fun as => ∃ ds, as = [.d (.lst ds)] ∧ ds.length ≤ sizeLine ∧ Q (ds.map .d)) (h.mono fun a ⟨n, e, r⟩ => evl_nil ⟨n, by rw [e], r⟩) he).run X W s pos S
  rw [he] at hh ⊢
  refine PyProof.Rows.callWith_type rfl (evalArgs_plain (Wp.mono hh fun vs s₁ ⟨A1, as, has, ds, e, h1, q⟩ => ?_))
  subst e
  cases has with
  | cons y r =>
    cases r
    obtain ⟨l, us, rfl, n, hl, r⟩ := Rep.lst_inv y
    · skip
      obtain ⟨o, ho, hc, m, hd⟩ := hl
      refine call_list_seq l (.inl rfl) ho hc hd (fun h' c' k g => ?_) (by simp [r.length]; exact h1)
      have k' : Ext s₁.heap h' := k
      exact ⟨A1.trans (.ext ok A1.sta k'), _, us, _, rfl, A1.fresh (get_size _), ⟨_, _, g, rfl, rfl, rfl⟩, AReps.ofReps (r.mono (fun a ⟨o, e⟩ q => q.elim id fun z => absurd (Heap.lt_size e) (z ▸ Nat.lt_irrefl _)) fun a o _ e => k' a o e), q⟩

theorem list_repZ {w : World} {A : Around} {s : Shared} {l : Addr} {its : Array Value} {x : Int} {u : Tok} {Q : Value → Shared → Prop} (hl : s.heap.IsList l its) (hk1 : ¬(!Builtin.List.listFitsIndex x) = true) (hk2 : ¬Builtin.List.listTooLong (its.size * x.toNat) = true) (hk3 : ¬ its.size * x.toNat > (2 ^ 63 - 1) / 8)
    (h : Q (.ref s.heap.objs.size) { s with heap := s.heap.push { cls := Value.type "list", data := Data.seq (List.foldl (fun x1 x2 => x1 ++ x2) #[] (List.replicate (if its.isEmpty = true then 0 else x.toNat) its)) } }) : Wp w A (binaryOp .Mult (.ref l) (.int x u)) Q s := by
  obtain ⟨⟨cls, d, data, sl⟩, ho, hcl, m, hd⟩ := id hl
  simp only at hcl hd
  subst hcl hd
  have inner := lm_list_mul_any l its m d sl x u hk1 hk3 hk2
  have outer := lm_int_rmul_list_any x u l its m d sl
  refine wpAny_binaryOp_repeat_ref (T := "list") (U := "int") (by decide) ⟨_, ho, rfl⟩ (fun s' => typeIs_int s' x u) noFill_list_mul F.fills_int_mul F.slot_int_rmul repeat_list F.slot_int_index.lookup
    (call_meets F.slot_int_rmul (typeIs_int s x u) F.entry_int_rmul (F.args_int_rmul_2 _ _) outer ⟨ho, rfl, ⟨_, ho, rfl⟩, call_meets F.slot_list_mul ⟨_, ho, rfl⟩ F.entry_list_mul (F.args_list_mul_2 _ _) inner ⟨ho, ?_⟩⟩)
  exact h
theorem list_rep {w : World} {A : Around} {s : Shared} {l : Addr} {us : List Value} {k : Nat} {u : Tok} {Q : Value → Shared → Prop} (hl : s.heap.IsList l us.toArray) (hlen : us.length * k ≤ 256) (hk : k < 2 ^ 62)
    (h : Q (.ref s.heap.objs.size) { s with heap := s.heap.push { cls := Value.type "list", data := Data.seq (List.replicate k us).flatten.toArray } }) : Wp w A (binaryOp .Mult (.ref l) (.int k u)) Q s := by
  have hkk : ((k : Int)).toNat = k := Int.toNat_natCast k
  have hsz' : us.toArray.size * (k : Int).toNat ≤ 256 := by rw [hkk]; simpa using hlen
  have hk1 : ¬(!Builtin.List.listFitsIndex (k : Int)) = true := by simp [Builtin.List.listFitsIndex]; omega
  have hk2 : ¬Builtin.List.listTooLong (us.toArray.size * (k : Int).toNat) = true := by simp only [Builtin.List.listTooLong, sizeLine]; intro z; have := of_decide_eq_true z; omega
  have hk3 : ¬ us.toArray.size * (k : Int).toNat > (2 ^ 63 - 1) / 8 := by first | lia | omega
  refine list_repZ hl hk1 hk2 hk3 ?_
  rw [hkk, listMul_foldl_if]
  exact h

include ok in
theorem evf_rep {l r : Expr} {pos : Pos} {Q : List AV → Prop} (h : Ev c ρ O l fun a => ∃ ds, a = .d (.lst ds) ∧ Ev c ρ O r fun b => ∃ k : Nat, b = .d (.int k) ∧ ds.length * k ≤ 256 ∧ k < 2 ^ 62 ∧ Q ((List.replicate k ds).flatten.map .d)) : EvF c ρ O (.BinOp l .Mult r pos) Q := .mk fun X W s S => by
  refine wpAny_BinOp ((h.run X W s S).mono fun u s₁ ⟨A1, a, ha, ds, e1, h1⟩ => (h1.run X W s₁ A1.sta).mono fun v s₂ ⟨A2, b, hb, k, e2, hlen, hk, hq⟩ => ?_)
  subst e1; subst e2
  have ha := ha.kp A2.kp
  obtain ⟨u, rfl⟩ := Rep.int_inv hb
  obtain ⟨l, us, rfl, n, hl, rr⟩ := Rep.lst_inv ha
  · skip
    have A12 := A1.trans A2
    refine list_rep hl (by simpa [rr.length] using hlen) hk ?_
    refine ⟨A12.trans (.ext ok A2.sta .push), _, (List.replicate k us).flatten, _, rfl, A12.fresh (get_size _), ⟨_, _, Heap.get?_push_size _ rfl, rfl, rfl, rfl⟩, AReps.ofReps ?_, hq⟩
    have key : ∀ k, Reps (fun a => Av c X a ∨ a = s₂.heap.objs.size) (s₂.heap.push { cls := Value.type "list", data := Data.seq (List.replicate k us).flatten.toArray }) (List.replicate k us).flatten (List.replicate k ds).flatten → True := fun _ _ => trivial
    have go : ∀ (h' : Heap), Ext s₂.heap h' → ∀ k, Reps (fun a => Av c X a ∨ a = s₂.heap.objs.size) h' (List.replicate k us).flatten (List.replicate k ds).flatten := fun h' e k => by
      induction k with
      | zero => exact .nil
      | succ k ih =>
        rw [List.replicate_succ, List.replicate_succ, List.flatten_cons, List.flatten_cons]
        exact (rr.mono (fun a ⟨o, e⟩ q => q.elim id fun z => absurd (Heap.lt_size e) (z ▸ Nat.lt_irrefl _)) fun a o _ q => e a o q).append ih
    exact go _ .push k

include ok in
theorem evf_disp {es : List Expr} {pos : Pos} {Q : List AV → Prop} (h : EvL c ρ O es fun as => as.length ≤ sizeLine ∧ Q as) : EvF c ρ O (.List es pos) Q := .mk fun X W s S => by
  refine wpAny_List ((h.run X W s pos S).mono fun vs s₁ ⟨A1, as, has, hl, hq⟩ => ⟨by rw [has.length]; exact hl, ?_⟩)
  exact ⟨A1.trans (.ext ok A1.sta .push), _, vs, as, rfl, A1.fresh (get_size _), ⟨_, _, Heap.get?_push_size _ rfl, rfl, rfl, rfl⟩, has.mono (fun a ⟨o, e⟩ q => q.elim id fun z => absurd (Heap.lt_size e) (z ▸ Nat.lt_irrefl _)) fun a o _ e => Ext.push a o e, hq⟩

include ok in
theorem ev_addl {l r : Expr} {pos : Pos} {Q : AV → Prop} (h : Ev c ρ O l fun a => ∃ xs, a = .d (.lst xs) ∧ Ev c ρ O r fun b => ∃ ys, b = .d (.lst ys) ∧ xs.length + ys.length ≤ 256 ∧ Q (.d (.lst (xs ++ ys)))) : Ev c ρ O (.BinOp l .Add r pos) Q := by
  refine ev_bin (P := fun a b => ∃ xs ys, a = .d (.lst xs) ∧ b = .d (.lst ys) ∧ xs.length + ys.length ≤ 256 ∧ Q (.d (.lst (xs ++ ys)))) (h.mono fun a ⟨x, e, h1⟩ => h1.mono fun b ⟨y, e2, h2⟩ => ⟨x, y, e, e2, h2⟩) ?_
  rintro X W s u v _ _ S ha hb ⟨xs, ys, rfl, rfl, hlen, hq⟩
  obtain ⟨l, us, rfl, n1, hl1, r1⟩ := Rep.lst_inv ha
  · obtain ⟨b, ws, rfl, n2, hl2, r2⟩ := Rep.lst_inv hb
    · skip
      obtain ⟨⟨cls, dd, data, sl⟩, ho, hc, n, hd⟩ := id hl1
      obtain ⟨⟨cls2, dd2, data2, sl2⟩, ho2, hc2, n2, hd2⟩ := id hl2
      simp only at hc hd hc2 hd2
      subst hc hd hc2 hd2
      have e : us.toArray ++ ws.toArray = (us ++ ws).toArray := by simp
      refine concat_meets ⟨_, ho, rfl⟩ ⟨_, ho2, rfl⟩ noFill_list_add seq_list_add PySem.F.slot_list_add PySem.F.entry_list_add (PySem.F.args_list_add_2 _ _) (list_addW l b us.toArray ws.toArray n n2 dd dd2 sl sl2 (by simp [r1.length, r2.length, sizeLine]; omega)) ⟨ho, ho2, ?_⟩
      rw [e]
      exact ⟨.ext ok S .push, AV.d _, .lst (vs := us ++ ws) (S.off (get_size _)) ⟨_, Heap.get?_push_size _ rfl, rfl, _, rfl⟩ ((r1.mono (fun _ _ q => q) fun a o _ e => Ext.push a o e).append (r2.mono (fun _ _ q => q) fun a o _ e => Ext.push a o e)), hq⟩

include ok in
theorem ev_upto {l u : Expr} {p pos : Pos} {Q : AV → Prop} (h : Ev c ρ O l fun a => ∃ xs, a = .d (.lst xs) ∧ xs.length ≤ 256 ∧ Ev c ρ O u fun b => ∃ k : Nat, b = .d (.int k) ∧ Q (.d (.lst (xs.take k))))
    (ht : ∀ o r, letTemporaryGo l o r = pure () := by intro _ _; rfl) : Ev c ρ O (.Subscript l (.Slice none (some u) none p) pos) Q := .mk fun X W s S => by
  refine wpAny_Subscript_list_slice ((h.run X W s S).mono fun v s₁ ⟨A1, a, ha, xs, e1, hlen, h1⟩ => ?_) ht
  subst e1
  rw [evalPart_none]
  refine wpAny_pure ((h1.run X W s₁ A1.sta).mono fun v s₂ ⟨A2, b, hb, k, e2, hq⟩ => ?_)
  subst e2
  have ha := ha.kp A2.kp
  obtain ⟨t, rfl⟩ := Rep.int_inv hb
  obtain ⟨l, us, rfl, n, hl, r⟩ := Rep.lst_inv ha
  · skip
    have hsz : us.toArray.size ≤ sizeLine := by simp [r.length, sizeLine]; omega
    refine ⟨l, _, _, _, rfl, hl, hsz, .none, .int _ _, ?_⟩
    have e : slicePick us.toArray none (some (k : Int)) none = (us.take k).toArray := by
      have := slicePick_upto' us.toArray k
      simpa using this
    rw [e]
    have e' : Ext s₂.heap ((s₂.heap.push { cls := .type "slice", data := .fields #[.none, .int (k : Int) t, .none] }).push { cls := .type "list", data := .seq (us.take k).toArray }) := Ext.push.trans .push
    have := Heap.get?_push_size (s₂.heap.push { cls := .type "slice", data := .fields #[.none, .int (k : Int) t, .none] }) (o := { cls := .type "list", data := .seq (us.take k).toArray }) rfl
    rw [Heap.size_push] at this
    exact ⟨(A1.trans A2).trans (.ext ok A2.sta e'), AV.d _, .lst (vs := us.take k) (A2.sta.off (Heap.get?_none_of_le (Nat.le_succ _))) ⟨_, this, rfl, _, rfl⟩ ((r.mono (fun _ _ q => q) fun a o _ q => e' a o q).take k), hq⟩

include ok in
theorem ev_from {l u : Expr} {p pos : Pos} {Q : AV → Prop} (h : Ev c ρ O l fun a => ∃ xs, a = .d (.lst xs) ∧ xs.length ≤ 256 ∧ Ev c ρ O u fun b => ∃ k : Nat, b = .d (.int k) ∧ Q (.d (.lst (xs.drop k))))
    (ht : ∀ o r, letTemporaryGo l o r = pure () := by intro _ _; rfl) : Ev c ρ O (.Subscript l (.Slice (some u) none none p) pos) Q := .mk fun X W s S => by
  refine wpAny_Subscript_list_slice ((h.run X W s S).mono fun v s₁ ⟨A1, a, ha, xs, e1, hlen, h1⟩ => ?_) ht
  subst e1
  refine (h1.run X W s₁ A1.sta).mono fun v s₂ ⟨A2, b, hb, k, e2, hq⟩ => ?_
  rw [evalPart_none]
  refine wpAny_pure ?_
  subst e2
  have ha := ha.kp A2.kp
  obtain ⟨t, rfl⟩ := Rep.int_inv hb
  obtain ⟨l, us, rfl, n, hl, r⟩ := Rep.lst_inv ha
  · skip
    have hsz : us.toArray.size ≤ sizeLine := by simp [r.length, sizeLine]; omega
    refine ⟨l, _, _, _, rfl, hl, hsz, .int _ _, .none, ?_⟩
    have e : slicePick us.toArray (some (k : Int)) none none = (us.drop k).toArray := by
      have := slicePick_from' us.toArray k
      simpa using this
    rw [e]
    have e' : Ext s₂.heap ((s₂.heap.push { cls := .type "slice", data := .fields #[.int (k : Int) t, .none, .none] }).push { cls := .type "list", data := .seq (us.drop k).toArray }) := Ext.push.trans .push
    have := Heap.get?_push_size (s₂.heap.push { cls := .type "slice", data := .fields #[.int (k : Int) t, .none, .none] }) (o := { cls := .type "list", data := .seq (us.drop k).toArray }) rfl
    rw [Heap.size_push] at this
    exact ⟨(A1.trans A2).trans (.ext ok A2.sta e'), AV.d _, .lst (vs := us.drop k) (A2.sta.off (Heap.get?_none_of_le (Nat.le_succ _))) ⟨_, this, rfl, _, rfl⟩ ((r.mono (fun _ _ q => q) fun a o _ q => e' a o q).drop k), hq⟩

/-! ### more comparisons -/
theorem cmp_neB : CmpOk c .NotEq (fun a b t => ∃ x y, a = .d (.bool x) ∧ b = .d (.bool y) ∧ t = (x != y)) := by
  rintro ρ O X W s u v _ _ _ S ha hb ⟨x, y, rfl, rfl, rfl⟩
  cases ha; cases hb
  exact ne_bool ⟨rfl, .refl S⟩

/-- whole numbers in a list. -/
def IntsOf (O : Own) (a : AV) (ns : List Int) : Prop := a = .d (.lst (ns.map .int)) ∨ ∃ p, a = .p p ∧ (p, ns.map fun n => AV.d (.int n)) ∈ O
theorem cmp_in {O : Own} {ns : List Int} {b : AV} (hb : IntsOf O b ns) {l r : Expr} {pos : Pos} {Q : AV → Prop} (h : Ev c ρ O l fun a => ∃ k, a = .d (.int k) ∧ Ev c ρ O r fun b' => b' = b ∧ Q (.d (.bool (ns.any (· == k)))))
    (hm : behindInMarks .In r = false := by with_unfolding_all rfl) : Ev c ρ O (.Compare l [.In] [r] pos) Q := .mk fun X W s S => by
  refine wpAny_Compare1 ((h.run X W s S).mono fun u s₁ ⟨A1, a, ha, k, e1, h1⟩ => (h1.run X W s₁ A1.sta).mono fun v s₂ ⟨A2, b', hb', e2, hq⟩ => ?_) hm
  subst e1; subst e2
  cases ha
  rcases hb with rfl | ⟨p, rfl, hm⟩
  · cases hb' with
    | lst n hl rr => exact in_list_ints hl (ints_of rr) ⟨A1.trans A2, AV.d _, Rep.bool _, hq⟩
  · cases hb'
    obtain ⟨_, _, _, _, _, vs, hl, _, hr⟩ := A2.sta.own _ hm
    have hr : AReps (Av c X) s₂.heap vs ((ns.map D.int).map AV.d) := by rw [List.map_map]; exact hr
    exact in_list_ints hl (ints_of hr.toReps) ⟨A1.trans A2, AV.d _, Rep.bool _, hq⟩
theorem tr_in {O : Own} {ns : List Int} {b : AV} (hb : IntsOf O b ns) {l r : Expr} {pos : Pos} {Q : Bool → Prop} (h : Ev c ρ O l fun a => ∃ k, a = .d (.int k) ∧ Ev c ρ O r fun b' => b' = b ∧ Q (ns.any (· == k)))
    (hm : behindInMarks .In r = false := by with_unfolding_all rfl) : Tr c ρ O (.Compare l [.In] [r] pos) Q := .mk fun X W s S => by
  refine wpAny_isTrue_Compare1 ((h.run X W s S).mono fun u s₁ ⟨A1, a, ha, k, e1, h1⟩ => (h1.run X W s₁ A1.sta).mono fun v s₂ ⟨A2, b', hb', e2, hq⟩ => ?_) hm
  subst e1; subst e2
  cases ha
  rcases hb with rfl | ⟨p, rfl, hm⟩
  · cases hb' with
    | lst n hl rr => exact in_list_ints hl (ints_of rr) (wpAny_truthy_bool ⟨A1.trans A2, hq⟩)
  · cases hb'
    obtain ⟨_, _, _, _, _, vs, hl, _, hr⟩ := A2.sta.own _ hm
    have hr : AReps (Av c X) s₂.heap vs ((ns.map D.int).map AV.d) := by rw [List.map_map]; exact hr
    exact in_list_ints hl (ints_of hr.toReps) (wpAny_truthy_bool ⟨A1.trans A2, hq⟩)
end
end Mine

namespace Mine
open PySem PySem.W PyProof.Rows PySem.Calls PySem.Spec PySem.SeqAt

/-! ### equality of data -/
mutual
def toPy : D → PyData
  | .none => .none
  | .bool b => .bool b
  | .int i => .int i
  | .tup ds => .tuple (toPys ds)
  | .lst ds => .list (toPys ds)
  | .fn _ => .none
def toPys : List D → List PyData
  | [] => []
  | d :: ds => toPy d :: toPys ds
end
mutual
def fnLess : D → Bool
  | .tup ds => fnLessAll ds
  | .lst ds => fnLessAll ds
  | .fn _ => false
  | _ => true
def fnLessAll : List D → Bool
  | [] => true
  | d :: ds => fnLess d && fnLessAll ds
end
mutual
theorem Rep.reads {Z : Addr → Prop} {h : Heap} : ∀ {v : Value} {d : D}, Rep Z h v d → fnLess d = true → ∃ as, Reads h v (toPy d) as
  | _, _, .none, _ => ⟨_, .none⟩
  | _, _, .bool b, _ => ⟨_, .bool b⟩
  | _, _, .int i t, _ => ⟨_, .int i t⟩
  | _, _, .tup n x r, e => by
    obtain ⟨o, ho, hc, m, hd⟩ := x
    obtain ⟨as, ha⟩ := Reps.reads r (by rw [fnLess] at e; exact e)
    exact ⟨_, .tuple ho hc hd ha⟩
  | _, _, .lst n x r, e => by
    obtain ⟨o, ho, hc, m, hd⟩ := x
    obtain ⟨as, ha⟩ := Reps.reads r (by rw [fnLess] at e; exact e)
    exact ⟨_, .list ho hc hd ha⟩
  | _, _, .fn x, e => by rw [fnLess] at e; cases e
theorem Reps.reads {Z : Addr → Prop} {h : Heap} : ∀ {vs : List Value} {ds : List D}, Reps Z h vs ds → fnLessAll ds = true → ∃ as, ReadsAll h vs (toPys ds) as
  | _, _, .nil, _ => ⟨_, .nil⟩
  | _, _, .cons x r, e => by
    rw [fnLessAll, Bool.and_eq_true] at e
    obtain ⟨as, ha⟩ := Rep.reads x e.1
    obtain ⟨bs, hb⟩ := Reps.reads r e.2
    exact ⟨_, .cons ha hb⟩
end

def EqP (t : Bool → Bool) : AV → AV → Bool → Prop := fun a b r => ∃ x y, a = .d x ∧ b = .d y ∧ fnLess x = true ∧ fnLess y = true ∧ shaped (toPy x) = true ∧ shaped (toPy y) = true ∧ r = t (PyData.eqv (toPy x) (toPy y))
section
variable {c : Ctx} (ok : c.Ok) {ρ : Loc} {O : Own}
include ok in
theorem cmp_eqD : CmpOk c .Eq (EqP id) := by
  rintro ρ O X W s u v _ _ _ S ha hb ⟨x, y, rfl, rfl, h1, h2, h3, h4, rfl⟩
  obtain ⟨as, ra⟩ := Rep.reads ha h1
  obtain ⟨bs, rb⟩ := Rep.reads hb h2
  exact eq_dataH ra rb h3 h4 (by have := ok.units; omega) ⟨rfl, .refl S⟩
include ok in
theorem cmp_neD : CmpOk c .NotEq (EqP not) := by
  rintro ρ O X W s u v _ _ _ S ha hb ⟨x, y, rfl, rfl, h1, h2, h3, h4, rfl⟩
  obtain ⟨as, ra⟩ := Rep.reads ha h1
  obtain ⟨bs, rb⟩ := Rep.reads hb h2
  exact ne_dataH ra rb h3 h4 (by have := ok.units; omega) ⟨rfl, .refl S⟩

/-! grids of whole numbers -/
abbrev gridD (g : List (List Int)) : D := .lst (g.map rowD)
theorem toPys_ints : ∀ r : List Int, toPys (r.map .int) = r.map .int
  | [] => rfl
  | x :: r => by rw [List.map_cons, toPys, toPys_ints r]; rfl
theorem toPys_rows : ∀ g : List (List Int), toPys (g.map rowD) = g.map fun r => .list (r.map .int)
  | [] => rfl
  | x :: r => by rw [List.map_cons, toPys, toPys_rows r, toPy, toPys_ints]; rfl
theorem fnLess_ints : ∀ r : List Int, fnLessAll (r.map .int) = true
  | [] => rfl
  | x :: r => by rw [List.map_cons, fnLessAll, fnLess_ints r]; rfl
theorem fnLess_rows : ∀ g : List (List Int), fnLessAll (g.map rowD) = true
  | [] => rfl
  | x :: r => by rw [List.map_cons, fnLessAll, fnLess_rows r, fnLess, fnLess_ints]; rfl
theorem eqvAll_map {α : Type} [DecidableEq α] (f : α → PyData) (hf : ∀ a b, PyData.eqv (f a) (f b) = decide (a = b)) : ∀ xs ys : List α, PyData.eqvAll (xs.map f) (ys.map f) = decide (xs = ys)
  | [], [] => by simp [PyData.eqvAll]
  | [], _ :: _ => by simp [PyData.eqvAll]
  | _ :: _, [] => by simp [PyData.eqvAll]
  | x :: xs, y :: ys => by
    rw [List.map_cons, List.map_cons, PyData.eqvAll, hf, eqvAll_map f hf xs ys]
    by_cases h1 : x = y <;> by_cases h2 : xs = ys <;> simp [h1, h2]
theorem eqv_grid (g g' : List (List Int)) : PyData.eqv (toPy (gridD g)) (toPy (gridD g')) = decide (g = g') := by
  rw [gridD, gridD, toPy, toPy, toPys_rows, toPys_rows, PyData.eqv]
  refine eqvAll_map _ (fun a b => ?_) g g'
  rw [PyData.eqv]
  refine eqvAll_map _ (fun a b => ?_) a b
  rw [PyData.eqv]
  by_cases h : a = b <;> simp [h]
theorem canLay_all {α : Type} (f : α → PyData) (hf : ∀ a, (f a).canLay0 = true) : ∀ xs : List α, PyData.canLayAll0 (xs.map f) = true
  | [] => by simp [PyData.canLayAll0]
  | x :: xs => by rw [List.map_cons, PyData.canLayAll0, hf, canLay_all f hf xs]; rfl
theorem depth_all {α : Type} (f : α → PyData) (n : Nat) (hf : ∀ a, (f a).depth ≤ n) : ∀ xs : List α, PyData.depthAll (xs.map f) ≤ n
  | [] => by simp [PyData.depthAll]
  | x :: xs => by rw [List.map_cons, PyData.depthAll]; exact Nat.max_le.mpr ⟨hf x, depth_all f n hf xs⟩
theorem shaped_grid (g : List (List Int)) : shaped (toPy (gridD g)) = true := by
  rw [gridD, toPy, toPys_rows, shaped, Bool.and_eq_true]
  refine ⟨?_, decide_eq_true ?_⟩
  · rw [PyData.canLay0]
    refine canLay_all _ (fun a => ?_) g
    rw [PyData.canLay0]
    exact canLay_all _ (fun a => by simp [PyData.canLay0]) a
  · rw [PyData.depth]
    have : PyData.depthAll (g.map fun r => PyData.list (r.map .int)) ≤ 1 := by
      refine depth_all _ 1 (fun a => ?_) g
      rw [PyData.depth]
      have := depth_all PyData.int 0 (fun a => by simp [PyData.depth]) a
      omega
    omega
theorem gridP (t : Bool → Bool) (g g' : List (List Int)) : EqP t (.d (gridD g)) (.d (gridD g')) (t (decide (g = g'))) :=
  ⟨_, _, rfl, rfl, by rw [gridD, fnLess]; exact fnLess_rows g, by rw [gridD, fnLess]; exact fnLess_rows g', shaped_grid g, shaped_grid g', by rw [eqv_grid]⟩

/-! pairs of whole numbers -/
abbrev pairD (e : Nat × Nat) : D := .tup [.int e.1, .int e.2]
abbrev pairsD (l : List (Nat × Nat)) : D := .lst (l.map pairD)
theorem toPys_pairs : ∀ l : List (Nat × Nat), toPys (l.map pairD) = l.map fun e => .tuple [.int e.1, .int e.2]
  | [] => rfl
  | x :: r => by rw [List.map_cons, toPys, toPys_pairs r, toPy]; rfl
theorem fnLess_pairs : ∀ l : List (Nat × Nat), fnLessAll (l.map pairD) = true
  | [] => rfl
  | x :: r => by rw [List.map_cons, fnLessAll, fnLess_pairs r]; rfl
theorem nilP (t : Bool → Bool) (l : List (Nat × Nat)) : EqP t (.d (pairsD l)) (.d (.lst [])) (t (decide (l = []))) := by
  refine ⟨_, _, rfl, rfl, by rw [pairsD, fnLess]; exact fnLess_pairs l, rfl, ?_, by decide, ?_⟩
  · rw [pairsD, toPy, toPys_pairs, shaped, Bool.and_eq_true]
    refine ⟨?_, decide_eq_true ?_⟩
    · rw [PyData.canLay0]
      exact canLay_all _ (fun a => by simp [PyData.canLay0, PyData.canLayAll0]) l
    · rw [PyData.depth]
      have := depth_all (fun e : Nat × Nat => PyData.tuple [.int e.1, .int e.2]) 1 (fun a => by simp [PyData.depth, PyData.depthAll]) l
      omega
  · rw [pairsD, toPy, toPy, toPys_pairs, toPys, PyData.eqv]
    cases l <;> simp [PyData.eqvAll]

/-! ### appending -/
include ok in
theorem ex1_append {x : Str} {px apos pos pos2 : Pos} {elt : Expr} {T : Addr} {as : List AV} {Qn : Loc → Own → Prop} {Qr : D → Prop} (hp : c.pl = true) (hx : ρ.lookup x = some (.p T)) (hO : (T, as) ∈ O) (hlen : as.length ≤ sizeLine)
    (h : Ev c ρ O elt fun a => Qn ρ (O.setAt T (as ++ [a])))
    (hbase : attributeBase (.Name x px) "append" c.env (eval (.Name x px) c.env) = eval (.Name x px) c.env := by rfl)
    (hline : (apos.endLine == pos.line) = true := by rfl)
    (htrees : starEach [elt] c.env = [(false, eval elt c.env)] := by rfl)
    (hi : interactive c.env = false := by rfl) (hs : swapsWith (.Call (.Attribute (.Name x px) "append" apos) [elt] [] pos) none pos2.line c.env = pure false := by rfl)
    (hd : (x == ("__debug__" : Str)) = false := by decide +kernel) (hn : (x == ("__classdict__" : Str)) = false := by decide +kernel) :
    Ex1 c ρ O (.Expr (.Call (.Attribute (.Name x px) "append" apos) [elt] [] pos) pos2) Qn Qr := .mk fun X W s S => by
  have hb : backTo pos (starEach [elt] c.env) = [(false, eval elt c.env)] := by rw [htrees]; rfl
  refine wpAny_Expr (wpAny_Call_append hbase (by rw [hb]; rfl) hline hb (wpAny_Name (load_var ok S hx hn fun v hv => ?_) hd)) hi hs
  cases hv
  obtain ⟨_, _, _, _, _, us, _, hpl, _⟩ := S.own _ hO
  refine ⟨T, us.toArray, rfl, hpl hp, (h.run X W s S).mono fun y s₁ ⟨A1, a, ha, hq⟩ => ?_⟩
  have S2 := A1.sta
  obtain ⟨x, w, f, l, cl, vs, hl, hpl, hr⟩ := S2.own _ hO
  have hpl := hpl hp
  refine list_append_plainL hpl (fun h' p' hs' => ?_) (by simpa [hr.length] using hlen)
  obtain ⟨t1, t2, t3, t4, t5⟩ := S2.turn ok x w f hs' (by obtain ⟨o, _, e, _, _, d⟩ := p'; exact ⟨o, e, fun _ _ _ z => by rw [d] at z; cases z⟩)
  obtain ⟨m, cm, F, R⟩ := S2.fr
  refine ⟨A1.res.trans .mk, X, ρ, _, ⟨t1, S2.amb, t2, t3, S2.vx, t4, S2.wx, ⟨m, cm, ⟨F.ns.sameBut hs' (Ne.symm l), F.lX, F.lW, F.lF, fun y k e => (F.cell y k e).sameBut hs' (cl y k e), F.cX, F.apart⟩, fun y b e => ?_⟩, fun q hq => ?_, by rw [setAt_fst]; exact S2.nd⟩, (Rel.kp A1.kp).trans t5, hq⟩
  · obtain ⟨u, g1, g2⟩ := R y b e
    exact ⟨u, g1, turn_rep x hs' g2⟩
  · rcases mem_setAt hq with ⟨rfl, _⟩ | ⟨hq, hne⟩
    · have p2 : PlainL h' T (vs ++ [y]).toArray := by simpa using p'
      exact ⟨x, w, f, l, cl, vs ++ [y], p2.isList, fun _ => p2, turn_reps x hs' (hr.append (.cons ha .nil))⟩
    · obtain ⟨g1, g2, g3, g4, g5, us, g6, g8, g7⟩ := S2.own q hq
      exact ⟨g1, g2, g3, g4, g5, us, g6.at fun o e => (hs'.2 _ hne).trans e, fun p => by obtain ⟨o, n, e, r⟩ := g8 p; exact ⟨o, n, (hs'.2 _ hne).trans e, r⟩, turn_reps x hs' g7⟩

/-! ### what is handed back -/
mutual
inductive Froz (O : Own) : AV → D → Prop
  | d {x : D} : Froz O (.d x) x
  | p {T : Addr} {as : List AV} {ds : List D} : (T, as) ∈ O → Frozs O as ds → Froz O (.p T) (.lst ds)
inductive Frozs (O : Own) : List AV → List D → Prop
  | nil : Frozs O [] []
  | cons {a : AV} {x : D} {as : List AV} {ds : List D} : Froz O a x → Frozs O as ds → Frozs O (a :: as) (x :: ds)
end
mutual
theorem Froz.rep {X W : Addr → Prop} {h : Heap} (S : Sta c X W ρ O h) (x0 : ∀ q ∈ O, ¬ (c.X0 q.1 ∨ c.V q.1)) : ∀ {a : AV} {d : D} {v : Value}, Froz O a d → ARep (Av c X) h v a → Rep (fun a => c.X0 a ∨ c.V a) h v d
  | _, _, _, .d, r => Rep.mono (fun a _ q => q.imp (S.amb a) id) (fun _ _ _ e => e) r
  | _, _, _, .p hm fs, r => by
    cases r
    obtain ⟨_, _, _, _, _, vs, hl, _, hr⟩ := S.own _ hm
    exact .lst (x0 _ hm) hl (Frozs.rep S x0 fs hr)
theorem Frozs.rep {X W : Addr → Prop} {h : Heap} (S : Sta c X W ρ O h) (x0 : ∀ q ∈ O, ¬ (c.X0 q.1 ∨ c.V q.1)) : ∀ {as : List AV} {ds : List D} {vs : List Value}, Frozs O as ds → AReps (Av c X) h vs as → Reps (fun a => c.X0 a ∨ c.V a) h vs ds
  | _, _, _, .nil, r => by cases r; exact .nil
  | _, _, _, .cons f fs, r => by
    cases r with
    | cons x r => exact .cons (Froz.rep S x0 f x) (Frozs.rep S x0 fs r)
end
theorem Frozs.ds : ∀ (ds : List D), Frozs O (ds.map .d) ds
  | [] => .nil
  | _ :: ds => .cons .d (Frozs.ds ds)
include ok in
theorem off_x0 {X W : Addr → Prop} {h : Heap} (S : Sta c X W ρ O h) : ∀ q ∈ O, ¬ (c.X0 q.1 ∨ c.V q.1) := fun q hq z => by
  obtain ⟨x, _, f, _⟩ := S.own q hq
  rcases z with z | z
  · obtain ⟨o, e⟩ := ok.x0 _ z
    rw [f] at e; cases e
  · exact S.vx _ z x
include ok in
theorem ex1_retF {e : Expr} {pos : Pos} {Qn : Loc → Own → Prop} {Qr : D → Prop} (h : Ev c ρ O e fun a => ∃ d, Froz O a d ∧ Qr d) : Ex1 c ρ O (.Return (some e) pos) Qn Qr := .mk fun X W s S => by
  refine wpAny_Return_some ((h.run X W s S).mono fun v s₁ ⟨A1, a, ha, d, hf, hq⟩ => ?_)
  exact ⟨A1.res, A1.sta.base, A1.sta.inv, A1.sta.vn, d, Froz.rep A1.sta (off_x0 ok A1.sta) hf ha, hq⟩
include ok in
theorem ex1_retT {es : List Expr} {k : Nat} {p pos : Pos} {Qn : Loc → Own → Prop} {Qr : D → Prop} (h : EvL c ρ O es fun as => ∃ ds, Frozs O as ds ∧ as.length ≤ sizeLine ∧ Qr (.tup ds)) : Ex1 c ρ O (.Return (some (.Tuple es k p)) pos) Qn Qr := .mk fun X W s S => by
  refine wpAny_Return_some (wpAny_Tuple ((h.run X W s p S).mono fun vs s₁ ⟨A1, as, has, ds, hf, hl, hq⟩ => ⟨by rw [has.length]; exact hl, ?_⟩))
  have e : Ext s₁.heap (s₁.heap.push { cls := .type "tuple", data := .seq vs.toArray }) := .push
  have S2 := A1.sta.ext ok e
  refine ⟨A1.res.trans .mk, S2.base, S2.inv, S2.vn, .tup ds, .tup (fun z => ?_) ⟨_, Heap.get?_push_size _ rfl, rfl, _, rfl⟩ (Frozs.rep S2 (off_x0 ok S2) hf (has.kp e.kp)), hq⟩
  rcases z with z | z
  · obtain ⟨o, e⟩ := A1.sta.bnd _ (A1.sta.amb _ z)
    rw [get_size] at e; cases e
  · obtain ⟨o, e⟩ := A1.sta.vb _ z
    rw [get_size] at e; cases e
end
end Mine

namespace Mine
open PySem PySem.W PyProof.Rows PySem.Calls PySem.Spec

def LamR (k : Nat) (a b r : Int) : Prop := if k = 0 then r = a + b else IntMulOk a b ∧ r = a * b

theorem lam_call {w : World} {A : Around} {s : Shared} {Z : Addr → Prop} {f : Addr} {k : Nat} {a b r : Int} {t u : Tok} {Q : Value → Shared → Prop} (hroom : A.depth < recursionLimit) (B : s.heap.NoLimit) (L : IsLam Z s.heap k f) (hr : LamR k a b r)
    (h : ∀ h' tk t', Ext s.heap h' → Q (.int r t') { s with heap := h', toks := tk }) : Wp w A (call (.ref f) [.int a t, .int b u]) Q s := by
  obtain ⟨o, fd, c, oc, vs, tq, _, ho, hd, ⟨x, y, p1, p2, p3, hbody, hbind, hx, hy, dx, dy, hxy, hco, hgen, hk, hcell⟩, hc, _, hoc, hdc, hq⟩ := L
  refine wpAny_call (kla_callFunE hroom ho hd hco hgen hbody ⟨c, oc, vs, tq, hc, hoc, hdc, hq⟩ ?_)
  rw [hbind]
  refine wpAny_pure (wpAny_newFunctionEnv hcell (fun q hq => ?_) (fun h₁ hns hsb => ⟨B.fresh _ hsb, ?_⟩) hk)
  · rcases List.mem_cons.mp hq with rfl | hq
    · exact hx
    · rcases List.mem_cons.mp hq with rfl | hq
      · exact hy
      · cases hq
  have ex : Ext s.heap h₁ := fun b o e => hsb.extBut b o (Nat.ne_of_lt (Heap.lt_size e)) (Heap.get?_push_of_some _ e)
  have l1 : ([(x, Value.int a t), (y, Value.int b u)].reverse.lookup x) = some (.int a t) := by
    show List.lookup x [(y, Value.int b u), (x, Value.int a t)] = _
    simp [List.lookup_cons, hxy]
  have l2 : ([(x, Value.int a t), (y, Value.int b u)].reverse.lookup y) = some (.int b u) := by
    show List.lookup y [(y, Value.int b u), (x, Value.int a t)] = _
    simp [List.lookup_cons]
  refine kla_codeExpr (Wp.monoE (Q := fun v s' => Q v s') ?_ fun _ _ q => q)
  refine wpAny_BinOp (wpAny_Name (wpAny_loadName_local hk hx hns l1 (wpAny_Name (wpAny_loadName_local hk hy hns l2 ?_) dy)) dx)
  unfold LamR at hr
  by_cases hk0 : k = 0
  · rw [if_pos hk0] at hr ⊢
    subst hr
    exact add_int (h h₁ _ _ ex)
  · rw [if_neg hk0] at hr ⊢
    obtain ⟨hm, rfl⟩ := hr
    exact mul_int (h h₁ _ _ ex) hm

section
variable {c : Ctx} (ok : c.Ok) {ρ : Loc} {O : Own}
include ok in
theorem ev_callLam {x : Str} {p pos : Pos} {e1 e2 : Expr} {k : Nat} {Q : AV → Prop} (B : Bas c.w c.h0) (hx : ρ.lookup x = some (.d (.fn k)))
    (h : EvL c ρ O [e1, e2] fun as => ∃ a b r, as = [.d (.int a), .d (.int b)] ∧ LamR k a b r ∧ Q (.d (.int r)))
    (he : starEach [e1, e2] c.env = (false, eval e1 c.env) :: starEach [e2] c.env := by rfl) (hd : (x == ("__debug__" : Str)) = false := by decide +kernel) (hn : (x == ("__classdict__" : Str)) = false := by decide +kernel) :
    Ev c ρ O (.Call (.Name x p) [e1, e2] [] pos) Q := .mk fun X W s S => by
  refine wpAny_Call_Name_kw (wpAny_Name (load_var ok S hx hn fun v hv => ?_) hd)
  have hh := h.run X W s pos S
  rw [he] at hh ⊢
  cases hv with
  | fn L =>
    obtain ⟨o, fd, c', oc, vs', tq, nz, ho, hd, L'⟩ := id L
    refine callWith_function (o := o) (fd := fd) (evalArgs_plain (Wp.mono hh fun vs s₁ ⟨A1, as, has, a, b, r, e, hr, hq⟩ => ?_))
    subst e
    have L1 := IsLam.mono (Z' := Av c X) (h' := s₁.heap) (fun _ _ q => q) (fun a o n e => A1.kp a o (fun q => n (.inr q)) e) L
    refine ⟨⟨A1.kp _ _ (fun q => nz (.inr q)) ho, hd⟩, ?_⟩
    cases has with
    | cons u r =>
      cases r with
      | cons v r =>
        cases r; cases u; cases v
        refine lam_call (by have := ok.room; omega) (B.ext A1.sta.base).nolimit L1 hr fun h' tk t' ex => ?_
        exact ⟨A1.trans (.ext ok A1.sta ex), AV.d _, Rep.int _ _, hq⟩
end
end Mine

namespace Mine
theorem divInt_parts (a b : Int) (hb : b ≠ 0) (p : Int) (hp : p = if 0 < b then ((Nat.gcd a.natAbs b.natAbs : Nat) : Int) else -((Nat.gcd a.natAbs b.natAbs : Nat) : Int)) : (Rat.divInt a b).num = a.fdiv p ∧ ((Rat.divInt a b).den : Int) = b.fdiv p := by
  have hg : 0 < Nat.gcd a.natAbs b.natAbs := Nat.gcd_pos_of_pos_right _ (by first | lia | omega)
  have e1 : b.gcd a = Nat.gcd a.natAbs b.natAbs := by rw [Int.gcd_comm]; rfl
  have da : ((Nat.gcd a.natAbs b.natAbs : Nat) : Int) ∣ a := Int.ofNat_dvd_left.mpr (Nat.gcd_dvd_left _ _)
  have db : ((Nat.gcd a.natAbs b.natAbs : Nat) : Int) ∣ b := Int.ofNat_dvd_left.mpr (Nat.gcd_dvd_right _ _)
  rw [Rat.num_divInt, Rat.den_divInt, if_neg hb, e1]
  generalize Nat.gcd a.natAbs b.natAbs = g at *
  obtain ⟨x, hx⟩ := da
  obtain ⟨y, hy⟩ := db
  have hg0 : (g : Int) ≠ 0 := by first | lia | omega
  rcases Int.lt_or_gt_of_ne hb with h | h
  · rw [if_neg (by first | lia | omega)] at hp
    have hp0 : p ≠ 0 := by first | lia | omega
    have ea : a = p * (-x) := by rw [hx, hp]; grind
    have eb : b = p * (-y) := by rw [hy, hp]; grind
    rw [Int.sign_eq_neg_one_of_neg h]
    constructor
    · have : -1 * a / (g : Int) = -x := by rw [hx, show -1 * ((g : Int) * x) = (g : Int) * (-x) by grind, Int.mul_ediv_cancel_left _ hg0]
      rw [this]
      conv => rhs; rw [ea]
      rw [Int.mul_fdiv_cancel_left _ hp0]
    · have hn : (b.natAbs : Int) = -b := by first | lia | omega
      have : (((b.natAbs / g : Nat)) : Int) = -y := by rw [Int.natCast_ediv, hn, hy, show -((g : Int) * y) = (g : Int) * (-y) by grind, Int.mul_ediv_cancel_left _ hg0]
      rw [this]
      conv => rhs; rw [eb]
      rw [Int.mul_fdiv_cancel_left _ hp0]
  · rw [if_pos h] at hp
    subst hp
    rw [Int.sign_eq_one_of_pos h, Int.one_mul]
    constructor
    · rw [hx, Int.mul_fdiv_cancel_left _ hg0, Int.mul_ediv_cancel_left _ hg0]
    · have hn : (b.natAbs : Int) = b := by first | lia | omega
      rw [Int.natCast_ediv, hn, hy, Int.mul_fdiv_cancel_left _ hg0, Int.mul_ediv_cancel_left _ hg0]

def Sq (k : Nat) (x : Rat) : Prop := x.num.natAbs < 2 ^ k ∧ x.den < 2 ^ k
theorem Sq.mono {k l : Nat} {x : Rat} (h : Sq k x) (e : k ≤ l) : Sq l x :=
  ⟨Nat.lt_of_lt_of_le h.1 (Nat.pow_le_pow_right (by decide) e), Nat.lt_of_lt_of_le h.2 (Nat.pow_le_pow_right (by decide) e)⟩
theorem divInt_sq {k : Nat} {a b : Int} (hb : b ≠ 0) (h1 : a.natAbs < 2 ^ k) (h2 : b.natAbs < 2 ^ k) : Sq k (Rat.divInt a b) := by
  constructor
  · rw [Rat.num_divInt]
    refine Nat.lt_of_le_of_lt ?_ h1
    refine Nat.le_trans (Int.natAbs_ediv_le_natAbs _ _) ?_
    rw [Int.natAbs_mul]
    rcases Int.lt_or_gt_of_ne hb with h | h
    · rw [Int.sign_eq_neg_one_of_neg h]; simp
    · rw [Int.sign_eq_one_of_pos h]; simp
  · rw [Rat.den_divInt, if_neg hb]
    exact Nat.lt_of_le_of_lt (Nat.div_le_self _ _) h2
theorem mul_divInt (x y : Rat) : x * y = Rat.divInt (x.num * y.num) (x.den * y.den) := by
  conv => lhs; rw [← Rat.num_divInt_den x, ← Rat.num_divInt_den y]
  rw [Rat.divInt_mul_divInt]
theorem sub_divInt (x y : Rat) : x - y = Rat.divInt (x.num * y.den - y.num * x.den) (x.den * y.den) := by
  conv => lhs; rw [← Rat.num_divInt_den x, ← Rat.num_divInt_den y]
  rw [Rat.divInt_sub_divInt _ _ (by simp [x.den_nz]) (by simp [y.den_nz])]
theorem div_divInt (x y : Rat) : x / y = Rat.divInt (x.num * y.den) (x.den * y.num) := by
  conv => lhs; rw [← Rat.num_divInt_den x, ← Rat.num_divInt_den y]
  rw [Rat.div_def, Rat.inv_divInt, Rat.divInt_mul_divInt]
theorem natAbs_mul_lt {a b : Int} {k l : Nat} (h1 : a.natAbs < 2 ^ k) (h2 : b.natAbs < 2 ^ l) : (a * b).natAbs < 2 ^ (k + l) := by
  rw [Int.natAbs_mul, Nat.pow_add]
  exact Nat.mul_lt_mul_of_lt_of_lt h1 h2
theorem Sq.mul {k l : Nat} {x y : Rat} (h : Sq k x) (g : Sq l y) : Sq (k + l) (x * y) := by
  rw [mul_divInt]
  refine divInt_sq (by have := x.den_nz; have := y.den_nz; intro z; rcases Int.mul_eq_zero.mp z with z | z <;> omega) (natAbs_mul_lt h.1 g.1) (natAbs_mul_lt (by simpa using h.2) (by simpa using g.2))
theorem Sq.sub {k l : Nat} {x y : Rat} (h : Sq k x) (g : Sq l y) : Sq (k + l + 1) (x - y) := by
  rw [sub_divInt]
  have e1 : (x.num * y.den).natAbs < 2 ^ (k + l) := natAbs_mul_lt h.1 (by simpa using g.2)
  have e2 : (y.num * x.den).natAbs < 2 ^ (k + l) := by rw [Nat.add_comm]; exact natAbs_mul_lt g.1 (by simpa using h.2)
  refine divInt_sq (by have := x.den_nz; have := y.den_nz; intro z; rcases Int.mul_eq_zero.mp z with z | z <;> omega) ?_ ?_
  · have : 2 ^ (k + l + 1) = 2 * 2 ^ (k + l) := by rw [Nat.pow_succ]; omega
    omega
  · exact Nat.lt_of_lt_of_le (natAbs_mul_lt (k := k) (l := l) (by simpa using h.2) (by simpa using g.2)) (Nat.pow_le_pow_right (by decide) (by first | lia | omega))
theorem Sq.div {k l : Nat} {x y : Rat} (hy : y ≠ 0) (h : Sq k x) (g : Sq l y) : Sq (k + l) (x / y) := by
  rw [div_divInt]
  have hn : y.num ≠ 0 := by simpa using hy
  refine divInt_sq (by have := x.den_nz; intro z; rcases Int.mul_eq_zero.mp z with z | z <;> omega) (natAbs_mul_lt h.1 (by simpa using g.2)) (natAbs_mul_lt (by simpa using h.2) g.1)
theorem Sq.neg {k : Nat} {x : Rat} (h : Sq k x) : Sq k (-x) := ⟨by simpa using h.1, by simpa using h.2⟩
theorem log2_lt' {n k : Nat} (h : n < 2 ^ k) (hk : 0 < k) : n.log2 < k := by
  by_cases h0 : n = 0
  · subst h0; simpa using hk
  · exact (Nat.log2_lt h0).mpr h
end Mine

namespace Mine
def dt (n : Nat) (M : Nat → Nat → Rat) : Rat :=
  if n = 2 then M 0 0 * M 1 1 - M 0 1 * M 1 0
  else M 0 0 * (M 1 1 * M 2 2 - M 1 2 * M 2 1) - M 0 1 * (M 1 0 * M 2 2 - M 1 2 * M 2 0) + M 0 2 * (M 1 0 * M 2 1 - M 1 1 * M 2 0)

def unitTo (n a : Nat) (M : Nat → Nat → Rat) : Prop := ∀ i, i < n → ∀ j, j < a → M i j = if i = j then 1 else 0
def swapR (p a : Nat) (M : Nat → Nat → Rat) : Nat → Nat → Rat := fun i => if i = a then M p else if i = p then M a else M i
def normR (a : Nat) (M : Nat → Nat → Rat) : Nat → Nat → Rat := fun i j => if i = a then M a j / M a a else M i j
def clearR (a : Nat) (M : Nat → Nat → Rat) : Nat → Nat → Rat := fun i j => if i = a then M a j else M i j - M i a * M a j

theorem dt_none {n a : Nat} {M : Nat → Nat → Rat} (hn : n = 2 ∨ n = 3) (ha : a < n) (u : unitTo n a M) (z : ∀ j, a ≤ j → j < n → M j a = 0) : dt n M = 0 := by
  unfold unitTo at u
  rcases hn with rfl | rfl
  · rcases or2 ha with rfl | rfl
    · have z0 := z 0 (by decide) (by decide); have z1 := z 1 (by decide) (by decide)
      simp only [dt, if_pos]; grind
    · have z1 := z 1 (by decide) (by decide)
      have u0 := u 0 (by decide) 0 (by decide); have u1 := u 1 (by decide) 0 (by decide)
      simp at u0 u1
      simp only [dt, if_pos]; grind
  · rcases or3 ha with rfl | rfl | rfl
    · have z0 := z 0 (by decide) (by decide); have z1 := z 1 (by decide) (by decide); have z2 := z 2 (by decide) (by decide)
      simp [dt, z0, z1, z2]; grind
    · have z1 := z 1 (by decide) (by decide); have z2 := z 2 (by decide) (by decide)
      have u0 := u 0 (by decide) 0 (by decide); have u1 := u 1 (by decide) 0 (by decide); have u2 := u 2 (by decide) 0 (by decide)
      simp at u0 u1 u2
      simp [dt, z1, z2, u0, u1, u2]; grind
    · have z2 := z 2 (by decide) (by decide)
      have u0 := u 0 (by decide) 0 (by decide); have u1 := u 1 (by decide) 0 (by decide); have u2 := u 2 (by decide) 0 (by decide)
      have v0 := u 0 (by decide) 1 (by decide); have v1 := u 1 (by decide) 1 (by decide); have v2 := u 2 (by decide) 1 (by decide)
      simp at u0 u1 u2 v0 v1 v2
      simp [dt, z2, u0, u1, u2, v0, v1, v2]; grind
theorem dt_unit {n : Nat} {M : Nat → Nat → Rat} (hn : n = 2 ∨ n = 3) (u : unitTo n n M) : dt n M = 1 := by
  unfold unitTo at u
  rcases hn with rfl | rfl
  · have u0 := u 0 (by decide) 0 (by decide); have u1 := u 1 (by decide) 0 (by decide)
    have v0 := u 0 (by decide) 1 (by decide); have v1 := u 1 (by decide) 1 (by decide)
    simp at u0 u1 v0 v1
    simp only [dt, if_pos]; grind
  · have u0 := u 0 (by decide) 0 (by decide); have u1 := u 1 (by decide) 0 (by decide); have u2 := u 2 (by decide) 0 (by decide)
    have v0 := u 0 (by decide) 1 (by decide); have v1 := u 1 (by decide) 1 (by decide); have v2 := u 2 (by decide) 1 (by decide)
    have w0 := u 0 (by decide) 2 (by decide); have w1 := u 1 (by decide) 2 (by decide); have w2 := u 2 (by decide) 2 (by decide)
    simp at u0 u1 u2 v0 v1 v2 w0 w1 w2
    simp [dt, u0, u1, u2, v0, v1, v2, w0, w1, w2]; grind
theorem dt_swap {n a p : Nat} {M : Nat → Nat → Rat} (hn : n = 2 ∨ n = 3) (ha : a < p) (hp : p < n) : dt n (swapR p a M) = - dt n M := by
  rcases hn with rfl | rfl
  · have : a = 0 ∧ p = 1 := by first | lia | omega
    obtain ⟨rfl, rfl⟩ := this
    simp [dt, swapR]; grind
  · have : (a = 0 ∧ p = 1) ∨ (a = 0 ∧ p = 2) ∨ (a = 1 ∧ p = 2) := by first | lia | omega
    rcases this with ⟨rfl, rfl⟩ | ⟨rfl, rfl⟩ | ⟨rfl, rfl⟩ <;> simp [dt, swapR] <;> grind
theorem dt_norm {n a : Nat} {M : Nat → Nat → Rat} (hn : n = 2 ∨ n = 3) (ha : a < n) (h : M a a ≠ 0) : dt n M = M a a * dt n (normR a M) := by
  rcases hn with rfl | rfl
  · rcases or2 ha with rfl | rfl <;> simp [dt, normR] <;> grind
  · rcases or3 ha with rfl | rfl | rfl <;> simp [dt, normR] <;> grind
theorem dt_clear {n a : Nat} {M : Nat → Nat → Rat} (hn : n = 2 ∨ n = 3) (ha : a < n) (h : M a a = 1) : dt n (clearR a M) = dt n M := by
  rcases hn with rfl | rfl
  · rcases or2 ha with rfl | rfl <;> simp [dt, clearR] <;> grind
  · rcases or3 ha with rfl | rfl | rfl <;> simp [dt, clearR] <;> grind
theorem unit_step {n a p : Nat} {M N : Nat → Nat → Rat} (hap : a ≤ p) (hp : p < n) (u : unitTo n a M) (hN : ∀ i j, N i j = if p = a then M i j else swapR p a M i j) (h : N a a ≠ 0) : unitTo n (a + 1) (clearR a (normR a N)) := by
  have uN : unitTo n a N := fun i hi j hj => by
    rw [hN]
    by_cases hpa : p = a
    · rw [if_pos hpa]; exact u i hi j hj
    · rw [if_neg hpa]; unfold swapR
      by_cases h1 : i = a
      · rw [if_pos h1, u p hp j hj, if_neg (by first | lia | omega), if_neg (by first | lia | omega)]
      · rw [if_neg h1]
        by_cases h2 : i = p
        · rw [if_pos h2, u a (by first | lia | omega) j hj, if_neg (by first | lia | omega), if_neg (by first | lia | omega)]
        · rw [if_neg h2]; exact u i hi j hj
  intro i hi j hj
  unfold clearR normR
  have haa : N a a / N a a = 1 := by grind
  by_cases h1 : i = a
  · subst h1
    simp only [if_true]
    by_cases h2 : j = i
    · subst h2; rw [if_pos rfl]; exact haa
    · rw [if_neg (Ne.symm h2), uN i hi j (by first | lia | omega), if_neg (Ne.symm h2)]; grind
  · simp only [if_true, if_neg h1]
    by_cases h2 : j = a
    · subst h2; rw [if_neg h1, haa]; grind
    · rw [uN a (by first | lia | omega) j (by first | lia | omega), uN i hi j (by first | lia | omega), if_neg (Ne.symm h2)]; grind
end Mine

namespace Mine
open PySem PySem.W PyProof.Rows PySem.Calls PySem.Spec

theorem br_f {t : Bool} {A B : Prop} (h : t = false) (k : B) : if t = true then A else B := by rw [h]; exact k
theorem br_t {t : Bool} {A B : Prop} (h : t = true) (k : A) : if t = true then A else B := by rw [h]; exact k
theorem closOk_of {env : Env} {names : List (Str × NameKind)} (h : (names.all fun q => q.2 != .free || ((env.kindOf q.1 == some .cell || env.kindOf q.1 == some .free) && (env.cells.lookup q.1).isSome)) = true) : ClosOk env names := fun x hx => by
  have := List.all_eq_true.mp h _ hx
  simpa using this
theorem seen_look {scope : Scope} {ρ : Loc} {x : Str} {a : AV} (hf : (scope.names.lookup x == some NameKind.free) = true) (h : ρ.lookup x = some a) : (seen scope ρ).lookup x = some a := by
  induction ρ with
  | nil => cases h
  | cons q r ih =>
    obtain ⟨y, b⟩ := q
    rw [List.lookup_cons] at h
    cases hb : x == y with
    | true =>
      rw [hb] at h
      have hy : (scope.names.lookup y == some NameKind.free) = true := by rw [← beq_iff_eq.mp hb]; exact hf
      rw [seen, List.filter_cons, if_pos hy, List.lookup_cons, hb]; exact h
    | false =>
      rw [hb] at h
      rw [seen, List.filter_cons]
      split
      · rw [List.lookup_cons, hb]; exact ih h
      · exact ih h
theorem nat_beq_f {a b : Nat} (h : a ≠ b) : ((a : Int) == (b : Int)) = false := beq_eq_false_iff_ne.mpr fun z => h (Int.ofNat_inj.mp z)
theorem nat_beq_t {a b : Nat} (h : a = b) : ((a : Int) == (b : Int)) = true := by rw [h]; exact beq_self_eq_true _

section
variable {c : Ctx} (ok : c.Ok) {ρ : Loc} {O : Own}
include ok in
theorem ex1_swap2 {x y : Str} {px py : Pos} {e1 e2 : Expr} {k k2 : Nat} {tp vp pos : Pos} {Qn : Loc → Own → Prop} {Qr : D → Prop}
    (h : Ev c ρ O e1 fun a => ∃ d1, a = .d d1 ∧ Ev c ρ O e2 fun b => ∃ d2, b = .d d2 ∧ Qn ((x, .d d1) :: (y, .d d2) :: ρ) O)
    (hx : MayStore c.env x = true := by rfl) (hy : MayStore c.env y = true := by rfl)
    (hs : swapsWithSole [.Tuple [.Name x px, .Name y py] k tp] (.Tuple [e1, e2] k2 vp) pos.line c.env = pure false := by rfl) (hw : swappedStores [.Tuple [.Name x px, .Name y py] k tp] (.Tuple [e1, e2] k2 vp) c.env = pure (some [x, y]) := by rfl)
    (he1 : starEach (e1 :: [e2]) c.env = (false, eval e1 c.env) :: starEach [e2] c.env := by rfl) (he2 : starEach (e2 :: []) c.env = (false, eval e2 c.env) :: starEach [] c.env := by rfl) :
    Ex1 c ρ O (.Assign [.Tuple [.Name x px, .Name y py] k tp] (.Tuple [e1, e2] k2 vp) pos) Qn Qr := by
  refine ex1_swapped (names := [x, y]) ok (evl_cons (h.mono fun a ⟨d1, ea, h1⟩ => evl_cons (h1.mono fun b ⟨d2, eb, q⟩ => evl_nil ⟨[d1, d2], ?_, rfl, ?_, q⟩) he2) he1) ?_ hs hw
  · rw [ea, eb]; rfl
  · show 2 ≤ sizeLine; decide
  · intro z hz
    rcases List.mem_cons.mp hz with rfl | hz
    · exact hx
    · rw [List.mem_singleton.mp hz]; exact hy

include ok in
theorem asg_tup2 {t1 t2 : Expr} {k : Nat} {pos : Pos} {d1 d2 : D} {Q : Loc → Own → Prop} (h : Asg c ρ O t1 (.d d1) fun ρ' O' => Asg c ρ' O' t2 (.d d2) Q)
    (he : assignEach [t1, t2] c.env = [t1, t2].map fun t => (false, assign t c.env) := by rfl) : Asg c ρ O (.Tuple [t1, t2] k pos) (.d (.tup [d1, d2])) Q :=
  asg_tup ok (asgl_cons ⟨fun X W s v S hv => (h.run X W s v S hv).mono fun _ s' ⟨r, ρ', O', S', l, h'⟩ => ⟨r, ρ', O', S', l, asgl_cons ⟨fun X W s v S hv => (h'.run X W s v S hv).mono fun _ s' ⟨r, ρ', O', S', l, h'⟩ => ⟨r, ρ', O', S', l, asgl_nil h'⟩⟩⟩⟩) rfl he

include ok in
theorem ev_tup2 {e1 e2 : Expr} {k : Nat} {pos : Pos} {Q : AV → Prop} (h : Ev c ρ O e1 fun a => ∃ d1, a = .d d1 ∧ Ev c ρ O e2 fun b => ∃ d2, b = .d d2 ∧ Q (.d (.tup [d1, d2])))
    (he1 : starEach (e1 :: [e2]) c.env = (false, eval e1 c.env) :: starEach [e2] c.env := by rfl) (he2 : starEach (e2 :: []) c.env = (false, eval e2 c.env) :: starEach [] c.env := by rfl) : Ev c ρ O (.Tuple [e1, e2] k pos) Q := by
  refine ev_tup ok (evl_cons (h.mono fun a ⟨d1, ea, h1⟩ => evl_cons (h1.mono fun b ⟨d2, eb, q⟩ => evl_nil ⟨[d1, d2], ?_, ?_, q⟩) he2) he1)
  · rw [ea, eb]; rfl
  · show 2 ≤ sizeLine; decide
end

end Mine

namespace Mine
open PySem PySem.W PyProof.Rows PySem.Calls PySem.Spec

local macro_rules | `(tactic| walk_at "m:1") => `(tactic| first
  | refine ex_nil ?_
  | refine ex_cons ?_
  | refine ev_var (by assumption) (by rfl) ?_
  | refine ev_int ?_
  | refine ev_none ?_
  | refine ⟨_, rfl, ?_⟩
  | refine ev_add ?_
  | refine ev_sub ?_
  | refine ev_mul ?_
  | refine ev_fdiv ?_
  | refine ev_mod ?_
  | refine ev_pow ?_
  | refine ev_neg ?_
  | refine ev_tup2 (by assumption) ?_
  | refine evl_cons ?_
  | refine evl_nil ?_
  | refine ev_item ?_
  | refine ev_ite ?_
  | refine ev_abs (by assumption) (by assumption) rfl ?_
  | refine ev_len (by assumption) (by assumption) rfl ?_
  | refine ev_intb (by assumption) (by assumption) rfl ?_
  | refine ev_sum (by assumption) (by assumption) rfl ?_
  | refine tr_and ?_
  | refine tr_or ?_
  | refine tr_cmp cmp_gtI ?_
  | refine tr_cmp cmp_eqI ?_
  | refine tr_cmp cmp_neI ?_
  | refine tr_cmp cmp_ltI ?_
  | refine tr_cmp cmp_leI ?_
  | refine tr_cmp cmp_geI ?_
  | refine ⟨_, ⟨_, _, rfl, rfl, rfl⟩, ?_⟩
  | refine ex1_if ?_
  | refine ex1_ret ?_
  | refine ex1_swap2 (by assumption) ?_
  | refine ex1_assign (by assumption) ?_
  | refine asg_name (by assumption) (by rfl) ?_
  | refine asg_tup2 (by assumption) ?_
  | refine ⟨_, _, rfl, ⟨by decide, by decide, .inl ⟨_, _, .inl rfl, rfl, rfl⟩⟩, ?_⟩)
local macro_rules | `(tactic| walk_at "m:bind") => `(tactic| (rintro (_ | ⟨a, _ | ⟨b, _ | ⟨d, _ | ⟨e, _⟩⟩⟩⟩) h <;> first | rfl | (simp at h)))
local macro_rules | `(tactic| walk_at "m:*") => `(tactic| repeat (walk_at "m:1"))

theorem sp_common_divisor (w : World) (a b : Int) : Spec w 1 84 [.int a, .int b] (fun d => d = .int (Nat.gcd a.natAbs b.natAbs : Nat)) := by
  refine spec_intro false [Str.ofString "one", Str.ofString "other"] rfl rfl ?_ rfl (by decide +kernel) (by rfl) rfl rfl rfl ?_
  · walk_at "m:bind"
  intro A h0 L X0 ok B
  walk_at "m:*"
  refine ex1_while (fun y ρ O => O = [] ∧ ∃ x : Nat, Nat.gcd x y = Nat.gcd a.natAbs b.natAbs ∧ ρ.lookup (Str.ofString "one") = some (.d (.int x)) ∧ ρ.lookup (Str.ofString "other") = some (.d (.int y))) b.natAbs ⟨rfl, _, rfl, by rfl, by rfl⟩ ?_
  rintro y ρ O ⟨rfl, x, hg, hx, hy⟩
  refine tr_cmp cmp_gtI ?_
  refine ev_var ok hy ?_
  walk_at "m:*"
  by_cases h : 0 < y
  · rw [if_pos (by simpa using h)]
    refine ex_cons ?_
    refine ex1_swap2 ok ?_
    refine ev_var ok hy ?_
    refine ⟨_, rfl, ?_⟩
    refine ev_mod ?_
    refine ev_var ok hx ?_
    refine ⟨_, rfl, ?_⟩
    refine ev_var ok hy ?_
    refine ⟨_, rfl, by first | lia | omega, _, rfl, ?_⟩
    refine ex_nil ⟨x % y, Nat.mod_lt _ h, rfl, y, ?_, by rfl, ?_⟩
    · rw [← hg, Nat.gcd_comm x y, Nat.gcd_comm y (x % y), ← Nat.gcd_rec]
    · show some _ = _
      rw [Int.fmod_eq_emod_of_nonneg _ (by first | lia | omega)]; rfl
  · rw [if_neg (by simpa using h)]
    have h0 : y = 0 := by first | lia | omega
    subst h0
    refine ex_cons (ex1_ret (ev_var ok hx ⟨_, rfl, ?_⟩))
    rw [← hg, Nat.gcd_zero_right]

abbrev DQ (x : Rat) : D := .tup [.int x.num, .int x.den]

theorem fdiv_small {g : Nat} {p : Int} (hp : p.natAbs = g) (hg : g < 2 ^ 8999) : p.natAbs.log2 < 9000 := by
  rw [hp]; exact Nat.lt_of_lt_of_le (log2_lt' hg (by decide)) (by decide)

theorem sp_fraction (w : World) (a b : Int) (hb : b ≠ 0) (hs : b.natAbs < 2 ^ 8999) : Spec w 2 91 [.int a, .int b] (fun d => d = DQ (Rat.divInt a b)) := by
  have hg : 0 < Nat.gcd a.natAbs b.natAbs := Nat.gcd_pos_of_pos_right _ (by first | lia | omega)
  have hgb : Nat.gcd a.natAbs b.natAbs < 2 ^ 8999 := Nat.lt_of_le_of_lt (Nat.gcd_le_right _ (by first | lia | omega)) hs
  have parts := divInt_parts a b hb
  refine spec_intro false [Str.ofString "above", Str.ofString "below"] rfl rfl ?_ rfl (by decide +kernel) (by rfl) rfl rfl rfl ?_
  · walk_at "m:bind"
  intro A h0 L X0 ok B
  walk_at "m:*"
  refine ev_call ok B rfl rfl (Nat.le_refl 1) ⟨_, _, rfl, rfl⟩ ?_
  walk_at "m:*"
  refine ⟨_, _, _, .d (.d .nil), sp_common_divisor w a b, ?_⟩
  rintro _ rfl
  refine ⟨.inl rfl, ?_⟩
  generalize Nat.gcd a.natAbs b.natAbs = G at *
  walk_at "m:*"
  by_cases h : 0 < b
  · rw [if_pos (by simpa using h)]
    obtain ⟨p1, p2⟩ := parts G (by rw [if_pos h])
    have hl := fdiv_small (g := G) (p := (G : Int)) (by first | lia | omega) hgb
    have h0' : (G : Int) ≠ 0 := by first | lia | omega
    walk_at "m:*"
    refine ⟨h0', hl, ?_⟩
    walk_at "m:*"
    refine ⟨h0', hl, ?_⟩
    walk_at "m:*"
    rw [DQ, p1, p2]
  · rw [if_neg (by simpa using h)]
    obtain ⟨p1, p2⟩ := parts (-(G : Int)) (by rw [if_neg h])
    have hl := fdiv_small (g := G) (p := -(G : Int)) (by first | lia | omega) hgb
    have h0' : -(G : Int) ≠ 0 := by first | lia | omega
    walk_at "m:*"
    refine ⟨h0', hl, ?_⟩
    walk_at "m:*"
    refine ⟨h0', hl, ?_⟩
    walk_at "m:*"
    rw [DQ, p1, p2]

theorem mulOk {a b : Int} (ha : a.natAbs < 2 ^ 20000) (hb : b.natAbs < 2 ^ 20000) : IntMulOk a b := by
  have bits : ∀ {x : Int}, x.natAbs < 2 ^ 20000 → Builtin.Int.intBits x ≤ 2 ^ 20 := fun {x} h => by
    have := log2_lt' h (by decide)
    unfold Builtin.Int.intBits
    split <;> omega
  exact IntMulOk.of_bits (bits ha) (bits hb)
theorem Sq.n {x : Rat} (h : Sq 4000 x) : x.num.natAbs < 2 ^ 20000 := Nat.lt_of_lt_of_le h.1 (Nat.pow_le_pow_right (by decide) (by decide))
theorem Sq.d {x : Rat} (h : Sq 4000 x) : (x.den : Int).natAbs < 2 ^ 20000 := by
  rw [Int.natAbs_natCast]; exact Nat.lt_of_lt_of_le h.2 (Nat.pow_le_pow_right (by decide) (by decide))
theorem Sq.dd {x y : Rat} (h : Sq 4000 x) (g : Sq 4000 y) : ((x.den : Int) * y.den).natAbs < 2 ^ 8999 :=
  Nat.lt_of_lt_of_le (natAbs_mul_lt (k := 4000) (l := 4000) (by simpa using h.2) (by simpa using g.2)) (Nat.pow_le_pow_right (by decide) (by decide))
theorem Sq.dn {x y : Rat} (h : Sq 4000 x) (g : Sq 4000 y) : ((x.den : Int) * y.num).natAbs < 2 ^ 8999 :=
  Nat.lt_of_lt_of_le (natAbs_mul_lt (k := 4000) (l := 4000) (by simpa using h.2) g.1) (Nat.pow_le_pow_right (by decide) (by decide))
theorem den0 (x y : Rat) : (x.den : Int) * y.den ≠ 0 := by
  have := x.den_nz; have := y.den_nz
  intro z; rcases Int.mul_eq_zero.mp z with z | z <;> omega

theorem sp_times (w : World) (x y : Rat) (hx : Sq 4000 x) (hy : Sq 4000 y) : Spec w 3 105 [DQ x, DQ y] (fun d => d = DQ (x * y)) := by
  refine spec_intro false [Str.ofString "one", Str.ofString "other"] rfl rfl ?_ rfl (by decide +kernel) (by rfl) rfl rfl rfl ?_
  · walk_at "m:bind"
  intro A h0 L X0 ok B
  walk_at "m:*"
  refine ev_call ok B rfl rfl (Nat.le_refl 2) ⟨_, _, rfl, rfl⟩ ?_
  walk_at "m:*"
  refine ⟨mulOk hx.n hy.n, ?_⟩
  walk_at "m:*"
  refine ⟨mulOk hx.d hy.d, ?_⟩
  walk_at "m:*"
  refine ⟨_, _, _, .d (.d .nil), sp_fraction w _ _ (den0 x y) (hx.dd hy), ?_⟩
  rintro _ rfl
  exact ⟨.inl rfl, _, rfl, by rw [mul_divInt]⟩

theorem sp_less (w : World) (x y : Rat) (hx : Sq 4000 x) (hy : Sq 4000 y) : Spec w 3 112 [DQ x, DQ y] (fun d => d = DQ (x - y)) := by
  refine spec_intro false [Str.ofString "one", Str.ofString "other"] rfl rfl ?_ rfl (by decide +kernel) (by rfl) rfl rfl rfl ?_
  · walk_at "m:bind"
  intro A h0 L X0 ok B
  walk_at "m:*"
  refine ev_call ok B rfl rfl (Nat.le_refl 2) ⟨_, _, rfl, rfl⟩ ?_
  walk_at "m:*"
  refine ⟨mulOk hx.n hy.d, ?_⟩
  walk_at "m:*"
  refine ⟨mulOk hy.n hx.d, ?_⟩
  walk_at "m:*"
  refine ⟨mulOk hx.d hy.d, ?_⟩
  walk_at "m:*"
  refine ⟨_, _, _, .d (.d .nil), sp_fraction w _ _ (den0 x y) (hx.dd hy), ?_⟩
  rintro _ rfl
  exact ⟨.inl rfl, _, rfl, by rw [sub_divInt]⟩

theorem sp_by (w : World) (x y : Rat) (h0y : y ≠ 0) (hx : Sq 4000 x) (hy : Sq 4000 y) : Spec w 3 119 [DQ x, DQ y] (fun d => d = DQ (x / y)) := by
  have hn : y.num ≠ 0 := by simpa using h0y
  refine spec_intro false [Str.ofString "one", Str.ofString "other"] rfl rfl ?_ rfl (by decide +kernel) (by rfl) rfl rfl rfl ?_
  · walk_at "m:bind"
  intro A h0 L X0 ok B
  walk_at "m:*"
  refine ev_call ok B rfl rfl (Nat.le_refl 2) ⟨_, _, rfl, rfl⟩ ?_
  walk_at "m:*"
  refine ⟨mulOk hx.n hy.d, ?_⟩
  walk_at "m:*"
  refine ⟨mulOk hx.d hy.n, ?_⟩
  walk_at "m:*"
  refine ⟨_, _, _, .d (.d .nil), sp_fraction w _ _ (by have := x.den_nz; intro z; rcases Int.mul_eq_zero.mp z with z | z <;> omega) (hx.dn hy), ?_⟩
  rintro _ rfl
  exact ⟨.inl rfl, _, rfl, by rw [div_divInt]⟩

def Figs (n f : Nat) : Prop := 1 ≤ f ∧ n < 10 ^ f ∧ (f = 1 ∨ 10 ^ (f - 1) ≤ n)

theorem sp_figures (w : World) (n : Nat) : Spec w 1 44 [.int n] (fun d => ∃ f : Nat, d = .int f ∧ Figs n f) := by
  refine spec_intro false [Str.ofString "number"] rfl rfl ?_ rfl (by decide +kernel) (by rfl) rfl rfl rfl ?_
  · walk_at "m:bind"
  intro A h0 L X0 ok B
  walk_at "m:*"
  refine ex1_while (fun k ρ O => O = [] ∧ ∃ m : Nat, k = n - m ∧ 1 ≤ m ∧ (m = 1 ∨ 10 ^ (m - 1) ≤ n) ∧ ρ.lookup (Str.ofString "many") = some (.d (.int m)) ∧ ρ.lookup (Str.ofString "bound") = some (.d (.int (10 ^ m : Nat))) ∧ ρ.lookup (Str.ofString "number") = some (.d (.int n))) _ ⟨rfl, 1, rfl, by decide, .inl rfl, by rfl, by rfl, by rfl⟩ ?_
  rintro k ρ O ⟨rfl, m, rfl, h1, h2, hm, hb, hn⟩
  refine tr_cmp cmp_leI ?_
  refine ev_var ok hb ?_
  refine ev_var ok hn ?_
  refine ⟨_, ⟨_, _, rfl, rfl, rfl⟩, ?_⟩
  by_cases h : 10 ^ m ≤ n
  · rw [if_pos (by simpa using Int.ofNat_le.mpr h)]
    have hlt : m < n := Nat.lt_of_lt_of_le (Nat.lt_pow_self (by decide)) h
    refine ex_cons (ex1_aug (P := fun j r => IntMulOk ((10 ^ m : Nat) : Int) j ∧ r = ((10 ^ m : Nat) : Int) * j) ok hb (by rfl) ?_ aug_mul)
    refine ev_int ⟨_, _, rfl, ⟨IntMulOk.of_right (by decide), rfl⟩, ?_⟩
    refine ex_cons (ex1_aug (P := fun j r => r = (m : Int) + j) ok (i := m) hm (by rfl) ?_ aug_add)
    refine ev_int ⟨_, _, rfl, rfl, ?_⟩
    refine ex_nil ⟨n - (m + 1), by first | lia | omega, rfl, m + 1, rfl, by first | lia | omega, .inr (by simpa using h), by rfl, ?_, hn⟩
    show some _ = some _
    rw [Nat.pow_succ]; push_cast; rfl
  · rw [if_neg (fun z => h (Int.ofNat_le.mp (of_decide_eq_true z)))]
    refine ex_cons (ex1_ret (ev_var ok hm ⟨_, rfl, m, rfl, h1, by first | lia | omega, h2⟩))

theorem Figs.uniq {n f g : Nat} (a : Figs n f) (b : Figs n g) : f = g := by
  obtain ⟨a1, a2, a3⟩ := a
  obtain ⟨b1, b2, b3⟩ := b
  have key : ∀ {f g : Nat}, 1 ≤ g → n < 10 ^ f → (g = 1 ∨ 10 ^ (g - 1) ≤ n) → 1 ≤ f → g ≤ f := fun {f g} h1 h2 h3 h4 => by
    rcases h3 with h3 | h3
    · omega
    · have : 10 ^ (g - 1) < 10 ^ f := Nat.lt_of_le_of_lt h3 h2
      have := (Nat.pow_lt_pow_iff_right (by decide : 1 < 10)).mp this
      omega
  exact Nat.le_antisymm (key a1 b2 a3 b1) (key b1 a2 b3 a1)

/-- where nothing is lost: q tens to the p. -/
theorem sp_rounded (w : World) (q p f : Nat) (hp : 1 ≤ p) (hp' : p ≤ 900) (hf : Figs (q * 10 ^ p) f) (hpf : p ≤ f + 1) (hq : q < 2 ^ 10000) : Spec w 2 51 [.int (q * 10 ^ p : Nat), .int p] (fun d => d = .int q) := by
  refine spec_intro false [Str.ofString "number", Str.ofString "places"] rfl rfl ?_ rfl (by decide +kernel) (by rfl) rfl rfl rfl ?_
  · walk_at "m:bind"
  intro A h0 L X0 ok B
  generalize hN : q * 10 ^ p = N at *
  walk_at "m:*"
  rw [if_neg (by simp; omega)]
  walk_at "m:*"
  refine ev_call ok B rfl rfl (Nat.le_refl 1) ⟨_, _, rfl, rfl⟩ ?_
  walk_at "m:*"
  refine ⟨_, _, _, .d .nil, sp_figures w N, ?_⟩
  rintro _ ⟨g, rfl, hg⟩
  have := Figs.uniq hf hg; subst this
  refine ⟨.inl rfl, ?_⟩
  walk_at "m:*"
  rw [if_neg (by simp; omega)]
  walk_at "m:*"
  refine ⟨by first | lia | omega, by first | lia | omega, by decide, ?_⟩
  have hU : (10 : Int) ^ (p : Int).toNat = ((10 ^ p : Nat) : Int) := by rw [Int.toNat_natCast]; push_cast; rfl
  rw [hU]
  have hU0 : 0 < 10 ^ p := Nat.pow_pos (by decide)
  have hUb : 10 ^ p < 2 ^ 8999 := by
    have h1 : 10 ^ p < 2 ^ (4 * p) := by
      rw [Nat.pow_mul]
      exact Nat.pow_lt_pow_left (by decide) (by first | lia | omega)
    exact Nat.lt_of_lt_of_le h1 (Nat.pow_le_pow_right (by decide) (by first | lia | omega))
  generalize hUg : 10 ^ p = U at *
  have hl := fdiv_small (g := U) (p := (U : Int)) (by first | lia | omega) hUb
  have hU1 : (U : Int) ≠ 0 := by first | lia | omega
  have ed : (N : Int).fdiv U = (q : Int) := by
    rw [← hN, Int.natCast_mul, Int.mul_comm, Int.mul_fdiv_cancel_left _ hU1]
  have em : (N : Int).fmod U = 0 := by
    rw [← hN, Int.natCast_mul]; exact Int.mul_fmod_left _ _
  walk_at "m:*"
  refine ⟨hU1, hl, ?_⟩
  rw [ed]
  walk_at "m:*"
  refine ⟨hU1, ?_⟩
  rw [em]
  walk_at "m:*"
  refine ⟨IntMulOk.of_left (by decide), ?_⟩
  walk_at "m:*"
  rw [if_neg (by simp)]
  walk_at "m:*"
  refine ⟨IntMulOk.of_left (by decide), ?_⟩
  walk_at "m:*"
  rw [if_neg (fun z => by have := of_decide_eq_true z; omega)]
  walk_at "m:*"
  rfl

theorem Figs.mul {k f P : Nat} (hk : 0 < k) (h : Figs k f) : Figs (k * 10 ^ P) (f + P) := by
  obtain ⟨h1, h2, h3⟩ := h
  refine ⟨by first | lia | omega, by rw [Nat.pow_add]; exact Nat.mul_lt_mul_of_pos_right h2 (Nat.pow_pos (by decide)), ?_⟩
  have h4 : 10 ^ (f - 1) ≤ k := by
    rcases h3 with h3 | h3
    · subst h3; exact hk
    · exact h3
  by_cases hP : f + P = 1
  · exact .inl hP
  · right
    have : f + P - 1 = (f - 1) + P := by first | lia | omega
    rw [this, Nat.pow_add]
    exact Nat.mul_le_mul_right _ h4

theorem sp_made (w : World) (k P f : Nat) (hk : 0 < k) (hf : Figs k f) (hf9 : f ≤ 9) (hP : f + P = 14) : Spec w 3 58 [.int (k * 10 ^ P : Nat), .int (-(P : Int)), .int 9] (fun d => ∃ s e : Nat, d = .tup [.int s, .int e] ∧ s * 10 ^ e = k ∧ e ≤ 9) := by
  refine spec_intro false [Str.ofString "coefficient", Str.ofString "exponent", Str.ofString "digits"] rfl rfl ?_ rfl (by decide +kernel) (by rfl) rfl rfl rfl ?_
  · walk_at "m:bind"
  intro A h0 L X0 ok B
  walk_at "m:*"
  have hc : (((k * 10 ^ P : Nat) : Int).natAbs : Int) = ((k * 10 ^ P : Nat) : Int) := by rw [Int.natAbs_natCast]
  rw [hc]
  have hF := Figs.mul (P := P) hk hf
  rw [hP] at hF
  refine ev_call ok B rfl rfl (Nat.le_succ 1) ⟨_, _, rfl, rfl⟩ ?_
  walk_at "m:*"
  refine ⟨_, _, _, .d .nil, sp_figures w _, ?_⟩
  rintro _ ⟨g, rfl, hg⟩
  have := Figs.uniq hF hg; subst this
  refine ⟨.inl rfl, ?_⟩
  walk_at "m:*"
  have hsplit : k * 10 ^ P = (k * 10 ^ (P - 5)) * 10 ^ 5 := by rw [Nat.mul_assoc, ← Nat.pow_add]; congr 2; omega
  have hbig : k * 10 ^ (P - 5) < 2 ^ 10000 := by
    have h1 : k < 10 ^ 9 := Nat.lt_of_lt_of_le hf.2.1 (Nat.pow_le_pow_right (by decide) hf9)
    have h2 : 10 ^ (P - 5) ≤ 10 ^ 9 := Nat.pow_le_pow_right (by decide) (by first | lia | omega)
    have h3 : k * 10 ^ (P - 5) < 10 ^ 9 * 10 ^ 9 := Nat.lt_of_lt_of_le (Nat.mul_lt_mul_of_pos_right h1 (Nat.pow_pos (by decide))) (Nat.mul_le_mul_left _ h2)
    exact Nat.lt_of_lt_of_le h3 (Nat.le_trans (by decide : 10 ^ 9 * 10 ^ 9 ≤ 2 ^ 60) (Nat.pow_le_pow_right (by decide) (by decide)))
  have hrd := sp_rounded w (k * 10 ^ (P - 5)) 5 14 (by decide) (by decide) (by rw [← hsplit]; exact hF) (by decide) hbig
  rw [← hsplit] at hrd
  refine ev_call ok B rfl rfl (Nat.le_refl 2) ⟨_, _, rfl, rfl⟩ ?_
  walk_at "m:*"
  refine ⟨_, _, _, .d (.d .nil), hrd, ?_⟩
  rintro _ rfl
  refine ⟨.inl rfl, ?_⟩
  walk_at "m:*"
  have hk0 : k * 10 ^ (P - 5) ≠ 0 := Nat.ne_of_gt (Nat.mul_pos hk (Nat.pow_pos (by decide)))
  refine br_f (nat_beq_f (b := 0) hk0) ?_
  refine ex_nil ?_
  refine ex_cons ?_
  refine ex1_while (fun s ρ O => O = [] ∧ ∃ j : Nat, 0 < s ∧ s * 10 ^ j = k * 10 ^ (P - 5) ∧ ρ.lookup (Str.ofString "size") = some (.d (.int s)) ∧ ρ.lookup (Str.ofString "exponent") = some (.d (.int ((j : Int) - (P - 5 : Nat)))) ∧ ρ.lookup (Str.ofString "coefficient") = some (.d (.int (k * 10 ^ P : Nat)))) _
    ⟨rfl, 0, Nat.pos_of_ne_zero hk0, by simp, by rfl, ?_, by rfl⟩ ?_
  · show some (AV.d (D.int (-(P : Int) + ((14 : Nat) - 9 : Int)))) = some (AV.d (D.int _))
    congr 3; omega
  rintro s ρ O ⟨rfl, j, hs, he, h1, h2, h3⟩
  refine tr_cmp cmp_eqI ?_
  refine ev_mod ?_
  refine ev_var ok h1 ?_
  walk_at "m:*"
  refine ⟨by decide, ?_⟩
  walk_at "m:*"
  have hmod : ((s : Int).fmod 10) = ((s % 10 : Nat) : Int) := by rw [Int.fmod_eq_emod_of_nonneg _ (by decide)]; rfl
  rw [hmod]
  by_cases h : s % 10 = 0
  · refine br_t (nat_beq_t (b := 0) h) ?_
    refine ex_cons (ex1_swap2 ok ?_)
    refine ev_fdiv (ev_var ok h1 ⟨_, rfl, ?_⟩)
    walk_at "m:*"
    refine ⟨by decide, by decide, _, rfl, ?_⟩
    refine ev_add (ev_var ok h2 ⟨_, rfl, ?_⟩)
    walk_at "m:*"
    refine ⟨s / 10, Nat.div_lt_self hs (by decide), rfl, j + 1, by first | lia | omega, ?_, ?_, ?_, h3⟩
    · rw [← he, Nat.pow_succ, Nat.mul_comm (10 ^ j) 10, ← Nat.mul_assoc]
      congr 1; omega
    · show some (AV.d (D.int ((s : Int).fdiv 10))) = _
      rw [Int.fdiv_eq_ediv_of_nonneg _ (by decide)]; rfl
    · show some (AV.d (D.int _)) = some (AV.d (D.int _))
      congr 3; push_cast; omega
  · refine br_f (nat_beq_f (b := 0) h) ?_
    have hj : P - 5 ≤ j := by
      refine Nat.le_of_not_lt fun q => h ?_
      have e1 : s * 10 ^ j = k * 10 ^ (P - 5 - j) * 10 ^ j := by rw [Nat.mul_assoc, ← Nat.pow_add, he]; congr 2; omega
      have e2 := Nat.eq_of_mul_eq_mul_right (Nat.pow_pos (by decide)) e1
      have e3 : P - 5 - j = (P - 5 - j - 1) + 1 := (Nat.sub_add_cancel (by first | lia | omega)).symm
      rw [e2, e3, Nat.pow_succ, ← Nat.mul_assoc]; omega
    have hse : s * 10 ^ (j - (P - 5)) = k := by
      have e1 : s * 10 ^ (j - (P - 5)) * 10 ^ (P - 5) = k * 10 ^ (P - 5) := by rw [Nat.mul_assoc, ← Nat.pow_add, ← he]; congr 2; omega
      exact Nat.eq_of_mul_eq_mul_right (Nat.pow_pos (by decide)) e1
    have hexp : ((j : Int) - ((P - 5 : Nat) : Int)) = ((j - (P - 5) : Nat) : Int) := by first | lia | omega
    rw [hexp] at h2
    generalize j - (P - 5) = e at *
    refine ex_cons (ex1_assign ok ?_)
    refine ev_sub (ev_add (ev_var ok h2 ⟨_, rfl, ?_⟩))
    refine ev_call ok B rfl rfl (Nat.le_succ 1) ⟨_, _, rfl, rfl⟩ ?_
    refine evl_cons (ev_var ok h1 ?_)
    refine evl_nil ⟨_, _, _, .d .nil, sp_figures w s, ?_⟩
    rintro _ ⟨g, rfl, hg⟩
    refine ⟨.inl rfl, _, rfl, ?_⟩
    walk_at "m:*"
    have hg1 := hg.1
    have hge : g + e ≤ 10 := by
      have q1 : 10 ^ (g - 1) ≤ s := by
        rcases hg.2.2 with q | q
        · subst q; exact hs
        · exact q
      have q2 : 10 ^ (g - 1 + e) < 10 ^ 9 := by
        rw [Nat.pow_add]
        refine Nat.lt_of_le_of_lt (Nat.mul_le_mul_right _ q1) ?_
        rw [hse]
        exact Nat.lt_of_lt_of_le hf.2.1 (Nat.pow_le_pow_right (by decide) hf9)
      have := (Nat.pow_lt_pow_iff_right (by decide : 1 < 10)).mp q2
      omega
    refine ev_globI ok B rfl (t := _) rfl ?_
    refine ⟨_, ⟨_, _, rfl, rfl, rfl⟩, br_f (decide_eq_false (by first | lia | omega)) ?_⟩
    walk_at "m:*"
    refine ev_globI ok B rfl (t := _) rfl ?_
    walk_at "m:*"
    refine br_f (decide_eq_false (by first | lia | omega)) ?_
    refine ex_nil (ex_cons (ex1_ret (ev_tup2 ok (ev_ite (tr_cmp cmp_ltI (ev_var ok h3 ?_))))))
    walk_at "m:*"
    exact ev_var ok h1 ⟨_, rfl, ev_var ok h2 ⟨_, rfl, _, rfl, s, e, rfl, hse, by first | lia | omega⟩⟩

theorem figs0 : Figs 0 1 := ⟨by decide, by decide, .inl rfl⟩
theorem figs1 : Figs 1 1 := ⟨by decide, by decide, .inl rfl⟩

theorem sp_made0 (w : World) (P : Nat) : Spec w 3 58 [.int 0, .int (-(P : Int)), .int 9] (fun d => d = .tup [.int 0, .int 0]) := by
  refine spec_intro false [Str.ofString "coefficient", Str.ofString "exponent", Str.ofString "digits"] rfl rfl ?_ rfl (by decide +kernel) (by rfl) rfl rfl rfl ?_
  · walk_at "m:bind"
  intro A h0 L X0 ok B
  walk_at "m:*"
  refine ev_call ok B rfl rfl (Nat.le_succ 1) ⟨_, _, rfl, rfl⟩ ?_
  walk_at "m:*"
  refine ⟨_, _, _, .d .nil, sp_figures w 0, ?_⟩
  rintro _ ⟨g, rfl, hg⟩
  have := Figs.uniq figs0 hg; subst this
  refine ⟨.inl rfl, ?_⟩
  walk_at "m:*"
  rfl

theorem sp_decimal (w : World) (k f : Nat) (hf : Figs k f) (hf9 : f ≤ 9) : Spec w 4 126 [.tup [.int k, .int 1], .int 9] (fun d => ∃ s e : Nat, d = .tup [.int s, .int e] ∧ s * 10 ^ e = k ∧ e ≤ 9) := by
  refine spec_intro false [Str.ofString "one", Str.ofString "digits"] rfl rfl ?_ rfl (by decide +kernel) (by rfl) rfl rfl rfl ?_
  · walk_at "m:bind"
  intro A h0 L X0 ok B
  walk_at "m:*"
  refine ev_call ok B rfl rfl (Nat.le_add_right 1 2) ⟨_, _, rfl, rfl⟩ ?_
  walk_at "m:*"
  refine ⟨_, _, _, .d .nil, sp_figures w 1, ?_⟩
  rintro _ ⟨g, rfl, hg⟩
  have := Figs.uniq figs1 hg; subst this
  refine ⟨.inl rfl, ?_⟩
  walk_at "m:*"
  refine ev_call ok B rfl rfl (Nat.le_add_right 1 2) ⟨_, _, rfl, rfl⟩ ?_
  walk_at "m:*"
  refine ⟨_, _, _, .d .nil, sp_figures w k, ?_⟩
  rintro _ ⟨g, rfl, hg⟩
  have := Figs.uniq hf hg; subst this
  refine ⟨.inl rfl, ?_⟩
  walk_at "m:*"
  refine br_f (decide_eq_false (by first | lia | omega)) ?_
  walk_at "m:*"
  have hP : (9 + 3 + ((1 : Nat) : Int) - (f : Int)) = ((13 - f : Nat) : Int) := by first | lia | omega
  rw [hP]
  refine ⟨by first | lia | omega, by first | lia | omega, by decide, ?_⟩
  have hU : (10 : Int) ^ ((13 - f : Nat) : Int).toNat = ((10 ^ (13 - f) : Nat) : Int) := by rw [Int.toNat_natCast]; push_cast; rfl
  rw [hU]
  have hk9 : k < 10 ^ 9 := Nat.lt_of_lt_of_le hf.2.1 (Nat.pow_le_pow_right (by decide) hf9)
  have hU9 : 10 ^ (13 - f) ≤ 10 ^ 13 := Nat.pow_le_pow_right (by decide) (by first | lia | omega)
  have hm : IntMulOk (((k : Int).natAbs : Nat) : Int) ((10 ^ (13 - f) : Nat) : Int) := by
    refine mulOk ?_ ?_
    · rw [Int.natAbs_natCast, Int.natAbs_natCast]
      exact Nat.lt_of_lt_of_le hk9 (Nat.le_trans (by decide : 10 ^ 9 ≤ 2 ^ 60) (Nat.pow_le_pow_right (by decide) (by decide)))
    · rw [Int.natAbs_natCast]
      exact Nat.lt_of_le_of_lt hU9 (Nat.lt_of_lt_of_le (by decide : 10 ^ 13 < 2 ^ 60) (Nat.pow_le_pow_right (by decide) (by decide)))
  have hN : (((k : Int).natAbs : Nat) : Int) * ((10 ^ (13 - f) : Nat) : Int) = ((k * 10 ^ (13 - f) : Nat) : Int) := by push_cast; rfl
  refine ⟨_, rfl, hm, ?_⟩
  rw [hN]
  walk_at "m:*"
  refine ⟨by decide, by decide, ?_⟩
  have hd1 : ((k * 10 ^ (13 - f) : Nat) : Int).fdiv 1 = ((k * 10 ^ (13 - f) : Nat) : Int) := by simp
  have hm1 : ((k * 10 ^ (13 - f) : Nat) : Int).fmod 1 = 0 := by simp
  rw [hd1]
  walk_at "m:*"
  refine ⟨by first | lia | omega, by first | lia | omega, by decide, ?_⟩
  rw [hU]
  refine ⟨_, rfl, hm, ?_⟩
  rw [hN]
  walk_at "m:*"
  refine ⟨by decide, ?_⟩
  rw [hm1]
  walk_at "m:*"
  refine ⟨IntMulOk.of_left (by decide), ?_⟩
  walk_at "m:*"
  have h10 : (10 * ((k * 10 ^ (13 - f) : Nat) : Int) + 0) = ((k * 10 ^ (14 - f) : Nat) : Int) := by
    have : 14 - f = (13 - f) + 1 := by first | lia | omega
    rw [this, Nat.pow_succ]; push_cast; grind
  have hexp : (-((13 - f : Nat) : Int) - 1) = -((14 - f : Nat) : Int) := by first | lia | omega
  rw [h10]
  refine ev_call ok B rfl rfl (Nat.le_refl 3) ⟨_, _, rfl, rfl⟩ ?_
  walk_at "m:*"
  rw [hexp]
  rcases Nat.eq_zero_or_pos k with hk | hk
  · subst hk
    rw [Nat.zero_mul]
    refine ⟨_, _, _, .d (.d (.d .nil)), sp_made0 w (14 - f), ?_⟩
    rintro _ rfl
    exact ⟨.inl rfl, _, rfl, 0, 0, rfl, rfl, by decide⟩
  · refine ⟨_, _, _, .d (.d (.d .nil)), sp_made w k (14 - f) f hk hf hf9 (by first | lia | omega), ?_⟩
    rintro _ ⟨s, e, rfl, he⟩
    exact ⟨.inl rfl, _, rfl, s, e, rfl, he⟩

local macro_rules | `(tactic| walk_at "m:1") => `(tactic| first
  | refine ex_nil ?_
  | refine ex_cons ?_
  | refine ev_var (by assumption) (by rfl) ?_
  | refine ev_int ?_
  | refine ev_none ?_
  | refine ⟨_, rfl, ?_⟩
  | refine ev_add ?_
  | refine ev_sub ?_
  | refine ev_mul ?_
  | refine ev_fdiv ?_
  | refine ev_mod ?_
  | refine ev_pow ?_
  | refine ev_neg ?_
  | refine ev_tup2 (by assumption) ?_
  | refine evl_cons ?_
  | refine evl_nil ?_
  | refine ev_item ?_
  | refine ev_ite ?_
  | refine ev_abs (by assumption) (by assumption) rfl ?_
  | refine ev_len (by assumption) (by assumption) rfl ?_
  | refine ev_intb (by assumption) (by assumption) rfl ?_
  | refine ev_sum (by assumption) (by assumption) rfl ?_
  | refine tr_and ?_
  | refine tr_or ?_
  | refine tr_cmp cmp_gtI ?_
  | refine tr_cmp cmp_eqI ?_
  | refine tr_cmp cmp_neI ?_
  | refine tr_cmp cmp_ltI ?_
  | refine tr_cmp cmp_leI ?_
  | refine tr_cmp cmp_geI ?_
  | refine ⟨_, ⟨_, _, rfl, rfl, rfl⟩, ?_⟩
  | refine ex1_if ?_
  | refine ex1_ret ?_
  | refine ex1_swap2 (by assumption) ?_
  | refine ex1_assign (by assumption) ?_
  | refine asg_name (by assumption) (by rfl) ?_
  | refine asg_tup2 (by assumption) ?_
  | refine ⟨_, _, rfl, ⟨by decide, by decide, .inl ⟨_, _, .inl rfl, rfl, rfl⟩⟩, ?_⟩
  | refine ⟨_, _, rfl, ⟨by decide, by decide, .inl ⟨_, _, .inr rfl, rfl, rfl⟩⟩, ?_⟩
  | refine ⟨_, .inl ⟨_, .inl rfl, rfl⟩, by first | omega | (simp; omega), ?_⟩)

def tab {α : Type} (n : Nat) (f : Nat → α) : List α := (List.range n).map f
theorem tab_get {α : Type} {n i : Nat} (f : Nat → α) (h : i < n) : (tab n f)[i]? = some (f i) := by simp [tab, h]
theorem tab_len {α : Type} {n : Nat} (f : Nat → α) : (tab n f).length = n := by simp [tab]
theorem tab_map {α β : Type} {n : Nat} (f : Nat → α) (g : α → β) : (tab n f).map g = tab n fun i => g (f i) := by simp [tab]
theorem tab_set {α : Type} {n i : Nat} (f : Nat → α) (x : α) : (tab n f).set i x = tab n fun k => if k = i then x else f k := by
  apply List.ext_getElem?
  intro k
  rw [List.getElem?_set]
  by_cases hk : k < n
  · rw [tab_get _ hk, tab_get _ hk, tab_len]
    by_cases h : i = k
    · subst h; simp [hk]
    · rw [if_neg h, if_neg (Ne.symm h)]
  · have e1 : ∀ g : Nat → α, (tab n g)[k]? = none := fun g => by simp [tab]; omega
    rw [e1, e1, tab_len]
    by_cases h : i = k
    · subst h; simp [hk]
    · rw [if_neg h]
theorem tab_congr {α : Type} {n : Nat} {f g : Nat → α} (h : ∀ i, i < n → f i = g i) : tab n f = tab n g := by
  unfold tab
  apply List.map_congr_left
  intro i hi
  exact h i (List.mem_range.mp hi)
theorem tab_succ {α : Type} {n : Nat} (f : Nat → α) : tab (n + 1) f = tab n f ++ [f n] := by simp [tab, List.range_succ]

abbrev rowQ (n : Nat) (f : Nat → Rat) : D := .lst (tab n fun j => DQ (f j))
abbrev matQ (n : Nat) (M : Nat → Nat → Rat) : D := .lst (tab n fun i => rowQ n (M i))

theorem sp_shape (w : World) (es rest : List D) (h1 : es.length < 1000) (h2 : rest.length < 1000) : Spec w 1 65 [.lst (.lst es :: rest)] (fun d => d = .tup [.int (rest.length + 1 : Nat), .int es.length]) := by
  refine spec_intro false [Str.ofString "grid"] rfl rfl ?_ rfl (by decide +kernel) (by rfl) rfl rfl rfl ?_
  · walk_at "m:bind"
  intro A h0 L X0 ok B
  walk_at "m:*"
  refine br_t (decide_eq_true (by show (0 : Int) < ((rest.length + 1 : Nat) : Int); omega)) ?_
  walk_at "m:*"
  rfl

theorem sp_pivot (w : World) (n at_ : Nat) (M : Nat → Nat → Rat) (hat : at_ < n) (hn : n ≤ 100) : Spec w 1 133 [matQ n M, .int at_] (fun d => (d = .none ∧ ∀ j, at_ ≤ j → j < n → M j at_ = 0) ∨ ∃ p : Nat, d = .int p ∧ at_ ≤ p ∧ p < n ∧ M p at_ ≠ 0) := by
  refine spec_intro false [Str.ofString "rows", Str.ofString "at"] rfl rfl ?_ rfl (by decide +kernel) (by rfl) rfl rfl rfl ?_
  · walk_at "m:bind"
  intro A h0 L X0 ok B
  refine ex_cons (ex1_for ok (it_range2 ok B rfl ?_))
  walk_at "m:*"
  refine ⟨by first | lia | omega, by first | lia | omega, ?_⟩
  walk_at "m:*"
  refine ⟨n, .inl ⟨_, .inl rfl, tab_len _⟩, by first | lia | omega, _, rfl, by first | lia | omega, by first | lia | omega, ?_⟩
  refine ⟨fun i ρ O => O = [] ∧ ρ.lookup (Str.ofString "rows") = some (.d (matQ n M)) ∧ ρ.lookup (Str.ofString "at") = some (.d (.int at_)) ∧ ∀ j, at_ ≤ j → j < at_ + i → M j at_ = 0, ⟨rfl, by rfl, by rfl, fun j _ _ => by first | lia | omega⟩, ?_, ?_⟩
  · rintro i d ρ O hd ⟨rfl, hrows, hat', hz⟩
    obtain ⟨rfl, hi⟩ := rng_get hd
    have hin : at_ + i < n := by first | lia | omega
    refine asg_name ok (by rfl) (ex_cons (ex1_if (tr_cmp cmp_neI (ev_item (ev_item (ev_item (ev_var ok hrows (ev_var ok (by rfl) ?_)))))))) 
    refine ⟨((at_ : Int) + i), .d (rowQ n (M (at_ + i))), rfl, ⟨by first | lia | omega, by first | lia | omega, .inl ⟨_, _, .inr rfl, ?_, rfl⟩⟩, ?_⟩
    · have : ((at_ : Int) + i).toNat = at_ + i := by first | lia | omega
      rw [this]; exact tab_get _ hin
    refine ev_var ok hat' ⟨(at_ : Int), .d (DQ (M (at_ + i) at_)), rfl, ⟨by first | lia | omega, by first | lia | omega, .inl ⟨_, _, .inr rfl, ?_, rfl⟩⟩, ?_⟩
    · rw [Int.toNat_natCast]; exact tab_get _ hat
    walk_at "m:*"
    by_cases h : M (at_ + i) at_ = 0
    · refine br_f (show (_ != _) = false from ?_) ?_
      · rw [h]; rfl
      refine ex_nil (ex_nil ⟨rfl, hrows, hat', fun j h1 h2 => ?_⟩)
      by_cases hj : j = at_ + i
      · rw [hj]; exact h
      · exact hz j h1 (by first | lia | omega)
    · refine br_t (show (_ != _) = true from bne_iff_ne.mpr (by simpa using h)) ?_
      refine ex_cons (ex1_ret (ev_var ok (by rfl) ⟨_, rfl, .inr ⟨at_ + i, by simp, by first | lia | omega, hin, h⟩⟩))
  · rintro ρ O ⟨rfl, hrows, hat', hz⟩
    rw [rng_length] at hz
    walk_at "m:*"
    exact .inl ⟨rfl, fun j h1 h2 => hz j h1 (by first | lia | omega)⟩
def pairQ (n : Nat) (f g : Nat → Rat) : List D := tab n fun j => .tup [DQ (f j), DQ (g j)]
theorem pairUp_tab {n : Nat} (f g : Nat → D) : pairUp (tab n f) (tab n g) = tab n fun j => .tup [f j, g j] := by
  apply List.ext_getElem?
  intro k
  rw [pairUp, List.getElem?_zipWith]
  by_cases hk : k < n
  · rw [tab_get _ hk, tab_get _ hk, tab_get _ hk]
  · have e1 : ∀ {α : Type} (g : Nat → α), (tab n g)[k]? = none := fun g => by simp [tab]; omega
    rw [e1, e1, e1]

theorem sp_cleared (w : World) (n : Nat) (f g : Nat → Rat) (q : Rat) (hn : n ≤ 100) (hf : ∀ j, j < n → Sq 1900 (f j)) (hg : ∀ j, j < n → Sq 1900 (g j)) (hq : Sq 1900 q) : Spec w 4 138 [rowQ n f, rowQ n g, DQ q] (fun d => d = rowQ n fun j => f j - q * g j) := by
  refine spec_intro false [Str.ofString "row", Str.ofString "by", Str.ofString "factor"] rfl rfl ?_ rfl (by decide +kernel) (by rfl) rfl rfl rfl ?_
  · walk_at "m:bind"
  intro A h0 L X0 ok B
  refine ex_cons (ex1_ret (ev_of_fresh (evf_comp ok false [Str.ofString "cell", Str.ofString "mate"] (closOk_of (by rfl)) rfl (by rfl) (by rfl) (it_zip ok B rfl ?_))))
  walk_at "m:*"
  rw [pairUp_tab]
  refine ⟨fun i ys => i ≤ n ∧ ys = tab i fun j => DQ (f j - q * g j), ⟨Nat.zero_le _, rfl⟩, ?_, ?_, ?_⟩
  · rintro C i d ys okb hd ⟨_, rfl⟩
    have hi : i < n := by
      have := (List.getElem?_eq_some_iff.mp hd).1
      rwa [tab_len] at this
    rw [tab_get _ hi] at hd
    cases hd
    refine ⟨_, asgb_tup okb (.cons (.cons .nil)) (by rfl) rfl (by rfl), ?_⟩
    refine tests_nil (br_t rfl (evx_ev (ev_call okb B rfl rfl (Nat.le_refl 3) ⟨_, _, rfl, rfl⟩ (evl_cons (ev_var okb (by rfl) ?_)))))
    refine evl_cons (ev_call okb B rfl rfl (Nat.le_refl 3) ⟨_, _, rfl, rfl⟩ (evl_cons (ev_var okb (by rfl) (evl_cons (ev_var okb (by rfl) (evl_nil ⟨_, _, _, .d (.d .nil), sp_times w q (g i) (hq.mono (by decide)) ((hg i hi).mono (by decide)), ?_⟩))))))
    rintro _ rfl
    refine ⟨.inl rfl, evl_nil ⟨_, _, _, .d (.d .nil), sp_less w (f i) (q * g i) ((hf i hi).mono (by decide)) ((hq.mul (hg i hi)).mono (by decide)), ?_⟩⟩
    rintro _ rfl
    exact ⟨.inl rfl, _, rfl, hi, (tab_succ _).symm⟩
  · rintro i ys ⟨h, rfl⟩
    rw [tab_len]
    exact Nat.le_trans h (Nat.le_trans hn (by decide))
  · rintro ys ⟨_, rfl⟩
    rw [tab_len]
    exact ⟨_, rfl, _, rfl, rfl⟩

theorem sp_fraction_of (w : World) (x : Int) : Spec w 1 98 [.int x] (fun d => d = .tup [.int x, .int 1]) := by
  refine spec_intro false [Str.ofString "value"] rfl rfl ?_ rfl (by decide +kernel) (by rfl) rfl rfl rfl ?_
  · walk_at "m:bind"
  intro A h0 L X0 ok B
  refine ex_cons (ex1_if (tr_val (ev_isint ok (i := x) B rfl rfl rfl (by boot_fast) (.inl rfl) (ev_var ok (by rfl) ⟨rfl, _, rfl, br_f rfl (ex_nil ?_)⟩))))
  refine ex_cons (ex1_if (tr_val (ev_isint ok (i := x) B rfl rfl rfl (by boot_fast) (.inr rfl) (ev_var ok (by rfl) ⟨rfl, _, rfl, br_f rfl (ex_nil ?_)⟩))))
  walk_at "m:*"
  rfl

abbrev matI (n : Nat) (G : Nat → Nat → Int) : D := .lst (tab n fun i => .lst (tab n fun j => .int (G i j)))

theorem sp_shapeI (w : World) (n : Nat) (G : Nat → Nat → Int) (h1 : 1 ≤ n) (hn : n ≤ 100) : Spec w 1 65 [matI n G] (fun d => d = .tup [.int n, .int n]) := by
  obtain ⟨m, rfl⟩ : ∃ m, n = m + 1 := ⟨n - 1, by first | lia | omega⟩
  have hg : tab (m + 1) (fun i => D.lst (tab (m + 1) fun j => .int (G i j))) = (.lst (tab (m + 1) fun j => .int (G 0 j))) :: (tab m fun i => D.lst (tab (m + 1) fun j => .int (G (i + 1) j))) := by
    simp [tab, List.range_succ_eq_map, Function.comp_def]
  rw [matI, hg]
  refine (sp_shape w (tab (m + 1) fun j => D.int (G 0 j)) (tab m fun i => D.lst (tab (m + 1) fun j => .int (G (i + 1) j))) (by rw [tab_len]; omega) (by rw [tab_len]; omega)).mono ?_
  rintro d rfl
  rw [tab_len, tab_len]

theorem sp_square (w : World) (n : Nat) (G : Nat → Nat → Int) (h1 : 1 ≤ n) (hn : n ≤ 100) : Spec w 2 148 [matI n G] (fun d => d = matQ n fun i j => (G i j : Rat)) := by
  refine spec_intro false [Str.ofString "grid"] rfl rfl ?_ rfl (by decide +kernel) (by rfl) rfl rfl rfl ?_
  · walk_at "m:bind"
  intro A h0 L X0 ok B
  refine ex_cons (ex1_assign ok (ev_call ok B rfl rfl (Nat.le_refl 1) ⟨_, _, rfl, rfl⟩ (evl_cons (ev_var ok (by rfl) (evl_nil ⟨_, _, _, .d .nil, sp_shapeI w n G h1 hn, ?_⟩)))))
  rintro _ rfl
  refine ⟨.inl rfl, ?_⟩
  walk_at "m:*"
  refine br_f (show (_ != _) = false by simp) ?_
  walk_at "m:*"
  refine br_f (nat_beq_f (b := 0) (by first | lia | omega)) (ex_nil ?_)
  refine ex_cons (ex1_ret (ev_of_fresh (evf_comp ok false [Str.ofString "row"] (closOk_of (by rfl)) rfl (by rfl) (by rfl) (it_list ok (.inl ⟨_, _, rfl⟩) (ev_var ok (by rfl) ⟨_, rfl, ?_⟩)))))
  refine ⟨fun i ys => i ≤ n ∧ ys = tab i fun i => rowQ n fun j => (G i j : Rat), ⟨Nat.zero_le _, rfl⟩, ?_, ?_, ?_⟩
  · rintro C i d ys okb hd ⟨_, rfl⟩
    have hi : i < n := by
      have := (List.getElem?_eq_some_iff.mp hd).1
      rwa [tab_len] at this
    rw [tab_get _ hi] at hd
    cases hd
    refine ⟨_, asgb_name okb (by rfl), tests_nil (br_t rfl (evx_ev (ev_of_fresh (evf_comp okb false [Str.ofString "cell"] (closOk_of (by rfl)) rfl (by rfl) (by rfl) (it_list okb (.inl ⟨_, _, rfl⟩) (ev_var okb (by rfl) ⟨_, rfl, ?_⟩))))))⟩
    refine ⟨fun k ys => k ≤ n ∧ ys = tab k fun j => DQ (G i j : Rat), ⟨Nat.zero_le _, rfl⟩, ?_, ?_, ?_⟩
    · rintro C2 k d ys okb2 hd ⟨_, rfl⟩
      have hk : k < n := by
        have := (List.getElem?_eq_some_iff.mp hd).1
        rwa [tab_len] at this
      rw [tab_get _ hk] at hd
      cases hd
      refine ⟨_, asgb_name okb2 (by rfl), tests_nil (br_t rfl (evx_ev (ev_call okb2 B rfl rfl (Nat.le_refl 1) ⟨_, _, rfl, rfl⟩ (evl_cons (ev_var okb2 (by rfl) (evl_nil ⟨_, _, _, .d .nil, sp_fraction_of w (G i k), ?_⟩))))))⟩
      rintro _ rfl
      exact ⟨.inl rfl, _, rfl, hk, (tab_succ _).symm⟩
    · rintro i ys ⟨h, rfl⟩
      rw [tab_len]
      exact Nat.le_trans h (Nat.le_trans hn (by decide))
    · rintro ys ⟨_, rfl⟩
      rw [tab_len]
      exact ⟨_, rfl, _, rfl, hi, (tab_succ _).symm⟩
  · rintro i ys ⟨h, rfl⟩
    rw [tab_len]
    exact Nat.le_trans h (Nat.le_trans hn (by decide))
  · rintro ys ⟨_, rfl⟩
    rw [tab_len]
    exact ⟨_, rfl, _, rfl, rfl⟩

theorem ex_mid {c : Ctx} {ρ : Loc} {O : Own} {st : Stmt} {ss : List Stmt} {Qn : Loc → Own → Prop} {Qr : D → Prop} (I : Loc → Own → Prop) (h1 : Ex1 c ρ O st I Qr) (h2 : ∀ ρ' O', I ρ' O' → Ex c ρ' O' ss Qn Qr) : Ex c ρ O (st :: ss) Qn Qr :=
  ex_cons ⟨fun X W s S => (h1.run X W s S).mono fun _ _ h => h.mono h2 fun _ q => q⟩

abbrev own1 (n : Nat) (T : Addr) (M : Nat → Nat → Rat) : Own := [(T, tab n fun i => AV.d (rowQ n (M i)))]
theorem own1_set {n i : Nat} {T : Addr} {M : Nat → Nat → Rat} (f : Nat → Rat) : (own1 n T M).setAt T ((tab n fun i => AV.d (rowQ n (M i))).set i (.d (rowQ n f))) = own1 n T fun k => if k = i then f else M k := by
  simp only [own1, Own.setAt, List.map_cons, List.map_nil, if_true, tab_set]
  congr 2
  apply tab_congr
  intro k _
  by_cases h : k = i <;> simp [h]
theorem own1_item {n i : Nat} {T : Addr} {M : Nat → Nat → Rat} (h : i < n) (hn : n ≤ 100) : ItemOf (own1 n T M) (.p T) (i : Int) (.d (rowQ n (M i))) :=
  ⟨Int.natCast_nonneg _, zup3 h hn, .inr ⟨T, _, rfl, List.mem_cons_self, by rw [Int.toNat_natCast]; exact tab_get _ h⟩⟩
theorem row_item {O : Own} {n j : Nat} {f : Nat → Rat} (h : j < n) (hn : n ≤ 100) : ItemOf O (.d (rowQ n f)) (j : Int) (.d (DQ (f j))) :=
  ⟨Int.natCast_nonneg _, zup3 h hn, .inl ⟨_, _, .inr rfl, by rw [Int.toNat_natCast]; exact tab_get _ h, rfl⟩⟩
theorem num_item {O : Own} {x : Rat} : ItemOf O (.d (DQ x)) 0 (.d (.int x.num)) := ⟨by decide, by decide, .inl ⟨_, _, .inl rfl, rfl, rfl⟩⟩
theorem den_item {O : Own} {x : Rat} : ItemOf O (.d (DQ x)) 1 (.d (.int x.den)) := ⟨by decide, by decide, .inl ⟨_, _, .inl rfl, rfl, rfl⟩⟩
theorem matA_eq {n : Nat} {M : Nat → Nat → Rat} : (tab n fun i => AV.d (rowQ n (M i))) = (tab n fun i => rowQ n (M i)).map AV.d := by rw [tab_map]

def SzM (n k : Nat) (M : Nat → Nat → Rat) : Prop := ∀ i, i < n → ∀ j, j < n → Sq k (M i j)

theorem sp_solved (w : World) (n : Nat) (M0 : Nat → Nat → Rat) (hn : n = 2 ∨ n = 3) (hs : SzM n 10 M0) : Spec w 5 143 [matQ n M0] (fun d => ∃ r, d = .tup [r, DQ (dt n M0)]) := by
  have hn100 : n ≤ 100 := zle100 hn
  refine spec_intro false [Str.ofString "rows"] rfl rfl ?_ rfl (by decide +kernel) (by rfl) rfl rfl rfl ?_
  · walk_at "m:bind"
  intro A h0 L X0 ok B
  refine ex_cons (ex1_swap2 ok (ev_tup2 ok ?_))
  walk_at "m:*"
  refine ⟨n, .inl ⟨_, .inl rfl, tab_len _⟩, by first | lia | omega, _, rfl, ?_⟩
  refine ex_cons (ex1_own ok (by rfl) (evf_listOf ok B rfl (ev_var ok (by rfl) ⟨_, rfl, by rw [tab_len]; exact Nat.le_trans hn100 (by decide), fun T _ => ?_⟩)))
  refine ex_cons (ex1_for ok (it_range1 ok B rfl (ev_var ok (by rfl) ⟨(n : Int), rfl, zlo _, zup hn100, ?_⟩)))
  refine ⟨fun a ρ O => ∃ M told, O = own1 n T M ∧ ρ.lookup (Str.ofString "rows") = some (.p T) ∧ ρ.lookup (Str.ofString "size") = some (.d (.int n)) ∧ ρ.lookup (Str.ofString "told") = some (.d (DQ told)) ∧ SzM n (10 * 5 ^ a) M ∧ Sq (10 * 5 ^ a) told ∧ unitTo n a M ∧ dt n M0 = told * dt n M,
    ⟨M0, 1, by rw [own1, matA_eq], by rfl, by rfl, by rfl, by simpa using hs, ⟨by decide, by decide⟩, fun i _ j hj => by first | lia | omega, by grind⟩, ?_, ?_⟩
  · rintro a d ρ O hd ⟨M, told, rfl, hrows, hsize, htold, hsz, hst, hu, hdt⟩
    obtain ⟨rfl, ha⟩ := rng_get hd
    have ha : a < n := (zt0 n) ▸ ha
    rw [Int.zero_add]
    have hat : ∀ {ρ : Loc}, ((Str.ofString "at", AV.d (.int a)) :: ρ).lookup (Str.ofString "at") = some (.d (.int a)) := by intro _; rfl
    refine asg_name ok (by rfl) (ex_cons (ex1_assign ok ?_))
    refine ev_call ok B rfl rfl (Nat.le_add_left 1 3) ⟨_, _, rfl, rfl⟩ (evl_cons (ev_var ok hrows (evl_cons (ev_var ok (by rfl) (evl_nil ⟨_, _, _, .p (by rw [own1, matA_eq]; exact List.mem_cons_self) (.d .nil), sp_pivot w n a M ha hn100, ?_⟩)))))
    rintro d (⟨rfl, hz⟩ | ⟨p, rfl, hap, hpn, hp0⟩)
    · refine ⟨.inr trivial, asg_name ok (by rfl) (ex_cons (ex1_if (tr_cmp cmp_isNone (ev_var ok (by rfl) (ev_none ⟨true, ⟨rfl, .inl ⟨rfl, rfl⟩⟩, br_t rfl ?_⟩)))))⟩
      refine ex_cons (ex1_retT ok (evl_cons (ev_var ok hrows (evl_cons (ev_tup2 ok ?_)))))
      walk_at "m:*"
      refine ⟨[_, _], .cons (.p List.mem_cons_self (by rw [matA_eq]; exact Frozs.ds _)) (.cons .d .nil), by show 2 ≤ sizeLine; decide, .lst (tab n fun i => rowQ n (M i)), ?_⟩
      rw [hdt, dt_none hn ha hu hz]
      have : told * 0 = 0 := by grind
      rw [this]; rfl
    · refine ⟨.inr trivial, asg_name ok (by rfl) (ex_cons (ex1_if (tr_cmp cmp_isNone (ev_var ok (by rfl) (ev_none ⟨false, ⟨rfl, .inr ⟨_, rfl, rfl⟩⟩, br_f rfl (ex_nil ?_)⟩)))))⟩
      refine ex_mid (fun ρ O => ∃ N told', O = own1 n T N ∧ (∀ i j, N i j = if p = a then M i j else swapR p a M i j) ∧ told' = (if p = a then told else -told) ∧ ρ.lookup (Str.ofString "rows") = some (.p T) ∧ ρ.lookup (Str.ofString "size") = some (.d (.int n)) ∧ ρ.lookup (Str.ofString "told") = some (.d (DQ told')) ∧ ρ.lookup (Str.ofString "at") = some (.d (.int a))) ?_ ?_
      · refine ex1_if (tr_cmp cmp_neI (ev_var ok (by rfl) (ev_var ok (by rfl) ?_)))
        refine ⟨_, ⟨_, _, rfl, rfl, rfl⟩, ?_⟩
        by_cases hpa : p = a
        · refine br_f (show ((p : Int) != (a : Int)) = false by rw [hpa]; simp) (ex_nil ⟨M, told, rfl, fun i j => by rw [if_pos hpa], by rw [if_pos hpa], hrows, hsize, htold, by rfl⟩)
        · refine br_t (show ((p : Int) != (a : Int)) = true from bne_iff_ne.mpr fun z => hpa (Int.ofNat_inj.mp z)) ?_
          refine ex_cons (ex1_assign ok (ev_tup2 ok (ev_item (ev_var ok hrows (ev_var ok (by rfl) ⟨_, _, rfl, own1_item hpn hn100, _, rfl, ev_item (ev_var ok hrows (ev_var ok (by rfl) ⟨_, _, rfl, own1_item ha hn100, _, rfl, ?_⟩))⟩)))))
          refine asg_tup2 ok (asg_item ok rfl (ev_var ok hrows (ev_var ok (by rfl) ⟨T, (a : Int), _, rfl, rfl, List.mem_cons_self, Int.natCast_nonneg _, by rw [tab_len]; exact Int.ofNat_lt.mpr ha, zup3 ha hn100, ?_⟩)))
          rw [Int.toNat_natCast, own1_set]
          refine asg_item ok rfl (ev_var ok hrows (ev_var ok (by rfl) ⟨T, (p : Int), _, rfl, rfl, List.mem_cons_self, Int.natCast_nonneg _, by rw [tab_len]; exact Int.ofNat_lt.mpr hpn, zup3 hpn hn100, ?_⟩))
          rw [Int.toNat_natCast, own1_set]
          refine ex_cons (ex1_assign ok (ev_tup2 ok (ev_neg (ev_item (ev_var ok htold (ev_int ⟨_, _, rfl, num_item, _, rfl, _, rfl, ev_item (ev_var ok htold (ev_int ⟨_, _, rfl, den_item, _, rfl, ?_⟩))⟩))))))
          refine asg_name ok (by rfl) (ex_nil ⟨_, -told, rfl, fun i j => ?_, by rw [if_neg hpa], hrows, hsize, ?_, by rfl⟩)
          · rw [if_neg hpa]; unfold swapR
            by_cases h1 : i = p <;> by_cases h2 : i = a <;> simp_all
          · show some _ = some _
            rw [DQ, Rat.neg_num, Rat.neg_den]
      · rintro ρ O ⟨N, told', rfl, hN, ht, hrows, hsize, htold, hat⟩
        have hNpos : N a a ≠ 0 := by
          rw [hN]
          by_cases hpa : p = a
          · rw [if_pos hpa, ← hpa]; rw [← hpa] at hp0; exact hp0
          · rw [if_neg hpa]; unfold swapR; rw [if_pos rfl]; exact hp0
        have hK : (0 : Nat) < 10 * 5 ^ a := Nat.mul_pos (by decide) (Nat.pow_pos (by decide))
        have hK2 : 10 * 5 ^ a ≤ 250 := by
          have : 5 ^ a ≤ 5 ^ 2 := Nat.pow_le_pow_right (by decide) (Nat.le_of_lt_succ (Nat.lt_of_lt_of_le ha (hn.elim (fun z => by rw [z]; decide) fun z => by rw [z]; decide)))
          exact Nat.mul_le_mul_left 10 this
        have hK3 : 10 * 5 ^ (a + 1) = 5 * (10 * 5 ^ a) := by rw [Nat.pow_succ, Nat.mul_comm (5 ^ a), Nat.mul_left_comm]
        have szN : SzM n (10 * 5 ^ a) N := fun i hi j hj => by
          rw [hN]
          by_cases hpa : p = a
          · rw [if_pos hpa]; exact hsz i hi j hj
          · rw [if_neg hpa]; unfold swapR
            by_cases h1 : i = a
            · rw [if_pos h1]; exact hsz p hpn j hj
            · rw [if_neg h1]
              by_cases h2 : i = p
              · rw [if_pos h2]; exact hsz a ha j hj
              · rw [if_neg h2]; exact hsz i hi j hj
        have szt : Sq (10 * 5 ^ a) told' := by
          rw [ht]; split
          · exact hst
          · exact hst.neg
        have hdtN : dt n M0 = told' * dt n N := by
          rw [hdt, ht]
          by_cases hpa : p = a
          · have : N = M := by funext i j; rw [hN, if_pos hpa]
            rw [if_pos hpa, this]
          · have : N = swapR p a M := by funext i j; rw [hN, if_neg hpa]
            rw [if_neg hpa, this, dt_swap hn (by first | lia | omega) hpn]; grind
        generalize hKg : 10 * 5 ^ a = K at *
        refine ex_cons (ex1_assign ok (ev_item (ev_item (ev_var ok hrows (ev_var ok hat ⟨_, _, rfl, own1_item ha hn100, ev_var ok hat ⟨_, _, rfl, row_item ha hn100, asg_name ok (by rfl) ?_⟩⟩)))))
        refine ex_cons (ex1_assign ok (ev_call ok B rfl rfl (Nat.le_add_left 3 1) ⟨_, _, rfl, rfl⟩ (evl_cons (ev_var ok htold (evl_cons (ev_var ok (by rfl) (evl_nil ⟨_, _, _, .d (.d .nil), sp_times w told' (N a a) (szt.mono (by first | lia | omega)) ((szN a ha a ha).mono (by first | lia | omega)), ?_⟩)))))))
        rintro _ rfl
        refine ⟨.inl rfl, asg_name ok (by rfl) ?_⟩
        refine ex_cons (ex1_assign ok (ev_of_fresh (evf_comp ok false [Str.ofString "cell"] (closOk_of (by rfl)) rfl (by rfl) (by rfl) (it_list ok (.inl ⟨_, _, rfl⟩) (ev_item (ev_var ok hrows (ev_var ok hat ⟨_, _, rfl, own1_item ha hn100, _, rfl, ?_⟩)))))))
        refine ⟨fun k ys => k ≤ n ∧ ys = tab k fun j => DQ (N a j / N a a), ⟨Nat.zero_le _, rfl⟩, ?_, ?_, ?_⟩
        · rintro C k d ys okb hd ⟨_, rfl⟩
          have hk : k < n := by
            have := (List.getElem?_eq_some_iff.mp hd).1
            rwa [tab_len] at this
          rw [tab_get _ hk] at hd
          cases hd
          refine ⟨_, asgb_name okb (by rfl), tests_nil (br_t rfl (evx_ev (ev_call okb B rfl rfl (Nat.le_add_left 3 1) ⟨_, _, rfl, rfl⟩ (evl_cons (ev_var okb (by rfl) (evl_cons (ev_var okb (by rfl) (evl_nil ⟨_, _, _, .d (.d .nil), sp_by w (N a k) (N a a) hNpos ((szN a ha k hk).mono (by first | lia | omega)) ((szN a ha a ha).mono (by first | lia | omega)), ?_⟩))))))))⟩
          rintro _ rfl
          exact ⟨.inl rfl, _, rfl, hk, (tab_succ _).symm⟩
        · rintro i ys ⟨h, rfl⟩
          rw [tab_len]
          exact Nat.le_trans h (Nat.le_trans hn100 (by decide))
        rintro ys ⟨_, rfl⟩
        rw [tab_len]
        refine ⟨_, rfl, asg_item ok rfl (ev_var ok hrows (ev_var ok hat ⟨T, (a : Int), _, rfl, rfl, List.mem_cons_self, Int.natCast_nonneg _, by rw [tab_len]; exact Int.ofNat_lt.mpr ha, zup3 ha hn100, ?_⟩))⟩
        rw [Int.toNat_natCast, own1_set]
        have hP : own1 n T (fun k => if k = a then (fun j => N a j / N a a) else N k) = own1 n T (normR a N) := by
          congr 1; funext i j; unfold normR; by_cases h : i = a <;> simp [h]
        rw [hP]
        have szP : ∀ i, i < n → ∀ j, j < n → Sq (2 * K) (normR a N i j) := fun i hi j hj => by
          unfold normR
          by_cases h : i = a
          · rw [if_pos h]; exact ((szN a ha j hj).div hNpos (szN a ha a ha)).mono (zkk _)
          · rw [if_neg h]; exact (szN i hi j hj).mono (zk1 _)
        have szPo : ∀ i, i < n → i ≠ a → ∀ j, j < n → Sq K (normR a N i j) := fun i hi h j hj => by
          unfold normR; rw [if_neg h]; exact szN i hi j hj
        have hPa : normR a N a a = 1 := by unfold normR; rw [if_pos rfl]; grind
        have hPd : dt n M0 = told' * N a a * dt n (normR a N) := by rw [hdtN, dt_norm hn ha hNpos]; grind
        have hPu : unitTo n (a + 1) (clearR a (normR a N)) := unit_step hap hpn hu hN hNpos
        generalize hPg : normR a N = P at *
        refine ex_cons (ex1_for ok (it_range1 ok B rfl (ev_var ok hsize ⟨(n : Int), rfl, zlo _, zup hn100, ?_⟩)))
        refine ⟨fun o ρ O => O = own1 n T (fun i => if i < o then clearR a P i else P i) ∧ ρ.lookup (Str.ofString "rows") = some (.p T) ∧ ρ.lookup (Str.ofString "size") = some (.d (.int n)) ∧ ρ.lookup (Str.ofString "told") = some (.d (DQ (told' * N a a))) ∧ ρ.lookup (Str.ofString "at") = some (.d (.int a)),
          ⟨by congr 1, hrows, hsize, by rfl, hat⟩, ?_, ?_⟩
        · rintro o d ρ O hd ⟨rfl, hrows, hsize, htold, hat⟩
          obtain ⟨rfl, ho⟩ := rng_get hd
          have ho : o < n := (zt0 n) ▸ ho
          rw [Int.zero_add]
          refine asg_name ok (by rfl) (ex_cons (ex1_if (tr_and (tr_cmp cmp_neI (ev_var ok (by rfl) (ev_var ok hat ?_))))))
          refine ⟨_, ⟨_, _, rfl, rfl, rfl⟩, ?_⟩
          by_cases hoa : o = a
          · refine br_f (show ((o : Int) != (a : Int)) = false by rw [hoa]; simp) (br_f rfl (ex_nil (ex_nil ⟨?_, hrows, hsize, htold, hat⟩)))
            congr 1; funext i
            by_cases h1 : i < o
            · rw [if_pos h1, if_pos (by first | lia | omega)]
            · rw [if_neg h1]
              by_cases h2 : i < o + 1
              · rw [if_pos h2]; have : i = a := by first | lia | omega
                unfold clearR; simp [this]
              · rw [if_neg h2]
          · refine br_t (show ((o : Int) != (a : Int)) = true from bne_iff_ne.mpr fun z => hoa (Int.ofNat_inj.mp z)) ?_
            refine tr_cmp cmp_neI (ev_item (ev_item (ev_item (ev_var ok hrows (ev_var ok (by rfl) ⟨_, _, rfl, own1_item ho hn100, ev_var ok hat ⟨_, _, rfl, row_item ha hn100, ev_int ⟨_, _, rfl, num_item, ev_int ?_⟩⟩⟩)))))
            refine ⟨_, ⟨_, _, rfl, rfl, rfl⟩, ?_⟩
            rw [if_neg (Nat.lt_irrefl o)]
            by_cases hz : P o a = 0
            · refine br_f (show (_ != _) = false from ?_) (ex_nil (ex_nil ⟨?_, hrows, hsize, htold, hat⟩))
              · rw [hz]; rfl
              congr 1; funext i
              by_cases h1 : i < o
              · rw [if_pos h1, if_pos (by first | lia | omega)]
              · rw [if_neg h1]
                by_cases h2 : i < o + 1
                · rw [if_pos h2]; have : i = o := by first | lia | omega
                  subst this
                  funext j; unfold clearR; rw [if_neg hoa, hz]; grind
                · rw [if_neg h2]
            · refine br_t (show (_ != _) = true from bne_iff_ne.mpr (by simpa using hz)) ?_
              have ho1 : (if o < o then clearR a P o else P o) = P o := if_neg (Nat.lt_irrefl o)
              have ha1 : (if a < o then clearR a P a else P a) = P a := by
                split
                · funext j; unfold clearR; rw [if_pos rfl]
                · rfl
              have i1 := own1_item (n := n) (T := T) (M := fun i => if i < o then clearR a P i else P i) ho hn100
              have i2 := own1_item (n := n) (T := T) (M := fun i => if i < o then clearR a P i else P i) ha hn100
              simp only [ho1] at i1
              simp only [ha1] at i2
              refine ex_cons (ex1_assign ok (ev_call ok B rfl rfl (Nat.le_refl 4) ⟨_, _, rfl, rfl⟩ (evl_cons (ev_item (ev_var ok hrows (ev_var ok (by rfl) ⟨_, _, rfl, i1, ?_⟩))))))
              refine evl_cons (ev_item (ev_var ok hrows (ev_var ok hat ⟨_, _, rfl, i2, ?_⟩)))
              refine evl_cons (ev_item (ev_item (ev_var ok hrows (ev_var ok (by rfl) ⟨_, _, rfl, i1, ev_var ok hat ⟨_, _, rfl, row_item ha hn100, ?_⟩⟩))))
              refine evl_nil ⟨_, _, _, .d (.d (.d .nil)), sp_cleared w n (P o) (P a) (P o a) hn100 (fun j hj => (szP o ho j hj).mono (by first | lia | omega)) (fun j hj => (szP a ha j hj).mono (by first | lia | omega)) ((szP o ho a ha).mono (by first | lia | omega)), ?_⟩
              rintro _ rfl
              refine ⟨.inl rfl, asg_item ok rfl (ev_var ok hrows (ev_var ok (by rfl) ⟨T, (o : Int), _, rfl, rfl, List.mem_cons_self, Int.natCast_nonneg _, by rw [tab_len]; exact Int.ofNat_lt.mpr ho, zup3 ho hn100, ?_⟩))⟩
              rw [Int.toNat_natCast, own1_set]
              refine ex_nil (ex_nil ⟨?_, hrows, hsize, htold, hat⟩)
              congr 1; funext i
              by_cases h1 : i = o
              · rw [if_pos h1, if_pos (by first | lia | omega), h1]
                funext j; unfold clearR; rw [if_neg hoa]
              · rw [if_neg h1]
                by_cases h2 : i < o
                · rw [if_pos h2, if_pos (by first | lia | omega)]
                · rw [if_neg h2, if_neg (by first | lia | omega)]
        · rintro ρ O ⟨rfl, hrows, hsize, htold, hat⟩
          rw [rng_length]
          have hnn : ((n : Int) - 0).toNat = n := zt0 _
          rw [hnn]
          have hcl : own1 n T (fun i => if i < n then clearR a P i else P i) = own1 n T (clearR a P) := by
            simp only [own1]; congr 2
            apply tab_congr; intro i hi; rw [if_pos hi]
          refine ex_nil ⟨clearR a P, told' * N a a, hcl, hrows, hsize, htold, fun i hi j hj => ?_, ?_, hPu, ?_⟩
          · rw [hK3]; unfold clearR
            by_cases h : i = a
            · rw [if_pos h]; exact (szP a ha j hj).mono (zk25 _)
            · rw [if_neg h]
              exact ((szPo i hi h j hj).sub ((szPo i hi h a ha).mul (szP a ha j hj))).mono (zkt hK)
          · rw [hK3]; exact (szt.mul (szN a ha a ha)).mono (Nat.le_trans (zkk _) (zk25 _))
          · rw [dt_clear hn ha hPa]; exact hPd
  · rintro ρ O ⟨M, told, rfl, hrows, hsize, htold, hsz, hst, hu, hdt⟩
    rw [rng_length] at hu
    have hnn : ((n : Int) - 0).toNat = n := zt0 _
    rw [hnn] at hu
    refine ex_cons (ex1_retT ok (evl_cons (ev_var ok hrows (evl_cons (ev_var ok htold (evl_nil ⟨[_, _], .cons (.p List.mem_cons_self (by rw [matA_eq]; exact Frozs.ds _)) (.cons .d .nil), by show 2 ≤ sizeLine; decide, .lst (tab n fun i => rowQ n (M i)), ?_⟩))))))
    have : dt n M0 = told := by rw [hdt, dt_unit hn hu]; grind
    rw [this]

theorem sp_det (w : World) (n k f : Nat) (G : Nat → Nat → Int) (hn : n = 2 ∨ n = 3) (hG : ∀ i j, (G i j).natAbs < 2 ^ 10) (hk : dt n (fun i j => (G i j : Rat)) = ((k : Int) : Rat)) (hf : Figs k f) (hf9 : f ≤ 9) :
    Spec w 6 155 [matI n G, .int 9] (fun d => ∃ s e : Nat, d = .tup [.int s, .int e] ∧ s * 10 ^ e = k ∧ e ≤ 9) := by
  refine spec_intro false [Str.ofString "grid", Str.ofString "digits"] rfl rfl ?_ rfl (by decide +kernel) (by rfl) rfl rfl rfl ?_
  · walk_at "m:bind"
  intro A h0 L X0 ok B
  refine ex_cons (ex1_ret (ev_call ok B rfl rfl (Nat.le_add_left 4 1) ⟨_, _, rfl, rfl⟩ (evl_cons (ev_item (ev_call ok B rfl rfl (Nat.le_refl 5) ⟨_, _, rfl, rfl⟩ (evl_cons (ev_call ok B rfl rfl (Nat.le_add_left 2 3) ⟨_, _, rfl, rfl⟩ (evl_cons (ev_var ok (by rfl) (evl_nil ⟨_, _, _, .d .nil, sp_square w n G (by first | lia | omega) (by first | lia | omega), ?_⟩)))))))))) 
  rintro _ rfl
  refine ⟨.inl rfl, evl_nil ⟨_, _, _, .d .nil, sp_solved w n _ hn (fun i _ j _ => ⟨hG i j, by show 1 < 2 ^ 10; decide⟩), ?_⟩⟩
  rintro _ ⟨r, rfl⟩
  refine ⟨.inl rfl, ev_int ⟨1, .d (DQ _), rfl, ⟨by decide, by decide, .inl ⟨_, _, .inl rfl, rfl, rfl⟩⟩, ?_⟩⟩
  rw [hk]
  refine evl_cons (ev_var ok (by rfl) (evl_nil ⟨_, _, _, .d (.d .nil), sp_decimal w k f hf hf9, ?_⟩))
  rintro _ ⟨s, e, rfl, he⟩
  exact ⟨.inl rfl, _, rfl, s, e, rfl, he⟩

def adjStep (M : Nat → Nat → Int) (e : Nat × Nat) : Nat → Nat → Int := fun i j => if (i = e.1 ∧ j = e.2) ∨ (i = e.2 ∧ j = e.1) then M i j + 1 else M i j
def adj (l : List (Nat × Nat)) : Nat → Nat → Int := l.foldl adjStep fun _ _ => 0

abbrev own2 (n : Nat) (T : Addr) (rs : List Addr) (M : Nat → Nat → Int) : Own := (T, rs.map .p) :: rs.zip (tab n fun i => rowA (tab n (M i)))
theorem own2_top {n : Nat} {T : Addr} {rs : List Addr} {M : Nat → Nat → Int} {i : Nat} (hl : rs.length = n) (hi : i < n) (hn : n ≤ 100) : ItemOf (own2 n T rs M) (.p T) (i : Int) (.p (rs[i]'(by first | lia | omega))) :=
  ⟨Int.natCast_nonneg _, zup3 hi hn, .inr ⟨T, _, rfl, List.mem_cons_self, by rw [Int.toNat_natCast]; simp [hl, hi]⟩⟩
theorem own2_mem {n : Nat} {T : Addr} {rs : List Addr} {M : Nat → Nat → Int} {i : Nat} (hl : rs.length = n) (hi : i < n) : (rs[i]'(by first | lia | omega), rowA (tab n (M i))) ∈ own2 n T rs M := by
  refine List.mem_cons_of_mem _ ?_
  rw [List.mem_iff_getElem]
  exact ⟨i, by simp [hl, tab]; exact hi, by simp [tab]⟩
theorem rowA_get {n : Nat} {f : Nat → Int} {j : Nat} (hj : j < n) : (rowA (tab n f))[j]? = some (.d (.int (f j))) := by simp [rowA, tab, hj]
theorem own2_item {n : Nat} {T : Addr} {rs : List Addr} {M : Nat → Nat → Int} {i j : Nat} (hl : rs.length = n) (hi : i < n) (hj : j < n) (hn : n ≤ 100) : ItemOf (own2 n T rs M) (.p (rs[i]'(by first | lia | omega))) (j : Int) (.d (.int (M i j))) :=
  ⟨Int.natCast_nonneg _, zup3 hj hn, .inr ⟨_, _, rfl, own2_mem hl hi, by rw [Int.toNat_natCast]; exact rowA_get hj⟩⟩
theorem own2_set {n : Nat} {T : Addr} {rs : List Addr} {M : Nat → Nat → Int} {i j : Nat} {x : Int} (hl : rs.length = n) (hnd : (T :: rs).Nodup) (hi : i < n) (hj : j < n) :
    (own2 n T rs M).setAt (rs[i]'(by first | lia | omega)) ((rowA (tab n (M i))).set j (.d (.int x))) = own2 n T rs (fun a b => if a = i ∧ b = j then x else M a b) := by
  rw [List.nodup_cons] at hnd
  have hT : T ≠ rs[i]'(by first | lia | omega) := fun z => hnd.1 (z ▸ List.getElem_mem _)
  simp only [own2, Own.setAt, List.map_cons, if_neg hT]
  congr 1
  apply List.ext_getElem?
  intro k
  rw [List.getElem?_map]
  by_cases hk : k < n
  · have e1 : ∀ M : Nat → Nat → Int, (rs.zip (tab n fun i => rowA (tab n (M i))))[k]? = some (rs[k]'(by first | lia | omega), rowA (tab n (M k))) := fun M => by
      rw [List.getElem?_eq_getElem (by simp [hl, tab]; exact hk)]
      simp [tab]
    rw [e1, e1]
    simp only [Option.map_some]
    by_cases hik : k = i
    · subst hik
      rw [if_pos rfl]
      congr 2
      simp only [rowA, tab_map, tab_set]
      apply tab_congr
      intro b _
      by_cases hb : b = j <;> simp [hb]
    · have hne : rs[k]'(by first | lia | omega) ≠ rs[i]'(by first | lia | omega) := fun z => hik ((List.getElem_inj hnd.2).mp z)
      rw [if_neg hne]
      congr 2
      simp only [rowA, tab_map]
      apply tab_congr
      intro b _
      rw [if_neg (fun z => hik z.1)]
  · have e1 : ∀ M : Nat → Nat → Int, (rs.zip (tab n fun i => rowA (tab n (M i))))[k]? = none := fun M => by
      rw [List.getElem?_eq_none_iff]; simp [hl, tab]; omega
    rw [e1, e1]; rfl
theorem frozs_rows {O : Own} : ∀ {rs : List Addr} {rows : List (List Int)}, rs.length = rows.length → (∀ q ∈ rs.zip (rows.map rowA), q ∈ O) → Frozs O (rs.map .p) (rows.map rowD)
  | [], [], _, _ => .nil
  | r :: rs, x :: rows, hl, h => by
    refine .cons (.p (h _ List.mem_cons_self) ?_) (frozs_rows (by simpa using hl) fun q hq => h q (List.mem_cons_of_mem _ hq))
    have := Frozs.ds (O := O) (x.map .int)
    rw [List.map_map] at this
    exact this

theorem sp_grid (w : World) (n : Nat) (lines : List (Nat × Nat)) (hn : n ≤ 100) (hl : ∀ e ∈ lines, e.1 < n ∧ e.2 < n ∧ e.1 ≠ e.2) : Spec w 1 167 [.int n, pairsD lines] (fun d => d = matI n (adj lines)) := by
  refine spec_intro false [Str.ofString "size", Str.ofString "lines"] rfl rfl ?_ rfl (by decide +kernel) (by rfl) rfl rfl rfl ?_
  · walk_at "m:bind"
  intro A h0 L X0 ok B
  refine ex_cons (ex1_rows ok rfl [Str.ofString "at"] (by rfl) (closOk_of (by rfl)) rfl (by rfl) (by rfl) (it_range1 ok B rfl (ev_var ok (by rfl) ⟨(n : Int), rfl, zlo _, zup hn, ?_⟩)))
  refine ⟨fun k ys => k ≤ n ∧ ys = tab k fun _ => rowD (tab n fun _ => 0), ⟨Nat.zero_le _, rfl⟩, ?_, ?_, ?_⟩
  · rintro C k d ys okb hd ⟨_, rfl⟩
    obtain ⟨rfl, hk⟩ := rng_get hd
    refine ⟨_, asgb_name okb (by rfl), tests_nil (br_t rfl (evx_evf (evf_rep okb (ev_of_fresh (evf_disp okb ?_)))))⟩
    walk_at "m:*"
    refine ⟨by show 1 ≤ sizeLine; decide, [.int 0], rfl, _, rfl, ev_var okb (by rfl) ⟨n, rfl, by simp; omega, by first | lia | omega, _, rfl, by first | lia | omega, ?_⟩⟩
    rw [tab_succ]
    congr 3
    rw [tab_map]
    apply List.ext_getElem?
    intro k
    by_cases hk : k < n
    · rw [tab_get _ hk]; simp [hk]
    · have : n ≤ k := by first | lia | omega
      simp [tab, this]
  · rintro i ys ⟨h, rfl⟩
    rw [tab_len]
    exact Nat.le_trans h (Nat.le_trans hn (by decide))
  rintro ys ⟨_, rfl⟩
  rw [rng_length]
  have hnn : ((n : Int) - 0).toNat = n := zt0 _
  rw [hnn]
  refine ⟨tab n fun _ => tab n fun _ => 0, by rw [tab_map], fun T rs hrs hnd => ?_⟩
  rw [tab_len] at hrs
  have st : (T, rs.map AV.p) :: (rs.zip ((tab n fun _ => tab n fun _ => (0 : Int)).map rowA) ++ []) = own2 n T rs fun _ _ => 0 := by rw [List.append_nil, tab_map]
  rw [st]
  refine ex_cons (ex1_for ok (it_list ok (.inr ⟨_, _, _, rfl⟩) (ev_var ok (by rfl) ⟨_, rfl, ?_⟩)))
  refine ⟨fun i ρ O => O = own2 n T rs ((lines.take i).foldl adjStep fun _ _ => 0) ∧ ρ.lookup (Str.ofString "found") = some (.p T), ⟨by simp, by rfl⟩, ?_, ?_⟩
  · rintro i d ρ O hd ⟨rfl, hf⟩
    rw [List.getElem?_map, Option.map_eq_some_iff] at hd
    obtain ⟨⟨a, b⟩, he, rfl⟩ := hd
    obtain ⟨ha, hb, hab⟩ := hl _ (List.mem_of_getElem? he)
    simp only at ha hb hab
    have hstep : (lines.take (i + 1)).foldl adjStep (fun _ _ => 0) = adjStep ((lines.take i).foldl adjStep fun _ _ => 0) (a, b) := by
      rw [List.take_add_one, he]; simp
    generalize (lines.take i).foldl adjStep (fun _ _ => 0) = M at hstep ⊢
    refine asg_tup2 ok (asg_name ok (by rfl) (asg_name ok (by rfl) ?_))
    refine ex_cons (ex1_assign ok (ev_tup2 ok (ev_add (ev_item (ev_item (ev_var ok hf (ev_var ok (by rfl) ⟨_, _, rfl, own2_top hrs ha hn, ev_var ok (by rfl) ⟨_, _, rfl, own2_item hrs ha hb hn, ?_⟩⟩)))))))
    walk_at "m:*"
    refine ev_var ok hf (ev_var ok (by rfl) ⟨_, _, rfl, own2_top hrs hb hn, ev_var ok (by rfl) ⟨_, _, rfl, own2_item hrs hb ha hn, ?_⟩⟩)
    walk_at "m:*"
    refine asg_item ok rfl (ev_item (ev_var ok hf (ev_var ok (by rfl) ⟨_, _, rfl, own2_top hrs ha hn, ev_var ok (by rfl) ⟨_, (b : Int), _, rfl, rfl, own2_mem hrs ha, by first | lia | omega, by simp [tab]; omega, by first | lia | omega, ?_⟩⟩)))
    rw [Int.toNat_natCast, own2_set hrs hnd ha hb]
    refine asg_item ok rfl (ev_item (ev_var ok hf (ev_var ok (by rfl) ⟨_, _, rfl, own2_top hrs hb hn, ev_var ok (by rfl) ⟨_, (a : Int), _, rfl, rfl, own2_mem hrs hb, by first | lia | omega, by simp [tab]; omega, by first | lia | omega, ?_⟩⟩)))
    rw [Int.toNat_natCast, own2_set hrs hnd hb ha]
    refine ex_nil ⟨?_, hf⟩
    rw [hstep]
    congr 2
    funext x y
    unfold adjStep
    by_cases h1 : x = b ∧ y = a
    · rw [if_pos h1, if_pos (.inr h1), h1.1, h1.2]
    · rw [if_neg h1]
      by_cases h2 : x = a ∧ y = b
      · rw [if_pos h2, if_pos (.inl h2), h2.1, h2.2]
      · rw [if_neg h2, if_neg (fun z => z.elim h2 h1)]
  · rintro ρ O ⟨rfl, hf⟩
    rw [List.length_map, List.take_length]
    refine ex_cons (ex1_retF ok (ev_var ok hf ⟨matI n (adj lines), ?_, rfl⟩))
    have e1 : (tab n fun i => D.lst (tab n fun j => .int (adj lines i j))) = (tab n fun i => tab n (adj lines i)).map rowD := by
      rw [tab_map]; apply tab_congr; intro i _; rw [rowD, tab_map]
    rw [matI, e1]
    refine .p List.mem_cons_self (frozs_rows (by rw [tab_len]; exact hrs) fun q hq => List.mem_cons_of_mem _ ?_)
    rw [tab_map] at hq
    exact hq

/-- what stays when one place is left out. -/
def skip (out : Nat) (i : Nat) : Nat := if i < out then i else i + 1
def lap (n : Nat) (A : Nat → Nat → Int) (a s : Nat) : Int := if a = s then (tab n (A a)).sum else 0 - A a s

theorem matI_row {O : Own} {n i : Nat} {A : Nat → Nat → Int} (h : i < n) (hn : n ≤ 100) : ItemOf O (.d (matI n A)) (i : Int) (.d (.lst ((tab n (A i)).map .int))) :=
  ⟨Int.natCast_nonneg _, zup3 h hn, .inl ⟨_, _, .inr rfl, by rw [Int.toNat_natCast, tab_get _ h, tab_map], rfl⟩⟩
theorem int_item {O : Own} {n j : Nat} {f : Nat → Int} (h : j < n) (hn : n ≤ 100) : ItemOf O (.d (.lst ((tab n f).map .int))) (j : Int) (.d (.int (f j))) :=
  ⟨Int.natCast_nonneg _, zup3 h hn, .inl ⟨_, _, .inr rfl, by rw [Int.toNat_natCast, tab_map, tab_get _ h], rfl⟩⟩

theorem skip_lt {n out i : Nat} (h : i + 1 < n) (ho : out < n) : skip out i < n := by unfold skip; split <;> omega

/-- what is told of the first i places. -/
def keptTo (out i : Nat) : List Nat := if i ≤ out then tab i id else tab (i - 1) (skip out)
theorem keptTo_succ {out i : Nat} : keptTo out (i + 1) = if i = out then keptTo out i else keptTo out i ++ [i] := by
  unfold keptTo
  by_cases h : i = out
  · subst h
    rw [if_neg (by first | lia | omega), if_pos rfl, if_pos (Nat.le_refl _)]
    simp only [Nat.add_sub_cancel]
    apply tab_congr; intro k hk; unfold skip; rw [if_pos hk]; rfl
  · rw [if_neg h]
    by_cases h1 : i + 1 ≤ out
    · rw [if_pos h1, if_pos (by first | lia | omega), tab_succ]; rfl
    · rw [if_neg h1, if_neg (by first | lia | omega)]
      obtain ⟨m, rfl⟩ : ∃ m, i = m + 1 := ⟨i - 1, by first | lia | omega⟩
      simp only [Nat.add_sub_cancel]
      rw [tab_succ]
      congr 2
      unfold skip; rw [if_neg (by first | lia | omega)]

theorem sp_lawdet (w : World) (n out k f : Nat) (lines : List (Nat × Nat)) (hn : n = 3 ∨ n = 4) (hout : out < n) (hl : ∀ e ∈ lines, e.1 < n ∧ e.2 < n ∧ e.1 ≠ e.2) (hG : ∀ i j, (lap n (adj lines) (skip out i) (skip out j)).natAbs < 2 ^ 10)
    (hk : dt (n - 1) (fun i j => ((lap n (adj lines) (skip out i) (skip out j) : Int) : Rat)) = ((k : Int) : Rat)) (hf : Figs k f) (hf9 : f ≤ 9) : Spec w 7 172 [.int n, pairsD lines, .int out] (fun d => d = .int k) := by
  have hn100 : n ≤ 100 := by first | lia | omega
  refine spec_intro false [Str.ofString "size", Str.ofString "lines", Str.ofString "out"] rfl rfl ?_ rfl (by decide +kernel) (by rfl) rfl rfl rfl ?_
  · walk_at "m:bind"
  intro A h0 L X0 ok B
  refine ex_cons (ex1_assign ok (ev_call ok B rfl rfl (Nat.le_add_left 1 5) ⟨_, _, rfl, rfl⟩ (evl_cons (ev_var ok (by rfl) (evl_cons (ev_var ok (by rfl) (evl_nil ⟨_, _, _, .d (.d .nil), sp_grid w n lines hn100 hl, ?_⟩)))))))
  rintro _ rfl
  refine ⟨.inl rfl, asg_name ok (by rfl) ?_⟩
  generalize adj lines = G at *
  refine ex_cons (ex1_assign ok (ev_of_fresh (evf_comp ok false [Str.ofString "at"] (closOk_of (by rfl)) rfl (by rfl) (by rfl) (it_range1 ok B rfl (ev_var ok (by rfl) ⟨(n : Int), rfl, zlo _, zup hn100, ?_⟩)))))
  have klen : ∀ i, (keptTo out i).length ≤ i := fun i => by unfold keptTo; split <;> simp [tab]
  refine ⟨fun i ys => i ≤ n ∧ ys = (keptTo out i).map fun k : Nat => .int k, ⟨Nat.zero_le _, by simp [keptTo, tab]⟩, ?_, ?_, ?_⟩
  · rintro C i d ys okb hd ⟨_, rfl⟩
    obtain ⟨rfl, hi⟩ := rng_get hd
    rw [Int.zero_add]
    refine ⟨_, asgb_name okb (by rfl), tests_one (tr_cmp cmp_neI (ev_var okb (by rfl) (ev_var okb (by rfl) ?_)))⟩
    refine ⟨_, ⟨_, _, rfl, rfl, rfl⟩, ?_⟩
    by_cases h : i = out
    · refine br_f (show ((i : Int) != (out : Int)) = false by rw [h]; simp) ⟨by first | lia | omega, ?_⟩
      rw [keptTo_succ, if_pos h]
    · refine br_t (show ((i : Int) != (out : Int)) = true from bne_iff_ne.mpr (by first | lia | omega)) (evx_ev (ev_var okb (by rfl) ⟨_, rfl, by first | lia | omega, ?_⟩))
      rw [keptTo_succ, if_neg h, List.map_append]; rfl
  · rintro i ys ⟨h, rfl⟩
    rw [List.length_map]
    exact Nat.le_trans (klen i) (Nat.le_trans h (Nat.le_trans hn100 (by decide)))
  rintro ys ⟨_, rfl⟩
  rw [rng_length]
  have hnn : ((n : Int) - 0).toNat = n := zt0 _
  rw [hnn]
  have hkept : (keptTo out n).map (fun k : Nat => D.int k) = tab (n - 1) fun i => .int (skip out i : Nat) := by
    unfold keptTo; rw [if_neg (by first | lia | omega), tab_map]
  rw [hkept]
  refine ⟨_, rfl, asg_name ok (by rfl) ?_⟩
  generalize hm : n - 1 = m at *
  have hm2 : m = 2 ∨ m = 3 := hn.imp (fun z => by rw [← hm, z]) fun z => by rw [← hm, z]
  refine ex_cons (ex1_assign ok (ev_call ok B rfl rfl (Nat.le_refl 6) ⟨_, _, rfl, rfl⟩ (evl_cons (ev_of_fresh (evf_comp ok false [Str.ofString "at"] (closOk_of (by rfl)) rfl (by rfl) (by rfl) (it_list ok (.inl ⟨_, _, rfl⟩) (ev_var ok (by rfl) ⟨_, rfl, ?_⟩)))))))
  refine ⟨fun i ys => i ≤ m ∧ ys = tab i fun i => .lst (tab m fun j => .int (lap n G (skip out i) (skip out j))), ⟨Nat.zero_le _, rfl⟩, ?_, ?_, ?_⟩
  · rintro C i d ys okb hd ⟨_, rfl⟩
    have hi : i < m := by
      have := (List.getElem?_eq_some_iff.mp hd).1
      rwa [tab_len] at this
    rw [tab_get _ hi] at hd
    cases hd
    refine ⟨_, asgb_name okb (by rfl), tests_nil (br_t rfl (evx_ev (ev_of_fresh (evf_comp okb false [Str.ofString "spot"] (closOk_of (by rfl)) rfl (by rfl) (by rfl) (it_list okb (.inl ⟨_, _, rfl⟩) (ev_var okb (by rfl) ⟨_, rfl, ?_⟩))))))⟩
    refine ⟨fun k ys => k ≤ m ∧ ys = tab k fun j => .int (lap n G (skip out i) (skip out j)), ⟨Nat.zero_le _, rfl⟩, ?_, ?_, ?_⟩
    · rintro C2 k d ys okb2 hd ⟨_, rfl⟩
      have hk : k < m := by
        have := (List.getElem?_eq_some_iff.mp hd).1
        rwa [tab_len] at this
      rw [tab_get _ hk] at hd
      cases hd
      have ha : skip out i < n := skip_lt (by first | lia | omega) hout
      have hb : skip out k < n := skip_lt (by first | lia | omega) hout
      refine ⟨_, asgb_name okb2 (by rfl), tests_nil (br_t rfl (evx_ev (ev_ite (tr_cmp cmp_eqI (ev_var okb2 (by rfl) (ev_var okb2 (by rfl) ?_))))))⟩
      refine ⟨_, ⟨_, _, rfl, rfl, rfl⟩, ?_⟩
      by_cases h : skip out i = skip out k
      · refine br_t (nat_beq_t h) (ev_sum okb2 B rfl (ev_item (ev_var okb2 (by rfl) (ev_var okb2 (by rfl) ⟨_, _, rfl, matI_row ha hn100, _, rfl, _, rfl, by first | lia | omega, ?_⟩))))
        rw [tab_succ]; congr 3; unfold lap; rw [if_pos h]
      · refine br_f (nat_beq_f h) (ev_sub (ev_int ⟨_, rfl, ev_item (ev_item (ev_var okb2 (by rfl) (ev_var okb2 (by rfl) ⟨_, _, rfl, matI_row ha hn100, ev_var okb2 (by rfl) ⟨_, _, rfl, int_item hb hn100, _, rfl, _, rfl, by first | lia | omega, ?_⟩⟩)))⟩))
        rw [tab_succ]; congr 3; unfold lap; rw [if_neg h]
    · rintro i ys ⟨h, rfl⟩
      rw [tab_len]
      exact Nat.le_trans h (Nat.le_trans (by first | lia | omega : m ≤ 100) (by decide))
    · rintro ys ⟨_, rfl⟩
      rw [tab_len]
      exact ⟨_, rfl, _, rfl, by first | lia | omega, (tab_succ _).symm⟩
  · rintro i ys ⟨h, rfl⟩
    rw [tab_len]
    exact Nat.le_trans h (Nat.le_trans (by first | lia | omega : m ≤ 100) (by decide))
  rintro ys ⟨_, rfl⟩
  rw [tab_len]
  refine ⟨_, rfl, evl_cons (ev_int (evl_nil ⟨_, _, _, .d (.d .nil), sp_det w m k f (fun i j => lap n G (skip out i) (skip out j)) hm2 hG hk hf hf9, ?_⟩))⟩
  rintro _ ⟨s, e, rfl, he⟩
  refine ⟨.inl rfl, asg_name ok (by rfl) ?_⟩
  walk_at "m:*"
  obtain ⟨he, he9⟩ := he
  refine ⟨by first | lia | omega, by first | lia | omega, by decide, ?_⟩
  have hU : (10 : Int) ^ (e : Int).toNat = ((10 ^ e : Nat) : Int) := by rw [Int.toNat_natCast]; push_cast; rfl
  rw [hU]
  have hE : 10 ^ e ≤ 10 ^ 9 := Nat.pow_le_pow_right (by decide) he9
  have hE1 : 1 ≤ 10 ^ e := Nat.pow_pos (by decide)
  have hk9 : k < 10 ^ 9 := Nat.lt_of_lt_of_le hf.2.1 (Nat.pow_le_pow_right (by decide) hf9)
  have hs9 : s < 10 ^ 9 := Nat.lt_of_le_of_lt (by rw [← he]; exact Nat.le_mul_of_pos_right _ hE1) hk9
  have big : ∀ x : Nat, x ≤ 10 ^ 9 → ((x : Nat) : Int).natAbs < 2 ^ 20000 := fun x h => by
    rw [Int.natAbs_natCast]
    exact Nat.lt_of_le_of_lt h (Nat.lt_of_lt_of_le (by decide : 10 ^ 9 < 2 ^ 60) (Nat.pow_le_pow_right (by decide) (by decide)))
  refine ⟨_, rfl, mulOk (big s (Nat.le_of_lt hs9)) (big _ hE), _, rfl, ?_⟩
  rw [← he]; push_cast; rfl

def inMet (met : List Nat) (a : Nat) : Bool := met.any (· == a)
def joinStep (met : List Nat) (e : Nat × Nat) : List Nat := if inMet met e.1 != inMet met e.2 then met ++ [if inMet met e.1 then e.2 else e.1] else met
def joinRun (l : List (Nat × Nat)) : Nat → List Nat
  | 0 => [0]
  | k + 1 => l.foldl joinStep (joinRun l k)
def joins (l : List (Nat × Nat)) : Bool := (joinRun l 3).length == 4

theorem any_cast (met : List Nat) (a : Nat) : (met.map fun n : Nat => (n : Int)).any (· == (a : Int)) = inMet met a := by
  unfold inMet
  rw [List.any_map]
  congr 1
  funext n
  by_cases h : n = a
  · subst h; simp
  · show ((n : Int) == (a : Int)) = (n == a)
    rw [nat_beq_f h, beq_eq_false_iff_ne.mpr h]
theorem joinStep_len (met : List Nat) (e : Nat × Nat) : (joinStep met e).length ≤ met.length + 1 := by unfold joinStep; split <;> simp
theorem joinFold_len (l : List (Nat × Nat)) : ∀ met, (l.foldl joinStep met).length ≤ met.length + l.length := by
  induction l with
  | nil => intro met; simp
  | cons e l ih => intro met; have := ih (joinStep met e); have := joinStep_len met e; simp only [List.foldl_cons, List.length_cons]; omega

abbrev metO (T : Addr) (met : List Nat) : Own := [(T, (met.map fun n : Nat => (n : Int)).map fun n => AV.d (.int n))]

theorem sp_joins (w : World) (l : List (Nat × Nat)) (hl : l.length ≤ 10) : Spec w 1 179 [pairsD l] (fun d => d = .bool (joins l)) := by
  refine spec_intro true [Str.ofString "some"] rfl rfl ?_ rfl (by decide +kernel) (by rfl) rfl rfl rfl ?_
  · walk_at "m:bind"
  intro A h0 L X0 ok B
  refine ex_cons (ex1_own ok (by rfl) (evf_disp ok (evl_cons (ev_int (evl_nil ⟨by show 1 ≤ sizeLine; decide, fun T _ => ?_⟩)))))
  refine ex_cons (ex1_for ok (it_range1 ok B rfl (ev_int ⟨3, rfl, by decide, by decide, ?_⟩)))
  refine ⟨fun k ρ O => O = metO T (joinRun l k) ∧ (joinRun l k).length ≤ 1 + k * 10 ∧ ρ.lookup (Str.ofString "met") = some (.p T) ∧ ρ.lookup (Str.ofString "some") = some (.d (pairsD l)), ⟨rfl, Nat.le_refl 1, by rfl, by rfl⟩, ?_, ?_⟩
  · rintro k d ρ O hd ⟨rfl, hlen, hmet, hsome⟩
    obtain ⟨rfl, hk⟩ := rng_get hd
    have hk3 : k < 3 := by first | lia | omega
    refine asg_name ok (by rfl) (ex_cons (ex1_for ok (it_list ok (.inr ⟨_, _, _, rfl⟩) (ev_var ok hsome ⟨_, rfl, ?_⟩))))
    refine ⟨fun i ρ O => O = metO T ((l.take i).foldl joinStep (joinRun l k)) ∧ ρ.lookup (Str.ofString "met") = some (.p T) ∧ ρ.lookup (Str.ofString "some") = some (.d (pairsD l)), ⟨by simp, hmet, hsome⟩, ?_, ?_⟩
    · rintro i d ρ O hd ⟨rfl, hmet, hsome⟩
      rw [List.getElem?_map, Option.map_eq_some_iff] at hd
      obtain ⟨⟨a, b⟩, he, rfl⟩ := hd
      have hstep : (l.take (i + 1)).foldl joinStep (joinRun l k) = joinStep ((l.take i).foldl joinStep (joinRun l k)) (a, b) := by
        rw [List.take_add_one, he]; simp
      have hlm : ((l.take i).foldl joinStep (joinRun l k)).length ≤ 100 := by
        have := joinFold_len (l.take i) (joinRun l k)
        have : (l.take i).length ≤ 10 := by simp; omega
        omega
      generalize (l.take i).foldl joinStep (joinRun l k) = met at hstep hlm ⊢
      have hin : IntsOf (metO T met) (.p T) (met.map fun n : Nat => (n : Int)) := .inr ⟨T, rfl, List.mem_cons_self⟩
      refine asg_tup2 ok (asg_name ok (by rfl) (asg_name ok (by rfl) ?_))
      refine ex_cons (ex1_if (tr_cmp cmp_neB (cmp_in hin (ev_var ok (by rfl) ⟨_, rfl, ev_var ok hmet ⟨rfl, ?_⟩⟩))))
      refine cmp_in hin (ev_var ok (by rfl) ⟨_, rfl, ev_var ok hmet ⟨rfl, ?_⟩⟩)
      rw [any_cast, any_cast]
      refine ⟨_, ⟨_, _, rfl, rfl, rfl⟩, ?_⟩
      by_cases hc : inMet met a != inMet met b
      · refine br_t hc (ex_cons (ex1_append ok rfl hmet List.mem_cons_self (by simp only [List.length_map]; exact Nat.le_trans hlm (by decide)) (ev_ite (tr_in hin (ev_var ok (by rfl) ⟨_, rfl, ev_var ok hmet ⟨rfl, ?_⟩⟩)))))
        rw [any_cast]
        have fin : ∀ x : Nat, (if inMet met a then b else a) = x → (metO T met).setAt T (((met.map fun n : Nat => (n : Int)).map fun n => AV.d (.int n)) ++ [.d (.int x)]) = metO T ((l.take (i + 1)).foldl joinStep (joinRun l k)) := fun x hx => by
          rw [hstep, joinStep, if_pos hc, hx]
          simp [metO, Own.setAt]
        cases hm : inMet met a with
        | true =>
          refine br_t rfl (ev_var ok (by rfl) (ex_nil (ex_nil ⟨?_, hmet, hsome⟩)))
          exact fin b (by rw [hm]; rfl)
        | false =>
          refine br_f rfl (ev_var ok (by rfl) (ex_nil (ex_nil ⟨?_, hmet, hsome⟩)))
          exact fin a (by rw [hm]; rfl)
      · refine br_f (by simpa using hc) (ex_nil (ex_nil ⟨?_, hmet, hsome⟩))
        rw [hstep, joinStep, if_neg hc]
    · rintro ρ O ⟨rfl, hmet, hsome⟩
      rw [List.length_map, List.take_length]
      refine ex_nil ⟨rfl, ?_, hmet, hsome⟩
      have := joinFold_len l (joinRun l k)
      show (l.foldl joinStep (joinRun l k)).length ≤ _
      omega
  · rintro ρ O ⟨rfl, hlen, hmet, hsome⟩
    refine ex_cons (ex1_ret (ev_cmp cmp_eqI (ev_len ok B rfl (ev_var ok hmet ⟨_, .inr ⟨T, _, rfl, List.mem_cons_self, by simp only [List.length_map]; rfl⟩, ?_, ev_int ?_⟩))))
    · have : (joinRun l 3).length ≤ 31 := hlen
      show (joinRun l 3).length < 2 ^ 62
      omega
    refine ⟨_, ⟨_, _, rfl, rfl, rfl⟩, _, rfl, ?_⟩
    show D.bool ((((joinRun l 3).length : Nat) : Int) == (4 : Nat)) = _
    unfold joins
    congr 1
    by_cases h : (joinRun l 3).length = 4
    · rw [nat_beq_t h, h]; rfl
    · rw [nat_beq_f h]; simp [h]

def sm (lo : Nat) (f : Nat → Int) : Nat → Int
  | 0 => 0
  | k + 1 => sm lo f k + f (lo + k)
def sideOf (k : Nat) : Nat × Nat := ([(0, 1), (0, 2), (0, 3), (1, 2), (1, 3), (2, 3)] : List (Nat × Nat)).getD k (0, 0)
def cnt3 (m : Nat → Nat) (a b c : Nat) : Int := if 0 < m a * m b * m c ∧ joins [sideOf a, sideOf b, sideOf c] then (m a * m b * m c : Nat) else 0
def counted (m : Nat → Nat) : Int := sm 0 (fun a => sm (a + 1) (fun b => sm (b + 1) (cnt3 m a b) (6 - (b + 1))) (6 - (a + 1))) 6

abbrev sidesD : D := .lst [.tup [.int 0, .int 1], .tup [.int 0, .int 2], .tup [.int 0, .int 3], .tup [.int 1, .int 2], .tup [.int 1, .int 3], .tup [.int 2, .int 3]]
theorem sides_item {O : Own} {k : Nat} (h : k < 6) : ItemOf O (.d sidesD) (k : Int) (.d (pairD (sideOf k))) := by
  refine ⟨Int.natCast_nonneg _, zup3 h (by decide), .inl ⟨_, _, .inr rfl, ?_, rfl⟩⟩
  rw [Int.toNat_natCast]
  rcases or6 h with rfl | rfl | rfl | rfl | rfl | rfl <;> rfl
theorem nat_item {O : Own} {n k : Nat} {m : Nat → Nat} (h : k < n) (hn : n ≤ 100) : ItemOf O (.d (.lst (tab n fun i => .int (m i : Nat)))) (k : Int) (.d (.int (m k : Nat))) :=
  ⟨Int.natCast_nonneg _, zup3 h hn, .inl ⟨_, _, .inr rfl, by rw [Int.toNat_natCast, tab_get _ h], rfl⟩⟩
theorem okS {a b : Nat} (h : a < 2 ^ 60) (g : b < 2 ^ 60) : IntMulOk (a : Int) (b : Int) := by
  have big : ∀ x : Nat, x < 2 ^ 60 → ((x : Nat) : Int).natAbs < 2 ^ 20000 := fun x h => by
    rw [Int.natAbs_natCast]
    exact Nat.lt_of_lt_of_le h (Nat.pow_le_pow_right (by decide) (by decide))
  exact mulOk (big a h) (big b g)

theorem sp_counted (w : World) (m : Nat → Nat) (hm : ∀ k, m k ≤ 2) : Spec w 2 186 [.lst (tab 6 fun i => .int (m i : Nat))] (fun d => d = .int (counted m)) := by
  refine spec_intro false [Str.ofString "many"] rfl rfl ?_ rfl (by decide +kernel) (by rfl) rfl rfl rfl ?_
  · walk_at "m:bind"
  intro A h0 L X0 ok B
  refine ex_cons (ex1_assign ok (ev_of_fresh (evf_disp ok ?_)))
  walk_at "m:*"
  refine ⟨by show 6 ≤ sizeLine; decide, [_, _, _, _, _, _], rfl, asg_name ok (by rfl) (ex_cons (ex1_assign ok (ev_int (asg_name ok (by rfl) ?_))))⟩
  have bd : ∀ a b, m a * m b ≤ 4 := fun a b => Nat.mul_le_mul (hm a) (hm b)
  have item : ∀ {ρ : Loc} {x : Str} {p1 p2 pos : Pos} {k : Nat} {Q : AV → Prop}, ρ.lookup (Str.ofString "many") = some (.d (.lst (tab 6 fun i => .int (m i : Nat)))) → ρ.lookup x = some (.d (.int k)) → (x == ("__debug__" : Str)) = false → (x == ("__classdict__" : Str)) = false → k < 6 → Q (.d (.int (m k : Nat))) →
      Ev (fctx w A 1 h0 _ X0 false) ρ [] (.Subscript (.Name (Str.ofString "many") p1) (.Name x p2) pos) Q := fun h1 h2 h3 h4 h5 h6 =>
    ev_item (ev_var ok h1 (ev_var ok h2 ⟨_, _, rfl, nat_item h5 (by decide), h6⟩ h3 h4))
  refine ex_cons (ex1_for ok (it_range1 ok B rfl (ev_int ⟨6, rfl, by decide, by decide, ?_⟩)))
  refine ⟨fun k ρ O => O = [] ∧ ρ.lookup (Str.ofString "many") = some (.d (.lst (tab 6 fun i => .int (m i : Nat)))) ∧ ρ.lookup (Str.ofString "_law_sides") = some (.d sidesD) ∧ ρ.lookup (Str.ofString "found") = some (.d (.int (sm 0 (fun a => sm (a + 1) (fun b => sm (b + 1) (cnt3 m a b) (6 - (b + 1))) (6 - (a + 1))) k))),
    ⟨rfl, by rfl, by rfl, by rfl⟩, ?_, ?_⟩
  · rintro a d ρ O hd ⟨rfl, hmany, hsides, hfound⟩
    obtain ⟨rfl, ha⟩ := rng_get hd
    have ha : a < 6 := by first | lia | omega
    rw [Int.zero_add]
    generalize hF : sm 0 (fun a => sm (a + 1) (fun b => sm (b + 1) (cnt3 m a b) (6 - (b + 1))) (6 - (a + 1))) a = F at *
    refine asg_name ok (by rfl) (ex_cons (ex1_for ok (it_range2 ok B rfl (ev_add (ev_var ok (by rfl) ⟨_, rfl, ev_int ⟨_, rfl, _, rfl, by first | lia | omega, by first | lia | omega, ev_int ⟨6, rfl, by decide, by decide, ?_⟩⟩⟩)))))
    refine ⟨fun k ρ O => O = [] ∧ ρ.lookup (Str.ofString "many") = some (.d (.lst (tab 6 fun i => .int (m i : Nat)))) ∧ ρ.lookup (Str.ofString "_law_sides") = some (.d sidesD) ∧ ρ.lookup (Str.ofString "a") = some (.d (.int a)) ∧ ρ.lookup (Str.ofString "found") = some (.d (.int (F + sm (a + 1) (fun b => sm (b + 1) (cnt3 m a b) (6 - (b + 1))) k))),
      ⟨rfl, hmany, hsides, by rfl, by rw [show F + sm (a + 1) (fun b => sm (b + 1) (cnt3 m a b) (6 - (b + 1))) 0 = F from Int.add_zero _]; exact hfound⟩, ?_, ?_⟩
    · rintro k d ρ O hd ⟨rfl, hmany, hsides, hav, hfound⟩
      obtain ⟨rfl, hk⟩ := rng_get hd
      have hb : a + 1 + k < 6 := by first | lia | omega
      have eb : ((a : Int) + 1 + (k : Int)) = ((a + 1 + k : Nat) : Int) := by push_cast; rfl
      rw [eb]
      generalize hG : F + sm (a + 1) (fun b => sm (b + 1) (cnt3 m a b) (6 - (b + 1))) k = G at *
      generalize hbg : a + 1 + k = b at *
      refine asg_name ok (by rfl) (ex_cons (ex1_for ok (it_range2 ok B rfl (ev_add (ev_var ok (by rfl) ⟨_, rfl, ev_int ⟨_, rfl, _, rfl, by first | lia | omega, by first | lia | omega, ev_int ⟨6, rfl, by decide, by decide, ?_⟩⟩⟩)))))
      refine ⟨fun k ρ O => O = [] ∧ ρ.lookup (Str.ofString "many") = some (.d (.lst (tab 6 fun i => .int (m i : Nat)))) ∧ ρ.lookup (Str.ofString "_law_sides") = some (.d sidesD) ∧ ρ.lookup (Str.ofString "a") = some (.d (.int a)) ∧ ρ.lookup (Str.ofString "b") = some (.d (.int b)) ∧ ρ.lookup (Str.ofString "found") = some (.d (.int (G + sm (b + 1) (cnt3 m a b) k))),
        ⟨rfl, hmany, hsides, hav, by rfl, by rw [show G + sm (b + 1) (cnt3 m a b) 0 = G from Int.add_zero _]; exact hfound⟩, ?_, ?_⟩
      · rintro j d ρ O hd ⟨rfl, hmany, hsides, hav, hbv, hfound⟩
        obtain ⟨rfl, hj⟩ := rng_get hd
        have hc : b + 1 + j < 6 := by first | lia | omega
        have ec : ((b : Int) + 1 + (j : Int)) = ((b + 1 + j : Nat) : Int) := by push_cast; rfl
        rw [ec]
        have hstep : sm (b + 1) (cnt3 m a b) (j + 1) = sm (b + 1) (cnt3 m a b) j + cnt3 m a b (b + 1 + j) := rfl
        generalize b + 1 + j = c at *
        generalize sm (b + 1) (cnt3 m a b) j = H at *
        have ok1 : IntMulOk (m a : Int) (m b : Int) := okS (z60 (hm a)) (z60 (hm b))
        have ok2 : IntMulOk (((m a : Nat) : Int) * ((m b : Nat) : Int)) (m c : Int) := by
          rw [← Int.natCast_mul]; exact okS (Nat.lt_of_le_of_lt (bd a b) (by decide)) (z60 (hm c))
        have hprod : (((m a : Nat) : Int) * ((m b : Nat) : Int) * ((m c : Nat) : Int)) = ((m a * m b * m c : Nat) : Int) := by push_cast; rfl
        refine asg_name ok (by rfl) (ex_cons (ex1_if (tr_and (tr_cmp cmp_gtI (ev_mul (ev_mul (item hmany hav (by decide +kernel) (by decide +kernel) (by first | lia | omega) ⟨_, rfl, item hmany hbv (by decide +kernel) (by decide +kernel) (by first | lia | omega) ⟨_, rfl, ok1, _, rfl, item hmany (by rfl) (by decide +kernel) (by decide +kernel) hc ⟨_, rfl, ok2, ev_int ?_⟩⟩⟩))))))) 
        rw [hprod]
        refine ⟨_, ⟨_, _, rfl, rfl, rfl⟩, ?_⟩
        by_cases hpos : 0 < m a * m b * m c
        · refine br_t (decide_eq_true (by first | lia | omega)) ?_
          refine tr_val (ev_call ok B rfl rfl (Nat.le_refl 1) ⟨_, _, rfl, rfl⟩ (evl_cons (ev_of_fresh (evf_disp ok ?_))))
          refine evl_cons (ev_item (ev_var ok hsides (ev_var ok hav ⟨_, _, rfl, sides_item (by first | lia | omega), ?_⟩)))
          refine evl_cons (ev_item (ev_var ok hsides (ev_var ok hbv ⟨_, _, rfl, sides_item (by first | lia | omega), ?_⟩)))
          refine evl_cons (ev_item (ev_var ok hsides (ev_var ok (by rfl) ⟨_, _, rfl, sides_item hc, ?_⟩)))
          refine evl_nil ⟨by show 3 ≤ sizeLine; decide, [_, _, _], rfl, evl_nil ⟨_, _, _, .d .nil, sp_joins w [sideOf a, sideOf b, sideOf c] (by show 3 ≤ 10; decide), ?_⟩⟩
          rintro _ rfl
          refine ⟨.inl rfl, _, rfl, ?_⟩
          cases hjn : joins [sideOf a, sideOf b, sideOf c] with
          | true =>
            refine br_t rfl (ex_cons (ex1_assign ok (ev_add (ev_var ok hfound ⟨_, rfl, ev_mul (ev_mul (item hmany hav (by decide +kernel) (by decide +kernel) (by first | lia | omega) ⟨_, rfl, item hmany hbv (by decide +kernel) (by decide +kernel) (by first | lia | omega) ⟨_, rfl, ok1, _, rfl, item hmany (by rfl) (by decide +kernel) (by decide +kernel) hc ⟨_, rfl, ok2, _, rfl, asg_name ok (by rfl) (ex_nil (ex_nil ⟨rfl, hmany, hsides, hav, hbv, ?_⟩))⟩⟩⟩))⟩))))
            show some _ = some _
            rw [hstep, cnt3, if_pos ⟨hpos, hjn⟩, hprod, Int.add_assoc]
          | false =>
            refine br_f rfl (ex_nil (ex_nil ⟨rfl, hmany, hsides, hav, hbv, ?_⟩))
            rw [hstep, cnt3, if_neg (fun z => by rw [hjn] at z; exact absurd z.2 (by decide)), Int.add_zero]
            exact hfound
        · refine br_f (decide_eq_false (by first | lia | omega)) (br_f rfl (ex_nil (ex_nil ⟨rfl, hmany, hsides, hav, hbv, ?_⟩)))
          rw [hstep, cnt3, if_neg (fun z => hpos z.1), Int.add_zero]
          exact hfound
      · rintro ρ O ⟨rfl, hmany, hsides, hav, hbv, hfound⟩
        rw [rng_length] at hfound
        have hnn : ((6 : Int) - ((b : Int) + 1)).toNat = 6 - (b + 1) := z6 b
        rw [hnn] at hfound
        refine ex_nil ⟨rfl, hmany, hsides, hav, ?_⟩
        have : F + sm (a + 1) (fun b => sm (b + 1) (cnt3 m a b) (6 - (b + 1))) (k + 1) = G + sm (b + 1) (cnt3 m a b) (6 - (b + 1)) := by
          show F + (sm (a + 1) _ k + sm (a + 1 + k + 1) (cnt3 m a (a + 1 + k)) (6 - (a + 1 + k + 1))) = _
          rw [hbg, ← Int.add_assoc, hG]
        rw [this]; exact hfound
    · rintro ρ O ⟨rfl, hmany, hsides, hav, hfound⟩
      rw [rng_length] at hfound
      have hnn : ((6 : Int) - ((a : Int) + 1)).toNat = 6 - (a + 1) := z6 a
      rw [hnn] at hfound
      refine ex_nil ⟨rfl, hmany, hsides, ?_⟩
      have : sm 0 (fun a => sm (a + 1) (fun b => sm (b + 1) (cnt3 m a b) (6 - (b + 1))) (6 - (a + 1))) (a + 1) = F + sm (a + 1) (fun b => sm (b + 1) (cnt3 m a b) (6 - (b + 1))) (6 - (a + 1)) := by
        show sm 0 _ a + sm (0 + a + 1) (fun b => sm (b + 1) (cnt3 m (0 + a) b) (6 - (b + 1))) (6 - (0 + a + 1)) = _
        rw [hF, Nat.zero_add]
      rw [this]; exact hfound
  · rintro ρ O ⟨rfl, hmany, hsides, hfound⟩
    exact ex_cons (ex1_ret (ev_var ok hfound ⟨_, rfl, rfl⟩))

/-! ### walks counted -/
def wayStep (v : Nat → Int) (l : Nat → Int) (e : Nat × Nat) : Nat → Int := fun i => if i = e.1 then l e.1 + v e.2 else if i = e.2 then l e.2 + v e.1 else l i
def wayTurn (lines : List (Nat × Nat)) (v : Nat → Int) : Nat → Int := lines.foldl (wayStep v) fun _ => 0
def ways (lines : List (Nat × Nat)) (begin_ : Nat) : Nat → Nat → Int
  | 0 => fun i => if i = begin_ then 1 else 0
  | k + 1 => wayTurn lines (ways lines begin_ k)

abbrev vecD (v : Nat → Int) : D := .lst (tab 4 fun i => .int (v i))
abbrev vecA (v : Nat → Int) : List AV := tab 4 fun i => .d (.int (v i))
def VecOf (O : Own) (a : AV) (v : Nat → Int) : Prop := a = .d (vecD v) ∨ ∃ T, a = .p T ∧ (T, vecA v) ∈ O
theorem vec_item {O : Own} {a : AV} {v : Nat → Int} {k : Nat} (h : VecOf O a v) (hk : k < 4) : ItemOf O a (k : Int) (.d (.int (v k))) := by
  refine ⟨by first | lia | omega, by first | lia | omega, ?_⟩
  rw [Int.toNat_natCast]
  rcases h with rfl | ⟨T, rfl, hm⟩
  · exact .inl ⟨_, _, .inr rfl, tab_get _ hk, rfl⟩
  · exact .inr ⟨T, _, rfl, hm, tab_get _ hk⟩
theorem setAt_mem {O : Own} {T : Addr} {as bs : List AV} (h : (T, as) ∈ O) : (T, bs) ∈ O.setAt T bs :=
  List.mem_map.mpr ⟨_, h, by simp⟩
theorem setAt_other {O : Own} {T U : Addr} {as bs : List AV} (h : (U, as) ∈ O) (n : U ≠ T) : (U, as) ∈ O.setAt T bs :=
  List.mem_map.mpr ⟨_, h, by simp [n]⟩
theorem VecOf.setAt {O : Own} {T : Addr} {bs : List AV} {a : AV} {v : Nat → Int} (h : VecOf O a v) (n : a ≠ .p T) : VecOf (O.setAt T bs) a v := by
  rcases h with rfl | ⟨U, rfl, hm⟩
  · exact .inl rfl
  · exact .inr ⟨U, rfl, setAt_other hm fun z => n (by rw [z])⟩
theorem VecOf.froz {O : Own} {a : AV} {v : Nat → Int} (h : VecOf O a v) : Froz O a (vecD v) := by
  rcases h with rfl | ⟨U, rfl, hm⟩
  · exact .d
  · refine .p hm ?_
    have := Frozs.ds (O := O) (tab 4 fun i => D.int (v i))
    rwa [tab_map] at this

theorem sp_ways (w : World) (lines : List (Nat × Nat)) (begin_ steps : Nat) (hst : steps ≤ 100) (hl : ∀ e ∈ lines, e.1 < 4 ∧ e.2 < 4 ∧ e.1 ≠ e.2) : Spec w 1 191 [pairsD lines, .int begin_, .int steps] (fun d => d = vecD (ways lines begin_ steps)) := by
  refine spec_intro false [Str.ofString "lines", Str.ofString "begin", Str.ofString "steps"] rfl rfl ?_ rfl (by decide +kernel) (by rfl) rfl rfl rfl ?_
  · walk_at "m:bind"
  intro A h0 L X0 ok B
  refine ex_cons (ex1_comp ok false false [Str.ofString "at"] (by rfl) (closOk_of (by rfl)) rfl (by rfl) (by rfl) (it_range1 ok B rfl (ev_int ⟨4, rfl, by decide, by decide, ?_⟩)))
  refine ⟨fun k ys => k ≤ 4 ∧ ys = tab k fun i => .int (ways lines begin_ 0 i), ⟨by decide, rfl⟩, ?_, ?_, ?_⟩
  · rintro C k d ys okb hd ⟨_, rfl⟩
    obtain ⟨rfl, hk⟩ := rng_get hd
    rw [Int.zero_add]
    refine ⟨_, asgb_name okb (by rfl), tests_nil (br_t rfl (evx_ev (ev_intb okb B rfl (ev_cmp cmp_eqI (ev_var okb (by rfl) (ev_var okb (by rfl) ?_))))))⟩
    refine ⟨_, ⟨_, _, rfl, rfl, rfl⟩, _, rfl, _, rfl, hk, ?_⟩
    rw [tab_succ]
    congr 3
    show (if ((k : Int) == (begin_ : Int)) = true then (1 : Int) else 0) = if k = begin_ then 1 else 0
    by_cases h : k = begin_
    · rw [if_pos h, if_pos (nat_beq_t h)]
    · rw [if_neg h, nat_beq_f h]; rfl
  · rintro i ys ⟨h, rfl⟩
    rw [tab_len]
    exact Nat.le_trans h (by decide)
  rintro ys ⟨_, rfl⟩
  rw [rng_length]
  refine ex_cons (ex1_for ok (it_range1 ok B rfl (ev_var ok (by rfl) ⟨(steps : Int), rfl, zlo _, zup hst, ?_⟩)))
  refine ⟨fun k ρ O => ∃ a, ρ.lookup (Str.ofString "here") = some a ∧ VecOf O a (ways lines begin_ k) ∧ ρ.lookup (Str.ofString "lines") = some (.d (pairsD lines)), ⟨_, by rfl, .inl rfl, by rfl⟩, ?_, ?_⟩
  · rintro k d ρ O hd ⟨a, hhere, hv, hlines⟩
    refine asg_name ok (by rfl) (ex_cons (ex1_own ok (by rfl) (evf_rep ok (ev_of_fresh (evf_disp ok (evl_cons (ev_int (evl_nil ?_))))))))
    refine ⟨by show 1 ≤ sizeLine; decide, [.int 0], rfl, _, rfl, ev_int ⟨4, rfl, by decide, by decide, fun T hT => ?_⟩⟩
    have hne : a ≠ .p T := fun z => by
      rcases hv with q | ⟨U, q, hm⟩
      · rw [q] at z; cases z
      · rw [q] at z; cases z; exact hT (List.mem_map.mpr ⟨_, hm, rfl⟩)
    generalize hvv : ways lines begin_ k = v at *
    refine ex_cons (ex1_for ok (it_list ok (.inr ⟨_, _, _, rfl⟩) (ev_var ok hlines ⟨_, rfl, ?_⟩)))
    refine ⟨fun i ρ O => ρ.lookup (Str.ofString "here") = some a ∧ VecOf O a v ∧ ρ.lookup (Str.ofString "lines") = some (.d (pairsD lines)) ∧ ρ.lookup (Str.ofString "later") = some (.p T) ∧ (T, vecA ((lines.take i).foldl (wayStep v) fun _ => 0)) ∈ O,
      ⟨hhere, ?_, hlines, by rfl, List.mem_cons_self⟩, ?_, ?_⟩
    · rcases hv with q | ⟨U, q, hm⟩
      · exact .inl q
      · exact .inr ⟨U, q, List.mem_cons_of_mem _ hm⟩
    · rintro i d ρ O hd ⟨hhere, hv, hlines, hlater, hm⟩
      rw [List.getElem?_map, Option.map_eq_some_iff] at hd
      obtain ⟨⟨x, y⟩, he, rfl⟩ := hd
      obtain ⟨hx, hy, hxy⟩ := hl _ (List.mem_of_getElem? he)
      simp only at hx hy hxy
      have hstep : (lines.take (i + 1)).foldl (wayStep v) (fun _ => 0) = wayStep v ((lines.take i).foldl (wayStep v) fun _ => 0) (x, y) := by
        rw [List.take_add_one, he]; simp
      generalize (lines.take i).foldl (wayStep v) (fun _ => 0) = l at hstep hm
      have hl' : VecOf O (.p T) l := .inr ⟨T, rfl, hm⟩
      refine asg_tup2 ok (asg_name ok (by rfl) (asg_name ok (by rfl) ?_))
      refine ex_cons (ex1_assign ok (ev_tup2 ok (ev_add (ev_item (ev_var ok hlater (ev_var ok (by rfl) ⟨_, _, rfl, vec_item hl' hy, _, rfl, ev_item (ev_var ok hhere (ev_var ok (by rfl) ⟨_, _, rfl, vec_item hv hx, _, rfl, _, rfl, ?_⟩))⟩))))))
      refine ev_add (ev_item (ev_var ok hlater (ev_var ok (by rfl) ⟨_, _, rfl, vec_item hl' hx, _, rfl, ev_item (ev_var ok hhere (ev_var ok (by rfl) ⟨_, _, rfl, vec_item hv hy, _, rfl, _, rfl, ?_⟩))⟩)))
      refine asg_tup2 ok (asg_item ok rfl (ev_var ok hlater (ev_var ok (by rfl) ⟨T, (y : Int), _, rfl, rfl, hm, Int.natCast_nonneg _, by rw [tab_len]; exact Int.ofNat_lt.mpr hy, zup3 hy (by decide), ?_⟩)))
      refine asg_item ok rfl (ev_var ok hlater (ev_var ok (by rfl) ⟨T, (x : Int), _, rfl, rfl, setAt_mem hm, Int.natCast_nonneg _, by rw [List.length_set, tab_len]; exact Int.ofNat_lt.mpr hx, zup3 hx (by decide), ?_⟩))
      refine ex_nil ⟨hhere, (hv.setAt hne).setAt hne, hlines, hlater, ?_⟩
      have e : ((vecA l).set (y : Int).toNat (.d (.int (l y + v x)))).set (x : Int).toNat (.d (.int (l x + v y))) = vecA ((lines.take (i + 1)).foldl (wayStep v) fun _ => 0) := by
        rw [hstep, Int.toNat_natCast, Int.toNat_natCast, vecA, tab_set, tab_set]
        apply tab_congr
        intro q _
        unfold wayStep
        by_cases h1 : q = x
        · subst h1; simp
        · by_cases h2 : q = y
          · subst h2; simp [h1]
          · simp [h1, h2]
      rw [← e]
      exact setAt_mem (setAt_mem hm)
    · rintro ρ O ⟨hhere, hv, hlines, hlater, hm⟩
      rw [List.length_map, List.take_length] at hm
      exact ex_cons (ex1_assign ok (ev_var ok hlater (asg_name ok (by rfl) (ex_nil ⟨.p T, by rfl, .inr ⟨T, rfl, by show (T, vecA (wayTurn lines (ways lines begin_ k))) ∈ O; rw [hvv]; exact hm⟩, hlines⟩))))
  · rintro ρ O ⟨a, hhere, hv, hlines⟩
    rw [rng_length] at hv
    have hnn : ((steps : Int) - 0).toNat = steps := zt0 _
    rw [hnn] at hv
    exact ex_cons (ex1_retF ok (ev_var ok hhere ⟨_, hv.froz, rfl⟩))

def mulM (n : Nat) (A B : Nat → Nat → Int) : Nat → Nat → Int := fun i j => sm 0 (fun a => A i a * B a j) n
theorem mulOkI {a b : Int} (h : a.natAbs < 2 ^ 60) (g : b.natAbs < 2 ^ 60) : IntMulOk a b :=
  mulOk (Nat.lt_of_lt_of_le h (Nat.pow_le_pow_right (by decide) (by decide))) (Nat.lt_of_lt_of_le g (Nat.pow_le_pow_right (by decide) (by decide)))

theorem sp_rowcol (w : World) (n spot : Nat) (r : Nat → Int) (G : Nat → Nat → Int) (hn : n ≤ 100) (hs : spot < n) (hr : ∀ j, (r j).natAbs < 2 ^ 60) (hG : ∀ i j, (G i j).natAbs < 2 ^ 60) :
    Spec w 1 77 [.lst (tab n fun j => .int (r j)), matI n G, .int spot, .fn 0, .fn 1] (fun d => d = .int (sm 0 (fun a => r a * G a spot) n)) := by
  refine spec_intro false [Str.ofString "row", Str.ofString "grid", Str.ofString "spot", Str.ofString "plus", Str.ofString "times"] rfl rfl ?_ rfl (by decide +kernel) (by rfl) rfl rfl rfl ?_
  · rintro (_ | ⟨a, _ | ⟨b, _ | ⟨d, _ | ⟨e, _ | ⟨f, _ | ⟨g, _⟩⟩⟩⟩⟩⟩) h <;> first | rfl | (simp at h)
  intro A h0 L X0 ok B
  refine ex_cons (ex1_assign ok (ev_int (asg_name ok (by rfl) ?_)))
  refine ex_cons (ex1_for ok (it_enum ok B rfl (ev_var ok (by rfl) ⟨_, rfl, ?_⟩)))
  refine ⟨fun k ρ O => O = [] ∧ ρ.lookup (Str.ofString "grid") = some (.d (matI n G)) ∧ ρ.lookup (Str.ofString "spot") = some (.d (.int spot)) ∧ ρ.lookup (Str.ofString "plus") = some (.d (.fn 0)) ∧ ρ.lookup (Str.ofString "times") = some (.d (.fn 1)) ∧ ρ.lookup (Str.ofString "total") = some (.d (.int (sm 0 (fun a => r a * G a spot) k))),
    ⟨rfl, by rfl, by rfl, by rfl, by rfl, by rfl⟩, ?_, ?_⟩
  · rintro k d ρ O hd ⟨rfl, hg, hsp, hp, ht, htot⟩
    obtain ⟨x, hx, rfl⟩ := numbered_get hd
    have hk : k < n := by
      have := (List.getElem?_eq_some_iff.mp hx).1
      rwa [tab_len] at this
    rw [tab_get _ hk] at hx
    cases hx
    rw [Nat.zero_add]
    refine asg_tup2 ok (asg_name ok (by rfl) (asg_name ok (by rfl) ?_))
    refine ex_cons (ex1_assign ok (ev_callLam ok B hp ?_))
    refine evl_cons (ev_var ok htot (evl_cons (ev_callLam ok B ht ?_)))
    refine evl_cons (ev_var ok (by rfl) (evl_cons (ev_item (ev_item (ev_var ok hg (ev_var ok (by rfl) ⟨_, _, rfl, matI_row hk hn, ?_⟩))))))
    refine ev_var ok hsp ⟨_, _, rfl, int_item hs hn, evl_nil ⟨r k, G k spot, r k * G k spot, rfl, ?_, ?_⟩⟩
    · unfold LamR; rw [if_neg (by decide)]; exact ⟨mulOkI (hr k) (hG k spot), rfl⟩
    refine evl_nil ⟨_, _, sm 0 (fun a => r a * G a spot) k + r k * G k spot, rfl, ?_, ?_⟩
    · unfold LamR; rw [if_pos rfl]
    refine asg_name ok (by rfl) (ex_nil ⟨rfl, hg, hsp, hp, ht, ?_⟩)
    show some _ = some _
    rw [sm, Nat.zero_add]
  · rintro ρ O ⟨rfl, hg, hsp, hp, ht, htot⟩
    rw [numbered_length, tab_len] at htot
    exact ex_cons (ex1_ret (ev_var ok htot ⟨_, rfl, rfl⟩))

theorem sp_product (w : World) (n : Nat) (A B : Nat → Nat → Int) (h1 : 1 ≤ n) (hn : n ≤ 100) (hA : ∀ i j, (A i j).natAbs < 2 ^ 60) (hB : ∀ i j, (B i j).natAbs < 2 ^ 60) :
    Spec w 2 70 [matI n A, matI n B, .fn 0, .fn 1] (fun d => d = matI n (mulM n A B)) := by
  refine spec_intro true [Str.ofString "one", Str.ofString "other", Str.ofString "plus", Str.ofString "times"] rfl rfl ?_ rfl (by decide +kernel) (by rfl) rfl rfl rfl ?_
  · rintro (_ | ⟨a, _ | ⟨b, _ | ⟨d, _ | ⟨e, _ | ⟨f, _⟩⟩⟩⟩⟩) h <;> first | rfl | (simp at h)
  intro A' h0 L X0 ok Bs
  refine ex_cons (ex1_assign ok (ev_call ok Bs rfl rfl (Nat.le_refl 1) ⟨_, _, rfl, rfl⟩ (evl_cons (ev_var ok (by rfl) (evl_nil ⟨_, _, _, .d .nil, sp_shapeI w n A h1 hn, ?_⟩)))))
  rintro _ rfl
  refine ⟨.inl rfl, asg_tup2 ok (asg_name ok (by rfl) (asg_name ok (by rfl) ?_))⟩
  refine ex_cons (ex1_if (tr_cmp cmp_neI (ev_var ok (by rfl) (ev_item (ev_call ok Bs rfl rfl (Nat.le_refl 1) ⟨_, _, rfl, rfl⟩ (evl_cons (ev_var ok (by rfl) (evl_nil ⟨_, _, _, .d .nil, sp_shapeI w n B h1 hn, ?_⟩))))))))
  rintro _ rfl
  refine ⟨.inl rfl, ev_int ⟨0, .d (.int n), rfl, ⟨by decide, by decide, .inl ⟨_, _, .inl rfl, rfl, rfl⟩⟩, ?_⟩⟩
  refine ⟨_, ⟨_, _, rfl, rfl, rfl⟩, br_f (show ((n : Int) != n) = false by simp) (ex_nil ?_)⟩
  refine ex_cons (ex1_own ok (by rfl) (evf_disp ok (evl_nil ⟨by show 0 ≤ sizeLine; decide, fun T _ => ?_⟩)))
  refine ex_cons (ex1_for ok (it_list ok (.inl ⟨_, _, rfl⟩) (ev_var ok (by rfl) ⟨_, rfl, ?_⟩)))
  refine ⟨fun k ρ O => O = [(T, (tab k fun i => D.lst (tab n fun j => .int (mulM n A B i j))).map .d)] ∧ k ≤ n ∧ ρ.lookup (Str.ofString "other") = some (.d (matI n B)) ∧ ρ.lookup (Str.ofString "plus") = some (.d (.fn 0)) ∧ ρ.lookup (Str.ofString "times") = some (.d (.fn 1)) ∧ ρ.lookup (Str.ofString "found") = some (.p T),
    ⟨rfl, Nat.zero_le _, by rfl, by rfl, by rfl, by rfl⟩, ?_, ?_⟩
  · rintro k d ρ O hd ⟨rfl, _, ho, hp, ht, hf⟩
    have hk : k < n := by
      have := (List.getElem?_eq_some_iff.mp hd).1
      rwa [tab_len] at this
    rw [tab_get _ hk] at hd
    cases hd
    refine asg_name ok (by rfl) (ex_cons (ex1_append ok rfl hf List.mem_cons_self (by simp [tab]; exact Nat.le_trans (by first | lia | omega : k ≤ 100) (by decide)) (ev_of_fresh (evf_comp ok false [Str.ofString "spot"] (closOk_of (by rfl)) rfl (by rfl) (by rfl) (it_range1 ok Bs rfl (ev_item (ev_call ok Bs rfl rfl (Nat.le_refl 1) ⟨_, _, rfl, rfl⟩ (evl_cons (ev_var ok ho (evl_nil ⟨_, _, _, .d .nil, sp_shapeI w n B h1 hn, ?_⟩)))))))))) 
    rintro _ rfl
    refine ⟨.inl rfl, ev_int ⟨1, .d (.int n), rfl, ⟨by decide, by decide, .inl ⟨_, _, .inl rfl, rfl, rfl⟩⟩, (n : Int), rfl, zlo _, zup hn, ?_⟩⟩
    refine ⟨fun s ys => s ≤ n ∧ ys = tab s fun j => .int (mulM n A B k j), ⟨Nat.zero_le _, rfl⟩, ?_, ?_, ?_⟩
    · rintro C s d ys okb hd ⟨_, rfl⟩
      obtain ⟨rfl, hs⟩ := rng_get hd
      have hs : s < n := by first | lia | omega
      rw [Int.zero_add]
      refine ⟨_, asgb_name okb (by rfl), tests_nil (br_t rfl (evx_ev (ev_call okb Bs rfl rfl (Nat.le_refl 1) ⟨_, _, rfl, rfl⟩ (evl_cons (ev_var okb (by rfl) (evl_cons (ev_var okb (by exact seen_look rfl ho) (evl_cons (ev_var okb (by rfl) (evl_cons (ev_var okb (by exact seen_look rfl hp) (evl_cons (ev_var okb (by exact seen_look rfl ht) (evl_nil ⟨_, _, _, .d (.d (.d (.d (.d .nil)))), sp_rowcol w n s (A k) B hn hs (hA k) hB, ?_⟩))))))))))))))⟩
      rintro _ rfl
      exact ⟨.inl rfl, _, rfl, hs, (tab_succ _).symm⟩
    · rintro i ys ⟨h, rfl⟩
      rw [tab_len]
      exact Nat.le_trans h (Nat.le_trans hn (by decide))
    rintro ys ⟨_, rfl⟩
    rw [rng_length]
    have hnn : ((n : Int) - 0).toNat = n := zt0 _
    rw [hnn]
    refine ⟨_, rfl, ex_nil ⟨?_, hk, ho, hp, ht, hf⟩⟩
    simp [Own.setAt, tab_succ]
  · rintro ρ O ⟨rfl, _, ho, hp, ht, hf⟩
    rw [tab_len]
    exact ex_cons (ex1_retF ok (ev_var ok hf ⟨_, .p List.mem_cons_self (Frozs.ds _), rfl⟩))

/-! ### contracts of functions that turn some objects -/
abbrev vctx (w : World) (A : Around) (n : Nat) (h0 : Heap) (env : Env) (X0 : Addr → Prop) (l : List Addr) (Iv : Heap → Prop) : Ctx :=
  { w := w, A := A, n := n, h0 := h0, env := env, X0 := X0, V := fun a => a ∈ l, Iv := Iv, pl := false }

def SpecV (w : World) (n : Nat) (f : Addr) (l : List Addr) (Iv : Heap → Prop) (as : List AV) (R : D → Prop) : Prop :=
  ∀ (A : Around) (s : Shared) (Z : Addr → Prop) (vs : List Value) (g : Heap), A.handled = none → A.depth + n < recursionLimit → A.units + 8 * n + 64 < cLine → Bas w g → CodeHd g 197 193 → Ext g s.heap → (∀ a ∈ l, g.get? a = none) →
    (∀ a, Z a → ∃ o, s.heap.get? a = some o ∧ NotCode o) → (∀ a ∈ l, Z a) → Iv s.heap → AReps Z s.heap vs as →
    Wp w A (call (.ref f) vs) (fun v s' => Kp (fun a => a ∈ l) s.heap s'.heap ∧ (∀ a ∈ l, ∃ o, s'.heap.get? a = some o ∧ NotCode o) ∧ Iv s'.heap ∧ Res s s' ∧ ∃ d, Rep Z s'.heap v d ∧ R d) s

def IvOk (l : List Addr) (Iv : Heap → Prop) : Prop := ∀ h h', (∀ a o, a ∈ l → h.get? a = some o → h'.get? a = some o) → (∀ a o, ¬ NotCode o → h.get? a = some o → h'.get? a = some o) → Iv h → Iv h'

theorem zip_lookupA {Z : Addr → Prop} {h : Heap} : ∀ {names : List Str} {vs : List Value} {as : List AV} {x : Str} {a : AV}, AReps Z h vs as → (names.zip as).lookup x = some a → ∃ v, (x, v) ∈ names.zip vs ∧ ARep Z h v a
  | [], _, _, _, _, _, e => by simp at e
  | n :: ns, _, _, x, a, .nil, e => by simp at e
  | n :: ns, _, _, x, a, .cons (v := v) (d := d) y r, e => by
    rw [List.zip_cons_cons, List.lookup_cons] at e
    cases hb : x == n with
    | true =>
      rw [hb] at e
      cases e
      rw [beq_iff_eq.mp hb]
      exact ⟨v, List.mem_cons_self, y⟩
    | false =>
      rw [hb] at e
      obtain ⟨v', h1, h2⟩ := zip_lookupA r e
      exact ⟨v', List.mem_cons_of_mem _ h1, h2⟩

theorem spec_introV {w : World} {n : Nat} {f : Addr} {l : List Addr} {Iv : Heap → Prop} {as : List AV} {R : D → Prop} {name qual : Str} {params : Arguments} {body : List Stmt} {scope : Scope} {dV kV doc pm cdv ct oc : Value} {an od : Option Addr} {osl : Array (Option Value)} (hIv : IvOk l Iv) (names : List Str)
    (ho : (KK w).lookup f = some ⟨oc, od, .func (fnOf name qual params body scope dV kV doc pm an cdv ct), osl⟩) (hcd : codeIn (KK w) cdv qual = true)
    (hbind : ∀ vals : List Value, vals.length = names.length → bindArgs (fnOf name qual params body scope dV kV doc pm an cdv ct) ⟨vals, []⟩ = pure (names.zip vals))
    (hl : as.length = names.length) (hnd : names.Nodup)
    (hkind : (names.all fun y => scope.names.lookup y == some .local || (scope.names.lookup y == some .cell && ((cellsFrom 0 scope.names []).lookup y).isSome)) = true)
    (hk : scope.kind = .function) (hco : scope.isCoroutine = false) (hgen : scope.isGenerator = false)
    (h : ∀ (A : Around) (h0 : Heap) (L : Addr) (X0 : Addr → Prop), Ctx.Ok (vctx w A n h0 (fenv qual scope f cdv L) X0 l Iv) → Bas w h0 → CodeHd h0 197 193 → Ex (vctx w A n h0 (fenv qual scope f cdv L) X0 l Iv) (names.zip as) [] body (fun _ _ => R .none) R) : SpecV w (n + 1) f l Iv as R := by
  intro A s Z vs g hh hroom hunits hB hC hg hgl hZ hlZ hI hr
  have hBs := hB.ext hg
  obtain ⟨pp, loose, mean, mg, mb, K, T⟩ := id hBs
  have hlen : vs.length = names.length := hr.length.trans hl
  have hcells : ∀ (k : Nat) (l : List (Str × NameKind)) (acc acc' : List (Str × Addr)), (∀ y, (acc.lookup y).isSome = (acc'.lookup y).isSome) → ∀ y m, ((cellsFrom m l acc).lookup y).isSome = ((cellsFrom k l acc').lookup y).isSome := by
    intro k l
    induction l generalizing k with
    | nil => intro acc acc' e y m; exact e y
    | cons q l ih =>
      intro acc acc' e y m
      obtain ⟨nm, kd⟩ := q
      unfold cellsFrom
      split
      · refine ih (k + 1) _ _ (fun y => ?_) y (m + 1)
        rw [List.lookup_cons, List.lookup_cons]
        cases y == nm
        · exact e y
        · rfl
      · exact ih k _ _ e y m
  have hkind' : ∀ x ∈ names.zip vs, scope.names.lookup x.1 = some .local ∨ (scope.names.lookup x.1 = some .cell ∧ ((cellsFrom (s.heap.objs.size + 1) scope.names []).lookup x.1).isSome = true) := by
    rintro ⟨x, v⟩ hx
    have := List.all_eq_true.mp hkind x (List.of_mem_zip hx).1
    rcases Bool.or_eq_true_iff.mp this with q | q
    · exact .inl (beq_iff_eq.mp q)
    · rw [Bool.and_eq_true] at q
      exact .inr ⟨beq_iff_eq.mp q.1, (hcells 0 _ _ _ (fun _ => rfl) x _).trans q.2⟩
  refine wpAny_call (codeAny_call_cells (fd := fnOf name qual params body scope dV kV doc pm an cdv ct) (by first | lia | omega) (K _ _ ho) rfl T.nolimit (codeRec_of K hcd) rfl (hbind vs hlen) rfl hkind' (fun s₁ x => ?_) hco hgen hk)
  show wpAny (model PG w) (A.deeper (fenv qual scope f cdv s.heap.objs.size)) (execs body (fenv qual scope f cdv s.heap.objs.size)) _ _ s₁
  have e0 : Ext (hideAll s.heap l) s.heap := fun a o e => of_hideAll l e
  have eg : Ext g (hideAll s.heap l) := fun a o e => hideAll_get l (hg a o e) fun q => by rw [hgl a q] at e; cases e
  have n0 : ∀ a, s.heap.get? a = none → (hideAll s.heap l).get? a = none := fun a e => by
    cases q : (hideAll s.heap l).get? a with
    | none => rfl
    | some o => rw [e0 a o q] at e; cases e
  have keep := x.toInCall.keep
  have ok : Ctx.Ok (vctx w (A.deeper (fenv qual scope f cdv s.heap.objs.size)) n (hideAll s.heap l) (fenv qual scope f cdv s.heap.objs.size) (fun a => Z a ∧ a ∉ l) l Iv) :=
    ⟨hh, by show A.depth + 1 + n < _; omega, by show A.units + 3 + 8 * n + 64 < _; omega, hk, rfl, rfl, fun a q => hideAll_none l q, fun a q => by obtain ⟨o, e, _⟩ := hZ a q.1; exact ⟨o, hideAll_get l e q.2⟩, hIv⟩
  have hL : ∀ k, (∃ o, s.heap.get? k = some o) → k ≠ s.heap.objs.size := fun k ⟨o, e⟩ => Nat.ne_of_lt (Heap.lt_size e)
  have hCc : ∀ y k, (cellsFrom (s.heap.objs.size + 1) scope.names []).lookup y = some k → s.heap.objs.size < k := fun y k e => x.above y k (mem_of_lookup e)
  have S : Sta (vctx w (A.deeper (fenv qual scope f cdv s.heap.objs.size)) n (hideAll s.heap l) (fenv qual scope f cdv s.heap.objs.size) (fun a => Z a ∧ a ∉ l) l Iv) (fun a => (Z a ∧ a ∉ l) ∨ a = s.heap.objs.size ∨ ∃ y, (cellsFrom (s.heap.objs.size + 1) scope.names []).lookup y = some a) (fun _ => False) (names.zip as) [] s₁.heap := by
    refine ⟨e0.trans keep, fun a q => .inl q, ?_, fun a q => ?_, fun a v q => ?_, hIv _ _ (fun a o _ e => keep a o e) (fun a o _ e => keep a o e) hI, fun a q => q.elim, ⟨_, _, ⟨x.toInCall.ns, .inr (.inl rfl), fun q => q, n0 _ (get_size _), x.cell, fun y k e => ⟨.inr (.inr ⟨y, e⟩), fun q => q, n0 _ (Heap.get?_none_of_le (Nat.le_of_lt (hCc y k e))), Nat.ne_of_gt (hCc y k e)⟩, fun y z k e1 e2 => name_of_addr x.apart (mem_of_lookup e1) (mem_of_lookup e2)⟩, fun y a e => ?_⟩, fun q hq => (nomatch hq), List.nodup_nil⟩
    · rintro a (q | rfl | ⟨y, e⟩)
      · obtain ⟨o, e, n⟩ := hZ a q.1; exact ⟨o, keep a o e, n⟩
      · obtain ⟨o, _, _, e, d, _⟩ := x.toInCall.ns; exact ⟨o, e, fun _ _ _ z => by rw [d] at z; cases z⟩
      · obtain ⟨o, e, d⟩ := x.cell y a e; exact ⟨o, e, fun _ _ _ z => by rw [d] at z; cases z⟩
    · obtain ⟨o, e, n⟩ := hZ a (hlZ a q); exact ⟨o, keep a o e, n⟩
    · have hex : ∃ o, s.heap.get? a = some o := by obtain ⟨o, e, _⟩ := hZ a (hlZ a v); exact ⟨o, e⟩
      rcases q with q | q | ⟨y, e⟩
      · exact q.2 v
      · exact hL a hex q
      · obtain ⟨o, e2⟩ := hex; exact absurd (Heap.lt_size e2) (Nat.not_lt.mpr (Nat.le_of_lt (hCc y a e)))
    · obtain ⟨v, hm, hd⟩ := zip_lookupA hr e
      have hnd' : ((names.zip vs).map (·.1)).Nodup := by rw [List.map_fst_zip (by first | lia | omega)]; exact hnd
      have key := bindLC (env := fenv qual scope f cdv s.heap.objs.size) (names.zip vs) (fun _ => none) (fun _ => none) y v hnd' hm
      refine ⟨v, ?_, ARep.mono (fun a q z => ?_) (fun a o _ e => keep a o e) hd⟩
      · rcases hkind' _ hm with q | ⟨q, q2⟩
        · have hk1 : (fenv qual scope f cdv s.heap.objs.size).kindOf y = some .local := q
          simp only [look, hk1]
          exact key.1 hk1
        · have hk1 : (fenv qual scope f cdv s.heap.objs.size).kindOf y = some .cell := q
          simp only [look, hk1]
          exact (if_pos q2).trans (key.2 (by rw [hk1]; decide))
      · rcases z with (z | rfl | ⟨y, e⟩) | z
        · exact z.1
        · exact absurd rfl (hL _ q)
        · obtain ⟨o, e2⟩ := q; exact absurd (Heap.lt_size e2) (Nat.not_lt.mpr (Nat.le_of_lt (hCc y a e)))
        · exact hlZ a z
  refine Wp.monoE ((h _ (hideAll s.heap l) _ (fun a => Z a ∧ a ∉ l) ok (hB.ext eg) (hC.keeps eg)).run _ _ s₁ S) fun fl s₂ ⟨r, hr2⟩ => ?_
  have hres : Res s s₁ := by obtain ⟨hh1, tk, e⟩ := x.toInCall.same; rw [e]; exact .mk
  have kp : ∀ {h' : Heap}, Ext (hideAll s.heap l) h' → Kp (fun a => a ∈ l) s.heap h' := fun e a o n q => e a o (hideAll_get l q n)
  cases fl with
  | next =>
    obtain ⟨X', ρ', O', S', _, hq⟩ := hr2
    exact ⟨kp S'.base, S'.vn, S'.inv, hres.trans r, .none, .none, hq⟩
  | ret v =>
    obtain ⟨h1, h2, h3, d, h4, h5⟩ := hr2
    refine ⟨kp h1, h3, h2, hres.trans r, d, Rep.mono (fun a _ q => ?_) (fun _ _ _ e => e) h4, h5⟩
    by_cases hm : a ∈ l
    · exact .inr hm
    · exact .inl ⟨q, hm⟩
  | brk => exact hr2.elim
  | cont => exact hr2.elim

section
variable {c : Ctx} (ok : c.Ok) {ρ : Loc} {O : Own}
include ok in
theorem ev_callV {x : Str} {p pos : Pos} {e : Expr} {es : List Expr} {f : Addr} {n : Nat} {l : List Addr} {Q : AV → Prop} (hV : c.V = fun a => a ∈ l) (B : Bas c.w c.h0) (C : CodeHd c.h0 197 193) (hk : c.env.kindOf x = some .globalImplicit) (hf : nsIn (KK c.w) mainGlobals x = some (some (.ref f)))
    (hn : n ≤ c.n) (hfn : ∃ o fd, (KK c.w).lookup f = some o ∧ o.data = .func fd)
    (h : EvL c ρ O (e :: es) fun as => ∃ R, SpecV c.w n f l c.Iv as R ∧ (∀ d, R d → Q (.d d)))
    (he : starEach (e :: es) c.env = (false, eval e c.env) :: starEach es c.env := by rfl) (hd : (x == ("__debug__" : Str)) = false := by decide +kernel) : Ev c ρ O (.Call (.Name x p) (e :: es) [] pos) Q := .mk fun X W s S => by
  refine wpAny_Call_Name_kw (name_glob ok S B hk hf ?_ hd)
  obtain ⟨o, fd, ho, hd⟩ := hfn
  have hh := h.run X W s pos S
  rw [he] at hh ⊢
  refine callWith_function (o := o) (fd := fd) (evalArgs_plain (Wp.mono hh fun vs s₁ ⟨A1, as, has, R, sp, hq⟩ => ?_))
  have B1 := B.ext A1.sta.base
  refine ⟨⟨?_, hd⟩, ?_⟩
  · obtain ⟨_, _, _, _, _, K, _⟩ := B1
    exact K _ _ ho
  show Wp c.w c.A (call (.ref f) vs) _ s₁
  have hv : ∀ a, a ∈ l ↔ c.V a := fun a => by rw [hV]
  refine (sp c.A s₁ (Av c X) vs c.h0 ok.hd (by have := ok.room; omega) (by have := ok.units; omega) B C A1.sta.base (fun a q => ok.v0 a ((hv a).mp q)) (fun a q => ?_) (fun a q => .inr ((hv a).mp q)) A1.sta.inv has).mono fun v s₂ ⟨k2, v2, i2, r2, d, hr, hR⟩ => ?_
  · rcases q with q | q
    · exact A1.sta.bn a q
    · exact A1.sta.vn a q
  have k2' : Kp c.V s₁.heap s₂.heap := fun a o n e => k2 a o (fun q => n ((hv a).mp q)) e
  exact ⟨A1.trans ⟨A1.sta.kp ok k2' (fun a q => v2 a ((hv a).mpr q)) i2, k2', r2⟩, AV.d d, hr, hq d hR⟩
end

/-- the code table of the lambdas: what stands in it are code objects of the given name. -/
def IvT (q : Str) (h : Heap) : Prop := ∃ ps : Array Value, h.get? 193 = some (tabObj ps) ∧ TriplesOk ps.toList ∧ ∀ pos cv, codeAmong pos ps.toList = some cv → h.CodeRec cv q
/-- the reel: a list of a list of whole numbers and of a place. -/
def IvR (S T : Addr) (N : Nat) (h : Heap) : Prop := ∃ (k : Nat) (t : Tok) (vs : List Value) (ns : List Int), h.IsList T #[.ref S, .int k t] ∧ h.IsList S vs.toArray ∧ IntsAre vs ns ∧ vs.length = N
abbrev IvL (q : Str) (S T : Addr) (N : Nat) (h : Heap) : Prop := IvT q h ∧ IvR S T N h

theorem IvT.keep {q : Str} {h h' : Heap} (k : h.get? 193 = h'.get? 193 ∨ ∀ o, h.get? 193 = some o → h'.get? 193 = some o) (c : ∀ a o, ¬ NotCode o → h.get? a = some o → h'.get? a = some o) (x : IvT q h) : IvT q h' := by
  obtain ⟨ps, h1, h2, h3⟩ := x
  refine ⟨ps, ?_, h2, fun pos cv e => ?_⟩
  · rcases k with k | k
    · rw [← k]; exact h1
    · exact k _ h1
  · obtain ⟨c', o, vs, t, e1, e2, e3, e4⟩ := h3 pos cv e
    exact ⟨c', o, vs, t, e1, c c' o (fun z => z vs q t e3 e4) e2, e3, e4⟩
theorem ivOk (q : Str) (S T : Addr) (N : Nat) : IvOk [193, S, T] (IvL q S T N) := by
  rintro h h' kv kc ⟨h1, k, t, vs, ns, h2, h3, h4, h5⟩
  exact ⟨h1.keep (.inr fun o e => kv _ o (by simp) e) kc, k, t, vs, ns, h2.at fun o e => kv _ o (by simp) e, h3.at fun o e => kv _ o (by simp) e, h4, h5⟩

section
variable {c : Ctx} (ok : c.Ok) {ρ : Loc} {O : Own} {q : Str} {S T : Addr} {N : Nat}

theorem ev_reelAt {l i : Expr} {pos : Pos} {Q : AV → Prop} (hI : c.Iv = IvL q S T N) (h : Ev c ρ O l fun a => a = .p T ∧ Ev c ρ O i fun b => (b = .d (.int 1) ∧ ∀ k : Nat, Q (.d (.int k))) ∨ (b = .d (.int 0) ∧ Q (.p S)))
    (hs : ∀ o v, subscripted i false o v = operate [o, v] (getItem o v) := by intro _ _; with_unfolding_all rfl) : Ev c ρ O (.Subscript l i pos) Q := .mk fun X W s S' => by
  refine Subscript_ ((h.run X W s S').mono fun u s₁ ⟨A1, a, ha, e, h1⟩ => (h1.run X W s₁ A1.sta).mono fun v s₂ ⟨A2, b, hb, h2⟩ => ?_)
  subst e
  cases ha
  have iv := A2.sta.inv
  rw [hI] at iv
  obtain ⟨_, k, t, vs, ns, hT, _⟩ := iv
  rcases h2 with ⟨rfl, hq⟩ | ⟨rfl, hq⟩
  · cases hb
    exact tail_any hT.typeIs slot_list_getitem.lookup (wpAny_getItem_list hT (by decide) (by decide) (x := .int k t) rfl ⟨A1.trans A2, AV.d _, Rep.int _ _, hq k⟩) (hs _ _)
  · cases hb
    exact tail_any hT.typeIs slot_list_getitem.lookup (wpAny_getItem_list hT (by decide) (by decide) (x := .ref S) rfl ⟨A1.trans A2, AV.p S, rfl, hq⟩) (hs _ _)

theorem ev_scriptAt {l i : Expr} {pos : Pos} {Q : AV → Prop} (hI : c.Iv = IvL q S T N) (hN : N < 2 ^ 60) (h : Ev c ρ O l fun a => a = .p S ∧ Ev c ρ O i fun b => ∃ k : Nat, b = .d (.int k) ∧ k < N ∧ ∀ x : Int, Q (.d (.int x)))
    (hs : ∀ o v, subscripted i false o v = operate [o, v] (getItem o v) := by intro _ _; with_unfolding_all rfl) : Ev c ρ O (.Subscript l i pos) Q := .mk fun X W s S' => by
  refine Subscript_ ((h.run X W s S').mono fun u s₁ ⟨A1, a, ha, e, h1⟩ => (h1.run X W s₁ A1.sta).mono fun v s₂ ⟨A2, b, hb, k, e2, hk, hq⟩ => ?_)
  subst e; subst e2
  cases ha; cases hb
  have iv := A2.sta.inv
  rw [hI] at iv
  obtain ⟨_, k0, t, vs, ns, _, hS, hi, hl⟩ := iv
  have hget : ∀ {vs : List Value} {ns : List Int} {k : Nat}, IntsAre vs ns → k < vs.length → ∃ (x : Int) (t : Tok), vs[k]? = some (.int x t) := by
    intro vs ns k hi
    induction hi generalizing k with
    | nil => intro h; cases h
    | cons n t r ih =>
      intro h
      cases k with
      | zero => exact ⟨n, t, rfl⟩
      | succ k => exact ih (by simpa using h)
  obtain ⟨x, t', hx⟩ := hget hi (by first | lia | omega : k < vs.length)
  exact tail_any hS.typeIs slot_list_getitem.lookup (wpAny_getItem_list hS (by first | lia | omega) (by first | lia | omega) (by simpa using hx) ⟨A1.trans A2, AV.d _, Rep.int _ _, hq x⟩) (hs _ _)

include ok in
theorem ev_lenS {p pos : Pos} {e : Expr} {Q : AV → Prop} (hI : c.Iv = IvL q S T N) (hN : N < 2 ^ 60) (B : Bas c.w c.h0) (hk : c.env.kindOf (Str.ofString "len") = some .globalImplicit) (h : Ev c ρ O e fun a => a = .p S ∧ Q (.d (.int N)))
    (he : starEach [e] c.env = (false, eval e c.env) :: starEach [] c.env := by rfl) : Ev c ρ O (.Call (.Name (Str.ofString "len") p) [e] [] pos) Q := by
  refine ev_bltN ok (id := "len") (P := fun as => as = [.p S] ∧ Q (.d (.int N))) B hk (by rfl) (by boot_fast) (evl_cons (h.mono fun a ⟨h1, q⟩ => evl_nil ⟨by rw [h1], q⟩) he) ?_ he (fun pos => by rw [he]; rfl)
  rintro X W s vs as St has ⟨rfl, hq⟩
  cases has with
  | cons y r =>
    cases r; cases y
    have iv := St.inv
    rw [hI] at iv
    obtain ⟨_, k0, t, us, ns, _, hS, hi, hl⟩ := iv
    have e2 : us.toArray.size = N := by simp [hl]
    refine len_list hS (by rw [e2]; omega) ⟨.tok St, AV.d _, ?_, hq⟩
    rw [e2]; exact Rep.int _ _

include ok in
theorem asg_reel {o i : Expr} {pos : Pos} {k : Nat} {Q : Loc → Own → Prop} (hI : c.Iv = IvL q S T N) (hV : c.V = fun a => a ∈ [193, S, T]) (hne : (193 : Addr) ≠ T ∧ S ≠ T) (h : Ev c ρ O o fun b => b = .p T ∧ Ev c ρ O i fun j => j = .d (.int 1) ∧ Q ρ O) : Asg c ρ O (.Subscript o i pos) (.d (.int k)) Q := .mk fun X W s v S' hv => by
  rw [assign_Subscript]
  refine wpAny_bind (wpAny_holding (Wp.mono (h.run X W s S') fun ov s₁ ⟨A1, b, hb, e1, h1⟩ => wpAny_bind (wpAny_holding (Wp.mono (h1.run X W s₁ A1.sta) fun iv s₂ ⟨A2, j, hj, e2, hq⟩ => wpAny_bind (wpAny_standAt ?_)))))
  subst e1; subst e2
  cases hb; cases hj; cases hv
  have S2 := A2.sta
  have iv := S2.inv
  rw [hI] at iv
  obtain ⟨i1, k0, t0, vs, ns, hT, hS, hi, hl⟩ := iv
  refine wpAny_bind (wpAny_holding (wpAny_setItem_list hT (by decide) (by decide) (by simp) fun h' hl' hs => ?_))
  refine wpAny_release ?_
  have tV : c.V T := by rw [hV]; simp
  have kp : Kp c.V s₂.heap h' := fun a o n e => (hs.2 a fun z => n (z ▸ tV)).trans e
  have inv' : c.Iv h' := by
    rw [hI]
    refine ⟨i1.keep (.inr fun o e => (hs.2 _ hne.1).trans e) (fun a o n e => (hs.2 a fun z => ?_).trans e), k, _, vs, ns, by simpa using hl', hS.at fun o e => (hs.2 _ hne.2).trans e, hi, hl⟩
    obtain ⟨o', e', _, m, d⟩ := hT
    rw [z, e'] at e; cases e
    exact n fun _ _ _ y => by rw [d] at y; cases y
  have S3 := S2.kp ok kp (fun a v => by
    by_cases ha : a = T
    · subst ha
      obtain ⟨o, e, _, _, d⟩ := hl'
      exact ⟨o, e, fun _ _ _ z => by rw [d] at z; cases z⟩
    · obtain ⟨o, e, n⟩ := S2.vn a v
      exact ⟨o, (hs.2 a ha).trans e, n⟩) inv'
  exact ⟨(A1.res.trans A2.res).trans .mk, ρ, O, S3, ((Rel.kp A1.kp).trans (Rel.kp A2.kp)).trans (Rel.kp kp), hq⟩
end

theorem fmod_nat {x : Int} {m : Nat} (hm : 0 < m) : ∃ y : Nat, x.fmod m = y ∧ y < m := by
  rw [Int.fmod_eq_emod_of_nonneg _ (by first | lia | omega)]
  have h1 := Int.emod_nonneg x (by first | lia | omega : (m : Int) ≠ 0)
  have h2 := Int.emod_lt_of_pos x (by first | lia | omega : 0 < (m : Int))
  exact ⟨(x % m).toNat, by first | lia | omega, by first | lia | omega⟩

theorem sp_spun (w : World) (q : Str) (S T : Addr) (N m : Nat) (hne : (193 : Addr) ≠ T ∧ S ≠ T) (hN : N < 2 ^ 60) (hm : 0 < m) : SpecV w 1 162 [193, S, T] (IvL q S T N) [.p T, .d (.int m)] (fun d => ∃ x : Nat, d = .int x ∧ x < m) := by
  refine spec_introV (ivOk q S T N) [Str.ofString "reel", Str.ofString "many"] rfl rfl ?_ rfl (by decide +kernel) (by rfl) rfl rfl rfl ?_
  · walk_at "m:bind"
  intro A h0 L X0 ok B C
  refine ex_cons (ex1_assign ok (ev_reelAt (q := q) (S := S) (T := T) (N := N) rfl (ev_var ok (by rfl) ⟨rfl, ev_int (.inl ⟨rfl, fun k => asg_name ok (by rfl) ?_⟩)⟩)))
  refine ex_cons (ex1_assign ok (ev_add (ev_var ok (by rfl) ⟨_, rfl, ev_int ⟨_, rfl, ?_⟩⟩)))
  refine asg_reel (q := q) (S := S) (T := T) (N := N) (k := k + 1) ok rfl rfl hne (ev_var ok (by rfl) ⟨rfl, ev_int ⟨rfl, ?_⟩⟩)
  refine ex_cons (ex1_ret (ev_ite (tr_cmp cmp_ltI (ev_var ok (by rfl) (ev_lenS (q := q) (S := S) (T := T) (N := N) ok rfl hN B rfl (ev_reelAt (q := q) (S := S) (T := T) (N := N) rfl (ev_var ok (by rfl) ⟨rfl, ev_int (.inr ⟨rfl, rfl, ?_⟩)⟩)))))))
  refine ⟨_, ⟨_, _, rfl, rfl, rfl⟩, ?_⟩
  by_cases hk : k < N
  · refine br_t (decide_eq_true (by first | lia | omega)) (ev_mod (ev_abs ok B rfl (ev_scriptAt (q := q) (S := S) (T := T) (N := N) rfl hN (ev_reelAt (q := q) (S := S) (T := T) (N := N) rfl (ev_var ok (by rfl) ⟨rfl, ev_int (.inr ⟨rfl, rfl, ?_⟩)⟩)))))
    refine ev_var ok (by rfl) ⟨k, rfl, hk, fun x => ⟨_, rfl, _, rfl, ev_var ok (by rfl) ⟨_, rfl, by first | lia | omega, _, rfl, ?_⟩⟩⟩
    obtain ⟨y, h1, h2⟩ := fmod_nat (x := ((x.natAbs : Nat) : Int)) hm
    exact ⟨y, by rw [h1], h2⟩
  · refine br_f (decide_eq_false (by first | lia | omega)) (ev_mod ?_)
    walk_at "m:*"
    refine ⟨IntMulOk.of_left (by decide), ?_⟩
    walk_at "m:*"
    refine ⟨by decide, by decide, ?_⟩
    walk_at "m:*"
    refine ⟨by first | lia | omega, ?_⟩
    obtain ⟨y, h1, h2⟩ := fmod_nat (x := (29 * (k : Int) + (k : Int).fdiv 3 + 7)) hm
    exact ⟨_, rfl, y, by rw [← h1], h2⟩

theorem codeAmong_snoc_inv {pos : Pos} {a b : Int} {c x : Value} (l : List Value) (h : TriplesOk l) (e : codeAmong pos (l ++ [rawInt a, rawInt b, c]) = some x) : codeAmong pos l = some x ∨ x = c := by
  fun_induction TriplesOk l with
  | case1 =>
    simp only [List.nil_append, rawInt, codeAmong] at e
    split at e
    · cases e; exact .inr rfl
    · cases e
  | case2 a' t b' u y rest ih =>
    simp only [List.cons_append, codeAmong] at e ⊢
    split at e
    · rename_i hc; rw [if_pos hc]; exact .inl e
    · rename_i hc; rw [if_neg hc]; exact ih h e
  | case3 => exact h.elim
theorem tab_notcode {ps : Array Value} (h : TriplesOk ps.toList) : NotCode (tabObj ps) := by
  intro vs q t e1 e2
  cases e1
  obtain ⟨l⟩ := ps
  simp only at h
  match l, h with
  | [], _ => simp at e2
  | .int _ _ :: .int _ _ :: _ :: _, _ => simp at e2
  | .int _ _ :: .int _ _ :: [], h => simp [TriplesOk] at h

/-- a function object of a lambda, and its code. -/
def LamAt (h : Heap) (k : Nat) (f c' : Addr) : Prop := ∃ o fd oc vs t, h.get? f = some o ∧ o.data = .func fd ∧ LamFd k fd ∧ fd.code = .ref c' ∧ h.get? c' = some oc ∧ oc.data = .fields vs ∧ vs[1]? = some (.str fd.qualname t)

section
variable {c : Ctx} (ok : c.Ok) {ρ : Loc} {O : Own} {q : Str} {S T : Addr} {N : Nat}
include ok in
theorem lam_make {X W : Addr → Prop} {s : Shared} {params : Arguments} {body : Expr} {scope : Scope} {pos : Pos} {k : Nat} (hI : c.Iv = IvL q S T N) (hV : c.V = fun a => a ∈ [193, S, T]) (hne : S ≠ (193 : Addr) ∧ T ≠ (193 : Addr)) (B : Bas c.w c.h0) (C : CodeHd c.h0 197 193) (hcode : c.env.code = .ref 197) (hq : c.env.qual ++ "<lambda>" = q)
    (hcl : closureFor scope c.env = pure []) (hdef : defaultsOf params c.env = ([], [])) (hL : ∀ pm cdv ct, LamFd k (kla_fn "<lambda>" (c.env.qual ++ "<lambda>") params body scope [] pm cdv ct)) (S0 : Sta c X W ρ O s.heap) :
    Wp c.w c.A (eval (.Lambda params body scope pos) c.env) (fun v s' => Aft c X W ρ O s s' ∧ ∃ f c', v = .ref f ∧ LamAt s'.heap k f c' ∧ s.heap.get? f = none) s := by
  refine kla_eval hdef ?_
  have iv := S0.inv
  rw [hI] at iv
  obtain ⟨⟨ps, hP, ht, hcodes⟩, hR⟩ := iv
  obtain ⟨pp, loose, mean, mg, mb, K, T'⟩ := B.ext S0.base
  have Cs := C.keeps S0.base
  obtain ⟨bm, ob, b1, b2, b3, b4, b5, b6⟩ := T'.bmain
  have hgP : mainGlobals ≠ 193 := fun z => by
    obtain ⟨o, es, ep, e, hd, _⟩ := T'.g
    rw [z, hP] at e; cases e; cases hd
  have hbP : bm ≠ 193 := fun z => by
    rw [z, hP] at b3; cases b3; cases b4
  have hbG : bm ≠ mainGlobals := fun z => by
    obtain ⟨o, es, ep, e, hd, _⟩ := T'.g
    rw [z, e] at b3; cases b3; rw [hd] at b6; cases b6
  have pV : c.V 193 := by rw [hV]; simp
  cases hf : codeAmong pos ps.toList with
  | none =>
    refine kla_makeFunction (mg := mg) hcl ok.glob T'.g hcode Cs hP ht hf hgP ⟨bm, ob, b1, b2, hbG, hbP, b3, b4, b5, b6⟩ fun c' ctv h' tk hx hge hlt hrec htb => ?_
    obtain ⟨c₂, oc, vs, t, e2, hoc, hd, hv⟩ := hrec
    cases e2
    generalize hob : kla_obj "<lambda>" (c.env.qual ++ "<lambda>") params body scope [] ((mg "__name__").getD .none) c' ctv = ob'
    have kp : Kp c.V s.heap (h'.push ob') := fun a o n e => Heap.get?_push_of_some _ (hx a o (fun z => n (z ▸ pV)) e)
    have ht2 : TriplesOk (ps ++ #[rawInt pos.line, rawInt pos.col, .ref c']).toList := by
      rw [Array.toList_append]; exact TriplesOk_snoc _ _ _ _ ht
    have inv' : c.Iv (h'.push ob') := by
      rw [hI]
      refine ⟨⟨_, Heap.get?_push_of_some _ htb, ht2, fun pos' cv e => ?_⟩, ?_⟩
      · rw [Array.toList_append] at e
        rcases codeAmong_snoc_inv _ ht e with e | e
        · obtain ⟨c3, o3, vs3, t3, g1, g2, g3, g4⟩ := hcodes pos' cv e
          refine ⟨c3, o3, vs3, t3, g1, kp c3 o3 (fun z => ?_) g2, g3, g4⟩
          obtain ⟨o4, g5, g6⟩ := S0.vn c3 z
          rw [g2] at g5; cases g5; exact g6 vs3 q t3 g3 g4
        · exact ⟨c', oc, vs, t, e, Heap.get?_push_of_some _ hoc, hd, hq ▸ hv⟩
      · obtain ⟨k0, t0, us, ns, r1, r2, r3⟩ := hR
        exact ⟨k0, t0, us, ns, r1.at fun o e => Heap.get?_push_of_some _ (hx _ o hne.2 e), r2.at fun o e => Heap.get?_push_of_some _ (hx _ o hne.1 e), r3⟩
    have vn' : ∀ a, c.V a → ∃ o, (h'.push ob').get? a = some o ∧ NotCode o := fun a v => by
      by_cases ha : a = 193
      · subst ha; exact ⟨_, Heap.get?_push_of_some _ htb, tab_notcode ht2⟩
      · obtain ⟨o, e, n⟩ := S0.vn a v
        exact ⟨o, Heap.get?_push_of_some _ (hx a o ha e), n⟩
    refine ⟨⟨S0.kp ok kp vn' inv', kp, .mk⟩, h'.objs.size, c', rfl, ⟨ob', _, oc, vs, t, Heap.get?_push_size _ (by rw [← hob]; rfl), by rw [← hob], hL _ _ _, rfl, Heap.get?_push_of_some _ hoc, hd, hv⟩, ?_⟩
    exact Heap.get?_none_of_le (Nat.le_trans hge (Nat.le_of_lt hlt))
  | some cv =>
    obtain ⟨c', oc, vs, t, e2, hoc, hd, hv⟩ := hcodes pos cv hf
    subst e2
    refine kla_makeFunctionHit (mg := mg) hcl ok.glob T'.g hcode Cs hP ht hf ⟨bm, ob, b1, b2, hbG, hbP, b3, b4, b5, b6⟩ fun ctv h' tk hk hsz => ?_
    generalize hob : ({ cls := .type "function", data := .func (kla_fn "<lambda>" (c.env.qual ++ "<lambda>") params body scope [] ((mg "__name__").getD .none) (.ref c') ctv) } : Obj) = ob'
    have ex : Ext s.heap (h'.push ob') := fun a o e => Heap.get?_push_of_some _ (hk a o e)
    refine ⟨.ext ok S0 ex, h'.objs.size, c', rfl, ⟨ob', _, oc, vs, t, Heap.get?_push_size _ (by rw [← hob]; rfl), by rw [← hob], hL _ _ _, rfl, ex _ _ hoc, hd, hq ▸ hv⟩, Heap.get?_none_of_le hsz⟩
end

mutual
theorem Rep.grow {Z Z' : Addr → Prop} {h : Heap} (hz : ∀ a, Z a → ¬ Z' a → ∃ o, h.get? a = some o ∧ ¬ NotCode o) : ∀ {v : Value} {d : D}, Rep Z' h v d → fnLess d = true → Rep Z h v d
  | _, _, .none, _ => .none
  | _, _, .bool b, _ => .bool b
  | _, _, .int i t, _ => .int i t
  | _, _, .tup (a := a) n x r, e => by
    rw [fnLess] at e
    refine .tup (fun q => ?_) x (Reps.grow hz r e)
    obtain ⟨o, g1, g2⟩ := hz a q n
    obtain ⟨o', g3, _, m, g4⟩ := x
    rw [g1] at g3; cases g3
    exact g2 fun _ _ _ z => by rw [g4] at z; cases z
  | _, _, .lst (a := a) n x r, e => by
    rw [fnLess] at e
    refine .lst (fun q => ?_) x (Reps.grow hz r e)
    obtain ⟨o, g1, g2⟩ := hz a q n
    obtain ⟨o', g3, _, m, g4⟩ := x
    rw [g1] at g3; cases g3
    exact g2 fun _ _ _ z => by rw [g4] at z; cases z
  | _, _, .fn x, e => by rw [fnLess] at e; cases e
theorem Reps.grow {Z Z' : Addr → Prop} {h : Heap} (hz : ∀ a, Z a → ¬ Z' a → ∃ o, h.get? a = some o ∧ ¬ NotCode o) : ∀ {vs : List Value} {ds : List D}, Reps Z' h vs ds → fnLessAll ds = true → Reps Z h vs ds
  | _, _, .nil, _ => .nil
  | _, _, .cons x r, e => by
    rw [fnLessAll, Bool.and_eq_true] at e
    exact .cons (Rep.grow hz x e.1) (Reps.grow hz r e.2)
end
theorem fnLess_tab {n : Nat} {f : Nat → D} (h : ∀ i, fnLess (f i) = true) : fnLessAll (tab n f) = true := by
  unfold tab
  have : ∀ l : List Nat, fnLessAll (l.map f) = true := fun l => by
    induction l with
    | nil => rfl
    | cons a l ih => rw [List.map_cons, fnLessAll, h, ih]; rfl
  exact this _

section
variable {c : Ctx} (ok : c.Ok) {ρ : Loc} {O : Own} {q : Str} {S T : Addr} {N : Nat}
include ok in
theorem ev_product {x : Str} {p pos pos1 pos2 : Pos} {e1 e2 b1 b2 : Expr} {g1 g2 : Arguments} {sc1 sc2 : Scope} {n : Nat} {A B : Nat → Nat → Int} {Q : AV → Prop} (hI : c.Iv = IvL q S T N) (hV : c.V = fun a => a ∈ [193, S, T]) (hne : S ≠ (193 : Addr) ∧ T ≠ (193 : Addr)) (Bs : Bas c.w c.h0) (C : CodeHd c.h0 197 193)
    (hk : c.env.kindOf x = some .globalImplicit) (hf : nsIn (KK c.w) mainGlobals x = some (some (.ref 70))) (hn2 : 2 ≤ c.n) (hfn : ∃ o fd, (KK c.w).lookup 70 = some o ∧ o.data = .func fd)
    (hcode : c.env.code = .ref 197) (hq : c.env.qual ++ "<lambda>" = q)
    (hcl1 : closureFor sc1 c.env = pure []) (hdef1 : defaultsOf g1 c.env = ([], [])) (hL1 : ∀ pm cdv ct, LamFd 0 (kla_fn "<lambda>" (c.env.qual ++ "<lambda>") g1 b1 sc1 [] pm cdv ct))
    (hcl2 : closureFor sc2 c.env = pure []) (hdef2 : defaultsOf g2 c.env = ([], [])) (hL2 : ∀ pm cdv ct, LamFd 1 (kla_fn "<lambda>" (c.env.qual ++ "<lambda>") g2 b2 sc2 [] pm cdv ct))
    (sp : Spec c.w 2 70 [matI n A, matI n B, .fn 0, .fn 1] (fun d => d = matI n (mulM n A B)))
    (h : Ev c ρ O e1 fun a => a = .d (matI n A) ∧ Ev c ρ O e2 fun b => b = .d (matI n B) ∧ Q (.d (matI n (mulM n A B))))
    (he1 : starEach [e1, e2, .Lambda g1 b1 sc1 pos1, .Lambda g2 b2 sc2 pos2] c.env = (false, eval e1 c.env) :: starEach [e2, .Lambda g1 b1 sc1 pos1, .Lambda g2 b2 sc2 pos2] c.env := by rfl)
    (he2 : starEach [e2, .Lambda g1 b1 sc1 pos1, .Lambda g2 b2 sc2 pos2] c.env = (false, eval e2 c.env) :: starEach [.Lambda g1 b1 sc1 pos1, .Lambda g2 b2 sc2 pos2] c.env := by rfl)
    (he3 : starEach [.Lambda g1 b1 sc1 pos1, .Lambda g2 b2 sc2 pos2] c.env = (false, eval (.Lambda g1 b1 sc1 pos1) c.env) :: starEach [.Lambda g2 b2 sc2 pos2] c.env := by rfl)
    (he4 : starEach [.Lambda g2 b2 sc2 pos2] c.env = (false, eval (.Lambda g2 b2 sc2 pos2) c.env) :: starEach [] c.env := by rfl)
    (hd : (x == ("__debug__" : Str)) = false := by decide +kernel) : Ev c ρ O (.Call (.Name x p) [e1, e2, .Lambda g1 b1 sc1 pos1, .Lambda g2 b2 sc2 pos2] [] pos) Q := .mk fun X W s S0 => by
  refine wpAny_Call_Name_kw (name_glob ok S0 Bs hk hf ?_ hd)
  obtain ⟨o, fd, ho, hdf⟩ := hfn
  have hA : Wp c.w c.A (spliced (backTo pos (starEach [e1, e2, .Lambda g1 b1 sc1 pos1, .Lambda g2 b2 sc2 pos2] c.env))) (fun vs s' => Aft c X W ρ O s s' ∧ ∃ c1 c2, (∃ o, s'.heap.get? c1 = some o ∧ ¬ NotCode o) ∧ (∃ o, s'.heap.get? c2 = some o ∧ ¬ NotCode o) ∧ Reps (fun a => Av c X a ∧ a ≠ c1 ∧ a ≠ c2) s'.heap vs [matI n A, matI n B, .fn 0, .fn 1] ∧ Q (.d (matI n (mulM n A B)))) s := by
    refine wpAny_items_cons ((h.run X W s S0).mono fun v1 s₁ ⟨A1, a, ha, ea, h1⟩ => ?_) he1
    subst ea
    refine wpAny_items_cons ((h1.run X W s₁ A1.sta).mono fun v2 s₂ ⟨A2, b, hb, eb, hq'⟩ => ?_) he2
    subst eb
    refine wpAny_items_cons ((lam_make ok hI hV hne Bs C hcode hq hcl1 hdef1 hL1 A2.sta).mono fun v3 s₃ ⟨A3, f1, c1, e3, L1, n1⟩ => ?_) he3
    subst e3
    refine wpAny_items_cons ((lam_make ok hI hV hne Bs C hcode hq hcl2 hdef2 hL2 A3.sta).mono fun v4 s₄ ⟨A4, f2, c2, e4, L2, n2⟩ => wpAny_items_nil ?_) he4
    subst e4
    have codeK : ∀ a o, ¬ NotCode o → s₃.heap.get? a = some o → s₄.heap.get? a = some o := fun a o nn e => A4.kp a o (fun z => by
      obtain ⟨o', g1, g2⟩ := A3.sta.vn a z
      rw [e] at g1; cases g1; exact nn g2) e
    obtain ⟨o1, fd1, oc1, vs1, t1, k1, k2, k3, k4, k5, k6, k7⟩ := L1
    obtain ⟨o2, fd2, oc2, vs2, t2, j1, j2, j3, j4, j5, j6, j7⟩ := L2
    have nc1 : ¬ NotCode oc1 := fun z => z _ _ _ k6 k7
    have nc2 : ¬ NotCode oc2 := fun z => z _ _ _ j6 j7
    have off1 : ¬ Av c X f1 := A2.sta.off n1
    have off2 : ¬ Av c X f2 := A3.sta.off n2
    have up : ∀ {v : Value} {d : D}, Rep (Av c X) s₄.heap v d → Rep (fun a => Av c X a ∧ a ≠ c1 ∧ a ≠ c2) s₄.heap v d := fun r => r.mono (fun _ _ q => q.1) fun _ _ _ e => e
    refine ⟨((A1.trans A2).trans A3).trans A4, c1, c2, ⟨oc1, codeK _ _ nc1 k5, nc1⟩, ⟨oc2, j5, nc2⟩, .cons (up (((ha.kp A2.kp).kp A3.kp).kp A4.kp)) (.cons (up ((hb.kp A3.kp).kp A4.kp)) (.cons (.fn ?_) (.cons (.fn ?_) .nil))), hq'⟩
    · exact ⟨o1, fd1, c1, oc1, vs1, t1, fun z => off1 z.1, A4.kp _ _ (fun z => off1 (.inr z)) k1, k2, k3, k4, fun z => z.2.1 rfl, codeK _ _ nc1 k5, k6, k7⟩
    · exact ⟨o2, fd2, c2, oc2, vs2, t2, fun z => off2 z.1, j1, j2, j3, j4, fun z => z.2.2 rfl, j5, j6, j7⟩
  rw [he1] at hA ⊢
  refine callWith_function (o := o) (fd := fd) (evalArgs_plain (Wp.mono hA fun vs s₁ ⟨A1, c1, c2, hc1, hc2, hr, hq'⟩ => ?_))
  have B1 := Bs.ext A1.sta.base
  refine ⟨⟨?_, hdf⟩, ?_⟩
  · obtain ⟨_, _, _, _, _, K, _⟩ := B1
    exact K _ _ ho
  show Wp c.w c.A (call (.ref 70) vs) _ s₁
  refine (sp c.A s₁ _ vs ok.hd (by have := ok.room; omega) (by have := ok.units; omega) B1 (fun a z => ?_) hr).mono fun v s₂ ⟨e2, r2, d, hr2, hR⟩ => ?_
  · rcases z.1 with z | z
    · exact A1.sta.bn a z
    · exact A1.sta.vn a z
  subst hR
  refine ⟨A1.trans ⟨A1.sta.ext ok e2, e2.kp, r2⟩, AV.d _, Rep.grow (fun a z nz => ?_) hr2 (by rw [matI, fnLess]; exact fnLess_tab fun i => by rw [fnLess]; exact fnLess_tab fun j => by simp [fnLess]), hq'⟩
  by_cases h1 : a = c1
  · subst h1; obtain ⟨o, g1, g2⟩ := hc1; exact ⟨o, e2 _ _ g1, g2⟩
  · by_cases h2 : a = c2
    · subst h2; obtain ⟨o, g1, g2⟩ := hc2; exact ⟨o, e2 _ _ g1, g2⟩
    · exact absurd ⟨z, h1, h2⟩ nz
end

theorem noCell {l : List (Str × NameKind)} (h : (l.all fun q => q.2 != NameKind.cell) = true) : ∀ q ∈ l, q.2 ≠ .cell := fun q hq => by
  have := List.all_eq_true.mp h q hq
  simpa using this
def qualT : Str := (Str.ofString "_law_times" ++ ".<locals>.") ++ "<lambda>"

theorem sp_law_times (w : World) (S T : Addr) (N n : Nat) (A B : Nat → Nat → Int) (hne : S ≠ (193 : Addr) ∧ T ≠ (193 : Addr)) (h1 : 1 ≤ n) (hn : n ≤ 100) (hA : ∀ i j, (A i j).natAbs < 2 ^ 60) (hB : ∀ i j, (B i j).natAbs < 2 ^ 60) :
    SpecV w 3 198 [193, S, T] (IvL qualT S T N) [.d (matI n A), .d (matI n B)] (fun d => d = matI n (mulM n A B)) := by
  refine spec_introV (ivOk qualT S T N) [Str.ofString "one", Str.ofString "other"] rfl rfl ?_ rfl (by decide +kernel) (by rfl) rfl rfl rfl ?_
  · walk_at "m:bind"
  intro A' h0 L X0 ok Bs C
  refine ex_cons (ex1_ret (ev_product (q := qualT) (S := S) (T := T) (N := N) ok rfl rfl hne Bs C rfl rfl (Nat.le_refl 2) ⟨_, _, rfl, rfl⟩ rfl rfl rfl rfl ?_ rfl rfl ?_ (sp_product w n A B h1 hn hA hB) (ev_var ok (by rfl) ⟨rfl, ev_var ok (by rfl) ⟨rfl, _, rfl, rfl⟩⟩)))
  · intro pm cdv ct
    exact ⟨_, _, _, _, _, rfl, fun _ _ => rfl, rfl, rfl, by decide +kernel, by decide +kernel, by decide +kernel, rfl, rfl, rfl, noCell (by rfl)⟩
  · intro pm cdv ct
    exact ⟨_, _, _, _, _, rfl, fun _ _ => rfl, rfl, rfl, by decide +kernel, by decide +kernel, by decide +kernel, rfl, rfl, rfl, noCell (by rfl)⟩

/-! ### a display of two clauses -/
abbrev lc2 (elt t1 i1 t2 i2 : Expr) (scope : Scope) (pos : Pos) : Expr := .ListComp elt [⟨t1, i1, [], 0⟩, ⟨t2, i2, [], 0⟩] scope pos
theorem turn2_outer (elt t1 i1 t2 i2 : Expr) (scope : Scope) (pos : Pos) (it acc : Value) (env : Env) :
    compTurn (lc2 elt t1 i1 t2 i2 scope pos) 0 it acc env = (do
      standAt i1.pos
      match ← pyNext it with
      | none => pure (.done .next)
      | some v =>
        letOwnedTupleGo t1 it v
        assign t1 env v
        let x ← eval i2 env
        standAt i2.pos
        let x ← foldedSetIterable i2 env x
        let _ ← runOwn (.compStart (lc2 elt t1 i1 t2 i2 scope pos) 1 (← holding [x] (pyIter x)) acc env) env
        again (.compLoop (lc2 elt t1 i1 t2 i2 scope pos) 0 it acc env)) := by rfl
theorem turn2_inner (elt t1 i1 t2 i2 : Expr) (scope : Scope) (pos : Pos) (it acc : Value) (env : Env) :
    compTurn (lc2 elt t1 i1 t2 i2 scope pos) 1 it acc env = (do
      standAt i2.pos
      match ← pyNext it with
      | none => pure (.done .next)
      | some v =>
        letOwnedTupleGo t2 it v
        assign t2 env v
        (do let _ ← call (.builtin "list.append") [acc, ← eval elt env])
        again (.compLoop (lc2 elt t1 i1 t2 i2 scope pos) 1 it acc env)) := by rfl

section
variable {w : World} {A : Around} {R : Result → Shared → Prop} {elt t1 i1 t2 i2 : Expr} {scope : Scope} {pos : Pos} {it acc : Value} {env : Env}
theorem loop2_inner (I : Nat → Shared → Prop)
    (turn : ∀ n s, I n s → Wp w A (pyNext it) (fun r s₁ => match r with
      | none => R (.ok .next) s₁
      | some v => Wp w A (letOwnedTupleGo t2 it v) (fun _ s₁' => Wp w A (assign t2 env v) (fun _ s₂ => Wp w A (eval elt env) (fun x s₄ => Wp w A (call (.builtin "list.append") [acc, x]) (fun _ s₅ => ∃ m, m < n ∧ I m s₅) s₄) s₂) s₁') s₁) s)
    (n : Nat) {s : Shared} (h : I n s) : codeAny (model PG w) A (.compLoop (lc2 elt t1 i1 t2 i2 scope pos) 1 it acc env) R s := by
  refine codeAny_loop rfl I (fun n s hI => ?_) n h
  show wpAny _ A ((compTurn (lc2 elt t1 i1 t2 i2 scope pos) 1 it acc env).onRaise (fun x => do noteFrame x env; theTreesLotGoes x)) _ _ s
  refine wpAny_noted ?_
  rw [turn2_inner]
  refine lift (wpAny_bind (wpAny_standAt (wpAny_bind ((turn n s hI).mono fun r s₁ h₁ => ?_))))
  cases r with
  | none => exact wpAny_pure h₁
  | some v =>
    refine wpAny_bind (Wp.mono h₁ fun _ s₁' h₁' => ?_)
    refine wpAny_bind (Wp.mono h₁' fun _ s₂ h₂ => ?_)
    exact wpAny_bind (wpAny_bind (Wp.mono h₂ fun x s₄ h₄ => wpAny_bind (Wp.mono h₄ fun _ s₅ h₅ => wpAny_pure (wpAny_pure ⟨rfl, h₅⟩))))
theorem start2_inner {s : Shared} (h0 : codeAny (model PG w) A (.compLoop (lc2 elt t1 i1 t2 i2 scope pos) 1 it acc env) R s)
    (h : Wp w A (pyIter it) (fun it' s' => codeAny (model PG w) A (.compLoop (lc2 elt t1 i1 t2 i2 scope pos) 1 it' acc env) R s') s) :
    codeAny (model PG w) A (.compStart (lc2 elt t1 i1 t2 i2 scope pos) 1 it acc env) R s := by
  refine codeAny_of_tree ?_
  show wpAny _ _ ((compStart (lc2 elt t1 i1 t2 i2 scope pos) 1 it acc env).onRaise (fun x => do noteFrame x env; standAt theWindowsPlace)) _ _ s
  refine wpAny_notedAt ?_
  unfold compStart
  show wpAny _ _ (ask >>= _) _ _ s
  refine wpAny_bind (wpAny_askSetting (wpAny_ite ?_))
  split
  · first
      | exact wpAny_pure ⟨rfl, h0⟩
      | exact wpAny_bind (wpAny_pure (wpAny_pure ⟨rfl, h0⟩))
  · refine wpAny_bind (wpAny_rule ?_)
    have fin := lift (E := notedBy (model PG w) A env fun x s' => R (.error x) s') h
    first
      | exact wpAny_bind (wpAny_standAt (wpAny_bind (wpAny_mono fin (fun it' s' h' => wpAny_pure ⟨rfl, h'⟩) fun _ _ x => x)))
      | (show wpAny _ _ (standAt i2.pos >>= _) _ _ s; exact wpAny_bind (wpAny_standAt (wpAny_bind (wpAny_mono fin (fun it' s' h' => wpAny_pure ⟨rfl, h'⟩) fun _ _ x => x))))
theorem loop2_outer (I : Nat → Shared → Prop) (hf : ∀ x, foldedSetIterable i2 env x = pure x)
    (turn : ∀ n s, I n s → Wp w A (pyNext it) (fun r s₁ => match r with
      | none => R (.ok .next) s₁
      | some v => Wp w A (letOwnedTupleGo t1 it v) (fun _ s₁' => Wp w A (assign t1 env v) (fun _ s₂ => Wp w A (eval i2 env) (fun x s₃ => Wp w A (pyIter x) (fun it2 s₄ =>
          codeAny (model PG w) A (.compStart (lc2 elt t1 i1 t2 i2 scope pos) 1 it2 acc env) (fun r s₅ => r = .ok .next ∧ ∃ m, m < n ∧ I m s₅) s₄) s₃) s₂) s₁') s₁) s)
    (n : Nat) {s : Shared} (h : I n s) : codeAny (model PG w) A (.compLoop (lc2 elt t1 i1 t2 i2 scope pos) 0 it acc env) R s := by
  refine codeAny_loop rfl I (fun n s hI => ?_) n h
  show wpAny _ A ((compTurn (lc2 elt t1 i1 t2 i2 scope pos) 0 it acc env).onRaise (fun x => do noteFrame x env; theTreesLotGoes x)) _ _ s
  refine wpAny_noted ?_
  rw [turn2_outer]
  refine lift (wpAny_bind (wpAny_standAt (wpAny_bind ((turn n s hI).mono fun r s₁ h₁ => ?_))))
  cases r with
  | none => exact wpAny_pure h₁
  | some v =>
    refine wpAny_bind (Wp.mono h₁ fun _ s₁' h₁' => ?_)
    refine wpAny_bind (Wp.mono h₁' fun _ s₂ h₂ => wpAny_bind (Wp.mono h₂ fun x s₃ h₃ => ?_))
    refine wpAny_bind (wpAny_standAt (wpAny_bind (wpAny_of_eq (hf x) (wpAny_bind (wpAny_holding (Wp.mono h₃ fun it2 s₄ h₄ => ?_))))))
    refine wpAny_bind (wpAny_runOwn (codeAny_mono h₄ fun r s₅ h₅ => ?_))
    obtain ⟨rfl, h₅⟩ := h₅
    exact wpAny_pure ⟨rfl, h₅⟩
end

section
variable {c : Ctx} (ok : c.Ok) {ρ : Loc} {O : Own}

include ok in
theorem comp2_core {tgt iter tgt2 iter2 elt : Expr} {scope : Scope} {pos pos2 : Pos} {use : Option (Value → Sem Unit)} {P : List D → Prop} {Q : Value → Shared → Prop} (ns : List Str) (hcl : ClosOk c.env scope.names) (hk : scope.kind = .function) (hsc : ScopeOk scope.names = true)
    (hns : (ns.all fun x => !(scope.names.contains (x, NameKind.free))) = true)
    (h : EvIt c ρ O tgt iter fun items => ∃ J : Nat → List D → Prop, J 0 [] ∧ (∀ C i d ys, (c.blk scope C).Ok → items[i]? = some d → J i ys → ∃ ρ', AsgB (c.blk scope C) (seen scope ρ) O tgt (.d d) ns ρ' ∧
      EvIt (c.blk scope C) ρ' O tgt2 iter2 fun items2 => ∃ J2 : Nat → List D → Prop, J2 0 ys ∧ (∀ k d2 zs, items2[k]? = some d2 → J2 k zs → ∃ ρ2, AsgB (c.blk scope C) ρ' O tgt2 (.d d2) ns ρ2 ∧ (∀ x a, ρ'.lookup x = some a → ρ2.lookup x = some a) ∧
        Ev (c.blk scope C) ρ2 O elt fun a => ∃ y, a = .d y ∧ J2 (k + 1) (zs ++ [y])) ∧ (∀ k zs, J2 k zs → zs.length ≤ sizeLine) ∧ ∀ zs, J2 items2.length zs → J (i + 1) zs) ∧ ∀ ys, J items.length ys → P ys)
    (hs : ∀ x, foldedSetIterable iter c.env x = pure x) (hs2 : ∀ env x, foldedSetIterable iter2 env x = pure x) {X W : Addr → Prop} {s : Shared} (S : Sta c X W ρ O s.heap)
    (hend : ∀ s' T C vs ds, Aft c X W ρ O s s' → s.heap.get? T = none → s.heap.get? C = none → T ≠ C → (∃ m, s'.heap.Ns C m) → PlainL s'.heap T vs.toArray → Reps (fun a => Av c X a ∨ a = T ∨ a = C) s'.heap vs ds → P ds → compPost (model PG c.w) c.A NoE use Q (.ref T) C (.ok .next) s') :
    Wp c.w c.A (comprehension (lc2 elt tgt iter tgt2 iter2 scope pos) scope c.env pos2 (newList []) false (eval iter c.env) use) Q s := by
  rw [ScopeOk, Bool.and_eq_true, List.all_eq_true, List.all_eq_true] at hsc
  have hnames : ∀ x ∈ scope.names, x.2 = .local → scope.names.lookup x.1 = some .local := fun x hx hl => by
    have := hsc.1 x hx
    rw [hl] at this
    simpa using this
  have hfc : ∀ x, (x, NameKind.free) ∈ scope.names → (x, NameKind.cell) ∉ scope.names := fun x hx hc => by
    have := hsc.2 _ hx
    simp [hc] at this
  refine wpAny_comprehension_free (use := use) rfl hs (closureFor_clos hcl) hk hnames ?_
  show Wp c.w c.A (eval iter c.env) _ s
  refine (h.run X W s S).mono fun x s₁ h₁ => Wp.mono h₁ fun it s₂ ⟨A2, items, wr, St, Wk, hst, hfr, J, j0, turn, fin⟩ => ?_
  refine wpAny_newObj_type (newBlockEnv ?_)
  obtain ⟨mS, cmS, FS, RS⟩ := S.fr
  have f2 : ∀ a, s₂.heap.get? a = none → s.heap.get? a = none := fun a e => A2.fresh e
  generalize hH2 : s₂.heap.push { cls := .type "list", data := .seq ([] : List Value).toArray } = H2
  have sz2 : H2.objs.size = s₂.heap.objs.size + 1 := by rw [← hH2, Heap.size_push]
  have e23 : Ext s₂.heap H2 := hH2 ▸ .push
  generalize hH3 : H2.push { cls := .type "dict", data := .dict #[] } = H3
  have sz3 : H3.objs.size = H2.objs.size + 1 := by rw [← hH3, Heap.size_push]
  have e3 : Ext H2 H3 := hH3 ▸ .push
  have e4 : Ext H3 (pushCells H3 scope.names) := pushCells_keeps scope.names H3
  generalize hD : s₂.heap.objs.size = T at *
  generalize hC : H2.objs.size = C at *
  have hlow : ∀ a o, s₂.heap.get? a = some o → @LT.lt Nat _ a T := fun a o e => hD ▸ Heap.lt_size e
  have hclos : ∀ x k, (clos c.env scope.names).lookup x = some k → ∃ o, s₂.heap.get? k = some o := fun x k e => by
    have e := clos_mem e
    obtain ⟨o, e1, _⟩ := FS.cell x k e
    exact ⟨o, A2.kp k o (fun z => S.vx k z (FS.cX x k e).1) e1⟩
  have key := cells_own scope.names H3 (clos c.env scope.names) (fun x k e => by
      obtain ⟨o, e⟩ := hclos x k e
      have : @LT.lt Nat _ k T := hlow k o e
      show @LT.lt Nat _ k H3.objs.size
      omega) (fun x y k e1 e2 => FS.apart x y k (clos_mem e1) (clos_mem e2))
  rw [sz3] at key
  have nsC : ∃ m, (pushCells H3 scope.names).Ns C m := by
    obtain ⟨m, hm⟩ : ∃ m, H3.Ns C m := by rw [← hH3, ← hC]; exact ⟨_, Heap.Ns.new H2 _⟩
    exact ⟨m, hm.keeps e4⟩
  have accD : PlainL (pushCells H3 scope.names) T ([] : List Value).toArray := by
    refine PlainL.keeps (h := H2) ?_ fun b o e => e4 _ _ (e3 _ _ e)
    rw [← hH2, ← hD]
    exact ⟨_, 0, Heap.get?_push_size _ rfl, rfl, rfl, rfl⟩
  let own : Addr → Prop := fun a => ∃ x, (x, NameKind.cell) ∈ scope.names ∧ (cellsFrom (C + 1) scope.names (clos c.env scope.names)).lookup x = some a
  have ownlt : ∀ a, own a → @LT.lt Nat _ C a := fun a ⟨x, hx, e⟩ => by
    rcases key.1 x a e with ⟨_, h2, _⟩ | ⟨h1, _⟩
    · have h2 : @LE.le Nat _ (C + 1) a := h2
      omega
    · exact absurd hx h1
  let F : Addr → Prop := fun a => a = T ∨ a = C ∨ own a ∨ wr a
  have fF : ∀ a, F a → s.heap.get? a = none := fun a q => by
    have big : ∀ a, @LE.le Nat _ T a → s.heap.get? a = none := fun a q => f2 a (Heap.get?_none_of_le (hD ▸ q))
    rcases q with rfl | rfl | q | q
    · exact big _ (Nat.le_refl _)
    · exact big _ (by first | lia | omega)
    · exact big _ (by have := ownlt a q; omega)
    · exact hfr a q
  let W' : Addr → Prop := fun a => W a ∨ a = T ∨ wr a
  have hWS : ∀ a, W a → ∃ o, s.heap.get? a = some o := fun a q => S.bnd a (S.wx a q).1
  have wrlt : ∀ a, wr a → @LT.lt Nat _ a T := fun a q => by obtain ⟨o, e, _⟩ := Wk.live 0 _ hst a q; exact hlow a o e
  have nW' : ∀ a, @LT.lt Nat _ T a → ¬ W' a := fun a q z => by
    rcases z with z | z | z
    · obtain ⟨o, e⟩ := hWS a z
      have := fF a
      have h2 : s.heap.get? a = none := f2 a (Heap.get?_none_of_le (by first | lia | omega))
      rw [e] at h2; cases h2
    · exact absurd z (Nat.ne_of_gt q)
    · exact absurd (wrlt a z) (Nat.lt_asymm q)
  have hcc : ∀ x, (x, NameKind.free) ∈ scope.names → ((cellsFrom (C + 1) scope.names (clos c.env scope.names)).lookup x).isSome = true := fun x hx => by
    have hc := (hcl x hx).2
    rw [← clos_free hcl hx] at hc
    have mono : ∀ (names : List (Str × NameKind)) (n : Nat) (acc : List (Str × Addr)), (acc.lookup x).isSome = true → ((cellsFrom n names acc).lookup x).isSome = true := by
      intro names
      induction names with
      | nil => intro n acc h; exact h
      | cons q r ih =>
        intro n acc h
        obtain ⟨y, kd⟩ := q
        unfold cellsFrom
        split
        · refine ih _ _ ?_
          rw [List.lookup_cons]
          cases x == y
          · exact h
          · rfl
        · exact ih _ _ h
    exact mono _ _ _ hc
  have okb := blkOk (scope := scope) (C := C) ok hk
  have k24 : Ext s₂.heap (pushCells H3 scope.names) := (e23.trans e3).trans e4
  have hTC : @LT.lt Nat _ T C := by rw [sz2]; exact Nat.lt_succ_self _
  have okb := blkOk (scope := scope) (C := C) ok hk
  have mk : ∀ h', Kp c.V s.heap h' → (∀ a, c.V a → ∃ o, h'.get? a = some o ∧ NotCode o) → c.Iv h' → (∀ a, F a → ∃ o, h'.get? a = some o ∧ NotCode o) → (∃ m, h'.Ns C m) → (∀ a, own a → ∃ v, h'.IsCell a v) →
      Sta (c.blk scope C) (fun a => X a ∨ F a) W' (seen scope ρ) O h' := fun h' k v i l ns ow => by
    refine blk_sta ok S hcl hk k v i fF l (.inr (.inl rfl)) (fun a q => ?_) (nW' C hTC) ns (fun x a e => ?_) key.2 hfc hcc
    · rcases q with q | q | q
      · exact .inl q
      · exact .inr (.inl q)
      · exact .inr (.inr (.inr (.inr q)))
    · rcases key.1 x a e with ⟨h1, h2, _⟩ | ⟨h1, h2⟩
      · have h3 : own a := ⟨x, h1, e⟩
        have h4 := ownlt a h3
        exact .inl ⟨h1, .inr (.inr (.inl h3)), nW' a (Nat.lt_trans hTC h4), Nat.ne_of_gt h4, ow a h3⟩
      · exact .inr ⟨h1, h2⟩
  have back : ∀ X' ρ' O' h', Sta (c.blk scope C) X' W' ρ' O' h' → ∀ a, own a → ∃ v, h'.IsCell a v := fun X' ρ' O' h' Sb a ⟨x, _, e⟩ => by
    obtain ⟨m, cm, Fr, _⟩ := Sb.fr
    exact ⟨_, Fr.cell x a e⟩
  have backC : ∀ X' ρ' O' h', Sta (c.blk scope C) X' W' ρ' O' h' → ∃ m, h'.Ns C m := fun X' ρ' O' h' Sb => by
    obtain ⟨m, cm, Fr, _⟩ := Sb.fr
    exact ⟨m, Fr.ns⟩
  have fzF : ∀ a, Fz c X wr s₂.heap a → ¬ F a := fun a f q => by
    obtain ⟨o, e⟩ := f.1
    have hl := hlow a o e
    rcases q with q | q | q | q
    · exact absurd q (Nat.ne_of_lt hl)
    · exact absurd q (Nat.ne_of_lt (Nat.lt_trans hl hTC))
    · exact absurd (ownlt a q) (Nat.lt_asymm (Nat.lt_trans hl hTC))
    · exact f.2.2.2 q
  have fresh_nF : ∀ a o, s.heap.get? a = some o → ¬ F a := fun a o e q => by rw [fF a q] at e; cases e
  have nsfree : ∀ x ∈ ns, ∀ a, (cellsFrom (C + 1) scope.names (clos c.env scope.names)).lookup x = some a → own a := fun x hx a e => by
    rcases key.1 x a e with ⟨h1, _, _⟩ | ⟨h1, h2⟩
    · exact ⟨x, h1, e⟩
    · exfalso
      have h3 := List.all_eq_true.mp hns x hx
      have h4 := mem_of_lookup h2
      unfold clos at h4
      rw [List.mem_reverse, List.mem_filterMap] at h4
      obtain ⟨⟨y, kd⟩, hy, e4⟩ := h4
      split at e4
      · rename_i hkd
        rw [Option.map_eq_some_iff] at e4
        obtain ⟨a', _, h6⟩ := e4
        cases h6
        have hkd' : kd = .free := beq_iff_eq.mp hkd
        subst hkd'
        simp [hy] at h3
      · cases e4
  have loop : ∀ s₃ : Shared, s₃ = { s₂ with heap := pushCells H3 scope.names } → codeAny (model PG c.w) c.A (.compLoop (lc2 elt tgt iter tgt2 iter2 scope pos) 0 it (.ref T) (cenv scope c.env C))
      (compPost (model PG c.w) c.A NoE use Q (.ref T) C) s₃ := by
    rintro s₃ rfl
    refine loop2_outer (fun n s' => ∃ i vs ds, n = items.length - i + 1 ∧ i ≤ items.length ∧ Res s s' ∧ Kp c.V s.heap s'.heap ∧ (∀ a, c.V a → ∃ o, s'.heap.get? a = some o ∧ NotCode o) ∧ c.Iv s'.heap ∧ St i s'.heap ∧ (∀ a, F a → ∃ o, s'.heap.get? a = some o ∧ NotCode o) ∧
      (∃ m, s'.heap.Ns C m) ∧ (∀ a, own a → ∃ v, s'.heap.IsCell a v) ∧ PlainL s'.heap T vs.toArray ∧ Reps (Av c fun a => X a ∨ F a) s'.heap vs ds ∧ J i ds ∧ ∀ a o, Fz c X wr s₂.heap a → s₂.heap.get? a = some o → s'.heap.get? a = some o) (hs2 _) ?_ (items.length + 1)
      ⟨0, [], [], rfl, Nat.zero_le _, A2.res.trans .mk, A2.kp.trans k24.kp, fun a q => by obtain ⟨o, e, n⟩ := A2.sta.vn a q; exact ⟨o, k24 a o e, n⟩, ok.ivm _ _ (fun a o _ e => k24 a o e) (fun a o _ e => k24 a o e) A2.sta.inv, Wk.frame 0 _ _ hst fun a o _ e => k24 a o e, ?_, nsC, ?_, accD, .nil, j0, fun a o _ e => k24 a o e⟩
    · rintro n s' ⟨i, vs, ds, rfl, hi, res, kp, vb, iv, st, fx, nC, ow, pl, rp, jj, fz⟩
      have S' := mk _ kp vb iv fx nC ow
      by_cases hlt : i < items.length
      · have hd : items[i]? = some items[i] := List.getElem?_eq_getElem hlt
        refine (Wk.step i _ s' hd st).mono fun r s₃ ⟨v, e, hgo⟩ => ?_
        subst e
        refine hgo.mono fun _ s₄ ⟨r4, st4, k4, rep4⟩ => ?_
        have k4' : ∀ a o, ¬ W' a → s'.heap.get? a = some o → s₄.heap.get? a = some o := fun a o n e => k4 a o (fun q => n (.inr (.inr q))) e
        have nwT : ¬ wr T := fun q => Nat.lt_irrefl _ (wrlt T q)
        have S4 : Sta (c.blk scope C) (fun a => X a ∨ F a) W' (seen scope ρ) O s₄.heap := S'.wrk okb k4' fun a q => by
          by_cases hw : wr a
          · exact Wk.live _ _ st4 a hw
          · obtain ⟨o, e, n⟩ := S'.bn a (S'.wx a q).1
            exact ⟨o, k4 a o hw e, n⟩
        have fz4 : ∀ a o, Fz c X wr s₂.heap a → s₂.heap.get? a = some o → s₄.heap.get? a = some o := fun a o f e => k4 a o f.2.2.2 (fz a o f e)
        have rv : ARep (Av c fun a => X a ∨ F a) s₄.heap v (.d items[i]) := by
          refine rep4 _ (fun a f q => ?_) (fun a q => ?_) fz4
          · rcases q with (q | q) | q
            · exact f.2.1 q
            · exact fzF a f q
            · exact f.2.2.1 q
          · rcases q with q | q
            · exact S'.bnd a q
            · exact S'.vb a q
        have kp4 : Kp c.V s.heap s₄.heap := fun a o n e => k4 a o (fun q => fresh_nF a o e (.inr (.inr (.inr q)))) (kp a o n e)
        have pl4 : PlainL s₄.heap T vs.toArray := by obtain ⟨o, n, e, r⟩ := pl; exact ⟨o, n, k4 _ _ nwT e, r⟩
        have rp4 : Reps (Av c fun a => X a ∨ F a) s₄.heap vs ds := rp.mono (fun _ _ q => q) fun a o n e => k4 a o (fun q => n (.inl (.inr (.inr (.inr (.inr q)))))) e
        obtain ⟨ρ', ag, it2⟩ := turn C i _ ds okb hd jj
        refine (ag.run _ W' s₄ v S4 rv).mono fun _ s₅ ⟨r5, S5, k5⟩ => ?_
        have k5' : ∀ a o, (a ≠ C ∧ ¬ own a) → s₄.heap.get? a = some o → s₅.heap.get? a = some o := fun a o n e => k5 a o n.1 (fun x hx q => n.2 (nsfree x hx a q)) e
        have nTC : T ≠ C ∧ ¬ own T := ⟨Nat.ne_of_lt hTC, fun q => Nat.lt_asymm hTC (ownlt T q)⟩
        have kp5 : Kp c.V s.heap s₅.heap := fun a o n e => k5' a o ⟨fun q => fresh_nF a o e (.inr (.inl q)), fun q => fresh_nF a o e (.inr (.inr (.inl q)))⟩ (kp4 a o n e)
        have pl5 : PlainL s₅.heap T vs.toArray := by obtain ⟨o, n, e, r⟩ := pl4; exact ⟨o, n, k5' _ _ nTC e, r⟩
        have rp5 : Reps (Av c fun a => X a ∨ F a) s₅.heap vs ds := rp4.mono (fun _ _ q => q) fun a o n e => k5' a o ⟨fun q => n (.inl (.inr (.inr (.inl q)))), fun q => n (.inl (.inr (.inr (.inr (.inl q)))))⟩ e
        have fz5 : ∀ a o, Fz c X wr s₂.heap a → s₂.heap.get? a = some o → s₅.heap.get? a = some o := fun a o f e => k5' a o ⟨fun q => fzF a f (.inr (.inl q)), fun q => fzF a f (.inr (.inr (.inl q)))⟩ (fz4 a o f e)
        have st5 : St (i + 1) s₅.heap := Wk.frame _ _ _ st4 fun a o q e => by
          refine k5' a o ⟨fun z => ?_, fun z => ?_⟩ e
          · rcases q with q | q
            · exact absurd z (Nat.ne_of_lt (Nat.lt_trans (wrlt a q) hTC))
            · exact fzF a q (.inr (.inl z))
          · rcases q with q | q
            · exact Nat.lt_asymm (Nat.lt_trans (wrlt a q) hTC) (ownlt a z)
            · exact fzF a q (.inr (.inr (.inl z)))
        have keep : ∀ {s₆ : Shared}, Aft (c.blk scope C) (fun a => X a ∨ F a) W' ρ' O s₅ s₆ → St (i + 1) s₆.heap ∧ Kp c.V s.heap s₆.heap ∧ PlainL s₆.heap T vs.toArray ∧ Reps (Av c fun a => X a ∨ F a) s₆.heap vs ds ∧ ∀ a o, Fz c X wr s₂.heap a → s₂.heap.get? a = some o → s₆.heap.get? a = some o := fun {s₆} A6 => by
          have k6 : Kp c.V s₅.heap s₆.heap := A6.kp
          have xv : ∀ a, F a → ¬ c.V a := fun a q v => S4.vx a v (.inr q)
          refine ⟨Wk.frame _ _ _ st5 fun a o q e => k6 a o (fun v => ?_) e, kp5.trans k6, ?_, rp5.mono (fun _ _ q => q) fun a o n e => k6 a o (fun q => n (.inr q)) e, fun a o f e => k6 a o f.2.2.1 (fz5 a o f e)⟩
          · rcases q with q | q
            · exact xv a (.inr (.inr (.inr q))) v
            · exact q.2.2.1 v
          · obtain ⟨o, n, e, r⟩ := pl5
            exact ⟨o, n, k6 _ _ (xv T (.inl rfl)) e, r⟩
        refine (it2.run _ W' s₅ S5).mono fun x₂ s₆ h₆ => Wp.mono h₆ fun i₂ s₇ ⟨A7, items2, wr2, St2, Wk2, hst2, hfr2, J2, j20, turn2, hsz2, fin2⟩ => ?_
        obtain ⟨g1, g2, g3, g4, g5⟩ := keep A7
        have r7 := ((res.trans r4).trans r5).trans A7.res
        have S7 : Sta (c.blk scope C) (fun a => (X a ∨ F a) ∨ wr2 a) (fun a => W' a ∨ wr2 a) ρ' O s₇.heap := Sta.res okb S5 s₇.heap A7.kp A7.sta hfr2 (Wk2.live 0 _ hst2)
        have x2 : ∀ a, (X a ∨ F a) → ¬ wr2 a := fun a q z => by obtain ⟨o, e⟩ := S5.bnd a q; rw [hfr2 a z] at e; cases e
        have s2' : ∀ a o, s.heap.get? a = some o → ¬ wr2 a := fun a o e z => by
          by_cases hv : c.V a
          · obtain ⟨o', e'⟩ := S5.vb a hv; rw [hfr2 a z] at e'; cases e'
          · have := kp5 a o hv e; rw [hfr2 a z] at this; cases this
        have fz2 : ∀ a, Fz c X wr s₂.heap a → ¬ wr2 a := fun a f z => by
          obtain ⟨o, e⟩ := f.1
          have := fz5 a o f e
          rw [hfr2 a z] at this; cases this
        have inner : codeAny (model PG c.w) c.A (.compLoop (lc2 elt tgt iter tgt2 iter2 scope pos) 1 i₂ (.ref T) (cenv scope c.env C)) (fun r s₅ => r = .ok .next ∧ ∃ m, m < items.length - i + 1 ∧ ∃ i vs ds, m = items.length - i + 1 ∧ i ≤ items.length ∧ Res s s₅ ∧ Kp c.V s.heap s₅.heap ∧ (∀ a, c.V a → ∃ o, s₅.heap.get? a = some o ∧ NotCode o) ∧ c.Iv s₅.heap ∧ St i s₅.heap ∧ (∀ a, F a → ∃ o, s₅.heap.get? a = some o ∧ NotCode o) ∧
      (∃ m, s₅.heap.Ns C m) ∧ (∀ a, own a → ∃ v, s₅.heap.IsCell a v) ∧ PlainL s₅.heap T vs.toArray ∧ Reps (Av c fun a => X a ∨ F a) s₅.heap vs ds ∧ J i ds ∧ ∀ a o, Fz c X wr s₂.heap a → s₂.heap.get? a = some o → s₅.heap.get? a = some o) s₇ := by
          have wT : W' T := .inr (.inl rfl)
          refine loop2_inner (fun n s' => ∃ k vs' zs, n = items2.length - k + 1 ∧ k ≤ items2.length ∧ Res s s' ∧ Kp c.V s.heap s'.heap ∧ Sta (c.blk scope C) (fun a => (X a ∨ F a) ∨ wr2 a) (fun a => W' a ∨ wr2 a) ρ' O s'.heap ∧ St2 k s'.heap ∧ St (i + 1) s'.heap ∧ PlainL s'.heap T vs'.toArray ∧ Reps (Av c fun a => (X a ∨ F a) ∨ wr2 a) s'.heap vs' zs ∧ J2 k zs ∧
            (∀ a o, Fz c X wr s₂.heap a → s₂.heap.get? a = some o → s'.heap.get? a = some o) ∧ ∀ a o, Fz (c.blk scope C) (fun a => X a ∨ F a) wr2 s₇.heap a → s₇.heap.get? a = some o → s'.heap.get? a = some o) ?_ (items2.length + 1)
            ⟨0, vs, ds, rfl, Nat.zero_le _, r7, g2, S7, hst2, g1, g3, ?_, j20, g5, fun _ _ _ e => e⟩
          rotate_left
          · refine rp5.mono (fun a q z => ?_) fun a o n e => A7.kp a o (fun q => n (.inr q)) e
            rcases z with (z | z) | z
            · exact .inl z
            · obtain ⟨o, e⟩ := q; rw [hfr2 a z] at e; cases e
            · exact .inr z
          rintro n s' ⟨k, vs', zs, rfl, hk, ires, ikp, IS, ist2, ist, ipl, irp, ij, ifz, ifz2⟩
          have nwr2T : ¬ wr2 T := x2 T (.inr (.inl rfl))
          have nwr2C : ¬ wr2 C := x2 C (.inr (.inr (.inl rfl)))
          by_cases hlt2 : k < items2.length
          · have hd2 : items2[k]? = some items2[k] := List.getElem?_eq_getElem hlt2
            refine (Wk2.step k _ s' hd2 ist2).mono fun r t₁ ⟨v2, e, hgo⟩ => ?_
            subst e
            refine hgo.mono fun _ t₂ ⟨q2, u2, k2, rep2⟩ => ?_
            have IS2 : Sta (c.blk scope C) (fun a => (X a ∨ F a) ∨ wr2 a) (fun a => W' a ∨ wr2 a) ρ' O t₂.heap := IS.wrk okb (fun a o n e => k2 a o (fun q => n (.inr q)) e) fun a q => by
              by_cases hw : wr2 a
              · exact Wk2.live _ _ u2 a hw
              · obtain ⟨o, e, n⟩ := IS.bn a (IS.wx a q).1
                exact ⟨o, k2 a o hw e, n⟩
            have ifz2' : ∀ a o, Fz (c.blk scope C) (fun a => X a ∨ F a) wr2 s₇.heap a → s₇.heap.get? a = some o → t₂.heap.get? a = some o := fun a o f e => k2 a o f.2.2.2 (ifz2 a o f e)
            have rv2 : ARep (Av (c.blk scope C) fun a => (X a ∨ F a) ∨ wr2 a) t₂.heap v2 (.d items2[k]) := by
              refine rep2 _ (fun a f q => ?_) (fun a q => ?_) ifz2'
              · rcases q with (q | q) | q
                · exact f.2.1 q
                · exact f.2.2.2 q
                · exact f.2.2.1 q
              · rcases q with q | q
                · exact IS.bnd a q
                · exact IS.vb a q
            obtain ⟨ρ2, ag2, hsub, hel⟩ := turn2 k _ zs hd2 ij
            refine (ag2.run _ _ t₂ v2 IS2 rv2).mono fun _ t₃ ⟨q3, IS3, k3⟩ => ?_
            have k3' : ∀ a o, (a ≠ C ∧ ¬ own a) → t₂.heap.get? a = some o → t₃.heap.get? a = some o := fun a o n e => k3 a o n.1 (fun x hx q => n.2 (nsfree x hx a q)) e
            refine (hel.run _ _ t₃ IS3).mono fun y t₄ ⟨A4, a4, ra, d4, ea, jn⟩ => ?_
            subst ea
            -- from s' to t₄ all stands but what the walk, the target and the values turn
            have k4 : ∀ a o, ¬ wr2 a → (a ≠ C ∧ ¬ own a) → ¬ c.V a → s'.heap.get? a = some o → t₄.heap.get? a = some o := fun a o n1 n2 n3 e => A4.kp a o n3 (k3' a o n2 (k2 a o n1 e))
            have xv : ∀ a, F a → ¬ c.V a := fun a q v => IS.vx a v (.inl (.inr q))
            have ipl4 : PlainL t₄.heap T vs'.toArray := by obtain ⟨o, n, e, r⟩ := ipl; exact ⟨o, n, k4 _ _ nwr2T nTC (xv T (.inl rfl)) e, r⟩
            refine list_append_plainL ipl4 (fun h' p' hs' => ?_) (by have := hsz2 _ _ ij; rw [← irp.length] at this; simpa using this)
            have kk : ∀ a o, a ≠ T → t₄.heap.get? a = some o → h'.get? a = some o := fun a o n e => (hs'.2 a n).trans e
            have k5 : ∀ a o, ¬ wr2 a → (a ≠ C ∧ ¬ own a) → a ≠ T → ¬ c.V a → s'.heap.get? a = some o → h'.get? a = some o := fun a o n1 n2 n4 n3 e => kk a o n4 (k4 a o n1 n2 n3 e)
            have kT : ∀ a o, ¬ Av c (fun a => (X a ∨ F a) ∨ wr2 a) a → t₄.heap.get? a = some o → h'.get? a = some o := fun a o n e => kk a o (fun z => n (.inl (.inl (.inr (.inl z))))) e
            have kR : ∀ a o, ¬ Av c (fun a => (X a ∨ F a) ∨ wr2 a) a → s'.heap.get? a = some o → h'.get? a = some o := fun a o n e => k5 a o (fun z => n (.inl (.inr z))) ⟨fun z => n (.inl (.inl (.inr (.inr (.inl z))))), fun z => n (.inl (.inl (.inr (.inr (.inr (.inl z))))))⟩ (fun z => n (.inl (.inl (.inr (.inl z))))) (fun z => n (.inr z)) e
            have IS5 : Sta (c.blk scope C) (fun a => (X a ∨ F a) ∨ wr2 a) (fun a => W' a ∨ wr2 a) ρ' O h' := (A4.sta.sub hsub).wrk okb (fun a o n e => kk a o (fun z => n (.inl (z ▸ wT))) e) fun a q => by
              by_cases hT : a = T
              · subst hT; obtain ⟨o, _, e, _, _, d⟩ := p'; exact ⟨o, e, fun _ _ _ z => by rw [d] at z; cases z⟩
              · obtain ⟨o, e, n⟩ := A4.sta.bn a (A4.sta.wx a q).1
                exact ⟨o, kk a o hT e, n⟩
            refine ⟨items2.length - (k + 1) + 1, zdn hlt2, k + 1, vs' ++ [y], zs ++ [d4], rfl, hlt2, (((ires.trans q2).trans q3).trans A4.res).trans .mk, fun a o n e => ?_, IS5, ?_, ?_, by simpa using p', (irp.mono (fun _ _ q => q) kR).append (.cons (Rep.mono (fun _ _ q => q) kT ra) .nil), jn, fun a o f e => ?_, fun a o f e => ?_⟩
            · have nF := fresh_nF a o e
              exact k5 a o (s2' a o e) ⟨fun z => nF (.inr (.inl z)), fun z => nF (.inr (.inr (.inl z)))⟩ (fun z => nF (.inl z)) n (ikp a o n e)
            · refine Wk2.frame _ _ _ u2 fun a o q e => ?_
              have nq : ¬ (X a ∨ F a) ∧ ¬ c.V a := by
                rcases q with q | q
                · exact ⟨fun z => x2 a z q, fun v => IS.vx a v (.inr q)⟩
                · exact ⟨q.2.1, q.2.2.1⟩
              exact kk a o (fun z => nq.1 (.inr (.inl z))) (A4.kp a o nq.2 (k3' a o ⟨fun z => nq.1 (.inr (.inr (.inl z))), fun z => nq.1 (.inr (.inr (.inr (.inl z))))⟩ e))
            · refine Wk.frame _ _ _ ist fun a o q e => ?_
              rcases q with q | q
              · exact k5 a o (x2 a (.inr (.inr (.inr (.inr q))))) ⟨fun z => absurd z (Nat.ne_of_lt (Nat.lt_trans (wrlt a q) hTC)), fun z => Nat.lt_asymm (Nat.lt_trans (wrlt a q) hTC) (ownlt a z)⟩ (fun z => absurd z (Nat.ne_of_lt (wrlt a q))) (xv a (.inr (.inr (.inr q)))) e
              · have nF := fzF a q
                exact k5 a o (fz2 a q) ⟨fun z => nF (.inr (.inl z)), fun z => nF (.inr (.inr (.inl z)))⟩ (fun z => nF (.inl z)) q.2.2.1 e
            · have nF := fzF a f
              exact k5 a o (fz2 a f) ⟨fun z => nF (.inr (.inl z)), fun z => nF (.inr (.inr (.inl z)))⟩ (fun z => nF (.inl z)) f.2.2.1 (ifz a o f e)
            · exact k5 a o f.2.2.2 ⟨fun z => f.2.1 (.inr (.inr (.inl z))), fun z => f.2.1 (.inr (.inr (.inr (.inl z))))⟩ (fun z => f.2.1 (.inr (.inl z))) f.2.2.1 (ifz2 a o f e)
          · have hin2 : k = items2.length := zeq hk hlt2
            subst hin2
            refine (Wk2.done s' ist2).mono fun r t₁ ⟨e, q1, k1⟩ => ?_
            subst e
            refine ⟨rfl, items.length - (i + 1) + 1, zdn hlt, i + 1, vs', zs, rfl, hlt, ires.trans q1, fun a o n e => k1 a o (s2' a o e) (ikp a o n e), fun a q => ?_, ok.ivm _ _ (fun a o v e => k1 a o (fun z => IS.vx a v (.inr z)) e) (fun a o n e => k1 a o (fun z => IS.ncX n e (.inr z)) e) IS.inv, ?_, fun a q => ?_, ?_, fun a q => ?_, ?_, ?_, fin2 _ ij, fun a o f e => k1 a o (fz2 a f) (ifz a o f e)⟩
            · obtain ⟨o, e, n⟩ := IS.vn a q
              exact ⟨o, k1 a o (fun z => IS.vx a q (.inr z)) e, n⟩
            · refine Wk.frame _ _ _ ist fun a o q e => ?_
              rcases q with q | q
              · exact k1 a o (x2 a (.inr (.inr (.inr (.inr q))))) e
              · exact k1 a o (fz2 a q) e
            · obtain ⟨o, e, n⟩ := IS.bn a (.inl (.inr q))
              exact ⟨o, k1 a o (x2 a (.inr q)) e, n⟩
            · obtain ⟨m, cm, Fr, _⟩ := IS.fr
              obtain ⟨o, es, ep, e, r⟩ := Fr.ns
              exact ⟨m, o, es, ep, k1 _ _ nwr2C e, r⟩
            · obtain ⟨m, cm, Fr, _⟩ := IS.fr
              obtain ⟨x, _, e⟩ := q
              obtain ⟨o, e1, e2⟩ := Fr.cell x a e
              exact ⟨_, o, k1 a o (x2 a (.inr (.inr (.inr (.inl ⟨x, by assumption, e⟩))))) e1, e2⟩
            · obtain ⟨o, n, e, r⟩ := ipl
              exact ⟨o, n, k1 _ _ nwr2T e, r⟩
            · refine irp.mono (fun a _ q => ?_) fun a o n e => k1 a o (fun z => n (.inl (.inr z))) e
              rcases q with q | q
              · exact .inl (.inl q)
              · exact .inr q
        refine start2_inner inner (Wk2.self 0 s₇ _ hst2 inner)
      · have hin : i = items.length := zeq hi hlt
        subst hin
        refine (Wk.done s' st).mono fun r s₃ ⟨e, r3, k3⟩ => ?_
        subst e
        have kp3 : Kp c.V s.heap s₃.heap := fun a o n e => k3 a o (fun q => fresh_nF a o e (.inr (.inr (.inr q)))) (kp a o n e)
        have vb3 : ∀ a, c.V a → ∃ o, s₃.heap.get? a = some o ∧ NotCode o := fun a q => by
          obtain ⟨o, e, n⟩ := vb a q
          exact ⟨o, k3 a o (fun z => S'.vx a q (.inr (.inr (.inr (.inr z))))) e, n⟩
        have iv3 : c.Iv s₃.heap := ok.ivm _ _ (fun a o v e => k3 a o (fun z => S'.vx a v (.inr (.inr (.inr (.inr z))))) e) (fun a o n e => k3 a o (fun z => S'.ncX n e (.inr (.inr (.inr (.inr z))))) e) iv
        refine hend s₃ T C vs ds ⟨S.kp ok kp3 vb3 iv3, kp3, res.trans r3⟩ (fF T (.inl rfl)) (fF C (.inr (.inl rfl))) (Nat.ne_of_lt hTC) ?_ ?_ ?_ (fin _ jj)
        · obtain ⟨m, o, es, ep, e, r⟩ := nC
          exact ⟨m, o, es, ep, k3 _ _ (fun q => Nat.lt_asymm (wrlt C q) hTC) e, r⟩
        · obtain ⟨o, n, e, r⟩ := pl
          exact ⟨o, n, k3 _ _ (fun q => Nat.lt_irrefl _ (wrlt T q)) e, r⟩
        · refine rp.mono (fun a _ q => ?_) fun a o n e => k3 a o (fun q => n (.inl (.inr (.inr (.inr (.inr q)))))) e
          rcases q with (q | q) | q | q
          · exact .inl (.inl q)
          · exact .inr q
          · exact .inl (.inr (.inl q))
          · exact .inl (.inr (.inr (.inl q)))
    · rintro a (q | q | q | q)
      · subst q; obtain ⟨o, _, e, _, _, d⟩ := accD; exact ⟨o, e, fun _ _ _ z => by rw [d] at z; cases z⟩
      · subst q; obtain ⟨m, o, _, _, e, d, _⟩ := nsC; exact ⟨o, e, fun _ _ _ z => by rw [d] at z; cases z⟩
      · obtain ⟨x, hx, e⟩ := q
        rcases key.1 x a e with ⟨_, _, o, e2, d⟩ | ⟨h1, _⟩
        · exact ⟨o, e2, fun _ _ _ z => by rw [d] at z; cases z⟩
        · exact absurd hx h1
      · obtain ⟨o, e, n⟩ := Wk.live 0 _ hst a q; exact ⟨o, k24 a o e, n⟩
    · rintro a ⟨x, hx, e⟩
      rcases key.1 x a e with ⟨_, _, h3⟩ | ⟨h1, _⟩
      · exact ⟨_, h3⟩
      · exact absurd hx h1
  have fin2 := loop _ rfl
  show codeAny (model PG c.w) c.A (.compStart (lc2 elt tgt iter tgt2 iter2 scope pos) 0 it (.ref T) (cenv scope c.env C)) _ { s₂ with heap := pushCells H3 scope.names }
  refine codeAny_compStart_list fin2 ?_
  exact lift (Wk.self 0 { s₂ with heap := pushCells H3 scope.names } _ (Wk.frame 0 _ _ hst fun a o _ e => k24 a o e) fin2)

include ok in
theorem evf_comp2 {tgt iter tgt2 iter2 elt : Expr} {scope : Scope} {pos : Pos} {Q : List AV → Prop} (ns : List Str) (hcl : ClosOk c.env scope.names) (hk : scope.kind = .function) (hsc : ScopeOk scope.names = true)
    (hns : (ns.all fun x => !(scope.names.contains (x, NameKind.free))) = true)
    (h : EvIt c ρ O tgt iter fun items => ∃ J : Nat → List D → Prop, J 0 [] ∧ (∀ C i d ys, (c.blk scope C).Ok → items[i]? = some d → J i ys → ∃ ρ', AsgB (c.blk scope C) (seen scope ρ) O tgt (.d d) ns ρ' ∧
      EvIt (c.blk scope C) ρ' O tgt2 iter2 fun items2 => ∃ J2 : Nat → List D → Prop, J2 0 ys ∧ (∀ k d2 zs, items2[k]? = some d2 → J2 k zs → ∃ ρ2, AsgB (c.blk scope C) ρ' O tgt2 (.d d2) ns ρ2 ∧ (∀ x a, ρ'.lookup x = some a → ρ2.lookup x = some a) ∧
        Ev (c.blk scope C) ρ2 O elt fun a => ∃ y, a = .d y ∧ J2 (k + 1) (zs ++ [y])) ∧ (∀ k zs, J2 k zs → zs.length ≤ sizeLine) ∧ ∀ zs, J2 items2.length zs → J (i + 1) zs) ∧ ∀ ys, J items.length ys → Q (ys.map .d))
    (hs : ∀ x, foldedSetIterable iter c.env x = pure x := by intro _; rfl) (hs2 : ∀ env x, foldedSetIterable iter2 env x = pure x := by intro _ _; rfl) : EvF c ρ O (lc2 elt tgt iter tgt2 iter2 scope pos) Q := .mk fun X W s S => by
  rw [eval_ListComp]
  refine comp2_core (use := none) (P := fun ys => Q (ys.map .d)) ok ns hcl hk hsc hns h hs hs2 S fun s' T C vs ds A fT fC hTC nC pl rp hq => ⟨_, nC.choose_spec, fun h' hs' => ?_⟩
  have k2 : ∀ a o, a ≠ C → s'.heap.get? a = some o → h'.get? a = some o := fun a o n e => (hs'.2 a n).trans e
  have hsome : ∀ a o, s.heap.get? a = some o → a ≠ C := fun a o e z => by rw [z, fC] at e; cases e
  have vC : ¬ c.V C := fun v => by obtain ⟨o, e⟩ := S.vb C v; rw [fC] at e; cases e
  have kp : Kp c.V s.heap h' := fun a o n e => k2 a o (hsome a o e) (A.kp a o n e)
  refine ⟨⟨S.kp ok kp (fun a v => ?_) (ok.ivm _ _ (fun a o v e => k2 a o (fun z => vC (z ▸ v)) e) (fun a o n e => k2 a o (fun z => by obtain ⟨m, oC, _, _, eC, dC, _⟩ := nC; rw [z, eC] at e; cases e; exact n fun _ _ _ z => by rw [dC] at z; cases z) e) A.sta.inv), kp, A.res.trans .mk⟩, T, vs, _, rfl, fT, ?_, ?_, hq⟩
  · obtain ⟨o, e, n⟩ := A.sta.vn a v
    exact ⟨o, k2 a o (fun z => vC (z ▸ v)) e, n⟩
  · obtain ⟨o, n, e, r⟩ := pl
    exact ⟨o, n, k2 _ _ hTC e, r⟩
  · refine AReps.ofReps (rp.mono (fun a _ q => ?_) fun a o n e => k2 a o (fun z => n (.inr (.inr z))) e)
    rcases q with q | q
    · exact .inl q
    · exact .inr (.inl q)

end

section
variable {c : Ctx} (ok : c.Ok) {ρ : Loc} {O : Own}

/-- the same frame, with two more objects that callees may turn. -/
abbrev Ctx.reel (c : Ctx) (q : Str) (S T : Addr) (N : Nat) : Ctx := { c with V := fun a => a ∈ [193, S, T], Iv := IvL q S T N }

theorem ints_take : ∀ {vs : List Value} {ns : List Int} (k : Nat), IntsAre vs ns → IntsAre (vs.take k) (ns.take k)
  | _, _, 0, _ => .nil
  | _, _, k + 1, .nil => .nil
  | _, _, k + 1, .cons n t r => .cons n t (ints_take k r)

include ok in
theorem reel_sta {X W : Addr → Prop} {h h' : Heap} {q : Str} {S T : Addr} {N : Nat} (hI : c.Iv = IvT q) (hV : c.V = fun a => a ∈ [(193 : Addr)]) (S0 : Sta c X W ρ O h) (S1 : Sta c X W ρ O h') (k : Kp c.V h h') (fS : h.get? S = none) (fT : h.get? T = none) (r : IvR S T N h') :
    (c.reel q S T N).Ok ∧ Sta (c.reel q S T N) X W ρ O h' := by
  have ne : ∀ a, (∃ o, h.get? a = some o) → a ≠ S ∧ a ≠ T := fun a ⟨o, e⟩ => ⟨(fun z => by rw [z, fS] at e; cases e), (fun z => by rw [z, fT] at e; cases e)⟩
  have n0 : ∀ a, h.get? a = none → c.h0.get? a = none := fun a e => by
    cases e0 : c.h0.get? a with
    | none => rfl
    | some o => rw [S0.base a o e0] at e; cases e
  have hv : ∀ a, c.V a ↔ a = 193 := fun a => by rw [hV]; simp
  have ok2 : (c.reel q S T N).Ok := ⟨ok.hd, ok.room, ok.units, ok.kind, ok.glob, ok.blt, fun a z => by
    rcases List.mem_cons.mp z with rfl | z
    · exact ok.v0 _ ((hv _).mpr rfl)
    · rcases List.mem_cons.mp z with rfl | z
      · exact n0 _ fS
      · rw [List.mem_singleton.mp z]; exact n0 _ fT, ok.x0, ivOk q S T N⟩
  have hz : ∀ a, (∃ o, h.get? a = some o) → Av (c.reel q S T N) X a → Av c X a := fun a e z => by
    rcases z with z | z
    · exact .inl z
    · rcases List.mem_cons.mp z with rfl | z
      · exact .inr ((hv _).mpr rfl)
      · rcases List.mem_cons.mp z with rfl | z
        · exact absurd rfl (ne _ e).1
        · exact absurd (List.mem_singleton.mp z) (ne _ e).2
  have kz : ∀ a o, ¬ Av c X a → h.get? a = some o → h'.get? a = some o := fun a o n e => k a o (fun q => n (.inr q)) e
  have kx : ∀ a o, X a → h.get? a = some o → h'.get? a = some o := fun a o x e => k a o (fun z => S0.vx a z x) e
  obtain ⟨m, cm, F, R⟩ := S0.fr
  have hinv : IvT q h' := by have := S1.inv; rw [hI] at this; exact this
  obtain ⟨k0, t0, vs, ns, r1, r2, r3⟩ := id r
  refine ⟨ok2, S1.base, S1.amb, S1.bn, fun a z => ?_, fun a z x => ?_, ⟨hinv, r⟩, S1.wx, ⟨m, cm, ⟨?_, F.lX, F.lW, F.lF, fun x q e => ?_, F.cX, F.apart⟩, fun x a e => ?_⟩, fun p hp => ?_, S1.nd⟩
  · rcases List.mem_cons.mp z with rfl | z
    · exact S1.vn _ ((hv _).mpr rfl)
    · rcases List.mem_cons.mp z with rfl | z
      · obtain ⟨o, e, _, _, d⟩ := r2; exact ⟨o, e, fun _ _ _ z => by rw [d] at z; cases z⟩
      · rw [List.mem_singleton.mp z]; obtain ⟨o, e, _, _, d⟩ := r1; exact ⟨o, e, fun _ _ _ z => by rw [d] at z; cases z⟩
  · have := S0.bnd a x
    rcases List.mem_cons.mp z with rfl | z
    · exact S0.vx _ ((hv _).mpr rfl) x
    · rcases List.mem_cons.mp z with rfl | z
      · exact absurd rfl (ne _ this).1
      · exact absurd (List.mem_singleton.mp z) (ne _ this).2
  · obtain ⟨o, es, ep, e, r⟩ := F.ns; exact ⟨o, es, ep, kx _ _ F.lX e, r⟩
  · obtain ⟨o, e1, e2⟩ := F.cell x q e; exact ⟨o, kx _ _ (F.cX x q e).1 e1, e2⟩
  · obtain ⟨v, h1, h2⟩ := R x a e; exact ⟨v, h1, h2.mono hz kz⟩
  · obtain ⟨x, w, f, l, cl, us, h1, h3, h2⟩ := S0.own p hp
    exact ⟨x, w, f, l, cl, us, h1.at fun o e => kx _ o x e, fun q => by obtain ⟨o, n, e, r⟩ := h3 q; exact ⟨o, n, kx _ _ x e, r⟩, h2.mono hz kz⟩

include ok in
theorem ex_reel {x y : Str} {px py p1 p2 p3 p4 p5 pos : Pos} {k1 k2 : Nat} {q : Str} {ns : List Int} {rest : List Stmt} {Qr : D → Prop} (hI : c.Iv = IvT q) (hV : c.V = fun a => a ∈ [(193 : Addr)]) (hx : MayStore c.env x = true) (hy : ρ.lookup y = some (.d (.lst (ns.map .int)))) (hlen : ns.length ≤ 256)
    (h : ∀ S T, S ≠ (193 : Addr) → T ≠ (193 : Addr) → S ≠ T → (c.reel q S T (min 16 ns.length)).Ok → Ex (c.reel q S T (min 16 ns.length)) ((x, .p T) :: ρ) O rest (fun _ _ => False) Qr)
    (hs : swapsWithSole [.Name x px] (.List [.Subscript (.Name y py) (.Slice none (some (.Constant (.int 16) k1 p1)) none p2) p3, .Constant (.int 0) k2 p4] p5) pos.line c.env = pure false := by rfl) (hw : swappedStores [.Name x px] (.List [.Subscript (.Name y py) (.Slice none (some (.Constant (.int 16) k1 p1)) none p2) p3, .Constant (.int 0) k2 p4] p5) c.env = pure none := by rfl)
    (he : (assignEach [.Name x px] c.env).map (·.2) = [assign (.Name x px) c.env] := by rfl)
    (he1 : starEach [.Subscript (.Name y py) (.Slice none (some (.Constant (.int 16) k1 p1)) none p2) p3, .Constant (.int 0) k2 p4] c.env = (false, eval (.Subscript (.Name y py) (.Slice none (some (.Constant (.int 16) k1 p1)) none p2) p3) c.env) :: starEach [.Constant (.int 0) k2 p4] c.env := by rfl)
    (he2 : starEach [.Constant (.int 0) k2 p4] c.env = (false, eval (.Constant (.int 0) k2 p4) c.env) :: starEach [] c.env := by rfl)
    (ht : ∀ o r, letTemporaryGo (.Name y py) o r = pure () := by intro _ _; rfl)
    (hdy : (y == ("__debug__" : Str)) = false := by decide +kernel) (hny : (y == ("__classdict__" : Str)) = false := by decide +kernel) :
    Ex c ρ O (.Assign [.Name x px] (.List [.Subscript (.Name y py) (.Slice none (some (.Constant (.int 16) k1 p1)) none p2) p3, .Constant (.int 0) k2 p4] p5) pos :: rest) (fun _ _ => False) Qr := .mk fun X W s S0 => by
  have v193 : c.V 193 := by rw [hV]; simp
  refine wpAny_execs_cons (Wp.mono (Q := fun f s' => f = .next ∧ Res s s' ∧ ∃ S T, S ≠ (193 : Addr) ∧ T ≠ (193 : Addr) ∧ S ≠ T ∧ (c.reel q S T (min 16 ns.length)).Ok ∧ Sta (c.reel q S T (min 16 ns.length)) X W ((x, .p T) :: ρ) O s'.heap) ?_ fun f s₁ ⟨ef, r1, S, T, n1, n2, n3, ok2, S1⟩ => ?_)
  · refine wpAny_Assign_stores (wpAny_List (wpAny_items_cons (wpAny_Subscript_list_slice (wpAny_Name (load_var ok S0 hy hny fun v hv => ?_) hdy) ht) he1)) hs hw
    rw [evalPart_none]
    refine wpAny_pure ?_
    show Wp c.w c.A (eval (.Constant (.int 16) k1 p1) c.env) _ s
    refine wpAny_Constant_int ?_
    obtain ⟨l, us, rfl, nz, hl, r⟩ := Rep.lst_inv hv
    have hsz : us.toArray.size ≤ sizeLine := by have := r.length; simp at this; simp [this, sizeLine]; omega
    refine ⟨l, _, _, _, rfl, hl, hsz, .none, .int _ _, ?_⟩
    have e : slicePick us.toArray none (some (16 : Int)) none = (us.take 16).toArray := by
      have := slicePick_upto' us.toArray 16
      simpa using this
    rw [e]
    refine wpAny_items_cons (wpAny_Constant_int (wpAny_items_nil ⟨by show 2 ≤ sizeLine; decide, ?_⟩)) he2
    rw [he]
    generalize hob : ({ cls := Value.type "slice", data := Data.fields #[Value.none, Value.int 16 s.toks, Value.none] } : Obj) = ob
    have e1 : Ext s.heap (s.heap.push ob) := .push
    have e2 : Ext (s.heap.push ob) ((s.heap.push ob).push { cls := Value.type "list", data := Data.seq (List.take 16 us).toArray }) := .push
    have sz1 : (s.heap.push ob).objs.size = s.heap.objs.size + 1 := Heap.size_push ..
    generalize hH2 : (s.heap.push ob).push { cls := Value.type "list", data := Data.seq (List.take 16 us).toArray } = H2 at *
    have sz2 : H2.objs.size = s.heap.objs.size + 2 := by rw [← hH2, Heap.size_push, sz1]
    generalize hv0 : Value.int 0 (s.toks + 1) = v0
    have e3 : Ext H2 (H2.push { cls := Value.type "list", data := Data.seq [Value.ref (s.heap.objs.size + 1), v0].toArray }) := .push
    have ex := (e1.trans e2).trans e3
    have fS : s.heap.get? (s.heap.objs.size + 1) = none := Heap.get?_none_of_le (Nat.le_succ _)
    have fT : s.heap.get? H2.objs.size = none := Heap.get?_none_of_le (by rw [sz2]; omega)
    have lt193 : @LT.lt Nat _ 193 s.heap.objs.size := by obtain ⟨o, e⟩ := S0.vb _ v193; exact Heap.lt_size e
    have S1 := S0.ext ok ex
    have gS : H2.get? (s.heap.objs.size + 1) = some { cls := Value.type "list", data := Data.seq (List.take 16 us).toArray } := by
      rw [← hH2]
      have := Heap.get?_push_size (s.heap.push ob) (o := { cls := Value.type "list", data := Data.seq (List.take 16 us).toArray }) rfl
      rwa [sz1] at this
    have rv : IvR (s.heap.objs.size + 1) H2.objs.size (min 16 ns.length) (H2.push { cls := Value.type "list", data := Data.seq [Value.ref (s.heap.objs.size + 1), v0].toArray }) := by
      refine ⟨0, s.toks + 1, us.take 16, ns.take 16, ⟨_, Heap.get?_push_size _ rfl, rfl, 0, by rw [← hv0]; rfl⟩, ⟨_, e3 _ _ gS, rfl, _, rfl⟩, ints_take 16 (ints_of r), ?_⟩
      have := r.length
      simp at this
      simp [this]
    obtain ⟨ok2, S2⟩ := reel_sta (q := q) ok hI hV S0 S1 ex.kp fS fT rv
    show Wp c.w c.A (assign (.Name x px) c.env (.ref H2.objs.size)) _ { s with heap := H2.push { cls := Value.type "list", data := Data.seq [Value.ref (s.heap.objs.size + 1), v0].toArray }, toks := s.toks + 1 + 1 }
    refine wpAny_assign_Name ((store_name ok2 (s := { s with heap := H2.push { cls := Value.type "list", data := Data.seq [Value.ref (s.heap.objs.size + 1), v0].toArray }, toks := s.toks + 1 + 1 }) S2 hx (a := .p H2.objs.size) rfl).mono fun _ s₂ ⟨r2, S3, _, _⟩ => ?_)
    refine ⟨rfl, Res.trans .mk r2, _, _, ?_, ?_, ?_, ok2, S3⟩
    · intro z; have z : @Eq Nat _ _ := z; omega
    · intro z; have z : @Eq Nat _ _ := z; omega
    · intro z; have z : @Eq Nat _ _ := z; omega
  · subst ef
    refine Wp.mono ((h S T n1 n2 n3 ok2).run X W s₁ S1) fun f s₂ ⟨r2, h2⟩ => ⟨r1.trans r2, ?_⟩
    cases f with
    | next => obtain ⟨_, _, _, _, _, hF⟩ := h2; exact hF.elim
    | ret v =>
      obtain ⟨g1, g2, g3, d, g4, g5⟩ := h2
      refine ⟨g1, by rw [hI]; exact g2.1, fun a z => ?_, d, Rep.mono (fun a _ z => ?_) (fun _ _ _ e => e) g4, g5⟩
      · rw [hV] at z; rw [List.mem_singleton.mp z]; exact g3 _ (by simp)
      · rcases z with z | z
        · exact .inl z
        · rw [hV] at z; rw [List.mem_singleton.mp z]; exact .inr (by simp)
    | brk => exact h2.elim
    | cont => exact h2.elim
end

/-! ### law -/
def linesOf (m : Nat → Nat) : List (Nat × Nat) := (List.range 6).flatMap fun i => List.replicate (m i) (sideOf i)
theorem AsgB.more {c : Ctx} {ρ ρ' : Loc} {O : Own} {t : Expr} {a : AV} {ns ns' : List Str} (x : AsgB c ρ O t a ns ρ') (h : ∀ y ∈ ns, y ∈ ns') : AsgB c ρ O t a ns' ρ' :=
  ⟨fun X W s v S hv => (x.run X W s v S hv).mono fun _ _ ⟨r, S', k⟩ => ⟨r, S', fun b o n1 n2 e => k b o n1 (fun y hy => n2 y (h y hy)) e⟩⟩
theorem lookup_fresh {x : Str} {b : AV} {ρ : Loc} (h : ρ.lookup x = none) : ∀ y a, ρ.lookup y = some a → ((x, b) :: ρ).lookup y = some a := fun y a e => by
  rw [List.lookup_cons]
  cases q : y == x with
  | true => rw [beq_iff_eq.mp q, h] at e; cases e
  | false => exact e
theorem pair_get {m : Nat → Nat} {i : Nat} {d : D} (h : (pairUp [.tup [.int 0, .int 1], .tup [.int 0, .int 2], .tup [.int 0, .int 3], .tup [.int 1, .int 2], .tup [.int 1, .int 3], .tup [.int 2, .int 3]] (tab 6 fun i => .int (m i : Nat)))[i]? = some d) : i < 6 ∧ d = .tup [pairD (sideOf i), .int (m i : Nat)] := by
  have hi : i < 6 := by
    have := (List.getElem?_eq_some_iff.mp h).1
    simp [pairUp, tab] at this
    exact this
  refine ⟨hi, ?_⟩
  rcases or6 hi with rfl | rfl | rfl | rfl | rfl | rfl <;> (cases h; rfl)
def linesTo (m : Nat → Nat) (i : Nat) : List (Nat × Nat) := (List.range i).flatMap fun i => List.replicate (m i) (sideOf i)
theorem linesTo_succ {m : Nat → Nat} {i : Nat} : linesTo m (i + 1) = linesTo m i ++ List.replicate (m i) (sideOf i) := by simp [linesTo, List.range_succ]
theorem linesTo_len {m : Nat → Nat} (h : ∀ k, m k ≤ 2) : ∀ i, (linesTo m i).length ≤ 2 * i
  | 0 => by simp [linesTo]
  | i + 1 => by rw [linesTo_succ, List.length_append, List.length_replicate]; have := linesTo_len h i; have := h i; omega

/-- what the determinant of a grid of lines answers. -/
def LapDet (n out : Nat) (l : List (Nat × Nat)) (k : Nat) : Prop :=
  (∀ e ∈ l, e.1 < n ∧ e.2 < n ∧ e.1 ≠ e.2) ∧ (∀ i j, (lap n (adj l) (skip out i) (skip out j)).natAbs < 2 ^ 10) ∧
    dt (n - 1) (fun i j => ((lap n (adj l) (skip out i) (skip out j) : Int) : Rat)) = ((k : Int) : Rat) ∧ ∃ f, Figs k f ∧ f ≤ 9
def leadOf (e : Nat × Nat) (i : Nat) : Nat := if i = e.2 then e.1 else if i < e.2 then i else i - 1
def drawnOf (e : Nat × Nat) (l : List (Nat × Nat)) : List (Nat × Nat) := (l.filter fun d => leadOf e d.1 != leadOf e d.2).map fun d => (leadOf e d.1, leadOf e d.2)
def pw (l : List (Nat × Nat)) : Nat → Nat → Nat → Int
  | 0 => adj l
  | t + 1 => mulM 4 (pw l t) (adj l)
structure Plain (m : Nat → Nat) : Prop where
  edge : ∀ e ∈ linesOf m, e.1 < e.2 ∧ e.2 < 4
  len : (linesOf m).length ≤ 12
  tree : ∃ k : Nat, counted m = k ∧ ∀ out, out < 4 → LapDet 4 out (linesOf m) k
  split : ∀ spot e, (linesOf m)[spot]? = some e → ∀ out, out < 3 → ∃ k1 k2 : Nat, LapDet 4 out ((linesOf m).take spot ++ (linesOf m).drop (spot + 1)) k1 ∧ LapDet 3 out (drawnOf e ((linesOf m).take spot ++ (linesOf m).drop (spot + 1))) k2 ∧ (k1 : Int) + k2 = counted m
  small : ∀ t, t ≤ 3 → ∀ i j, (pw (linesOf m) t i j).natAbs < 2 ^ 60
  ways : ∀ t, t < 3 → ∀ a, a < 4 → ∀ j, j < 4 → pw (linesOf m) t a j = ways (linesOf m) a (t + 1) j
  comm : ∀ t, t < 3 → ∀ i, i < 4 → ∀ j, j < 4 → mulM 4 (pw (linesOf m) t) (adj (linesOf m)) i j = mulM 4 (adj (linesOf m)) (pw (linesOf m) t) i j
  three : (tab 4 fun i => pw (linesOf m) 2 i i).sum = 6 * ([((m 0 * m 1 * m 3 : Nat) : Int), ((m 0 * m 2 * m 4 : Nat) : Int), ((m 1 * m 2 * m 5 : Nat) : Int), ((m 3 * m 4 * m 5 : Nat) : Int)] : List Int).sum

def LawEx (w : World) : Prop := ∃ (name qual : Str) (params : Arguments) (body : List Stmt) (scope : Scope) (dV kV doc pm cdv0 ct oc : Value) (an od : Option Addr) (osl : Array (Option Value)),
  (KK w).lookup 203 = some ⟨oc, od, .func (fnOf name qual params body scope dV kV doc pm an cdv0 ct), osl⟩ ∧
  ∀ (A : Around) (h0 : Heap) (L f : Addr) (cdv : Value) (X0 : Addr → Prop) (ns : List Int), ns.length ≤ 63 → Ctx.Ok (vctx w A 8 h0 (fenv qual scope f cdv L) X0 [193] (IvT qualT)) → Bas w h0 → CodeHd h0 197 193 →
    Ex (vctx w A 8 h0 (fenv qual scope f cdv L) X0 [193] (IvT qualT)) [(Str.ofString "script", .d (.lst (ns.map .int)))] [] body (fun _ _ => False) (fun d => d = .bool true)

theorem law_ex (plain : ∀ m : Nat → Nat, (∀ k, m k ≤ 2) → Plain m) (w : World) : LawEx w := by
  refine ⟨_, _, _, _, _, _, _, _, _, _, _, _, _, _, _, rfl, ?_⟩
  intro A h0 L f cdv X0 ns hns ok0 B C
  refine ex_cons (ex1_assign ok0 (ev_of_fresh (evf_disp ok0 (evl_cons (ev_tup2 ok0 (ev_int ⟨_, rfl, ev_int ⟨_, rfl, evl_cons (ev_tup2 ok0 (ev_int ⟨_, rfl, ev_int ⟨_, rfl, evl_cons (ev_tup2 ok0 (ev_int ⟨_, rfl, ev_int ⟨_, rfl, evl_cons (ev_tup2 ok0 (ev_int ⟨_, rfl, ev_int ⟨_, rfl, evl_cons (ev_tup2 ok0 (ev_int ⟨_, rfl, ev_int ⟨_, rfl, evl_cons (ev_tup2 ok0 (ev_int ⟨_, rfl, ev_int ⟨_, rfl, evl_nil ?_⟩⟩))⟩⟩))⟩⟩))⟩⟩))⟩⟩))⟩⟩))))))
  refine ⟨by show 6 ≤ sizeLine; decide, [_, _, _, _, _, _], rfl, asg_name ok0 (by rfl) ?_⟩
  refine ex_reel (q := qualT) (ns := ns) ok0 rfl rfl (by rfl) (by rfl) (by first | lia | omega) ?_
  intro S T hS hT hST ok
  have hN : min 16 ns.length < 2 ^ 60 := by have : min 16 ns.length ≤ 16 := Nat.min_le_left _ _; omega
  generalize min 16 ns.length = N at ok hN ⊢
  have hne : (193 : Addr) ≠ T ∧ S ≠ T := ⟨hT.symm, hST⟩
  have hne2 : S ≠ (193 : Addr) ∧ T ≠ (193 : Addr) := ⟨hS, hT⟩
  refine ex_cons (ex1_assign ok (ev_of_fresh (evf_comp ok false [Str.ofString "side"] (closOk_of (by rfl)) rfl (by rfl) (by rfl) (it_list ok (.inl ⟨_, _, rfl⟩) (ev_var ok (by rfl) ⟨_, rfl, ?_⟩)))))
  refine ⟨fun i ys => i ≤ 6 ∧ ∃ xs : List Nat, xs.length = i ∧ (∀ x ∈ xs, x < 3) ∧ ys = xs.map fun x : Nat => .int x, ⟨by decide, [], rfl, fun _ h => (nomatch h), rfl⟩, ?_, ?_, ?_⟩
  · rintro Cb i d ys okb hd ⟨_, xs, hx, hx3, rfl⟩
    have hi : i < 6 := (List.getElem?_eq_some_iff.mp hd).1
    refine ⟨_, asgb_name okb (by rfl), tests_nil (br_t rfl (evx_ev (ev_callV okb rfl B C rfl rfl (by show 1 ≤ 8; decide) ⟨_, _, rfl, rfl⟩ (evl_cons (ev_var okb (by rfl) (evl_cons (ev_int (evl_nil ⟨_, sp_spun w qualT S T N 3 hne hN (by decide), ?_⟩))))))))⟩
    rintro _ ⟨x, rfl, hx'⟩
    refine ⟨_, rfl, hi, xs ++ [x], by simp [hx], ?_, by simp⟩
    intro y hy
    rcases List.mem_append.mp hy with q | q
    · exact hx3 y q
    · rw [List.mem_singleton.mp q]; exact hx'
  · rintro i ys ⟨h, xs, rfl, _, rfl⟩
    rw [List.length_map]
    exact Nat.le_trans h (by decide)
  rintro ys ⟨_, xs, hx, hx3, rfl⟩
  replace hx : xs.length = 6 := hx
  obtain ⟨m, hm, hxs⟩ : ∃ m : Nat → Nat, (∀ k, m k ≤ 2) ∧ (xs.map fun x : Nat => D.int x) = tab 6 fun i => .int (m i : Nat) := by
    refine ⟨fun i => xs.getD i 0, fun k => ?_, ?_⟩
    · by_cases h : k < xs.length
      · have := hx3 _ (List.getElem_mem h); simp [h]; omega
      · simp [h]
    · apply List.ext_getElem?
      intro k
      by_cases h : k < 6
      · rw [tab_get _ h]; simp [show k < xs.length by first | lia | omega]
      · rw [List.getElem?_eq_none (by simp; omega), List.getElem?_eq_none (by simp [tab]; omega)]
  rw [hxs]
  clear hxs
  refine ⟨_, rfl, asg_name ok (by rfl) ?_⟩
  refine ex_cons (ex1_assign ok (ev_of_fresh (evf_comp2 ok [Str.ofString "side", Str.ofString "times", Str.ofString "turn"] (closOk_of (by rfl)) rfl (by rfl) (by rfl) (it_zip ok B rfl (ev_var ok (by rfl) ⟨_, rfl, ev_var ok (by rfl) ⟨_, rfl, ?_⟩⟩)))))
  refine ⟨fun i ys => i ≤ 6 ∧ ys = (linesTo m i).map pairD, ⟨by decide, rfl⟩, ?_, ?_⟩
  · rintro Cb i d ys okb hd ⟨_, rfl⟩
    obtain ⟨hi, rfl⟩ := pair_get hd
    refine ⟨_, (asgb_tup okb (.cons (.cons .nil)) (by rfl) rfl (by rfl)).more (ns := [Str.ofString "side", Str.ofString "times"]) (by simp), ?_⟩
    refine it_range1 okb B rfl (ev_var okb (by rfl) ⟨(m i : Nat), rfl, zlo _, zup (Nat.le_trans (hm i) (by decide)), ?_⟩)
    refine ⟨fun k zs => k ≤ m i ∧ zs = (linesTo m i ++ List.replicate k (sideOf i)).map pairD, ⟨Nat.zero_le _, by simp⟩, ?_, ?_, ?_⟩
    · rintro k d zs hd ⟨_, rfl⟩
      obtain ⟨rfl, hk⟩ := rng_get hd
      refine ⟨_, (asgb_name okb (by rfl)).more (by simp), lookup_fresh (by rfl), ev_var okb (by rfl) ⟨_, rfl, Nat.succ_le_of_lt ((zt0 (m i)) ▸ hk), ?_⟩⟩
      simp only [List.replicate_succ', ← List.append_assoc, List.map_append]; rfl
    · rintro k zs ⟨hk, rfl⟩
      rw [List.length_map, List.length_append, List.length_replicate]
      have := linesTo_len hm i
      have := hm i
      exact Nat.le_trans (by first | lia | omega : _ ≤ 100) (by decide)
    · rintro zs ⟨_, rfl⟩
      refine ⟨hi, ?_⟩
      rw [rng_length, linesTo_succ]; congr 3
  rintro ys ⟨_, rfl⟩
  have e6 : (pairUp [D.tup [.int 0, .int 1], .tup [.int 0, .int 2], .tup [.int 0, .int 3], .tup [.int 1, .int 2], .tup [.int 1, .int 3], .tup [.int 2, .int 3]] (tab 6 fun i => .int (m i : Nat))).length = 6 := by simp [pairUp, tab]
  rw [e6]
  obtain ⟨edge, hlen, ⟨k, hk, hdet⟩, split, small, hways, comm, three⟩ := plain m hm
  show ∃ ds, List.map AV.d ((linesOf m).map pairD) = _ ∧ _
  generalize hL : linesOf m = Ls at *
  refine ⟨_, rfl, asg_name ok (by rfl) ?_⟩
  refine ex_cons (ex1_assign ok (ev_call ok B rfl rfl (by show 2 ≤ 8; decide) ⟨_, _, rfl, rfl⟩ (evl_cons (ev_var ok (by rfl) (evl_nil ⟨_, _, _, .d .nil, sp_counted w m hm, ?_⟩)))))
  rintro _ rfl
  rw [hk]
  refine ⟨.inl rfl, asg_name ok (by rfl) ?_⟩
  -- the trees by determinant
  refine ex_mid (fun ρ O => O = [] ∧ ρ.lookup (Str.ofString "reel") = some (.p T) ∧ ρ.lookup (Str.ofString "many") = some (.d (.lst (tab 6 fun i => .int (m i : Nat)))) ∧ ρ.lookup (Str.ofString "lines") = some (.d (pairsD Ls)) ∧ ρ.lookup (Str.ofString "trees") = some (.d (.int (k : Nat)))) ?_ ?_
  · refine ex1_for ok (it_range1 ok B rfl (ev_int ⟨2, rfl, by decide, by decide, ?_⟩))
    refine ⟨fun _ ρ O => O = [] ∧ ρ.lookup (Str.ofString "reel") = some (.p T) ∧ ρ.lookup (Str.ofString "many") = some (.d (.lst (tab 6 fun i => .int (m i : Nat)))) ∧ ρ.lookup (Str.ofString "lines") = some (.d (pairsD Ls)) ∧ ρ.lookup (Str.ofString "trees") = some (.d (.int (k : Nat))), ⟨rfl, by rfl, by rfl, by rfl, by rfl⟩, ?_, fun _ _ h => h⟩
    rintro i d ρ O hd ⟨rfl, hreel, hmany, hlines, htrees⟩
    refine asg_name ok (by rfl) (ex_cons (ex1_if (tr_cmp cmp_neI (ev_call ok B rfl rfl (by show 7 ≤ 8; decide) ⟨_, _, rfl, rfl⟩ (evl_cons (ev_int (evl_cons (ev_var ok hlines (evl_cons (ev_callV ok rfl B C rfl rfl (by show 1 ≤ 8; decide) ⟨_, _, rfl, rfl⟩ (evl_cons (ev_var ok hreel (evl_cons (ev_int (evl_nil ⟨_, sp_spun w qualT S T N 4 hne hN (by decide), ?_⟩)))))))))))))))
    rintro _ ⟨out, rfl, hout⟩
    obtain ⟨hl, hG, hkd, f', hf, hf9⟩ := hdet out hout
    refine evl_nil ⟨_, _, _, .d (.d (.d .nil)), sp_lawdet w 4 out k f' Ls (.inr rfl) hout hl hG hkd hf hf9, ?_⟩
    rintro _ rfl
    exact ⟨.inl rfl, ev_var ok htrees ⟨_, ⟨_, _, rfl, rfl, rfl⟩, br_f (by simp) (ex_nil (ex_nil ⟨rfl, hreel, hmany, hlines, htrees⟩))⟩⟩
  rintro ρ O ⟨rfl, hreel, hmany, hlines, htrees⟩
  refine ex_mid (fun ρ O => ρ.lookup (Str.ofString "reel") = some (.p T) ∧ ρ.lookup (Str.ofString "many") = some (.d (.lst (tab 6 fun i => .int (m i : Nat)))) ∧ ρ.lookup (Str.ofString "lines") = some (.d (pairsD Ls))) ?_ ?_
  · refine ex1_if (tr_cmp (cmp_neD ok) (ev_var ok hlines (ev_of_fresh (evf_disp ok (evl_nil ⟨by decide, [], rfl, ?_⟩)))))
    refine ⟨_, nilP not Ls, ?_⟩
    by_cases h0 : Ls = []
    · exact br_f (by simp [h0]) (ex_nil ⟨hreel, hmany, hlines⟩)
    refine br_t (by simp [h0]) ?_
    refine ex_cons (ex1_assign ok (ev_callV ok rfl B C rfl rfl (by show 1 ≤ 8; decide) ⟨_, _, rfl, rfl⟩ (evl_cons (ev_var ok hreel (evl_cons (ev_len ok B rfl (ev_var ok hlines ⟨Ls.length, .inl ⟨_, .inl rfl, by rw [List.length_map]⟩, by first | lia | omega, evl_nil ⟨_, sp_spun w qualT S T N Ls.length hne hN (List.length_pos_iff.mpr h0), ?_⟩⟩)))))))
    rintro _ ⟨spot, rfl, hspot⟩
    refine asg_name ok (by rfl) ?_
    obtain ⟨⟨x, y⟩, he⟩ : ∃ e, Ls[spot]? = some e := ⟨_, List.getElem?_eq_getElem hspot⟩
    obtain ⟨hxy, hy4⟩ : x < y ∧ y < 4 := edge _ (List.mem_of_getElem? he)
    have hsp := split spot _ he
    have hgone : ∀ {O : Own}, ItemOf O (.d (pairsD Ls)) (spot : Int) (.d (pairD (x, y))) := ⟨Int.natCast_nonneg _, zup3 hspot (Nat.le_trans hlen (by decide)), .inl ⟨_, _, .inr rfl, by rw [Int.toNat_natCast, List.getElem?_map, he]; rfl, rfl⟩⟩
    refine ex_cons (ex1_assign ok (ev_tup2 ok (ev_item (ev_var ok (by exact hlines) (ev_var ok (by rfl) ⟨_, _, rfl, hgone, _, rfl, ev_addl ok (ev_upto ok (ev_var ok (by exact hlines) ⟨_, rfl, by simp; omega, ev_var ok (by rfl) ⟨spot, rfl, ?_⟩⟩))⟩)))))
    refine ⟨_, rfl, ev_from ok (ev_var ok (by exact hlines) ⟨_, rfl, by simp; omega, ev_add (ev_var ok (by rfl) ⟨_, rfl, ev_int ⟨_, rfl, spot + 1, by push_cast; rfl, ?_⟩⟩)⟩)⟩
    rw [← List.map_take, ← List.map_drop]
    refine ⟨_, rfl, by simp; omega, ?_⟩
    rw [← List.map_append]
    refine ⟨_, rfl, asg_tup2 ok (asg_name ok (by rfl) (asg_name ok (by rfl) ?_))⟩
    have hKlen : (Ls.take spot ++ Ls.drop (spot + 1)).length ≤ 12 := by simp; omega
    have hKe : ∀ e ∈ Ls.take spot ++ Ls.drop (spot + 1), e.1 < e.2 ∧ e.2 < 4 := fun e h => edge e (by
      rcases List.mem_append.mp h with h | h
      · exact List.mem_of_mem_take h
      · exact List.mem_of_mem_drop h)
    generalize Ls.take spot ++ Ls.drop (spot + 1) = Ks at *
    have hy1 : ∀ {O : Own}, ItemOf O (.d (pairD (x, y))) 1 (.d (.int (y : Nat))) := ⟨by decide, by decide, .inl ⟨_, _, .inl rfl, rfl, rfl⟩⟩
    have hx0 : ∀ {O : Own}, ItemOf O (.d (pairD (x, y))) 0 (.d (.int (x : Nat))) := ⟨by decide, by decide, .inl ⟨_, _, .inl rfl, rfl, rfl⟩⟩
    refine ex_cons (ex1_own ok (by rfl) (evf_comp ok false [Str.ofString "at"] (closOk_of (by rfl)) rfl (by rfl) (by rfl) (it_range1 ok B rfl (ev_int ⟨4, rfl, by decide, by decide, ?_⟩))))
    refine ⟨fun i ys => i ≤ 4 ∧ ys = tab i fun i => .int ((if i < y then i else i - 1 : Nat) : Int), ⟨by decide, rfl⟩, ?_, ?_, ?_⟩
    · rintro Cb i d ys okb hd ⟨_, rfl⟩
      obtain ⟨rfl, hi⟩ := rng_get hd
      have hi : i < 4 := hi
      rw [Int.zero_add]
      refine ⟨_, asgb_name okb (by rfl), tests_nil (br_t rfl (evx_ev (ev_ite (tr_cmp cmp_ltI (ev_var okb (by rfl) (ev_item (ev_var okb (by rfl) (ev_int ⟨_, _, rfl, hy1, ?_⟩))))))))⟩
      refine ⟨_, ⟨_, _, rfl, rfl, rfl⟩, ?_⟩
      by_cases h : i < y
      · refine br_t (decide_eq_true (Int.ofNat_lt.mpr h)) (ev_var okb (by rfl) ⟨_, rfl, hi, ?_⟩)
        rw [tab_succ, if_pos h]
      · refine br_f (decide_eq_false fun z => h (Int.ofNat_lt.mp z)) (ev_sub (ev_var okb (by rfl) ⟨_, rfl, ev_int ⟨_, rfl, _, rfl, hi, ?_⟩⟩))
        rw [tab_succ, if_neg h]; congr 3; omega
    · rintro i ys ⟨h, rfl⟩
      rw [tab_len]
      exact Nat.le_trans h (by decide)
    rintro ys ⟨_, rfl⟩ T2 _
    rw [rng_length]
    show Ex _ _ ((T2, (tab 4 fun i => D.int ((if i < y then i else i - 1 : Nat) : Int)).map .d) :: []) _ _ _
    rw [tab_map]
    refine ex_cons (ex1_assign ok (ev_item (ev_var ok (by rfl) (ev_item (ev_var ok (by rfl) (ev_int ⟨_, _, rfl, hx0, _, _, rfl, ⟨Int.natCast_nonneg _, zup3 (Nat.lt_trans hxy hy4) (by decide), .inr ⟨T2, _, rfl, List.mem_cons_self, by rw [Int.toNat_natCast, tab_get _ (by first | lia | omega)]⟩⟩, ?_⟩))))))
    refine asg_item ok rfl (ev_var ok (by rfl) (ev_item (ev_var ok (by rfl) (ev_int ⟨_, _, rfl, hy1, T2, _, _, rfl, rfl, List.mem_cons_self, Int.natCast_nonneg _, by rw [tab_len]; exact Int.ofNat_lt.mpr hy4, zup3 hy4 (by decide), ?_⟩))))
    have hO : Own.setAt [(T2, tab 4 fun i => AV.d (.int ((if i < y then i else i - 1 : Nat) : Int)))] T2 ((tab 4 fun i => AV.d (.int ((if i < y then i else i - 1 : Nat) : Int))).set (y : Int).toNat (.d (.int ((if x < y then x else x - 1 : Nat) : Int)))) = [(T2, tab 4 fun i => AV.d (.int (leadOf (x, y) i : Nat)))] := by
      simp only [Own.setAt, List.map_cons, List.map_nil, if_true, tab_set, Int.toNat_natCast]
      congr 2
      apply tab_congr
      intro i _
      unfold leadOf
      by_cases h : i = y
      · rw [if_pos h, if_pos h, if_pos hxy]
      · rw [if_neg h, if_neg h]
    rw [hO]
    have hlead : ∀ i : Nat, i < 4 → ItemOf [(T2, tab 4 fun i => AV.d (.int (leadOf (x, y) i : Nat)))] (.p T2) (i : Int) (.d (.int (leadOf (x, y) i : Nat))) := fun i hi => ⟨Int.natCast_nonneg _, zup3 hi (by decide), .inr ⟨T2, _, rfl, List.mem_cons_self, by rw [Int.toNat_natCast, tab_get _ hi]⟩⟩
    refine ex_cons (ex1_comp ok false false [Str.ofString "one", Str.ofString "other"] (by rfl) (closOk_of (by rfl)) rfl (by rfl) (by rfl) (it_list ok (.inr ⟨_, _, _, rfl⟩) (ev_var ok (by rfl) ⟨_, rfl, ?_⟩)))
    refine ⟨fun i ys => i ≤ Ks.length ∧ ys = (drawnOf (x, y) (Ks.take i)).map pairD, ⟨Nat.zero_le _, rfl⟩, ?_, ?_, ?_⟩
    · rintro Cb i d ys okb hd ⟨_, rfl⟩
      rw [List.getElem?_map, Option.map_eq_some_iff] at hd
      obtain ⟨⟨a, b⟩, hab, rfl⟩ := hd
      have hi : i < Ks.length := (List.getElem?_eq_some_iff.mp hab).1
      obtain ⟨h1, h2⟩ := hKe _ (List.mem_of_getElem? hab)
      have hA := hlead a (Nat.lt_trans h1 h2)
      have hB := hlead b h2
      have hdr : drawnOf (x, y) (Ks.take (i + 1)) = drawnOf (x, y) (Ks.take i) ++ if leadOf (x, y) a != leadOf (x, y) b then [(leadOf (x, y) a, leadOf (x, y) b)] else [] := by
        rw [List.take_add_one, hab]
        simp only [drawnOf, Option.toList, List.filter_append, List.map_append]
        congr 1
        by_cases h : leadOf (x, y) a = leadOf (x, y) b <;> simp [h]
      refine ⟨_, asgb_tup okb (.cons (.cons .nil)) (by rfl) rfl (by rfl), tests_one (tr_cmp cmp_neI (ev_item (ev_var okb (by rfl) (ev_var okb (by rfl) ⟨_, _, rfl, hA, ev_item (ev_var okb (by rfl) (ev_var okb (by rfl) ⟨_, _, rfl, hB, ?_⟩))⟩))))⟩
      refine ⟨_, ⟨_, _, rfl, rfl, rfl⟩, ?_⟩
      by_cases h : leadOf (x, y) a = leadOf (x, y) b
      · refine br_f (show (((leadOf (x, y) a : Nat) : Int) != ((leadOf (x, y) b : Nat) : Int)) = false by rw [h]; simp) ⟨hi, ?_⟩
        rw [hdr, h]; simp
      · refine br_t (show (((leadOf (x, y) a : Nat) : Int) != ((leadOf (x, y) b : Nat) : Int)) = true from bne_iff_ne.mpr fun z => h (Int.ofNat_inj.mp z)) (evx_ev (ev_tup2 okb (ev_item (ev_var okb (by rfl) (ev_var okb (by rfl) ⟨_, _, rfl, hA, _, rfl, ev_item (ev_var okb (by rfl) (ev_var okb (by rfl) ⟨_, _, rfl, hB, _, rfl, ?_⟩))⟩)))))
        refine ⟨_, rfl, hi, ?_⟩
        rw [hdr]; simp [h]
    · rintro i ys ⟨h, rfl⟩
      rw [List.length_map]
      have h1 : (drawnOf (x, y) (Ks.take i)).length ≤ Ks.length := by
        unfold drawnOf
        rw [List.length_map]
        exact Nat.le_trans (List.length_filter_le _ _) (by rw [List.length_take]; exact Nat.min_le_right _ _)
      exact Nat.le_trans h1 (Nat.le_trans hKlen (by decide))
    rintro ys ⟨_, rfl⟩
    rw [List.length_map, List.take_length]
    refine br_f rfl ?_
    refine ex_cons (ex1_assign ok (ev_callV ok rfl B C rfl rfl (by show 1 ≤ 8; decide) ⟨_, _, rfl, rfl⟩ (evl_cons (ev_var ok (by exact hreel) (evl_cons (ev_int (evl_nil ⟨_, sp_spun w qualT S T N 3 hne hN (by decide), ?_⟩)))))))
    rintro _ ⟨out, rfl, hout⟩
    refine asg_name ok (by rfl) ?_
    obtain ⟨k1, k2, ⟨hl, hG, hkd, f1, hf, hf9⟩, ⟨hl', hG', hkd', f2, hf', hf9'⟩, hsum⟩ := hsp out hout
    refine ex_cons (ex1_if (tr_cmp cmp_neI (ev_add (ev_call ok B rfl rfl (by show 7 ≤ 8; decide) ⟨_, _, rfl, rfl⟩ (evl_cons (ev_int (evl_cons (ev_var ok (by rfl) (evl_cons (ev_var ok (by rfl) (evl_nil ⟨_, _, _, .d (.d (.d .nil)), sp_lawdet w 4 out k1 f1 Ks (.inr rfl) (by first | lia | omega) hl hG hkd hf hf9, ?_⟩)))))))))))
    rintro _ rfl
    refine ⟨.inl rfl, _, rfl, ev_call ok B rfl rfl (by show 7 ≤ 8; decide) ⟨_, _, rfl, rfl⟩ (evl_cons (ev_int (evl_cons (ev_var ok (by rfl) (evl_cons (ev_var ok (by rfl) (evl_nil ⟨_, _, _, .d (.d (.d .nil)), sp_lawdet w 3 out k2 f2 _ (.inl rfl) hout hl' hG' hkd' hf' hf9', ?_⟩)))))))⟩
    rintro _ rfl
    refine ⟨.inl rfl, _, rfl, ev_var ok (by exact htrees) ⟨_, ⟨_, _, rfl, rfl, rfl⟩, br_f (by rw [hsum, hk]; simp) (ex_nil (ex_nil ⟨by exact hreel, by exact hmany, by exact hlines⟩))⟩⟩
  rintro ρ O ⟨hreel, hmany, hlines⟩
  have hl4 : ∀ e ∈ Ls, e.1 < 4 ∧ e.2 < 4 ∧ e.1 ≠ e.2 := fun e h => ⟨Nat.lt_trans (edge e h).1 (edge e h).2, (edge e h).2, Nat.ne_of_lt (edge e h).1⟩
  refine ex_cons (ex1_assign ok (ev_call ok B rfl rfl (by show 1 ≤ 8; decide) ⟨_, _, rfl, rfl⟩ (evl_cons (ev_int (evl_cons (ev_var ok hlines (evl_nil ⟨_, _, _, .d (.d .nil), sp_grid w 4 Ls (by decide) hl4, ?_⟩)))))))
  rintro _ rfl
  refine ⟨.inl rfl, asg_name ok (by rfl) ?_⟩
  refine ex_cons (ex1_assign ok (ev_tup2 ok (ev_var ok (by rfl) ⟨_, rfl, ev_add (ev_int ⟨_, rfl, ev_callV ok rfl B C rfl rfl (by show 1 ≤ 8; decide) ⟨_, _, rfl, rfl⟩ (evl_cons (ev_var ok (by exact hreel) (evl_cons (ev_int (evl_nil ⟨_, sp_spun w qualT S T N 3 hne hN (by decide), ?_⟩)))))⟩)⟩)))
  rintro _ ⟨x, rfl, hx⟩
  have e1 : 1 + (x : Int) = ((x + 1 : Nat) : Int) := Int.add_comm _ _
  refine ⟨_, rfl, ?_⟩
  rw [e1]
  refine ⟨_, rfl, asg_tup2 ok (asg_name ok (by rfl) (asg_name ok (by rfl) ?_))⟩
  have bG : ∀ i j, (adj Ls i j).natAbs < 2 ^ 60 := small 0 (by decide)
  refine ex_mid (fun ρ O => ρ.lookup (Str.ofString "many") = some (.d (.lst (tab 6 fun i => .int (m i : Nat)))) ∧ ρ.lookup (Str.ofString "lines") = some (.d (pairsD Ls)) ∧ ρ.lookup (Str.ofString "grid") = some (.d (matI 4 (adj Ls))) ∧ ρ.lookup (Str.ofString "steps") = some (.d (.int (x + 1 : Nat))) ∧ ρ.lookup (Str.ofString "power") = some (.d (matI 4 (pw Ls x)))) ?_ ?_
  · refine ex1_for ok (it_range1 ok B rfl (ev_sub (ev_var ok (by rfl) ⟨_, rfl, ev_int ⟨_, rfl, _, rfl, by first | lia | omega, by first | lia | omega, ?_⟩⟩)))
    refine ⟨fun i ρ O => ρ.lookup (Str.ofString "many") = some (.d (.lst (tab 6 fun i => .int (m i : Nat)))) ∧ ρ.lookup (Str.ofString "lines") = some (.d (pairsD Ls)) ∧ ρ.lookup (Str.ofString "grid") = some (.d (matI 4 (adj Ls))) ∧ ρ.lookup (Str.ofString "steps") = some (.d (.int (x + 1 : Nat))) ∧ ρ.lookup (Str.ofString "power") = some (.d (matI 4 (pw Ls i))), ⟨by exact hmany, by exact hlines, by rfl, by rfl, by rfl⟩, ?_, ?_⟩
    · rintro i d ρ O hd ⟨hmany, hlines, hgrid, hsteps, hpower⟩
      obtain ⟨rfl, hi⟩ := rng_get hd
      refine asg_name ok (by rfl) (ex_cons (ex1_assign ok (ev_callV ok rfl B C rfl rfl (by show 3 ≤ 8; decide) ⟨_, _, rfl, rfl⟩ (evl_cons (ev_var ok hpower (evl_cons (ev_var ok hgrid (evl_nil ⟨_, sp_law_times w S T N 4 _ _ hne2 (by decide) (by decide) (small i (by first | lia | omega)) bG, ?_⟩))))))))
      rintro _ rfl
      exact asg_name ok (by rfl) (ex_nil ⟨hmany, hlines, hgrid, hsteps, by rfl⟩)
    · rintro ρ O ⟨hmany, hlines, hgrid, hsteps, hpower⟩
      rw [rng_length] at hpower
      have hnn : (((x + 1 : Nat) : Int) - 1 - 0).toNat = x := by first | lia | omega
      rw [hnn] at hpower
      exact ⟨hmany, hlines, hgrid, hsteps, hpower⟩
  rintro ρ O ⟨hmany, hlines, hgrid, hsteps, hpower⟩
  have eqM : ∀ M : Nat → Nat → Int, EqP not (.d (matI 4 M)) (.d (matI 4 M)) false := fun M => by
    have := gridP not (tab 4 fun i => tab 4 (M i)) (tab 4 fun i => tab 4 (M i))
    simpa [gridD, rowD, tab_map] using this
  have hw : (tab 4 fun a => vecD (ways Ls a (x + 1))) = tab 4 fun i => .lst (tab 4 fun j => .int (pw Ls x i j)) := tab_congr fun a ha => congrArg D.lst (tab_congr fun j hj => by rw [hways x hx a ha j hj])
  refine ex_cons (ex1_if (tr_or (tr_cmp (cmp_neD ok) (ev_var ok hpower (ev_of_fresh (evf_comp ok false [Str.ofString "at"] (closOk_of (by rfl)) rfl (by rfl) (by rfl) (it_range1 ok B rfl (ev_int ⟨4, rfl, by decide, by decide, ?_⟩))))))))
  refine ⟨fun i ys => i ≤ 4 ∧ ys = tab i fun a => vecD (ways Ls a (x + 1)), ⟨by decide, rfl⟩, ?_, ?_, ?_⟩
  · rintro Cb i d ys okb hd ⟨_, rfl⟩
    obtain ⟨rfl, hi⟩ := rng_get hd
    have hi : i < 4 := hi
    rw [Int.zero_add]
    refine ⟨_, asgb_name okb (by rfl), tests_nil (br_t rfl (evx_ev (ev_call okb B rfl rfl (by show 1 ≤ 8; decide) ⟨_, _, rfl, rfl⟩ (evl_cons (ev_var okb (by exact seen_look rfl hlines) (evl_cons (ev_var okb (by rfl) (evl_cons (ev_var okb (by exact seen_look rfl hsteps) (evl_nil ⟨_, _, _, .d (.d (.d .nil)), sp_ways w Ls i (x + 1) (by first | lia | omega) hl4, ?_⟩))))))))))⟩
    rintro _ rfl
    exact ⟨.inl rfl, _, rfl, hi, (tab_succ _).symm⟩
  · rintro i ys ⟨h, rfl⟩
    rw [tab_len]
    exact Nat.le_trans h (by decide)
  rintro ys ⟨_, rfl⟩
  rw [rng_length]
  refine ⟨_, rfl, false, ?_, ?_⟩
  · exact (congrArg (fun d => EqP not (.d (matI 4 (pw Ls x))) (.d (.lst d)) false) hw).mpr (eqM (pw Ls x))
  refine br_f rfl (tr_cmp (cmp_neD ok) (ev_callV ok rfl B C rfl rfl (by show 3 ≤ 8; decide) ⟨_, _, rfl, rfl⟩ (evl_cons (ev_var ok hpower (evl_cons (ev_var ok hgrid (evl_nil ⟨_, sp_law_times w S T N 4 _ _ hne2 (by decide) (by decide) (small x (by first | lia | omega)) bG, ?_⟩)))))))
  rintro _ rfl
  refine ev_callV ok rfl B C rfl rfl (by show 3 ≤ 8; decide) ⟨_, _, rfl, rfl⟩ (evl_cons (ev_var ok hgrid (evl_cons (ev_var ok hpower (evl_nil ⟨_, sp_law_times w S T N 4 _ _ hne2 (by decide) (by decide) bG (small x (by first | lia | omega)), ?_⟩)))))
  rintro _ rfl
  have hcm : matI 4 (mulM 4 (adj Ls) (pw Ls x)) = matI 4 (mulM 4 (pw Ls x) (adj Ls)) :=
    congrArg D.lst (tab_congr fun i hi => congrArg D.lst (tab_congr fun j hj => by rw [comm x hx i hi j hj]))
  rw [hcm]
  refine ⟨false, eqM _, br_f rfl (ex_nil ?_)⟩
  refine ex_cons (ex1_assign ok (ev_callV ok rfl B C rfl rfl (by show 3 ≤ 8; decide) ⟨_, _, rfl, rfl⟩ (evl_cons (ev_callV ok rfl B C rfl rfl (by show 3 ≤ 8; decide) ⟨_, _, rfl, rfl⟩ (evl_cons (ev_var ok hgrid (evl_cons (ev_var ok hgrid (evl_nil ⟨_, sp_law_times w S T N 4 _ _ hne2 (by decide) (by decide) bG bG, ?_⟩)))))))))
  rintro _ rfl
  refine evl_cons (ev_var ok hgrid (evl_nil ⟨_, sp_law_times w S T N 4 _ _ hne2 (by decide) (by decide) (small 1 (by decide)) bG, ?_⟩))
  rintro _ rfl
  refine asg_name ok (by rfl) ?_
  have L6 : ([((m 0 * m 1 * m 3 : Nat) : Int), ((m 0 * m 2 * m 4 : Nat) : Int), ((m 1 * m 2 * m 5 : Nat) : Int), ((m 3 * m 4 * m 5 : Nat) : Int)] : List Int).sum = ((m 0 * m 1 * m 3 + m 0 * m 2 * m 4 + m 1 * m 2 * m 5 + m 3 * m 4 * m 5 : Nat) : Int) := by simp only [List.sum_cons, List.sum_nil]; push_cast; omega
  have bd3 : ∀ a b c, m a * m b * m c ≤ 8 := fun a b c => Nat.mul_le_mul (Nat.mul_le_mul (hm a) (hm b)) (hm c)
  have bd2 : ∀ a b, m a * m b ≤ 4 := fun a b => Nat.mul_le_mul (hm a) (hm b)
  refine ex_cons (ex1_assign ok (ev_of_fresh (evf_disp ok (evl_cons (ev_tup ok (evl_cons (ev_int (evl_cons (ev_int (evl_cons (ev_int (evl_nil ⟨[.int 0, .int 1, .int 3], rfl, by show 3 ≤ sizeLine; decide, ?_⟩))))))))))))
  refine evl_cons (ev_tup ok (evl_cons (ev_int (evl_cons (ev_int (evl_cons (ev_int (evl_nil ⟨[.int 0, .int 2, .int 4], rfl, by show 3 ≤ sizeLine; decide, ?_⟩))))))))
  refine evl_cons (ev_tup ok (evl_cons (ev_int (evl_cons (ev_int (evl_cons (ev_int (evl_nil ⟨[.int 1, .int 2, .int 5], rfl, by show 3 ≤ sizeLine; decide, ?_⟩))))))))
  refine evl_cons (ev_tup ok (evl_cons (ev_int (evl_cons (ev_int (evl_cons (ev_int (evl_nil ⟨[.int 3, .int 4, .int 5], rfl, by show 3 ≤ sizeLine; decide, ?_⟩))))))))
  refine evl_nil ⟨by show 4 ≤ sizeLine; decide, [_, _, _, _], rfl, asg_name ok (by rfl) ?_⟩
  refine ex_cons (ex1_ret (ev_cmp cmp_eqI (ev_sum ok B rfl (ev_of_fresh (evf_comp ok false [Str.ofString "at"] (closOk_of (by rfl)) rfl (by rfl) (by rfl) (it_range1 ok B rfl (ev_int ⟨4, rfl, by decide, by decide, ?_⟩)))))))
  refine ⟨fun i ys => i ≤ 4 ∧ ys = (tab i fun i => pw Ls 2 i i).map .int, ⟨by decide, rfl⟩, ?_, ?_, ?_⟩
  · rintro Cb i d ys okb hd ⟨_, rfl⟩
    obtain ⟨rfl, hi⟩ := rng_get hd
    have hi : i < 4 := hi
    rw [Int.zero_add]
    refine ⟨_, asgb_name okb (by rfl), tests_nil (br_t rfl (evx_ev (ev_item (ev_item (ev_var okb (by rfl) (ev_var okb (by rfl) ⟨_, _, rfl, matI_row (A := pw Ls 2) hi (by decide), ev_var okb (by rfl) ⟨_, _, rfl, int_item hi (by decide), ?_⟩⟩))))))⟩
    exact ⟨_, rfl, hi, by rw [tab_succ, List.map_append]; rfl⟩
  · rintro i ys ⟨h, rfl⟩
    rw [List.length_map, tab_len]
    exact Nat.le_trans h (by decide)
  rintro ys ⟨_, rfl⟩
  rw [rng_length]
  refine ⟨_, rfl, _, rfl, ?_⟩
  refine ev_mul (ev_int ⟨_, rfl, ev_sum ok B rfl (ev_of_fresh (evf_comp ok false [Str.ofString "a", Str.ofString "b", Str.ofString "c"] (closOk_of (by rfl)) rfl (by rfl) (by rfl) (it_list ok (.inr ⟨_, _, _, rfl⟩) (ev_var ok (by rfl) ⟨_, rfl, ?_⟩))))⟩)
  have L4 : ∀ (i : Nat) (d : D), ([D.tup [.int 0, .int 1, .int 3], .tup [.int 0, .int 2, .int 4], .tup [.int 1, .int 2, .int 5], .tup [.int 3, .int 4, .int 5]] : List D)[i]? = some d → ∃ a b c : Nat, a < 6 ∧ b < 6 ∧ c < 6 ∧ d = .tup [.int a, .int b, .int c] ∧ i < 4 ∧
      ([((m 0 * m 1 * m 3 : Nat) : Int), ((m 0 * m 2 * m 4 : Nat) : Int), ((m 1 * m 2 * m 5 : Nat) : Int), ((m 3 * m 4 * m 5 : Nat) : Int)] : List Int)[i]? = some ((m a * m b * m c : Nat) : Int) := by
    intro i d h
    have hi : i < 4 := (List.getElem?_eq_some_iff.mp h).1
    rcases or4 hi with rfl | rfl | rfl | rfl <;> cases h
    · exact ⟨0, 1, 3, by decide, by decide, by decide, rfl, by decide, rfl⟩
    · exact ⟨0, 2, 4, by decide, by decide, by decide, rfl, by decide, rfl⟩
    · exact ⟨1, 2, 5, by decide, by decide, by decide, rfl, by decide, rfl⟩
    · exact ⟨3, 4, 5, by decide, by decide, by decide, rfl, by decide, rfl⟩
  generalize hL4 : ([((m 0 * m 1 * m 3 : Nat) : Int), ((m 0 * m 2 * m 4 : Nat) : Int), ((m 1 * m 2 * m 5 : Nat) : Int), ((m 3 * m 4 * m 5 : Nat) : Int)] : List Int) = l4 at L4 L6 three
  refine ⟨fun i ys => i ≤ 4 ∧ ys = (l4.take i).map .int, ⟨by decide, rfl⟩, ?_, ?_, ?_⟩
  · rintro Cb i d ys okb hd ⟨_, rfl⟩
    obtain ⟨a, b, c, ha, hb, hc, rfl, hi, h4⟩ := L4 i d hd
    refine ⟨_, asgb_tup okb (.cons (.cons (.cons .nil))) (by rfl) rfl (by rfl), tests_nil (br_t rfl (evx_ev (ev_mul (ev_mul (ev_item (ev_var okb (by exact seen_look rfl hmany) (ev_var okb (by rfl) ⟨_, _, rfl, nat_item ha (by decide), _, rfl, ev_item (ev_var okb (by exact seen_look rfl hmany) (ev_var okb (by rfl) ⟨_, _, rfl, nat_item hb (by decide), _, rfl, ?_⟩))⟩)))))))⟩
    refine ⟨okS (z60 (hm a)) (z60 (hm b)), _, rfl, ev_item (ev_var okb (by exact seen_look rfl hmany) (ev_var okb (by rfl) ⟨_, _, rfl, nat_item hc (by decide), _, rfl, ?_⟩))⟩
    have e2 : ((m a : Nat) : Int) * ((m b : Nat) : Int) = ((m a * m b : Nat) : Int) := by push_cast; rfl
    rw [e2]
    refine ⟨okS (Nat.lt_of_le_of_lt (bd2 a b) (by decide)) (z60 (hm c)), _, rfl, hi, ?_⟩
    rw [List.take_add_one, h4, List.map_append]
    push_cast; rfl
  · rintro i ys ⟨h, rfl⟩
    rw [List.length_map, List.length_take]
    exact Nat.le_trans (Nat.min_le_left _ _) (Nat.le_trans h (by decide))
  rintro ys ⟨_, rfl⟩
  have e4 : l4.take 4 = l4 := by rw [← hL4]; rfl
  show ∃ ds, List.map AV.d (List.map D.int (l4.take 4)) = _ ∧ _
  rw [e4]
  refine ⟨_, rfl, _, rfl, _, rfl, ?_, ?_⟩
  · rw [L6]
    exact okS (a := 6) (by decide) (Nat.lt_of_le_of_lt (Nat.add_le_add (Nat.add_le_add (Nat.add_le_add (bd3 0 1 3) (bd3 0 2 4)) (bd3 1 2 5)) (bd3 3 4 5)) (by decide))
  refine ⟨_, ⟨_, _, rfl, rfl, rfl⟩, _, rfl, ?_⟩
  show D.bool ((tab 4 fun i => pw Ls 2 i i).sum == 6 * l4.sum) = _
  rw [three]; simp
end Mine

namespace Mine
open PySem PySem.W PyProof.Rows PySem.Calls PySem.Spec

def hit (i j : Nat) (e : Nat × Nat) : Int := if (i = e.1 ∧ j = e.2) ∨ (i = e.2 ∧ j = e.1) then 1 else 0
theorem adj_fold : ∀ (l : List (Nat × Nat)) (M : Nat → Nat → Int) (i j : Nat), (l.foldl adjStep M) i j = M i j + (l.map (hit i j)).sum
  | [], M, i, j => by simp
  | e :: l, M, i, j => by
    rw [List.foldl_cons, adj_fold l]
    simp only [List.map_cons, List.sum_cons, adjStep, hit]
    split <;> omega
theorem adj_sum (l : List (Nat × Nat)) (i j : Nat) : adj l i j = (l.map (hit i j)).sum := by rw [adj, adj_fold]; simp
theorem sum_rep (x : Nat × Nat) (g : Nat × Nat → Int) : ∀ n : Nat, ((List.replicate n x).map g).sum = n * g x
  | 0 => by simp
  | n + 1 => by rw [List.replicate_succ, List.map_cons, List.sum_cons, sum_rep x g n]; push_cast; rw [Int.add_mul]; omega
theorem sum_lines (m : Nat → Nat) (g : Nat × Nat → Int) : ((linesOf m).map g).sum = m 0 * g (0, 1) + m 1 * g (0, 2) + m 2 * g (0, 3) + m 3 * g (1, 2) + m 4 * g (1, 3) + m 5 * g (2, 3) := by
  show ((linesTo m 6).map g).sum = _
  rw [linesTo_succ, linesTo_succ, linesTo_succ, linesTo_succ, linesTo_succ, linesTo_succ]
  simp only [List.map_append, List.sum_append, sum_rep]
  have e : linesTo m 0 = [] := rfl
  rw [e]
  simp only [List.map_nil, List.sum_nil, Int.zero_add]
  rfl

def treeI (a b c d e f : Int) : Int :=
  a * b * c + a * b * e + a * b * f + (a * c * d + a * c * f) + (a * d * e + a * d * f) + a * e * f + (b * c * d + b * c * e + (b * d * e + b * d * f) + b * e * f) + (c * d * e + c * d * f + c * e * f)
abbrev treeM (m : Nat → Nat) : Int := treeI (m 0) (m 1) (m 2) (m 3) (m 4) (m 5)
theorem counted_eq (m : Nat → Nat) : counted m = treeM m := by
  have T : ∀ a b c, joins [sideOf a, sideOf b, sideOf c] = true → cnt3 m a b c = (m a : Int) * m b * m c := fun a b c h => by
    unfold cnt3
    rw [h]
    by_cases z : 0 < m a * m b * m c
    · rw [if_pos ⟨z, rfl⟩]; push_cast; rfl
    · rw [if_neg fun q => z q.1]
      have z : m a * m b * m c = 0 := by first | lia | omega
      have : ((m a * m b * m c : Nat) : Int) = 0 := by rw [z]; rfl
      push_cast at this
      exact this.symm
  have F : ∀ a b c, joins [sideOf a, sideOf b, sideOf c] = false → cnt3 m a b c = 0 := fun a b c h => by
    unfold cnt3
    rw [h, if_neg fun q => nomatch q.2]
  show 0 + (0 + (0 + cnt3 m 0 1 2 + cnt3 m 0 1 3 + cnt3 m 0 1 4 + cnt3 m 0 1 5) + (0 + cnt3 m 0 2 3 + cnt3 m 0 2 4 + cnt3 m 0 2 5) + (0 + cnt3 m 0 3 4 + cnt3 m 0 3 5) + (0 + cnt3 m 0 4 5) + 0)
    + (0 + (0 + cnt3 m 1 2 3 + cnt3 m 1 2 4 + cnt3 m 1 2 5) + (0 + cnt3 m 1 3 4 + cnt3 m 1 3 5) + (0 + cnt3 m 1 4 5) + 0)
    + (0 + (0 + cnt3 m 2 3 4 + cnt3 m 2 3 5) + (0 + cnt3 m 2 4 5) + 0) + (0 + (0 + cnt3 m 3 4 5) + 0) + (0 + 0) + 0 = _
  rw [T 0 1 2 (by decide), F 0 1 3 (by decide), T 0 1 4 (by decide), T 0 1 5 (by decide), T 0 2 3 (by decide), F 0 2 4 (by decide), T 0 2 5 (by decide), T 0 3 4 (by decide), T 0 3 5 (by decide), T 0 4 5 (by decide),
    T 1 2 3 (by decide), T 1 2 4 (by decide), F 1 2 5 (by decide), T 1 3 4 (by decide), T 1 3 5 (by decide), T 1 4 5 (by decide), T 2 3 4 (by decide), T 2 3 5 (by decide), T 2 4 5 (by decide), F 3 4 5 (by decide)]
  unfold treeM treeI
  simp only [Int.zero_add, Int.add_zero]

def dtI (n : Nat) (M : Nat → Nat → Int) : Int :=
  if n = 2 then M 0 0 * M 1 1 - M 0 1 * M 1 0
  else M 0 0 * (M 1 1 * M 2 2 - M 1 2 * M 2 1) - M 0 1 * (M 1 0 * M 2 2 - M 1 2 * M 2 0) + M 0 2 * (M 1 0 * M 2 1 - M 1 1 * M 2 0)
theorem dt_cast (n : Nat) (M : Nat → Nat → Int) : dt n (fun i j => ((M i j : Int) : Rat)) = ((dtI n M : Int) : Rat) := by
  unfold dt dtI
  split <;> push_cast <;> rfl

theorem hit_symm (i j : Nat) (e : Nat × Nat) : hit i j e = hit j i e := by
  unfold hit
  by_cases h : (i = e.1 ∧ j = e.2) ∨ (i = e.2 ∧ j = e.1)
  · rw [if_pos h, if_pos (h.symm.imp And.symm And.symm)]
  · rw [if_neg h, if_neg fun q => h (q.symm.imp And.symm And.symm)]
theorem adj_symm (l : List (Nat × Nat)) (i j : Nat) : adj l i j = adj l j i := by
  rw [adj_sum, adj_sum]
  exact congrArg List.sum (List.map_congr_left fun e _ => hit_symm i j e)
theorem adj_diag {l : List (Nat × Nat)} (h : ∀ e ∈ l, e.1 ≠ e.2) (i : Nat) : adj l i i = 0 := by
  rw [adj_sum]
  induction l with
  | nil => rfl
  | cons e l ih =>
    rw [List.map_cons, List.sum_cons, ih fun e m => h e (List.mem_cons_of_mem _ m), hit, if_neg fun q => h e List.mem_cons_self (q.elim (fun q => q.1.symm.trans q.2) fun q => q.2.symm.trans q.1)]; rfl
theorem side_ne {k : Nat} (h : k < 6) : (sideOf k).1 < (sideOf k).2 ∧ (sideOf k).2 < 4 := by
  rcases or6 h with rfl | rfl | rfl | rfl | rfl | rfl <;> decide
theorem edges_lines (m : Nat → Nat) : ∀ e ∈ linesOf m, e.1 < e.2 ∧ e.2 < 4 := by
  intro e h
  obtain ⟨i, hi, h⟩ := List.mem_flatMap.mp h
  rw [(List.mem_replicate.mp h).2]
  exact side_ne (List.mem_range.mp hi)
theorem adj_lines (m : Nat → Nat) (i j : Nat) : adj (linesOf m) i j = m 0 * hit i j (0, 1) + m 1 * hit i j (0, 2) + m 2 * hit i j (0, 3) + m 3 * hit i j (1, 2) + m 4 * hit i j (1, 3) + m 5 * hit i j (2, 3) := by rw [adj_sum, sum_lines]
theorem pk0 (a b c d e f : Int) : a * 1 + b * 0 + c * 0 + d * 0 + e * 0 + f * 0 = a := by simp only [Int.mul_zero, Int.mul_one, Int.add_zero, Int.zero_add]
theorem pk1 (a b c d e f : Int) : a * 0 + b * 1 + c * 0 + d * 0 + e * 0 + f * 0 = b := by simp only [Int.mul_zero, Int.mul_one, Int.add_zero, Int.zero_add]
theorem pk2 (a b c d e f : Int) : a * 0 + b * 0 + c * 1 + d * 0 + e * 0 + f * 0 = c := by simp only [Int.mul_zero, Int.mul_one, Int.add_zero, Int.zero_add]
theorem pk3 (a b c d e f : Int) : a * 0 + b * 0 + c * 0 + d * 1 + e * 0 + f * 0 = d := by simp only [Int.mul_zero, Int.mul_one, Int.add_zero, Int.zero_add]
theorem pk4 (a b c d e f : Int) : a * 0 + b * 0 + c * 0 + d * 0 + e * 1 + f * 0 = e := by simp only [Int.mul_zero, Int.mul_one, Int.add_zero, Int.zero_add]
theorem pk5 (a b c d e f : Int) : a * 0 + b * 0 + c * 0 + d * 0 + e * 0 + f * 1 = f := by simp only [Int.mul_zero, Int.mul_one, Int.add_zero, Int.zero_add]
/-- a grid of four points, even about its diagonal. -/
structure Sym4 (A : Nat → Nat → Int) (a b c d e f : Int) : Prop where
  s : ∀ i j, A i j = A j i
  z : ∀ i, A i i = 0
  a : A 0 1 = a
  b : A 0 2 = b
  c : A 0 3 = c
  d : A 1 2 = d
  e : A 1 3 = e
  f : A 2 3 = f
theorem sym_lines (m : Nat → Nat) : Sym4 (adj (linesOf m)) (m 0) (m 1) (m 2) (m 3) (m 4) (m 5) :=
  ⟨adj_symm _, adj_diag fun e h => Nat.ne_of_lt (edges_lines m e h).1, (adj_lines m 0 1).trans (pk0 ..), (adj_lines m 0 2).trans (pk1 ..), (adj_lines m 0 3).trans (pk2 ..), (adj_lines m 1 2).trans (pk3 ..), (adj_lines m 1 3).trans (pk4 ..), (adj_lines m 2 3).trans (pk5 ..)⟩
theorem sym_det {A : Nat → Nat → Int} {a b c d e f : Int} (S : Sym4 A a b c d e f) (out : Nat) (h : out < 4) : dtI 3 (fun i j => lap 4 A (skip out i) (skip out j)) = treeI a b c d e f := by
  have h10 := (S.s 1 0).trans S.a
  have h20 := (S.s 2 0).trans S.b
  have h30 := (S.s 3 0).trans S.c
  have h21 := (S.s 2 1).trans S.d
  have h31 := (S.s 3 1).trans S.e
  have h32 := (S.s 3 2).trans S.f
  have r0 : lap 4 A 0 0 = 0 + (a + (b + (c + 0))) := (show lap 4 A 0 0 = A 0 0 + (A 0 1 + (A 0 2 + (A 0 3 + 0))) from rfl).trans (by rw [S.z 0, S.a, S.b, S.c])
  have r1 : lap 4 A 1 1 = a + (0 + (d + (e + 0))) := (show lap 4 A 1 1 = A 1 0 + (A 1 1 + (A 1 2 + (A 1 3 + 0))) from rfl).trans (by rw [S.z 1, h10, S.d, S.e])
  have r2 : lap 4 A 2 2 = b + (d + (0 + (f + 0))) := (show lap 4 A 2 2 = A 2 0 + (A 2 1 + (A 2 2 + (A 2 3 + 0))) from rfl).trans (by rw [S.z 2, h20, h21, S.f])
  have r3 : lap 4 A 3 3 = c + (e + (f + (0 + 0))) := (show lap 4 A 3 3 = A 3 0 + (A 3 1 + (A 3 2 + (A 3 3 + 0))) from rfl).trans (by rw [S.z 3, h30, h31, h32])
  have q01 : lap 4 A 0 1 = 0 - a := by rw [← S.a]; rfl
  have q10 : lap 4 A 1 0 = 0 - a := by rw [← h10]; rfl
  have q02 : lap 4 A 0 2 = 0 - b := by rw [← S.b]; rfl
  have q20 : lap 4 A 2 0 = 0 - b := by rw [← h20]; rfl
  have q03 : lap 4 A 0 3 = 0 - c := by rw [← S.c]; rfl
  have q30 : lap 4 A 3 0 = 0 - c := by rw [← h30]; rfl
  have q12 : lap 4 A 1 2 = 0 - d := by rw [← S.d]; rfl
  have q21 : lap 4 A 2 1 = 0 - d := by rw [← h21]; rfl
  have q13 : lap 4 A 1 3 = 0 - e := by rw [← S.e]; rfl
  have q31 : lap 4 A 3 1 = 0 - e := by rw [← h31]; rfl
  have q23 : lap 4 A 2 3 = 0 - f := by rw [← S.f]; rfl
  have q32 : lap 4 A 3 2 = 0 - f := by rw [← h32]; rfl
  clear S h10 h20 h30 h21 h31 h32
  generalize lap 4 A = B at *
  have det : ∀ x y z : Nat, dtI 3 (fun i j => B (if i = 0 then x else if i = 1 then y else z) (if j = 0 then x else if j = 1 then y else z)) = B x x * (B y y * B z z - B y z * B z y) - B x y * (B y x * B z z - B y z * B z x) + B x z * (B y x * B z y - B y y * B z x) := fun _ _ _ => rfl
  rcases or4 h with rfl | rfl | rfl | rfl
  · refine (det 1 2 3).trans ?_
    rw [r1, r2, r3, q12, q21, q13, q31, q23, q32]; clear det r0 r1 r2 r3 q01 q10 q02 q20 q03 q30 q12 q21 q13 q31 q23 q32; unfold treeI; grind
  · refine (det 0 2 3).trans ?_
    rw [r0, r2, r3, q02, q20, q03, q30, q23, q32]; clear det r0 r1 r2 r3 q01 q10 q02 q20 q03 q30 q12 q21 q13 q31 q23 q32; unfold treeI; grind
  · refine (det 0 1 3).trans ?_
    rw [r0, r1, r3, q01, q10, q03, q30, q13, q31]; clear det r0 r1 r2 r3 q01 q10 q02 q20 q03 q30 q12 q21 q13 q31 q23 q32; unfold treeI; grind
  · refine (det 0 1 2).trans ?_
    rw [r0, r1, r2, q01, q10, q02, q20, q12, q21]; clear det r0 r1 r2 r3 q01 q10 q02 q20 q03 q30 q12 q21 q13 q31 q23 q32; unfold treeI; grind
theorem tree_det (m : Nat → Nat) (out : Nat) (h : out < 4) : dtI 3 (fun i j => lap 4 (adj (linesOf m)) (skip out i) (skip out j)) = treeM m := sym_det (sym_lines m) out h
end Mine

namespace Mine
open PySem PySem.W PyProof.Rows PySem.Calls PySem.Spec

def dec (m : Nat → Nat) (k : Nat) : Nat → Nat := fun i => if i = k then m i - 1 else m i
theorem linesTo_congr {m m' : Nat → Nat} : ∀ {n : Nat}, (∀ i, i < n → m i = m' i) → linesTo m n = linesTo m' n
  | 0, _ => rfl
  | n + 1, h => by rw [linesTo_succ, linesTo_succ, linesTo_congr fun i hi => h i (by first | lia | omega), h n (by first | lia | omega)]
theorem erase_lines (m : Nat → Nat) : ∀ (n spot : Nat) (e : Nat × Nat), (linesTo m n)[spot]? = some e → ∃ k, k < n ∧ 0 < m k ∧ e = sideOf k ∧ (linesTo m n).eraseIdx spot = linesTo (dec m k) n
  | 0, spot, e, h => by simp [linesTo] at h
  | n + 1, spot, e, h => by
    rw [linesTo_succ] at h ⊢
    by_cases hs : spot < (linesTo m n).length
    · rw [List.getElem?_append_left hs] at h
      obtain ⟨k, h1, h2, h3, h4⟩ := erase_lines m n spot e h
      refine ⟨k, by first | lia | omega, h2, h3, ?_⟩
      rw [List.eraseIdx_append_of_lt_length hs, h4, linesTo_succ]
      congr 2
      unfold dec; rw [if_neg (by first | lia | omega)]
    · have hs : (linesTo m n).length ≤ spot := by first | lia | omega
      rw [List.getElem?_append_right hs] at h
      obtain ⟨q, h⟩ := List.getElem?_eq_some_iff.mp h
      rw [List.length_replicate] at q
      rw [List.getElem_replicate] at h
      refine ⟨n, by first | lia | omega, by first | lia | omega, h.symm, ?_⟩
      rw [List.eraseIdx_append_of_length_le hs, linesTo_succ, linesTo_congr (m := dec m n) (m' := m) fun i hi => by unfold dec; rw [if_neg (by first | lia | omega)]]
      congr 1
      rw [List.eraseIdx_replicate, if_pos q]
      unfold dec; rw [if_pos rfl]

def hitD (e : Nat × Nat) (i j : Nat) (d : Nat × Nat) : Int := if leadOf e d.1 = leadOf e d.2 then 0 else hit i j (leadOf e d.1, leadOf e d.2)
theorem drawn_sum (e : Nat × Nat) (i j : Nat) : ∀ l : List (Nat × Nat), adj (drawnOf e l) i j = (l.map (hitD e i j)).sum := fun l => by
  rw [adj_sum]
  induction l with
  | nil => rfl
  | cons d l ih =>
    unfold drawnOf at ih ⊢
    rw [List.map_cons, List.sum_cons, ← ih, List.filter_cons, hitD]
    by_cases h : leadOf e d.1 = leadOf e d.2
    · simp [h]
    · simp [h]

theorem drawn_ne (e : Nat × Nat) (l : List (Nat × Nat)) : ∀ d ∈ drawnOf e l, d.1 ≠ d.2 := by
  intro d h
  obtain ⟨d', hd, rfl⟩ := List.mem_map.mp h
  exact bne_iff_ne.mp (List.mem_filter.mp hd).2
theorem drawn_lines (e : Nat × Nat) (n : Nat → Nat) (i j : Nat) : adj (drawnOf e (linesOf n)) i j = n 0 * hitD e i j (0, 1) + n 1 * hitD e i j (0, 2) + n 2 * hitD e i j (0, 3) + n 3 * hitD e i j (1, 2) + n 4 * hitD e i j (1, 3) + n 5 * hitD e i j (2, 3) := by rw [drawn_sum, sum_lines]
theorem sym_det3 {A : Nat → Nat → Int} {p q r : Int} (s : ∀ i j, A i j = A j i) (z : ∀ i, A i i = 0) (hp : A 0 1 = p) (hq : A 0 2 = q) (hr : A 1 2 = r) (out : Nat) (h : out < 3) : dtI 2 (fun i j => lap 3 A (skip out i) (skip out j)) = p * q + p * r + q * r := by
  have h10 := (s 1 0).trans hp
  have h20 := (s 2 0).trans hq
  have h21 := (s 2 1).trans hr
  rcases or3 h with rfl | rfl | rfl
  · refine (show _ = (A 1 0 + (A 1 1 + (A 1 2 + 0))) * (A 2 0 + (A 2 1 + (A 2 2 + 0))) - (0 - A 1 2) * (0 - A 2 1) from rfl).trans ?_
    rw [h10, z 1, hr, h20, h21, z 2]; clear h10 h20 h21 s z hp hq hr; grind
  · refine (show _ = (A 0 0 + (A 0 1 + (A 0 2 + 0))) * (A 2 0 + (A 2 1 + (A 2 2 + 0))) - (0 - A 0 2) * (0 - A 2 0) from rfl).trans ?_
    rw [z 0, hp, hq, h20, h21, z 2]; clear h10 h20 h21 s z hp hq hr; grind
  · refine (show _ = (A 0 0 + (A 0 1 + (A 0 2 + 0))) * (A 1 0 + (A 1 1 + (A 1 2 + 0))) - (0 - A 0 1) * (0 - A 1 0) from rfl).trans ?_
    rw [z 0, hp, hq, h10, z 1, hr]; clear h10 h20 h21 s z hp hq hr; grind
theorem poly0 (a b c d e f : Int) : treeI (a + 1) b c d e f - treeI a b c d e f = (b + d) * (c + e) + (b + d) * (f) + (c + e) * (f) := by unfold treeI; grind
theorem poly1 (a b c d e f : Int) : treeI a (b + 1) c d e f - treeI a b c d e f = (a + d) * (c + f) + (a + d) * (e) + (c + f) * (e) := by unfold treeI; grind
theorem poly2 (a b c d e f : Int) : treeI a b (c + 1) d e f - treeI a b c d e f = (a + e) * (b + f) + (a + e) * (d) + (b + f) * (d) := by unfold treeI; grind
theorem poly3 (a b c d e f : Int) : treeI a b c (d + 1) e f - treeI a b c d e f = (a + b) * (c) + (a + b) * (e + f) + (c) * (e + f) := by unfold treeI; grind
theorem poly4 (a b c d e f : Int) : treeI a b c d (e + 1) f - treeI a b c d e f = (a + c) * (b) + (a + c) * (d + f) + (b) * (d + f) := by unfold treeI; grind
theorem poly5 (a b c d e f : Int) : treeI a b c d e (f + 1) - treeI a b c d e f = (a) * (b + c) + (a) * (d + e) + (b + c) * (d + e) := by unfold treeI; grind
theorem split_det (m : Nat → Nat) (k out : Nat) (hk : k < 6) (hm : 0 < m k) (h : out < 3) :
    dtI 2 (fun i j => lap 3 (adj (drawnOf (sideOf k) (linesOf (dec m k)))) (skip out i) (skip out j)) = treeM m - treeM (dec m k) := by
  have d0 : ∀ i, i ≠ k → m i = dec m k i := fun i hi => (if_neg hi).symm
  have d1 : (m k : Int) = dec m k k + 1 := by
    have : dec m k k = m k - 1 := if_pos rfl
    rw [this]; omega
  generalize dec m k = n at *
  have z := adj_diag (drawn_ne (sideOf k) (linesOf n))
  unfold treeM
  rcases or6 hk with rfl | rfl | rfl | rfl | rfl | rfl
  · rw [d1, d0 1 (by decide), d0 2 (by decide), d0 3 (by decide), d0 4 (by decide), d0 5 (by decide), poly0]
    exact sym_det3 (adj_symm _) z ((drawn_lines _ n 0 1).trans (show (n 0 : Int) * 0 + (n 1 : Int) * 1 + (n 2 : Int) * 0 + (n 3 : Int) * 1 + (n 4 : Int) * 0 + (n 5 : Int) * 0 = (n 1 : Int) + (n 3 : Int) by simp only [Int.mul_zero, Int.mul_one, Int.add_zero, Int.zero_add]))
      ((drawn_lines _ n 0 2).trans (show (n 0 : Int) * 0 + (n 1 : Int) * 0 + (n 2 : Int) * 1 + (n 3 : Int) * 0 + (n 4 : Int) * 1 + (n 5 : Int) * 0 = (n 2 : Int) + (n 4 : Int) by simp only [Int.mul_zero, Int.mul_one, Int.add_zero, Int.zero_add]))
      ((drawn_lines _ n 1 2).trans (show (n 0 : Int) * 0 + (n 1 : Int) * 0 + (n 2 : Int) * 0 + (n 3 : Int) * 0 + (n 4 : Int) * 0 + (n 5 : Int) * 1 = (n 5 : Int) by simp only [Int.mul_zero, Int.mul_one, Int.add_zero, Int.zero_add])) out h
  · rw [d1, d0 0 (by decide), d0 2 (by decide), d0 3 (by decide), d0 4 (by decide), d0 5 (by decide), poly1]
    exact sym_det3 (adj_symm _) z ((drawn_lines _ n 0 1).trans (show (n 0 : Int) * 1 + (n 1 : Int) * 0 + (n 2 : Int) * 0 + (n 3 : Int) * 1 + (n 4 : Int) * 0 + (n 5 : Int) * 0 = (n 0 : Int) + (n 3 : Int) by simp only [Int.mul_zero, Int.mul_one, Int.add_zero, Int.zero_add]))
      ((drawn_lines _ n 0 2).trans (show (n 0 : Int) * 0 + (n 1 : Int) * 0 + (n 2 : Int) * 1 + (n 3 : Int) * 0 + (n 4 : Int) * 0 + (n 5 : Int) * 1 = (n 2 : Int) + (n 5 : Int) by simp only [Int.mul_zero, Int.mul_one, Int.add_zero, Int.zero_add]))
      ((drawn_lines _ n 1 2).trans (show (n 0 : Int) * 0 + (n 1 : Int) * 0 + (n 2 : Int) * 0 + (n 3 : Int) * 0 + (n 4 : Int) * 1 + (n 5 : Int) * 0 = (n 4 : Int) by simp only [Int.mul_zero, Int.mul_one, Int.add_zero, Int.zero_add])) out h
  · rw [d1, d0 0 (by decide), d0 1 (by decide), d0 3 (by decide), d0 4 (by decide), d0 5 (by decide), poly2]
    exact sym_det3 (adj_symm _) z ((drawn_lines _ n 0 1).trans (show (n 0 : Int) * 1 + (n 1 : Int) * 0 + (n 2 : Int) * 0 + (n 3 : Int) * 0 + (n 4 : Int) * 1 + (n 5 : Int) * 0 = (n 0 : Int) + (n 4 : Int) by simp only [Int.mul_zero, Int.mul_one, Int.add_zero, Int.zero_add]))
      ((drawn_lines _ n 0 2).trans (show (n 0 : Int) * 0 + (n 1 : Int) * 1 + (n 2 : Int) * 0 + (n 3 : Int) * 0 + (n 4 : Int) * 0 + (n 5 : Int) * 1 = (n 1 : Int) + (n 5 : Int) by simp only [Int.mul_zero, Int.mul_one, Int.add_zero, Int.zero_add]))
      ((drawn_lines _ n 1 2).trans (show (n 0 : Int) * 0 + (n 1 : Int) * 0 + (n 2 : Int) * 0 + (n 3 : Int) * 1 + (n 4 : Int) * 0 + (n 5 : Int) * 0 = (n 3 : Int) by simp only [Int.mul_zero, Int.mul_one, Int.add_zero, Int.zero_add])) out h
  · rw [d1, d0 0 (by decide), d0 1 (by decide), d0 2 (by decide), d0 4 (by decide), d0 5 (by decide), poly3]
    exact sym_det3 (adj_symm _) z ((drawn_lines _ n 0 1).trans (show (n 0 : Int) * 1 + (n 1 : Int) * 1 + (n 2 : Int) * 0 + (n 3 : Int) * 0 + (n 4 : Int) * 0 + (n 5 : Int) * 0 = (n 0 : Int) + (n 1 : Int) by simp only [Int.mul_zero, Int.mul_one, Int.add_zero, Int.zero_add]))
      ((drawn_lines _ n 0 2).trans (show (n 0 : Int) * 0 + (n 1 : Int) * 0 + (n 2 : Int) * 1 + (n 3 : Int) * 0 + (n 4 : Int) * 0 + (n 5 : Int) * 0 = (n 2 : Int) by simp only [Int.mul_zero, Int.mul_one, Int.add_zero, Int.zero_add]))
      ((drawn_lines _ n 1 2).trans (show (n 0 : Int) * 0 + (n 1 : Int) * 0 + (n 2 : Int) * 0 + (n 3 : Int) * 0 + (n 4 : Int) * 1 + (n 5 : Int) * 1 = (n 4 : Int) + (n 5 : Int) by simp only [Int.mul_zero, Int.mul_one, Int.add_zero, Int.zero_add])) out h
  · rw [d1, d0 0 (by decide), d0 1 (by decide), d0 2 (by decide), d0 3 (by decide), d0 5 (by decide), poly4]
    exact sym_det3 (adj_symm _) z ((drawn_lines _ n 0 1).trans (show (n 0 : Int) * 1 + (n 1 : Int) * 0 + (n 2 : Int) * 1 + (n 3 : Int) * 0 + (n 4 : Int) * 0 + (n 5 : Int) * 0 = (n 0 : Int) + (n 2 : Int) by simp only [Int.mul_zero, Int.mul_one, Int.add_zero, Int.zero_add]))
      ((drawn_lines _ n 0 2).trans (show (n 0 : Int) * 0 + (n 1 : Int) * 1 + (n 2 : Int) * 0 + (n 3 : Int) * 0 + (n 4 : Int) * 0 + (n 5 : Int) * 0 = (n 1 : Int) by simp only [Int.mul_zero, Int.mul_one, Int.add_zero, Int.zero_add]))
      ((drawn_lines _ n 1 2).trans (show (n 0 : Int) * 0 + (n 1 : Int) * 0 + (n 2 : Int) * 0 + (n 3 : Int) * 1 + (n 4 : Int) * 0 + (n 5 : Int) * 1 = (n 3 : Int) + (n 5 : Int) by simp only [Int.mul_zero, Int.mul_one, Int.add_zero, Int.zero_add])) out h
  · rw [d1, d0 0 (by decide), d0 1 (by decide), d0 2 (by decide), d0 3 (by decide), d0 4 (by decide), poly5]
    exact sym_det3 (adj_symm _) z ((drawn_lines _ n 0 1).trans (show (n 0 : Int) * 1 + (n 1 : Int) * 0 + (n 2 : Int) * 0 + (n 3 : Int) * 0 + (n 4 : Int) * 0 + (n 5 : Int) * 0 = (n 0 : Int) by simp only [Int.mul_zero, Int.mul_one, Int.add_zero, Int.zero_add]))
      ((drawn_lines _ n 0 2).trans (show (n 0 : Int) * 0 + (n 1 : Int) * 1 + (n 2 : Int) * 1 + (n 3 : Int) * 0 + (n 4 : Int) * 0 + (n 5 : Int) * 0 = (n 1 : Int) + (n 2 : Int) by simp only [Int.mul_zero, Int.mul_one, Int.add_zero, Int.zero_add]))
      ((drawn_lines _ n 1 2).trans (show (n 0 : Int) * 0 + (n 1 : Int) * 0 + (n 2 : Int) * 0 + (n 3 : Int) * 1 + (n 4 : Int) * 1 + (n 5 : Int) * 0 = (n 3 : Int) + (n 4 : Int) by simp only [Int.mul_zero, Int.mul_one, Int.add_zero, Int.zero_add])) out h

def treeN (a b c d e f : Nat) : Nat :=
  a * b * c + a * b * e + a * b * f + (a * c * d + a * c * f) + (a * d * e + a * d * f) + a * e * f + (b * c * d + b * c * e + (b * d * e + b * d * f) + b * e * f) + (c * d * e + c * d * f + c * e * f)
abbrev treeL (m : Nat → Nat) : Nat := treeN (m 0) (m 1) (m 2) (m 3) (m 4) (m 5)
theorem treeM_nat (m : Nat → Nat) : treeM m = ((treeL m : Nat) : Int) := by unfold treeM treeI treeL treeN; push_cast; rfl
theorem mul3 {x y z x' y' z' : Nat} (h1 : x ≤ x') (h2 : y ≤ y') (h3 : z ≤ z') : x * y * z ≤ x' * y' * z' := Nat.mul_le_mul (Nat.mul_le_mul h1 h2) h3
theorem treeN_mono {a b c d e f a' b' c' d' e' f' : Nat} (ha : a ≤ a') (hb : b ≤ b') (hc : c ≤ c') (hd : d ≤ d') (he : e ≤ e') (hf : f ≤ f') : treeN a b c d e f ≤ treeN a' b' c' d' e' f' :=
  Nat.add_le_add (Nat.add_le_add (Nat.add_le_add (Nat.add_le_add (Nat.add_le_add (Nat.add_le_add (Nat.add_le_add (mul3 ha hb hc) (mul3 ha hb he)) (mul3 ha hb hf)) (Nat.add_le_add (mul3 ha hc hd) (mul3 ha hc hf))) (Nat.add_le_add (mul3 ha hd he) (mul3 ha hd hf))) (mul3 ha he hf)) (Nat.add_le_add (Nat.add_le_add (Nat.add_le_add (mul3 hb hc hd) (mul3 hb hc he)) (Nat.add_le_add (mul3 hb hd he) (mul3 hb hd hf))) (mul3 hb he hf))) (Nat.add_le_add (Nat.add_le_add (mul3 hc hd he) (mul3 hc hd hf)) (mul3 hc he hf))
theorem treeL_le {m : Nat → Nat} (h : ∀ k, m k ≤ 2) : treeL m ≤ 128 := treeN_mono (h 0) (h 1) (h 2) (h 3) (h 4) (h 5)
theorem dec_le (m : Nat → Nat) (k i : Nat) : dec m k i ≤ m i := by unfold dec; split <;> omega
theorem treeL_dec (m : Nat → Nat) (k : Nat) : treeL (dec m k) ≤ treeL m := treeN_mono (dec_le ..) (dec_le ..) (dec_le ..) (dec_le ..) (dec_le ..) (dec_le ..)
theorem figs_small {k : Nat} (h : k ≤ 200) : ∃ f, Figs k f ∧ f ≤ 9 := by
  by_cases h1 : k < 10
  · exact ⟨1, ⟨by decide, by first | lia | omega, .inl rfl⟩, by decide⟩
  · by_cases h2 : k < 100
    · exact ⟨2, ⟨by decide, by first | lia | omega, .inr (by show 10 ≤ k; omega)⟩, by decide⟩
    · exact ⟨3, ⟨by decide, by first | lia | omega, .inr (by show 100 ≤ k; omega)⟩, by decide⟩
end Mine

namespace Mine
open PySem PySem.W PyProof.Rows PySem.Calls PySem.Spec

theorem hit_01 (i j : Nat) (e : Nat × Nat) : 0 ≤ hit i j e ∧ hit i j e ≤ 1 := by unfold hit; split <;> omega
theorem adj_bound (i j : Nat) : ∀ l : List (Nat × Nat), 0 ≤ adj l i j ∧ adj l i j ≤ l.length := fun l => by
  rw [adj_sum]
  induction l with
  | nil => simp
  | cons e l ih => have := hit_01 i j e; simp only [List.map_cons, List.sum_cons, List.length_cons]; omega
theorem lap_bound {n : Nat} (hn : n = 3 ∨ n = 4) {l : List (Nat × Nat)} (hl : l.length ≤ 12) (i j : Nat) : (lap n (adj l) i j).natAbs < 2 ^ 10 := by
  unfold lap
  split
  · have h0 := adj_bound i 0 l
    have h1 := adj_bound i 1 l
    have h2 := adj_bound i 2 l
    have h3 := adj_bound i 3 l
    rcases hn with rfl | rfl <;> simp [tab, List.range_succ] <;> omega
  · have h0 := adj_bound i j l
    omega
theorem edges_drawn {x y : Nat} (h1 : x < y) (h2 : y < 4) {l : List (Nat × Nat)} (hl : ∀ e ∈ l, e.1 < e.2 ∧ e.2 < 4) : ∀ e ∈ drawnOf (x, y) l, e.1 < 3 ∧ e.2 < 3 ∧ e.1 ≠ e.2 := by
  intro e h
  unfold drawnOf at h
  obtain ⟨d, hd, rfl⟩ := List.mem_map.mp h
  obtain ⟨hd, hne⟩ := List.mem_filter.mp hd
  obtain ⟨h3, h4⟩ := hl d hd
  have lt : ∀ i, i < 4 → leadOf (x, y) i < 3 := fun i hi => by unfold leadOf; simp only; split <;> (try split) <;> omega
  exact ⟨lt _ (by first | lia | omega), lt _ h4, by simpa using hne⟩
theorem drawn_len (e : Nat × Nat) (l : List (Nat × Nat)) : (drawnOf e l).length ≤ l.length := by
  unfold drawnOf; rw [List.length_map]; exact List.length_filter_le _ _

theorem lapDet_of {n out : Nat} (hn : n = 3 ∨ n = 4) {l : List (Nat × Nat)} (hl : l.length ≤ 12) (he : ∀ e ∈ l, e.1 < n ∧ e.2 < n ∧ e.1 ≠ e.2) {k : Nat} (hk : k ≤ 200) (h : dtI (n - 1) (fun i j => lap n (adj l) (skip out i) (skip out j)) = (k : Int)) : LapDet n out l k :=
  ⟨he, fun _ _ => lap_bound hn hl _ _, by rw [dt_cast (n - 1) fun i j => lap n (adj l) (skip out i) (skip out j), h], figs_small hk⟩

theorem mulM_eq (A B : Nat → Nat → Int) (i j : Nat) : mulM 4 A B i j = A i 0 * B 0 j + A i 1 * B 1 j + A i 2 * B 2 j + A i 3 * B 3 j := by
  simp [mulM, sm]
theorem mulM_assoc (A B C : Nat → Nat → Int) : mulM 4 (mulM 4 A B) C = mulM 4 A (mulM 4 B C) := by
  funext i j
  simp only [mulM_eq]
  grind
theorem pw_comm (l : List (Nat × Nat)) : ∀ t, mulM 4 (pw l t) (adj l) = mulM 4 (adj l) (pw l t)
  | 0 => rfl
  | t + 1 => by
    show mulM 4 (mulM 4 (pw l t) (adj l)) (adj l) = mulM 4 (adj l) (mulM 4 (pw l t) (adj l))
    rw [pw_comm l t, mulM_assoc, pw_comm l t]
theorem mulM_bound {A B : Nat → Nat → Int} {a b : Nat} (hA : ∀ i j, (A i j).natAbs ≤ a) (hB : ∀ i j, (B i j).natAbs ≤ b) (i j : Nat) : (mulM 4 A B i j).natAbs ≤ a * b + a * b + a * b + a * b := by
  have h : ∀ k, (A i k * B k j).natAbs ≤ a * b := fun k => by rw [Int.natAbs_mul]; exact Nat.mul_le_mul (hA i k) (hB k j)
  rw [mulM_eq]
  exact Nat.le_trans (Int.natAbs_add_le _ _) (Nat.add_le_add (Nat.le_trans (Int.natAbs_add_le _ _) (Nat.add_le_add (Nat.le_trans (Int.natAbs_add_le _ _) (Nat.add_le_add (h 0) (h 1))) (h 2))) (h 3))
theorem pw_bound {l : List (Nat × Nat)} (hl : l.length ≤ 12) (t : Nat) (ht : t ≤ 3) (i j : Nat) : (pw l t i j).natAbs < 2 ^ 60 := by
  have b0 : ∀ i j, (adj l i j).natAbs ≤ 12 := fun i j => by have := adj_bound i j l; omega
  have b1 : ∀ i j, (pw l 1 i j).natAbs ≤ 576 := mulM_bound b0 b0
  have b2 : ∀ i j, (pw l 2 i j).natAbs ≤ 27648 := mulM_bound b1 b0
  have b3 : ∀ i j, (pw l 3 i j).natAbs ≤ 1327104 := mulM_bound b2 b0
  rcases or4 (Nat.lt_succ_of_le ht) with rfl | rfl | rfl | rfl
  · exact Nat.lt_of_le_of_lt (b0 i j) (by decide)
  · exact Nat.lt_of_le_of_lt (b1 i j) (by decide)
  · exact Nat.lt_of_le_of_lt (b2 i j) (by decide)
  · exact Nat.lt_of_le_of_lt (b3 i j) (by decide)

def hitV (v : Nat → Int) (i : Nat) (e : Nat × Nat) : Int := if i = e.1 then v e.2 else if i = e.2 then v e.1 else 0
theorem way_fold (v : Nat → Int) (i : Nat) : ∀ (l : List (Nat × Nat)) (u : Nat → Int), (l.foldl (wayStep v) u) i = u i + (l.map (hitV v i)).sum
  | [], u => by simp
  | e :: l, u => by
    rw [List.foldl_cons, way_fold v i l]
    simp only [List.map_cons, List.sum_cons, wayStep, hitV]
    by_cases h1 : i = e.1
    · rw [if_pos h1, if_pos h1, h1]; omega
    · rw [if_neg h1, if_neg h1]
      by_cases h2 : i = e.2
      · rw [if_pos h2, if_pos h2, h2]; omega
      · rw [if_neg h2, if_neg h2]; omega
theorem pick4 (v : Nat → Int) {y : Nat} (h : y < 4) : (if 0 = y then 1 else 0) * v 0 + (if 1 = y then 1 else 0) * v 1 + (if 2 = y then 1 else 0) * v 2 + (if 3 = y then 1 else 0) * v 3 = v y := by
  rcases or4 h with rfl | rfl | rfl | rfl
  · exact (show 1 * v 0 + 0 * v 1 + 0 * v 2 + 0 * v 3 = v 0 by simp only [Int.one_mul, Int.zero_mul, Int.add_zero])
  · exact (show 0 * v 0 + 1 * v 1 + 0 * v 2 + 0 * v 3 = v 1 by simp only [Int.one_mul, Int.zero_mul, Int.add_zero, Int.zero_add])
  · exact (show 0 * v 0 + 0 * v 1 + 1 * v 2 + 0 * v 3 = v 2 by simp only [Int.one_mul, Int.zero_mul, Int.add_zero, Int.zero_add])
  · exact (show 0 * v 0 + 0 * v 1 + 0 * v 2 + 1 * v 3 = v 3 by simp only [Int.one_mul, Int.zero_mul, Int.zero_add])
theorem hit_fst {x y : Nat} (h : x ≠ y) (j : Nat) : hit x j (x, y) = if j = y then 1 else 0 := by
  unfold hit
  by_cases q : j = y
  · rw [if_pos (.inl ⟨rfl, q⟩), if_pos q]
  · rw [if_neg fun z => z.elim (fun z => q z.2) fun z => h z.1, if_neg q]
theorem hit_none {i x y : Nat} (h1 : i ≠ x) (h2 : i ≠ y) (j : Nat) : hit i j (x, y) = 0 := if_neg fun z => z.elim (fun z => h1 z.1) fun z => h2 z.1
theorem hit_swap (i j x y : Nat) : hit i j (x, y) = hit i j (y, x) := by
  unfold hit
  by_cases h : (i = x ∧ j = y) ∨ (i = y ∧ j = x)
  · rw [if_pos h, if_pos h.symm]
  · rw [if_neg h, if_neg fun q => h q.symm]
theorem hit_row (v : Nat → Int) (i : Nat) (hi : i < 4) (e : Nat × Nat) (h1 : e.1 < e.2) (h2 : e.2 < 4) : hit i 0 e * v 0 + hit i 1 e * v 1 + hit i 2 e * v 2 + hit i 3 e * v 3 = hitV v i e := by
  obtain ⟨x, y⟩ := e
  have hne : x ≠ y := Nat.ne_of_lt h1
  by_cases hx : i = x
  · subst hx
    rw [hit_fst hne, hit_fst hne, hit_fst hne, hit_fst hne, pick4 v h2]
    exact (if_pos rfl).symm
  · by_cases hy : i = y
    · subst hy
      rw [hit_swap, hit_swap i 1, hit_swap i 2, hit_swap i 3, hit_fst hne.symm, hit_fst hne.symm, hit_fst hne.symm, hit_fst hne.symm, pick4 v (Nat.lt_trans h1 h2)]
      exact ((if_neg hx).trans (if_pos rfl)).symm
    · rw [hit_none hx hy, hit_none hx hy, hit_none hx hy, hit_none hx hy, Int.zero_mul, Int.zero_mul, Int.zero_mul, Int.zero_mul]
      exact ((if_neg hx).trans (if_neg hy)).symm
theorem wayTurn_eq (v : Nat → Int) (i : Nat) (hi : i < 4) : ∀ l : List (Nat × Nat), (∀ e ∈ l, e.1 < e.2 ∧ e.2 < 4) → wayTurn l v i = adj l i 0 * v 0 + adj l i 1 * v 1 + adj l i 2 * v 2 + adj l i 3 * v 3 := fun l hl => by
  unfold wayTurn
  rw [way_fold, Int.zero_add]
  simp only [adj_sum]
  induction l with
  | nil => simp
  | cons e l ih =>
    have := ih fun e h => hl e (List.mem_cons_of_mem _ h)
    have h2 := hit_row v i hi e (hl e List.mem_cons_self).1 (hl e List.mem_cons_self).2
    simp only [List.map_cons, List.sum_cons, Int.add_mul]
    omega
theorem pw_ways {l : List (Nat × Nat)} (hl : ∀ e ∈ l, e.1 < e.2 ∧ e.2 < 4) (a : Nat) (ha : a < 4) : ∀ (t j : Nat), j < 4 → pw l t a j = ways l a (t + 1) j
  | 0, j, hj => by
    show adj l a j = wayTurn l (fun i => if i = a then 1 else 0) j
    rw [wayTurn_eq _ j hj l hl, adj_symm l a j]
    have e := pick4 (fun b => adj l j b) ha
    simp only [Int.mul_comm] at e ⊢
    exact e.symm
  | t + 1, j, hj => by
    show mulM 4 (pw l t) (adj l) a j = wayTurn l (ways l a (t + 1)) j
    rw [wayTurn_eq _ j hj l hl, mulM_eq, ← pw_ways hl a ha t 0 (by decide), ← pw_ways hl a ha t 1 (by decide), ← pw_ways hl a ha t 2 (by decide), ← pw_ways hl a ha t 3 (by decide),
      adj_symm l 0 j, adj_symm l 1 j, adj_symm l 2 j, adj_symm l 3 j]
    simp only [Int.mul_comm]

theorem three_eq (m : Nat → Nat) : (tab 4 fun i => pw (linesOf m) 2 i i).sum = 6 * ([((m 0 * m 1 * m 3 : Nat) : Int), ((m 0 * m 2 * m 4 : Nat) : Int), ((m 1 * m 2 * m 5 : Nat) : Int), ((m 3 * m 4 * m 5 : Nat) : Int)] : List Int).sum := by
  have e : ∀ i, pw (linesOf m) 2 i i = mulM 4 (mulM 4 (adj (linesOf m)) (adj (linesOf m))) (adj (linesOf m)) i i := fun _ => rfl
  simp only [e, tab, List.range_succ, List.range_zero, List.nil_append, List.map_append, List.map_cons, List.map_nil, List.sum_append, List.sum_cons, List.sum_nil, List.cons_append, mulM_eq]
  simp [adj_sum, sum_lines, hit]
  generalize ((m 0 : Nat) : Int) = a
  generalize ((m 1 : Nat) : Int) = b
  generalize ((m 2 : Nat) : Int) = c
  generalize ((m 3 : Nat) : Int) = d
  generalize ((m 4 : Nat) : Int) = e
  generalize ((m 5 : Nat) : Int) = f
  grind

theorem plain_all (m : Nat → Nat) (hm : ∀ k, m k ≤ 2) : Plain m := by
  have hlen : ∀ {m : Nat → Nat}, (∀ k, m k ≤ 2) → (linesOf m).length ≤ 12 := fun h => linesTo_len h 6
  have hed : ∀ m : Nat → Nat, ∀ e ∈ linesOf m, e.1 < 4 ∧ e.2 < 4 ∧ e.1 ≠ e.2 := fun m e h => by obtain ⟨h1, h2⟩ := edges_lines m e h; omega
  have tl := treeL_le hm
  refine ⟨edges_lines m, hlen hm, ⟨treeL m, by rw [counted_eq, treeM_nat], fun out h => lapDet_of (.inr rfl) (hlen hm) (hed m) (by first | lia | omega) (by rw [← treeM_nat]; exact tree_det m out h)⟩, fun spot e h out ho => ?_, fun t ht i j => pw_bound (hlen hm) t ht i j, fun t _ a ha j hj => pw_ways (edges_lines m) a ha t j hj, fun t _ i _ j _ => by rw [pw_comm], three_eq m⟩
  obtain ⟨k, hk, hp, rfl, he⟩ := erase_lines m 6 spot e h
  have he : (linesOf m).eraseIdx spot = linesOf (dec m k) := he
  rw [← List.eraseIdx_eq_take_drop_succ, he]
  have hd : ∀ i, dec m k i ≤ 2 := fun i => Nat.le_trans (dec_le m k i) (hm i)
  have td := treeL_dec m k
  have es : (sideOf k).1 < (sideOf k).2 ∧ (sideOf k).2 < 4 := edges_lines m _ (List.mem_of_getElem? h)
  refine ⟨treeL (dec m k), treeL m - treeL (dec m k), lapDet_of (.inr rfl) (hlen hd) (hed _) (by first | lia | omega) (by rw [← treeM_nat]; exact tree_det _ out (by first | lia | omega)), lapDet_of (.inl rfl) (Nat.le_trans (drawn_len _ _) (hlen hd)) (edges_drawn es.1 es.2 (edges_lines _)) (by first | lia | omega) ?_, ?_⟩
  · have := split_det m k out hk hp ho
    rw [treeM_nat, treeM_nat] at this
    refine this.trans ?_
    omega
  · rw [counted_eq, treeM_nat]; omega
end Mine

namespace Mine
open PySem PySem.W PyProof.Rows PySem.Calls PySem.Spec

theorem cells_apart : ∀ (names : List (Str × NameKind)) (n : Nat) (acc : List (Str × Addr)), (∀ p ∈ acc, @LT.lt Nat _ p.2 n) → acc.Pairwise (fun x y => x.2 ≠ y.2) → (cellsFrom n names acc).Pairwise (fun x y => x.2 ≠ y.2) ∧ ∀ p ∈ cellsFrom n names acc, p ∈ acc ∨ @LE.le Nat _ n p.2
  | [], n, acc, _, hp => ⟨hp, fun p h => .inl h⟩
  | (x, k) :: r, n, acc, ha, hp => by
    unfold cellsFrom
    split
    · obtain ⟨h1, h2⟩ := cells_apart r (n + 1) ((x, n) :: acc) (fun p h => by
        rcases List.mem_cons.mp h with rfl | h
        · exact Nat.lt_succ_self n
        · exact Nat.lt_succ_of_lt (ha p h)) (List.pairwise_cons.mpr ⟨fun p h => Nat.ne_of_gt (ha p h), hp⟩)
      refine ⟨h1, fun p h => ?_⟩
      rcases h2 p h with q | q
      · rcases List.mem_cons.mp q with rfl | q
        · exact .inr (Nat.le_refl _)
        · exact .inl q
      · exact .inr (Nat.le_of_succ_le q)
    · exact cells_apart r n acc ha hp
theorem cellsAre_get {cm : Str → Option Value} {cs : List (Str × Addr)} {cells : List (Addr × Obj)} (X : CellsAre cm cs cells) : ∀ x k, cs.lookup x = some k → ∃ o, (k, o) ∈ cells ∧ o.data = .cell (cm x) := by
  induction X with
  | nil => intro x k e; cases e
  | @cons n c o cs cells hd _ ih =>
    intro x k e
    rw [List.lookup_cons] at e
    cases hb : x == n with
    | true => rw [hb] at e; cases e; rw [beq_iff_eq.mp hb]; exact ⟨o, List.mem_cons_self, hd⟩
    | false =>
      rw [hb] at e
      obtain ⟨o, h1, h2⟩ := ih x k e
      exact ⟨o, List.mem_cons_of_mem _ h1, h2⟩
theorem ints_reps {Z : Addr → Prop} {h : Heap} : ∀ {vs : List Value} {ns : List Int}, IntsAre vs ns → Reps Z h vs (ns.map .int)
  | _, _, .nil => .nil
  | _, _, .cons n t r => .cons (.int n t) (ints_reps r)

theorem law_sta {w : World} {A : Around} {g : Heap} {L f : Addr} {cdv : Value} {qual : Str} {scope : Scope} {h₁ : Heap} {m cm : Str → Option Value} {cells : List (Addr × Obj)} {l : Addr} {vals : List Value} {ns : List Int}
    (F : Fr g L h₁ m) (N : News g L h₁ (cells ++ [(193, tabObj #[])])) (X : CellsAre cm (cellsFrom (L + 1) scope.names []) cells) (h193 : @LT.lt Nat _ 193 L)
    (hk : scope.names.lookup (Str.ofString "script") = some .local) (hm : m (Str.ofString "script") = some (.ref l)) (hl : g.IsList l vals.toArray) (hI : IntsAre vals ns) :
    Sta (vctx w A 8 g (fenv qual scope f cdv L) (fun _ => False) [193] (IvT qualT)) (fun a => a = L ∨ ∃ y, (cellsFrom (L + 1) scope.names []).lookup y = some a) (fun _ => False) [(Str.ofString "script", .d (.lst (ns.map .int)))] [] h₁ := by
  obtain ⟨ap, ab⟩ := cells_apart scope.names (L + 1) [] (fun _ h => nomatch h) .nil
  have hgt : ∀ x k, (cellsFrom (L + 1) scope.names []).lookup x = some k → @LT.lt Nat _ L k := fun x k e => (ab _ (mem_of_lookup e)).elim (fun h => nomatch h) fun h => h
  have hcell : ∀ x k, (cellsFrom (L + 1) scope.names []).lookup x = some k → h₁.IsCell k (cm x) ∧ g.get? k = none := fun x k e => by
    obtain ⟨o, h1, h2⟩ := cellsAre_get X x k e
    have := N _ (List.mem_append_left _ h1)
    exact ⟨⟨o, this.1, h2⟩, this.2.2⟩
  have tab : h₁.get? 193 = some (tabObj #[]) := (N _ (List.mem_append_right _ List.mem_cons_self)).1
  have gtab : g.get? 193 = none := (N _ (List.mem_append_right _ List.mem_cons_self)).2.2
  have gL : g.get? L = none := Heap.get?_none_of_le F.above
  refine ⟨F.keep, fun a q => q.elim, ?_, ?_, ?_, ?_, fun a q => q.elim, ⟨m, cm, ⟨F.ns, .inl rfl, fun q => q, gL, fun x k e => (hcell x k e).1, fun x k e => ⟨.inr ⟨x, e⟩, fun q => q, (hcell x k e).2, Nat.ne_of_gt (hgt x k e)⟩, fun x y k e1 e2 => name_of_addr ap (mem_of_lookup e1) (mem_of_lookup e2)⟩, ?_⟩, fun q hq => (nomatch hq), List.nodup_nil⟩
  · rintro a (rfl | ⟨y, e⟩)
    · obtain ⟨o, _, _, e, d, _⟩ := F.ns; exact ⟨o, e, fun _ _ _ z => by rw [d] at z; cases z⟩
    · obtain ⟨o, e, d⟩ := (hcell y a e).1; exact ⟨o, e, fun _ _ _ z => by rw [d] at z; cases z⟩
  · intro a q
    rw [List.mem_singleton.mp q]
    exact ⟨_, tab, tab_notcode trivial⟩
  · intro a q
    rw [List.mem_singleton.mp q]
    rintro (z | ⟨y, e⟩)
    · exact absurd z (Nat.ne_of_lt h193)
    · exact absurd (hgt y _ e) (Nat.not_lt.mpr (Nat.le_of_lt h193))
  · exact ⟨#[], tab, trivial, fun pos cv e => by cases e⟩
  · intro x a e
    rcases lookup_cons_eq e with ⟨rfl, rfl⟩ | ⟨_, e⟩
    · refine ⟨.ref l, ?_, .lst (vs := vals) ?_ (hl.at fun o e => F.keep _ o e) (ints_reps hI)⟩
      · have hk1 : (fenv qual scope f cdv L).kindOf (Str.ofString "script") = some .local := hk
        simp only [look, hk1]
        exact hm
      · obtain ⟨o, eo, _⟩ := hl
        rintro ((rfl | ⟨y, e⟩) | q)
        · rw [gL] at eo; cases eo
        · rw [(hcell y l e).2] at eo; cases eo
        · rw [List.mem_singleton.mp q, gtab] at eo; cases eo
    · cases e

theorem law_goal {w : World} {name qual : Str} {params : Arguments} {body : List Stmt} {scope : Scope} {dV kV doc pm cdv0 ct oc : Value} {an od : Option Addr} {osl : Array (Option Value)} {g : Heap} {L f : Addr} {cdv : Value} {m cm : Str → Option Value} {cells : List (Addr × Obj)} {l : Addr} {vals : List Value} {ns : List Int} {s : Shared}
    {p : Program} {loose : List Str} {mean : ExcName → Option Value} {mg mb : Str → Option Value}
    (ho : (KK w).lookup 203 = some ⟨oc, od, .func (fnOf name qual params body scope dV kV doc pm an cdv0 ct), osl⟩)
    (hkind : scope.kind = .function) (hscr : scope.names.lookup (Str.ofString "script") = some .local)
    (K : (KK w).In g) (T : Top p loose mean mg mb g) (C : CodeHd g 197 193) (F : Fr g L s.heap m) (X : CellsAre cm (cellsFrom (L + 1) scope.names []) cells) (N : News g L s.heap (cells ++ [(193, tabObj #[])])) (h193 : @LT.lt Nat _ 193 L)
    (hl : g.IsList l vals.toArray) (hI : IntsAre vals ns) (hlen : ¬ ((63 : Nat) : Int) < ((ns.length : Nat) : Int)) (hm : m (Str.ofString "script") = some (.ref l)) :
    Wp w (callerA.deeper (envOfC qual scope L f cdv)) (execs body (envOfC qual scope L f cdv)) (fun fl s' => Res s s' ∧ fl = .ret (.bool true) ∧ Ext g s'.heap ∧ GrownAt 193 s'.heap) s := by
  obtain ⟨name', qual', params', body', scope', dV', kV', doc', pm', cdv0', ct', oc', an', od', osl', ho2, H⟩ := law_ex plain_all w
  rw [ho] at ho2
  have eb : body = body' := by injection ho2 with e; injection e with _ _ e; injection e with e; exact (FuncBody.stmts.inj (congrArg FuncData.body e))
  have es : scope = scope' := by injection ho2 with e; injection e with _ _ e; injection e with e; exact (congrArg FuncData.scope e)
  have eq : qual = qual' := by injection ho2 with e; injection e with _ _ e; injection e with e; exact (congrArg FuncData.qualname e)
  subst eb es eq
  have B : Bas w g := ⟨_, _, _, _, _, K, T⟩
  have S := law_sta (w := w) (A := callerA.deeper (envOfC qual scope L f cdv)) (f := f) (cdv := cdv) (qual := qual) F N X h193 hscr hm hl hI
  have gtab : g.get? 193 = none := (N _ (List.mem_append_right _ List.mem_cons_self)).2.2
  have ok : Ctx.Ok (vctx w (callerA.deeper (envOfC qual scope L f cdv)) 8 g (fenv qual scope f cdv L) (fun _ => False) [193] (IvT qualT)) :=
    ⟨rfl, by show 1 + claimMargin + 1 + 8 < recursionLimit; decide, by show 4 + 3 + 8 * 8 + 64 < cLine; decide, hkind, rfl, rfl, fun a q => by rw [List.mem_singleton.mp q]; exact gtab, fun a q => q.elim,
      fun h h' kv kc x => x.keep (.inr fun o e => kv 193 o (by simp) e) kc⟩
  refine Wp.mono ((H _ g L f cdv _ ns (by first | lia | omega) ok B C).run _ _ s S) fun fl s' ⟨r, h⟩ => ⟨r, ?_⟩
  cases fl with
  | next => obtain ⟨_, _, _, _, _, hF⟩ := h; exact hF.elim
  | ret v =>
    obtain ⟨g1, g2, g3, d, g4, g5⟩ := h
    subst g5
    cases g4
    obtain ⟨ps, e, _⟩ := g2
    exact ⟨rfl, g1, ps, e⟩
  | brk => exact h.elim
  | cont => exact h.elim
end Mine

namespace Mine
open PySem PySem.W PyProof.Rows PySem.Calls PySem.Spec

structure RunG {α : Type} (M : Model) (A : Around) (t : Sem α) (Q : α → Shared → Prop) (E : Value → Shared → Prop) (s : Shared) : Prop where
  run : wpAny M A t Q E s
theorem runG {α : Type} {M : Model} {A : Around} {t : Sem α} {Q : α → Shared → Prop} {E : Value → Shared → Prop} {s : Shared} (h : RunG M A t Q E s) : wpAny M A t Q E s := h.run
theorem law_goalQ {w : World} {name qual : Str} {params : Arguments} {body : List Stmt} {scope : Scope} {dV kV doc pm cdv0 ct oc : Value} {an od : Option Addr} {osl : Array (Option Value)} {g : Heap} {L f : Addr} {cdv : Value} {m cm : Str → Option Value} {cells : List (Addr × Obj)} {l : Addr} {vals : List Value} {ns : List Int} {s : Shared}
    {p : Program} {loose : List Str} {mean : ExcName → Option Value} {mg mb : Str → Option Value} {Q : Flow → Shared → Prop} {E : Value → Shared → Prop}
    (F : Fr g L s.heap m) (X : CellsAre cm (cellsFrom (L + 1) scope.names []) cells) (N : News g L s.heap (cells ++ [(193, tabObj #[])])) (h193 : @LT.lt Nat _ 193 L)
    (K : (KK w).In g) (T : Top p loose mean mg mb g) (C : CodeHd g 197 193) 
    (hl : g.IsList l vals.toArray) (hI : IntsAre vals ns) (hlen : ¬ ((63 : Nat) : Int) < ((ns.length : Nat) : Int)) (hm : m (Str.ofString "script") = some (.ref l))
    (hkind : scope.kind = .function) (hscr : scope.names.lookup (Str.ofString "script") = some .local)
    (ho : (KK w).lookup 203 = some ⟨oc, od, .func (fnOf name qual params body scope dV kV doc pm an cdv0 ct), osl⟩)
    (hQ : ∀ s', Res s s' → Ext g s'.heap → GrownAt 193 s'.heap → Q (.ret (.bool true)) s') :
    RunG (model PG w) (callerA.deeper (envOfC qual scope L f cdv)) (execs body (envOfC qual scope L f cdv)) Q E s := .mk <|
  wpAny_mono (law_goal ho hkind hscr K T C F X N h193 hl hI hlen hm) (fun fl s' ⟨r, e, x, gr⟩ => by subst e; exact hQ s' r x gr) fun _ _ h => h.elim

/-- a hook that looks at what was written as well. -/
abbrev osHook (H : Hook) : Hook := ⟨H.α × Nat, fun s => (H.obs s, s.os.written.size), fun w => (H.val w, 0), H.says, fun w s e => H.of w s (Prod.mk.inj e).1, H.keeps⟩
theorem tt : PySem.Challenge.rw_sm0002_01.Holds := by
  w_on; o_law; o_head (osHook (kmHook K0 K0as (fun _ => rfl) [193]))
  (case hw => w_witness2)
  dsimp only [osHook]
  k_fill
  intro w s₀ s₁ mg mb G Y fa o pm cd doc dV kV ho hd hcd hD hmg hg args vals as hpre hlay hrd hwl hlo
  have KX := km_in_of Y
  km_tabs Y
  have X := (Ground.X G).1
  have V := (Ground.X G).2
  refine Ground.open G ?_
  intro T B D TE TW
  try (refine guard_noD D (by decide +kernel) ?_; clear D)
  km_lay T hmg ho hd cd
  clear hmg
  wrow_args hpre hlay hrd hwl hlo
  first | refine callC_kw (enter_call ?_) | refine enter_call ?_
  w_top on
  kn_posts
  w_call any ho hd hcd hD T F
  clear hd
  kn_ghosts F T
  k_drop
  refine runG ?_
  refine law_goalQ (by assumption) (by assumption) (by assumption) (by assumption) (by assumption) (by assumption) (by assumption) (by assumption) (by assumption) (by assumption) (by rfl) (by rfl) (by rfl) (by rfl) ?_
  intro s' r e gr
  refine ⟨⟨.inl ⟨_, .bool true, [], rfl, raisesW_false ?zz1, .bool true, ?zz2, fun _ => ⟨List.nodup_nil, fun _ h => nomatch h⟩⟩, e, ?zz3, ?zz4⟩, gr, trivial⟩
  case zz1 => wrow_none_raised
  case zz2 => wrow_post
  case zz3 => rw [r]
  case zz4 => rw [r]; assumption
end Mine

theorem PySem.Challenge.cw_sm0002_01_holds : PySem.Challenge.rw_sm0002_01.Holds := by
  exact Mine.tt
